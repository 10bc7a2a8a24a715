import PyProof.Rows.All
import Wide.All
import OpenK.AllK
import Wide.FinOn
import HandS.Base
import HandS.Call
import HandS.List
import HandS.Comp
import HandS.Ends
import HandS.Dict
import HandS.Iter
import HandS.Text
import HandS.Words
import HandS.WordsList
import HandS.WordsDict
import HandS.Exc
import HandS.TryOnly
import HandS.ExcOwn
import HandS.ExcInit
import HandS.Nested
import HandS.Wide
import HandS.TupAny
import HandS.TupLe
import HandS.IsInst
import HandS.SortInts
import HandS.Defaults
import HandS.WordsExc
import KE.KExcSuper
import HandS.ExcField
import HandS.ClsMeth
import PyProof.StrOps2
import PyProof.ListStr
import KE.KStateDown
import HandS.Head0
import HandS.Head1
import HandS.Head2
import HandS.HeadEnd
import HandS.HeadHook1
import HandS.HeadHook2
import PySem.Challenge.RW_provedtorun_k00_cut_in_one_way
set_option Elab.async false
set_option linter.all false
set_option maxRecDepth 100000
set_option maxHeartbeats 4000000
namespace Mi
open PySem PySem.Spec PyProof.Rows L2

/-- data of the mirror: what never changes, and names of objects of the store -/
inductive D where
  | non | bl (b : Bool) | int (i : Int) | str (x : Str) | tup (l : List D) | obj (i : Nat)

/-- objects of the mirror's store -/
inductive MO where
  | lst (ds : List D) | fix (ds : List D) | dic (kvs : List (Key × D))
def MO.mut : MO → Bool
  | .fix _ => false
  | _ => true
abbrev Sto := List MO
/-- an exception: its class's name, its fields -/
structure Xn where
  cls : Str
  fs : List (Str × D)
inductive R (α : Type) where
  | ok (a : α) (S : Sto) | ex (e : Xn) (S : Sto) | no
abbrev Env := List (Option D)
def R.bind {α β : Type} (x : R α) (f : α → Sto → R β) : R β := match x with
  | .ok a S => f a S
  | .ex e S => .ex e S
  | .no => .no

/-! ### what stands for what -/
section
variable (K : PySem.W.Frag)
mutual
inductive Rv (as : List Addr) (H : Hp) : V → D → Prop where
  | non : Rv as H .non .non
  | bl (b : Bool) : Rv as H (.bl b) (.bl b)
  | int (i : Int) : Rv as H (.int i) (.int i)
  | str (x : Str) : Rv as H (.str x) (.str x)
  | tup {a : Addr} {xs : List V} {ds : List D} : SqT K H a xs → Rvs as H xs ds → Rv as H (.ref a) (.tup ds)
  | obj {i : Nat} {a : Addr} : as[i]? = some a → Rv as H (.ref a) (.obj i)
inductive Rvs (as : List Addr) (H : Hp) : List V → List D → Prop where
  | nil : Rvs as H [] []
  | cons {v : V} {d : D} {vs : List V} {ds : List D} : Rv as H v d → Rvs as H vs ds → Rvs as H (v :: vs) (d :: ds)
end
/-- later: the objects' places stay, the tuples stay -/
structure Ex (as : List Addr) (H : Hp) (as' : List Addr) (H' : Hp) : Prop where
  pre : ∀ (i : Nat) (a : Addr), as[i]? = some a → as'[i]? = some a
  tup : ∀ (a : Addr) (xs : List V), SqT K H a xs → SqT K H' a xs
/-- the pairs of a dict -/
def Rkv (as : List Addr) (H : Hp) (kvs : List (Key × V)) (kds : List (Key × D)) : Prop := kvs.map (·.1) = kds.map (·.1) ∧ Rvs K as H (kvs.map (·.2)) (kds.map (·.2))
def Ro (as : List Addr) (H : Hp) (a : Addr) : MO → Prop
  | .lst ds => ∃ vs, H a = some (.lst vs) ∧ Rvs K as H vs ds
  | .fix ds => ∃ vs, ((∃ o, H a = some (.frz o (.lst vs))) ∨ ∀ H', SqL K H' a vs) ∧ Rvs K as H vs ds
  | .dic kds => ∃ kvs, H a = some (.dK kvs) ∧ Rkv K as H kvs kds
structure Rel (as : List Addr) (S : Sto) (H : Hp) : Prop where
  len : as.length = S.length
  ob : ∀ (i : Nat) (a : Addr) (o : MO), as[i]? = some a → S[i]? = some o → Ro K as H a o
  sep : ∀ (i j : Nat) (a : Addr) (o u : MO), as[i]? = some a → as[j]? = some a → S[i]? = some o → S[j]? = some u → o.mut = true → u.mut = true → i = j
structure Re (as : List Addr) (H : Hp) (σ : L2.St) (env : Env) : Prop where
  len : σ.length = env.length
  at_ : ∀ (i : Nat) (d : D), env[i]? = some (some d) → ∃ v, σ[i]? = some (some v) ∧ Rv K as H v d
def Rx (mg : Str → Option Value) (as : List Addr) (H : Hp) (cls : Value) (dd : Option Addr) (e : Xn) : Prop :=
  ∃ (C d : Addr) (fs : List (Str × V)), cls = .ref C ∧ mg e.cls = some (.ref C) ∧ dd = some d ∧ H d = some (.xd fs) ∧ fs.map (·.1) = e.fs.map (·.1) ∧ Rvs K as H (fs.map (·.2)) (e.fs.map (·.2))
end

section
variable {K : PySem.W.Frag} {mg : Str → Option Value} {as as' as2 : List Addr} {H H' H2 : Hp} {S S' : Sto} {v : V} {d : D} {vs : List V} {ds : List D} {a p : Addr}
theorem Ex.refl : Ex K as H as H := ⟨fun _ _ h => h, fun _ _ h => h⟩
theorem Ex.trans (x : Ex K as H as' H') (y : Ex K as' H' as2 H2) : Ex K as H as2 H2 := ⟨fun i a h => y.pre i a (x.pre i a h), fun a xs h => y.tup a xs (x.tup a xs h)⟩
mutual
theorem Rv.mono (x : Ex K as H as' H') : ∀ {v : V} {d : D}, Rv K as H v d → Rv K as' H' v d
  | _, _, .non => .non
  | _, _, .bl b => .bl b
  | _, _, .int i => .int i
  | _, _, .str z => .str z
  | _, _, .tup h t => .tup (x.tup _ _ h) (Rvs.mono x t)
  | _, _, .obj h => .obj (x.pre _ _ h)
theorem Rvs.mono (x : Ex K as H as' H') : ∀ {vs : List V} {ds : List D}, Rvs K as H vs ds → Rvs K as' H' vs ds
  | _, _, .nil => .nil
  | _, _, .cons h t => .cons (Rv.mono x h) (Rvs.mono x t)
end
theorem Rvs.len : ∀ {vs : List V} {ds : List D}, Rvs K as H vs ds → vs.length = ds.length
  | _, _, .nil => rfl
  | _, _, .cons _ t => by rw [List.length_cons, List.length_cons, Rvs.len t]
theorem Rvs.get : ∀ {vs : List V} {ds : List D} {i : Nat} {d : D}, Rvs K as H vs ds → ds[i]? = some d → ∃ v, vs[i]? = some v ∧ Rv K as H v d
  | _, _, _, _, .nil, e => by simp at e
  | _, _, 0, _, .cons r _, e => by simp at e; subst e; exact ⟨_, rfl, r⟩
  | _, _, i + 1, d, .cons _ t, e => by
    obtain ⟨u, h1, h2⟩ := Rvs.get (i := i) (d := d) t (by simpa using e)
    exact ⟨u, by simpa using h1, h2⟩
theorem Rvs.getV : ∀ {vs : List V} {ds : List D} {i : Nat} {v : V}, Rvs K as H vs ds → vs[i]? = some v → ∃ d, ds[i]? = some d ∧ Rv K as H v d
  | _, _, _, _, .nil, e => by simp at e
  | _, _, 0, _, .cons r _, e => by simp at e; subst e; exact ⟨_, rfl, r⟩
  | _, _, i + 1, d, .cons _ t, e => by
    obtain ⟨u, h1, h2⟩ := Rvs.getV (i := i) (v := d) t (by simpa using e)
    exact ⟨u, by simpa using h1, h2⟩
theorem Rvs.append : ∀ {xs ys : List V} {ds es : List D}, Rvs K as H xs ds → Rvs K as H ys es → Rvs K as H (xs ++ ys) (ds ++ es)
  | _, _, _, _, .nil, s => s
  | _, _, _, _, .cons r t, s => .cons r (Rvs.append t s)
theorem Rvs.take : ∀ {xs : List V} {ds : List D} (n : Nat), Rvs K as H xs ds → Rvs K as H (xs.take n) (ds.take n)
  | _, _, 0, _ => .nil
  | _, _, _ + 1, .nil => .nil
  | _, _, n + 1, .cons r t => .cons r (Rvs.take n t)
theorem Rvs.drop : ∀ {xs : List V} {ds : List D} (n : Nat), Rvs K as H xs ds → Rvs K as H (xs.drop n) (ds.drop n)
  | _, _, 0, r => r
  | _, _, _ + 1, .nil => .nil
  | _, _, n + 1, .cons _ t => Rvs.drop n t
theorem Rvs.set {v : V} {d : D} (r : Rv K as H v d) : ∀ {xs : List V} {ds : List D} (n : Nat), Rvs K as H xs ds → Rvs K as H (xs.set n v) (ds.set n d)
  | _, _, _, .nil => .nil
  | _, _, 0, .cons _ t => .cons r t
  | _, _, n + 1, .cons q t => .cons q (Rvs.set r n t)
theorem Rvs.reverse : ∀ {xs : List V} {ds : List D}, Rvs K as H xs ds → Rvs K as H xs.reverse ds.reverse
  | _, _, .nil => .nil
  | _, _, .cons r t => by
    rw [List.reverse_cons, List.reverse_cons]
    exact (Rvs.reverse t).append (.cons r .nil)
theorem Rvs.map {α : Type} {f : α → V} {g : α → D} (h : ∀ x, Rv K as H (f x) (g x)) : ∀ l : List α, Rvs K as H (l.map f) (l.map g)
  | [] => .nil
  | x :: l => .cons (h x) (Rvs.map h l)
theorem Rvs.repl (n : Nat) (r : Rvs K as H vs ds) : Rvs K as H (List.replicate n vs).flatten (List.replicate n ds).flatten := by
  induction n with
  | zero => exact .nil
  | succ n ih => rw [List.replicate_succ, List.replicate_succ, List.flatten_cons, List.flatten_cons]; exact r.append ih

/-! ### tuples stay -/
theorem sqt_fresh {K : PySem.W.Frag} {H : Hp} {p : Addr} {o : HO} (hp : H p = none) (a : Addr) (xs : List V) (h : SqT K H a xs) : SqT K (upd H p o) a xs := by
  rcases h with (h | ⟨u, h⟩) | h
  · exact .inl (.inl (by rw [upd_ne (ne_of_none h hp)]; exact h))
  · exact .inl (.inr ⟨u, by rw [upd_ne (ne_of_none h hp)]; exact h⟩)
  · exact .inr h
theorem sqt_mut {K : PySem.W.Frag} {H : Hp} {p : Addr} {o : HO} (hp : Mut (H p)) (a : Addr) (xs : List V) (h : SqT K H a xs) : SqT K (upd H p o) a xs := by
  have ne : ∀ u, H a = some u → ¬ Mut (some u) → a ≠ p := fun u e n z => by subst z; rw [e] at hp; exact n hp
  rcases h with (h | ⟨u, h⟩) | h
  · exact .inl (.inl (by rw [upd_ne (ne _ h fun z => z)]; exact h))
  · exact .inl (.inr ⟨u, by rw [upd_ne (ne _ h fun z => z)]; exact h⟩)
  · exact .inr h
theorem Ex.fresh {o : HO} (hp : H p = none) : Ex K as H as (upd H p o) := ⟨fun _ _ h => h, fun a xs h => sqt_fresh hp a xs h⟩
theorem Ex.mut {o : HO} (hp : Mut (H p)) : Ex K as H as (upd H p o) := ⟨fun _ _ h => h, fun a xs h => sqt_mut hp a xs h⟩
theorem Ex.more {l : List Addr} : Ex K as H (as ++ l) H := ⟨fun i a h => by
  obtain ⟨hi, e⟩ := List.getElem?_eq_some_iff.mp h
  rw [List.getElem?_append_left hi]; exact h, fun _ _ h => h⟩
theorem Ro.mono_same {o : MO} (x : Ex K as H as' H') (e : H' a = H a) (r : Ro K as H a o) : Ro K as' H' a o := by
  cases o with
  | lst ds => obtain ⟨vs, h, r⟩ := r; exact ⟨vs, e.trans h, r.mono x⟩
  | fix ds =>
    obtain ⟨vs, h, r⟩ := r
    refine ⟨vs, ?_, r.mono x⟩
    rcases h with ⟨o, h⟩ | h
    · exact .inl ⟨o, e.trans h⟩
    · exact .inr h
  | dic kds => obtain ⟨kvs, h, e2, r⟩ := r; exact ⟨kvs, e.trans h, e2, r.mono x⟩
/-- a new thing that no entry names -/
theorem Rel.fresh {o : HO} (r : Rel K as S H) (hp : H p = none) : Rel K as S (upd H p o) := by
  refine ⟨r.len, fun i a u h1 h2 => ?_, r.sep⟩
  have q := r.ob i a u h1 h2
  cases u with
  | lst ds => exact q.mono_same (Ex.fresh hp) (upd_ne (by obtain ⟨vs, h, _⟩ := q; exact ne_of_none h hp))
  | dic ds => exact q.mono_same (Ex.fresh hp) (upd_ne (by obtain ⟨vs, h, _⟩ := q; exact ne_of_none h hp))
  | fix ds =>
    obtain ⟨vs, h, r⟩ := q
    refine ⟨vs, ?_, r.mono (Ex.fresh hp)⟩
    rcases h with ⟨o, h⟩ | h
    · exact .inl ⟨o, by rw [upd_ne (ne_of_none h hp)]; exact h⟩
    · exact .inr h
theorem Ro.laid {o : HO} {u : MO} (q : Ro K as H a u) (hp : H p = none) (x : Ex K as H as' (upd H p o)) : Ro K as' (upd H p o) a u := by
  cases u with
  | lst ds => exact q.mono_same x (upd_ne (by obtain ⟨vs, h, _⟩ := q; exact ne_of_none h hp))
  | dic ds => exact q.mono_same x (upd_ne (by obtain ⟨vs, h, _⟩ := q; exact ne_of_none h hp))
  | fix ds =>
    obtain ⟨vs, h, r⟩ := q
    refine ⟨vs, ?_, r.mono x⟩
    rcases h with ⟨o, h⟩ | h
    · exact .inl ⟨o, by rw [upd_ne (ne_of_none h hp)]; exact h⟩
    · exact .inr h
/-- a new object of the store -/
theorem Rel.new {o : HO} {u : MO} (r : Rel K as S H) (hp : H p = none) (hu : Ro K (as ++ [p]) (upd H p o) p u) (hm : u.mut = true) : Rel K (as ++ [p]) (S ++ [u]) (upd H p o) ∧ Ex K as H (as ++ [p]) (upd H p o) ∧ (as ++ [p])[S.length]? = some p := by
  have x : Ex K as H (as ++ [p]) (upd H p o) := (Ex.fresh hp).trans Ex.more
  have last : (as ++ [p])[S.length]? = some p := by rw [← r.len, List.getElem?_append_right (Nat.le_refl _)]; simp
  have nop : ∀ (i : Nat) (a : Addr) (w : MO), as[i]? = some a → S[i]? = some w → w.mut = true → a ≠ p := fun i a w h1 h2 hw => by
    have q := r.ob i a w h1 h2
    cases w with
    | lst ds => obtain ⟨vs, h, _⟩ := q; exact ne_of_none h hp
    | dic ds => obtain ⟨vs, h, _⟩ := q; exact ne_of_none h hp
    | fix ds => cases hw
  have old : ∀ (i : Nat) (a : Addr) (w : MO), (as ++ [p])[i]? = some a → (S ++ [u])[i]? = some w → (as[i]? = some a ∧ S[i]? = some w) ∨ (i = S.length ∧ a = p ∧ w = u) := fun i a w h1 h2 => by
    by_cases hi : i < S.length
    · rw [List.getElem?_append_left (by rw [r.len]; exact hi)] at h1
      rw [List.getElem?_append_left hi] at h2
      exact .inl ⟨h1, h2⟩
    · rw [List.getElem?_append_right (by rw [r.len]; omega)] at h1
      rw [List.getElem?_append_right (by omega)] at h2
      have hi2 : i = S.length := by
        by_cases hz : i - S.length = 0
        · omega
        · rw [List.getElem?_eq_none_iff.mpr (by simp; omega)] at h2; cases h2
      refine .inr ⟨hi2, ?_, ?_⟩
      · have : i - as.length = 0 := by rw [r.len]; omega
        rw [this] at h1; simpa using h1.symm
      · have : i - S.length = 0 := by omega
        rw [this] at h2; simpa using h2.symm
  refine ⟨⟨by rw [List.length_append, List.length_append, r.len]; rfl, fun i a w h1 h2 => ?_, fun i j a w w2 h1 h2 h3 h4 m1 m2 => ?_⟩, x, last⟩
  · rcases old i a w h1 h2 with ⟨g1, g2⟩ | ⟨_, rfl, rfl⟩
    · exact (r.ob i a w g1 g2).laid hp x
    · exact hu
  · rcases old i a w h1 h3 with ⟨g1, g2⟩ | ⟨e1, e2, e3⟩
    · rcases old j a w2 h2 h4 with ⟨k1, k2⟩ | ⟨k1, k2, k3⟩
      · exact r.sep i j a w w2 g1 k1 g2 k2 m1 m2
      · exact absurd k2 (nop i a w g1 g2 m1)
    · rcases old j a w2 h2 h4 with ⟨k1, k2⟩ | ⟨k1, k2, k3⟩
      · exact absurd e2 (nop j a w2 k1 k2 m2)
      · omega
/-- an object of the store is changed -/
theorem Rel.put {o : HO} {u w : MO} {i : Nat} (r : Rel K as S H) (hi : as[i]? = some a) (hs : S[i]? = some w) (hw : w.mut = true) (hm : u.mut = true) (hu : Ro K as (upd H a o) a u) : Rel K as (S.set i u) (upd H a o) ∧ Ex K as H as (upd H a o) := by
  have mu : Mut (H a) := by
    have q := r.ob i a w hi hs
    cases w with
    | lst ds => obtain ⟨vs, h, _⟩ := q; rw [h]; trivial
    | dic ds => obtain ⟨vs, h, _⟩ := q; rw [h]; trivial
    | fix ds => cases hw
  have x : Ex K as H as (upd H a o) := Ex.mut mu
  refine ⟨⟨by rw [List.length_set]; exact r.len, fun j b z h1 h2 => ?_, fun j k b z z2 h1 h2 h3 h4 m1 m2 => ?_⟩, x⟩
  · by_cases hj : j = i
    · subst hj
      rw [hi] at h1; cases h1
      have hl : j < S.length := (List.getElem?_eq_some_iff.mp hs).1
      rw [List.getElem?_set_self hl] at h2; cases h2
      exact hu
    · rw [List.getElem?_set_ne (Ne.symm hj)] at h2
      have q := r.ob j b z h1 h2
      by_cases hz : z.mut = true
      · have hb : b ≠ a := fun e => by subst e; exact hj (r.sep j i b z w h1 hi h2 hs hz hw)
        exact q.mono_same x (upd_ne hb)
      · cases z with
        | lst _ => exact absurd rfl hz
        | dic _ => exact absurd rfl hz
        | fix ds =>
          obtain ⟨vs, h, rr⟩ := q
          refine ⟨vs, ?_, rr.mono x⟩
          rcases h with ⟨ob, h⟩ | h
          · refine .inl ⟨ob, ?_⟩
            rw [upd_ne (fun e => by subst e; rw [h] at mu; exact mu)]; exact h
          · exact .inr h
  · have hl : i < S.length := (List.getElem?_eq_some_iff.mp hs).1
    have conv : ∀ (j : Nat) (z : MO), (S.set i u)[j]? = some z → z.mut = true → ∃ z', S[j]? = some z' ∧ z'.mut = true := fun j z h m => by
      by_cases hj : j = i
      · subst hj; exact ⟨w, hs, hw⟩
      · rw [List.getElem?_set_ne (Ne.symm hj)] at h; exact ⟨z, h, m⟩
    obtain ⟨y1, g1, n1⟩ := conv j z h3 m1
    obtain ⟨y2, g2, n2⟩ := conv k z2 h4 m2
    exact r.sep j k b y1 y2 h1 h2 g1 g2 n1 n2
theorem Re.mono {σ : L2.St} {env : Env} (x : Ex K as H as' H') (r : Re K as H σ env) : Re K as' H' σ env := ⟨r.len, fun i d h => let ⟨v, h1, h2⟩ := r.at_ i d h; ⟨v, h1, h2.mono x⟩⟩
theorem Re.set {σ : L2.St} {env : Env} {i : Nat} (r : Re K as H σ env) (q : Rv K as H v d) : Re K as H (σ.set i (some v)) (env.set i (some d)) := by
  refine ⟨by rw [List.length_set, List.length_set]; exact r.len, fun j e h => ?_⟩
  by_cases hj : j = i
  · subst hj
    by_cases hl : j < env.length
    · rw [List.getElem?_set_self hl] at h
      cases h
      exact ⟨v, List.getElem?_set_self (by rw [r.len]; exact hl), q⟩
    · rw [List.getElem?_eq_none_iff.mpr (by rw [List.length_set]; omega)] at h; cases h
  · rw [List.getElem?_set_ne (Ne.symm hj)] at h
    obtain ⟨u, h1, h2⟩ := r.at_ j e h
    exact ⟨u, by rw [List.getElem?_set_ne (Ne.symm hj)]; exact h1, h2⟩
theorem Re.unset {σ : L2.St} {env : Env} {i : Nat} (r : Re K as H σ env) : Re K as H (σ.set i none) (env.set i none) := by
  refine ⟨by rw [List.length_set, List.length_set]; exact r.len, fun j e h => ?_⟩
  by_cases hj : j = i
  · subst hj
    by_cases hl : j < env.length
    · rw [List.getElem?_set_self hl] at h; cases h
    · rw [List.getElem?_eq_none_iff.mpr (by rw [List.length_set]; omega)] at h; cases h
  · rw [List.getElem?_set_ne (Ne.symm hj)] at h
    obtain ⟨u, h1, h2⟩ := r.at_ j e h
    exact ⟨u, by rw [List.getElem?_set_ne (Ne.symm hj)]; exact h1, h2⟩
end
end Mi

namespace Mi
open PySem PySem.Spec PyProof.Rows L2

/-! ### what an outcome asks -/
section
variable (K : PySem.W.Frag) (mg : Str → Option Value) (W : WX)
/-- an outcome of a part: d's V is handed on with all that is known of it -/
def Go {α β : Type} (Ra : List Addr → Hp → β → α → Prop) (out : R α) (as : List Addr) (H : Hp) (σ : L2.St) (Q : β → Hp → Prop) : Prop := match out with
  | .ok d S' => ∀ (as' : List Addr) (H' : Hp) (v : β), Ex K as H as' H' → Rel K as' S' H' → Ra as' H' v d → Q v H'
  | .ex e S' => ∀ (as' : List Addr) (H' : Hp) (cls : Value) (dd : Option Addr), Ex K as H as' H' → Rel K as' S' H' → Rx K mg as' H' cls dd e → W cls dd σ H'
  | .no => False
/-- the reading that a mirror gives -/
def tU {α β : Type} (Ra : List Addr → Hp → β → α → Prop) (m : Env → Sto → R α) : L2.St → Hp → (β → Hp → Prop) → Prop := fun σ H Q =>
  ∃ as env S, Re K as H σ env ∧ Rel K as S H ∧ Go K mg W Ra (m env S) as H σ Q
end
def Rb : List Addr → Hp → Bool → Bool → Prop := fun _ _ a b => a = b
abbrev ME := Env → Sto → R D
abbrev MT := Env → Sto → R Bool
abbrev MA := Env → Sto → R (List D)

section
variable {K : PySem.W.Frag} {mg : Str → Option Value} {W : WX} {as as1 : List Addr} {H H1 : Hp} {S : Sto} {σ : L2.St}
theorem Go.later {α β : Type} {Ra : List Addr → Hp → β → α → Prop} {out : R α} {Q : β → Hp → Prop} (x : Ex K as H as1 H1) (h : Go K mg W Ra out as H σ Q) : Go K mg W Ra out as1 H1 σ Q := by
  cases out with
  | ok d S' => exact fun as' H' v y r q => h as' H' v (x.trans y) r q
  | ex e S' => exact fun as' H' c dd y r q => h as' H' c dd (x.trans y) r q
  | no => exact h
theorem Go.bind {α β γ δ : Type} {Ra : List Addr → Hp → β → α → Prop} {Rc : List Addr → Hp → δ → γ → Prop} {x : R α} {f : α → Sto → R γ} {Q : δ → Hp → Prop} {Q1 : β → Hp → Prop} (h : Go K mg W Rc (x.bind f) as H σ Q)
    (k : ∀ d S1 as1 H1 v, Ex K as H as1 H1 → Rel K as1 S1 H1 → Ra as1 H1 v d → Go K mg W Rc (f d S1) as1 H1 σ Q → Q1 v H1) : Go K mg W Ra x as H σ Q1 := by
  cases x with
  | ok d S' => exact fun as' H' v y r q => k d S' as' H' v y r q (Go.later y h)
  | ex e S' => exact h
  | no => exact h
/-- the usual step: the first part's reading from the whole's outcome -/
theorem tU_bind {α β γ δ : Type} {Ra : List Addr → Hp → β → α → Prop} {Rc : List Addr → Hp → δ → γ → Prop} {m : Env → Sto → R α} {f : Env → α → Sto → R γ} {Q : δ → Hp → Prop} {Q1 : β → Hp → Prop}
    (h : tU K mg W Rc (fun env S => (m env S).bind (f env)) σ H Q)
    (k : ∀ (as : List Addr) (env : Env) (d : α) (S1 : Sto) (as1 : List Addr) (H1 : Hp) (v : β), Re K as1 H1 σ env → Rel K as1 S1 H1 → Ra as1 H1 v d → Go K mg W Rc (f env d S1) as1 H1 σ Q → Q1 v H1) : tU K mg W Ra m σ H Q1 := by
  obtain ⟨as, env, S, re, rel, g⟩ := h
  exact ⟨as, env, S, re, rel, Go.bind g fun d S1 as1 H1 v x r q g' => k as env d S1 as1 H1 v (re.mono x) r q g'⟩
theorem tU_now {α β : Type} {Ra : List Addr → Hp → β → α → Prop} {m : Env → Sto → R α} {Q : β → Hp → Prop} {env : Env} (re : Re K as H σ env) (r : Rel K as S H) (g : Go K mg W Ra (m env S) as H σ Q) : tU K mg W Ra m σ H Q := ⟨as, env, S, re, r, g⟩
end

/-! ### judgements -/
section
variable (X : Cx) (W : WX)
structure EM (e : Expr) (m : ME) : Prop where
  pe : PE X e (tU X.K X.mg W (Rv X.K) m)
structure TM (e : Expr) (m : MT) : Prop where
  pt : PT X e (tU X.K X.mg W Rb m)
structure AM (es : List Expr) (m : MA) : Prop where
  pa : PA X es (tU X.K X.mg W (Rvs X.K) m)
end
section
variable {X : Cx} {W : WX}
theorem pe_imp {e : Expr} {t t' : TE} (h : PE X e t) (i : ∀ σ H Q, t' σ H Q → t σ H Q) : PE X e t' := ⟨fun pins s σ H Q I q => h.run pins s σ H Q I (i σ H Q q)⟩
theorem pt_imp {e : Expr} {t t' : TT} (h : PT X e t) (i : ∀ σ H Q, t' σ H Q → t σ H Q) : PT X e t' := ⟨fun pins s σ H Q I q => h.run pins s σ H Q I (i σ H Q q)⟩
theorem pw_imp {e : Expr} {t t' : TT} (h : PW X e t) (i : ∀ σ H Q, t' σ H Q → t σ H Q) : PW X e t' := ⟨fun w pins s σ H Q I q => h.run w pins s σ H Q I (i σ H Q q)⟩
theorem pa_imp {e : List Expr} {t t' : TA} (h : PA X e t) (i : ∀ σ H Q, t' σ H Q → t σ H Q) : PA X e t' := ⟨fun p pins s σ H Q I q => h.run p pins s σ H Q I (i σ H Q q)⟩
theorem ps_imp {e : Stmt} {t t' : TS} (h : PS X e t) (i : ∀ D σ H, t' D σ H → t D σ H) : PS X e t' := ⟨fun pins s σ H D I q => h.run pins s σ H D I (i D σ H q)⟩
theorem pss_imp {e : List Stmt} {t t' : TS} (h : PSs X e t) (i : ∀ D σ H, t' D σ H → t D σ H) : PSs X e t' := ⟨fun pins s σ H D I q => h.run pins s σ H D I (i D σ H q)⟩
theorem op_imp {f : Value → Value → Sem Value} {r r' : R2} (h : OpR X f r) (i : ∀ x y H Q, r' x y H Q → r x y H Q) : OpR X f r' := fun pins s σ H x y v u Q I rx ry q => h pins s σ H x y v u Q I rx ry (i x y H Q q)
theorem un_imp {f : Value → Sem Value} {r r' : V → Hp → VK → Prop} (h : UnR X f r) (i : ∀ x H Q, r' x H Q → r x H Q) : UnR X f r' := fun pins s σ H x v Q I rx q => h pins s σ H x v Q I rx (i x H Q q)
theorem ix_imp {r r' : R2} (h : IxR X r) (i : ∀ x y H Q, r' x y H Q → r x y H Q) : IxR X r' := fun a b pins s σ H x y v u Q I rx ry q hs => h a b pins s σ H x y v u Q I rx ry (i x y H Q q) hs
theorem call_imp {f : Value} {r r' : List V → Hp → VK → Prop} (h : CallR X f r) (i : ∀ x H Q, r' x H Q → r x H Q) : CallR X f r' := fun pins s σ H x us Q I rx q => h pins s σ H x us Q I rx (i x H Q q)
theorem mt_imp {id : String} {r r' : V → List V → Hp → VK → Prop} (h : MtR X id r) (i : ∀ x xs H Q, r' x xs H Q → r x xs H Q) : MtR X id r' := fun pins s σ H x xs v us Q I rx rs q => h pins s σ H x xs v us Q I rx rs (i x xs H Q q)

/-! ### names and constants -/
def mC (d : D) : ME := fun _ S => .ok d S
def mV (i : Nat) : ME := fun env S => match env[i]? with
  | some (some d) => .ok d S
  | _ => .no
theorem em_c {e : Expr} {v : V} {d : D} (h : PE X e (tC v)) (r : ∀ as H, Rv X.K as H v d) : EM X W e (mC d) := ⟨pe_imp h fun σ H Q ⟨as, env, S, re, rel, g⟩ => g as H v Ex.refl rel (r as H)⟩
theorem em_int {i : Int} {j : Nat} {pos : Pos} : EM X W (.Constant (.int i) j pos) (mC (.int i)) := em_c pe_int fun _ _ => .int i
theorem em_bl {b : Bool} {j : Nat} {pos : Pos} : EM X W (.Constant (.bool b) j pos) (mC (.bl b)) := em_c pe_bl fun _ _ => .bl b
theorem em_non {j : Nat} {pos : Pos} : EM X W (.Constant .none j pos) (mC .non) := em_c pe_non fun _ _ => .non
theorem em_str {x : Str} {j : Nat} {pos : Pos} : EM X W (.Constant (.str x) j pos) (mC (.str x)) := em_c pe_str fun _ _ => .str x
theorem em_v (i : Nat) {x : Str} {pos : Pos} (hN : X.N[i]? = some x := by rfl) (hv : Vis X.env.scope x := by first | exact Or.inl rfl | exact Or.inr (Or.inl rfl) | exact Or.inr (Or.inr rfl)) (hd : (x == ("__debug__" : Str)) = false := by decide)
    (hcd : (x == ("__classdict__" : Str)) = false := by decide) : EM X W (.Name x pos) (mV i) := ⟨pe_imp (pe_var hN hv hd hcd) fun σ H Q ⟨as, env, S, re, rel, g⟩ => by
  unfold mV at g
  cases e : env[i]? with
  | none => rw [e] at g; exact g.elim
  | some o =>
    cases o with
    | none => rw [e] at g; exact g.elim
    | some d =>
      rw [e] at g
      obtain ⟨v, h1, h2⟩ := re.at_ i d e
      exact ⟨v, h1, g as H v Ex.refl rel h2⟩⟩
/-- a constant of the module -/
theorem em_g {x : Str} {v : V} {u : Value} {d : D} {pos : Pos} (hg : Gl X x) (hm : X.mg x = some u) (r : RelV v u) (rd : ∀ as H, Rv X.K as H v d) (hd : (x == ("__debug__" : Str)) = false := by decide) : EM X W (.Name x pos) (mC d) := em_c (pe_glob hg hm r hd) rd

/-! ### operators -/
/-- an operation of values: a value and a store, or nothing -/
abbrev F2 := D → D → Sto → Option (D × Sto)
def R.of {α : Type} : Option (α × Sto) → R α
  | some (d, S) => .ok d S
  | none => .no
def rF (K : PySem.W.Frag) (f : F2) : R2 := fun x y H Q => ∃ as S d e z S', Rel K as S H ∧ Rv K as H x d ∧ Rv K as H y e ∧ f d e S = some (z, S') ∧
  ∀ as' H' v, Ex K as H as' H' → Rel K as' S' H' → Rv K as' H' v z → Q v H'
def m2 (f : F2) (a b : ME) : ME := fun env S => (a env S).bind fun x S1 => (b env S1).bind fun y S2 => R.of (f x y S2)
theorem go_of {K : PySem.W.Frag} {mg : Str → Option Value} {W : WX} {as : List Addr} {H : Hp} {σ : L2.St} {o : Option (D × Sto)} {Q : VK} (g : Go K mg W (Rv K) (R.of o) as H σ Q) :
    ∃ z S', o = some (z, S') ∧ ∀ as' H' v, Ex K as H as' H' → Rel K as' S' H' → Rv K as' H' v z → Q v H' := by
  cases o with
  | none => exact g.elim
  | some p => exact ⟨p.1, p.2, rfl, g⟩
theorem m2_step {K : PySem.W.Frag} {mg : Str → Option Value} {f : F2} {ma mb : ME} {r : R2} (hr : ∀ x y H Q, rF K f x y H Q → r x y H Q) {σ : L2.St} {H : Hp} {Q : VK} (h : tU K mg W (Rv K) (m2 f ma mb) σ H Q) :
    tOp r (tU K mg W (Rv K) ma) (tU K mg W (Rv K) mb) σ H Q := by
  refine tU_bind (f := fun env x S1 => (mb env S1).bind fun y S2 => R.of (f x y S2)) h fun as env d S1 as1 H1 x re rel rv g => ?_
  refine ⟨as1, env, S1, re, rel, Go.bind g fun e S2 as2 H2 y x2 r2 rv2 g2 => ?_⟩
  obtain ⟨z, S', hz, q⟩ := go_of g2
  exact hr _ _ _ _ ⟨as2, S2, d, e, z, S', r2, rv.mono x2, rv2, hz, q⟩
theorem em_bin {f : F2} {a b : Expr} {op : Operator} {ma mb : ME} {pos : Pos} (ho : OpR X (binaryOp op) (rF X.K f)) (ha : EM X W a ma) (hb : EM X W b mb) : EM X W (.BinOp a op b pos) (m2 f ma mb) :=
  ⟨pe_imp (pe_op ho ha.pe hb.pe) fun σ H Q h => m2_step (fun _ _ _ _ q => q) h⟩
theorem em_cmp {f : F2} {a b : Expr} {op : CmpOp} {ma mb : ME} {pos : Pos} (ho : OpR X (compareOp op) (rF X.K f)) (ha : EM X W a ma) (hb : EM X W b mb) (hm : behindInMarks op b = false := by rfl) : EM X W (.Compare a [op] [b] pos) (m2 f ma mb) :=
  ⟨pe_imp (pe_cmpR ho ha.pe hb.pe hm) fun σ H Q h => m2_step (fun _ _ _ _ q => q) h⟩
theorem em_ix {f : F2} {a b : Expr} {ma mb : ME} {pos : Pos} (ho : IxR X (rF X.K f)) (ha : EM X W a ma) (hb : EM X W b mb) (hs : PlainIx b := by exact fun _ _ => rfl) : EM X W (.Subscript a b pos) (m2 f ma mb) :=
  ⟨pe_imp (pe_ix ho ha.pe hb.pe hs) fun σ H Q h => m2_step (fun _ _ _ _ q => q) h⟩
/-- a < b < c -/
def mCh (f g : F2) (a b c : ME) : ME := fun env S => (a env S).bind fun x S1 => (b env S1).bind fun y S2 => match f x y S2 with
  | some (.bl true, S3) => (c env S3).bind fun z S4 => R.of (g y z S4)
  | some (.bl false, S3) => .ok (.bl false) S3
  | _ => .no
theorem mCh_step {K : PySem.W.Frag} {mg : Str → Option Value} {f g : F2} {ma mb mc : ME} {σ : L2.St} {H : Hp} {Q : VK} (h : tU K mg W (Rv K) (mCh f g ma mb mc) σ H Q) :
    tChain (rF K f) (rF K g) (tU K mg W (Rv K) ma) (tU K mg W (Rv K) mb) (tU K mg W (Rv K) mc) σ H Q := by
  refine tU_bind (f := fun env x S1 => (mb env S1).bind fun y S2 => match f x y S2 with
    | some (.bl true, S3) => (mc env S3).bind fun z S4 => R.of (g y z S4)
    | some (.bl false, S3) => .ok (.bl false) S3
    | _ => .no) h fun as env d S1 as1 H1 x re rel rv g1 => ?_
  refine ⟨as1, env, S1, re, rel, Go.bind g1 fun e S2 as2 H2 y x2 r2 rv2 g2 => ?_⟩
  cases q : f d e S2 with
  | none => rw [q] at g2; exact g2.elim
  | some p =>
    obtain ⟨z, S3⟩ := p
    rw [q] at g2
    cases z with
    | bl b =>
      refine ⟨as2, S2, d, e, .bl b, S3, r2, rv.mono x2, rv2, q, fun as3 H3 v x3 r3 rv3 => ?_⟩
      cases rv3
      cases b with
      | true =>
        refine ⟨true, rfl, ?_⟩
        rw [if_pos rfl]
        refine ⟨as3, env, S3, (re.mono x2).mono x3, r3, Go.bind (Go.later x3 g2) fun w S4 as4 H4 y4 x4 r4 rv4 g4 => ?_⟩
        obtain ⟨z, S', hz, q⟩ := go_of g4
        exact ⟨as4, S4, e, w, z, S', r4, (rv2.mono x3).mono x4, rv4, hz, q⟩
      | false =>
        refine ⟨false, rfl, ?_⟩
        rw [if_neg Bool.false_ne_true]
        exact g2 as3 H3 _ x3 r3 (.bl false)
    | _ => exact g2.elim
theorem em_chain {f g : F2} {a b c : Expr} {op op' : CmpOp} {ma mb mc : ME} {pos : Pos} (ho : OpR X (compareOp op) (rF X.K f)) (ho' : OpR X (compareOp op') (rF X.K g)) (ha : EM X W a ma) (hb : EM X W b mb) (hc : EM X W c mc) (hm : behindInMarks op' c = false := by rfl) :
    EM X W (.Compare a [op, op'] [b, c] pos) (mCh f g ma mb mc) :=
  ⟨pe_imp (pe_chain ho ho' ha.pe hb.pe hc.pe hm) fun σ H Q h => mCh_step h⟩

/-! ### tests -/
/-- of a True or False -/
def mB (a : ME) : MT := fun env S => (a env S).bind fun x S1 => match x with
  | .bl b => .ok b S1
  | _ => .no
theorem mB_step {K : PySem.W.Frag} {mg : Str → Option Value} {ma : ME} {σ : L2.St} {H : Hp} {Q : Bool → Hp → Prop} (h : tU K mg W Rb (mB ma) σ H Q) : tU K mg W (Rv K) ma σ H fun x H1 => ∃ k, x = .bl k ∧ Q k H1 := by
  refine tU_bind (f := fun env x S1 => match x with
    | .bl b => .ok b S1
    | _ => .no) h fun as env d S1 as1 H1 x re rel rv g => ?_
  cases d with
  | bl b => cases rv; exact ⟨b, rfl, g as1 H1 b Ex.refl rel rfl⟩
  | _ => exact g.elim
theorem tm_val {e : Expr} {m : ME} (h : EM X W e m) (he : ∀ whole, isTrue e X.env whole = (do let v ← whole; standAt e.pos; holding [v] (truthy v)) := by intro _; rfl) : TM X W e (mB m) := ⟨pt_imp (pt_val h.pe he) fun σ H Q q => mB_step q⟩
theorem tm_cmp {f : F2} {a b : Expr} {op : CmpOp} {ma mb : ME} {pos : Pos} (ho : OpR X (compareOp op) (rF X.K f)) (ha : EM X W a ma) (hb : EM X W b mb) (hm : behindInMarks op b = false := by rfl) : TM X W (.Compare a [op] [b] pos) (mB (m2 f ma mb)) :=
  ⟨pt_imp (pt_cmpR ho ha.pe hb.pe hm) fun σ H Q h => m2_step (fun _ _ _ _ q => q) (mB_step h)⟩
theorem tm_chain {f g : F2} {a b c : Expr} {op op' : CmpOp} {ma mb mc : ME} {pos : Pos} (ho : OpR X (compareOp op) (rF X.K f)) (ho' : OpR X (compareOp op') (rF X.K g)) (ha : EM X W a ma) (hb : EM X W b mb) (hc : EM X W c mc) (hm : behindInMarks op' c = false := by rfl) :
    TM X W (.Compare a [op, op'] [b, c] pos) (mB (mCh f g ma mb mc)) :=
  ⟨pt_imp (pt_chain ho ho' ha.pe hb.pe hc.pe hm) fun σ H Q h => mCh_step (mB_step h)⟩
def mNotT (a : MT) : MT := fun env S => (a env S).bind fun b S1 => .ok (!b) S1
def mAndT (a b : MT) : MT := fun env S => (a env S).bind fun c S1 => if c = true then b env S1 else .ok false S1
def mOrT (a b : MT) : MT := fun env S => (a env S).bind fun c S1 => if c = true then .ok true S1 else b env S1
theorem tm_not {a : Expr} {m : MT} {pos : Pos} (h : TM X W a m) : TM X W (.UnaryOp .Not a pos) (mNotT m) := ⟨pt_imp (pt_not h.pt) fun σ H Q q => tU_bind (f := fun env b S1 => .ok (!b) S1) q fun as env d S1 as1 H1 x re rel rv g => by
  cases rv
  exact g as1 H1 _ Ex.refl rel rfl⟩
structure WM (X : Cx) (W : WX) (e : Expr) (m : MT) : Prop where
  pw : PW X e (tU X.K X.mg W Rb m)
theorem wm_and1 {a : Expr} {m : MT} {pos : Pos} (h : TM X W a m) : WM X W (.BoolOp .And [a] pos) m := ⟨pw_and1 h.pt⟩
theorem wm_or1 {a : Expr} {m : MT} {pos : Pos} (h : TM X W a m) : WM X W (.BoolOp .Or [a] pos) m := ⟨pw_or1 h.pt⟩
theorem wm_and {a b : Expr} {rest : List Expr} {m n : MT} {pos : Pos} (h : TM X W a m) (h2 : WM X W (.BoolOp .And (b :: rest) pos) n) : WM X W (.BoolOp .And (a :: b :: rest) pos) (mAndT m n) :=
  ⟨pw_imp (pw_and h.pt h2.pw) fun σ H Q q => tU_bind (f := fun env c S1 => if c = true then n env S1 else .ok false S1) q fun as env d S1 as1 H1 x re rel rv g => by
    cases rv
    cases d with
    | true => rw [if_pos rfl]; exact ⟨as1, env, S1, re, rel, g⟩
    | false => rw [if_neg Bool.false_ne_true]; exact g as1 H1 _ Ex.refl rel rfl⟩
theorem wm_or {a b : Expr} {rest : List Expr} {m n : MT} {pos : Pos} (h : TM X W a m) (h2 : WM X W (.BoolOp .Or (b :: rest) pos) n) : WM X W (.BoolOp .Or (a :: b :: rest) pos) (mOrT m n) :=
  ⟨pw_imp (pw_or h.pt h2.pw) fun σ H Q q => tU_bind (f := fun env c S1 => if c = true then .ok true S1 else n env S1) q fun as env d S1 as1 H1 x re rel rv g => by
    cases rv
    cases d with
    | true => rw [if_pos rfl]; exact g as1 H1 _ Ex.refl rel rfl
    | false => rw [if_neg Bool.false_ne_true]; exact ⟨as1, env, S1, re, rel, g⟩⟩
theorem WM.tm {e : Expr} {m : MT} (h : WM X W e m) : TM X W e m := ⟨PW.pt h.pw⟩

/-! ### and, or, not as values (True or False) -/
def mAndV (a b : ME) : ME := fun env S => (a env S).bind fun c S1 => match c with
  | .bl true => b env S1
  | .bl false => .ok (.bl false) S1
  | _ => .no
def mOrV (a b : ME) : ME := fun env S => (a env S).bind fun c S1 => match c with
  | .bl false => b env S1
  | .bl true => .ok (.bl true) S1
  | _ => .no
def mNotV (a : ME) : ME := fun env S => (a env S).bind fun c S1 => match c with
  | .bl b => .ok (.bl (!b)) S1
  | _ => .no
theorem em_one {op : BoolOp} {a : Expr} {m : ME} {pos : Pos} (h : EM X W a m) : EM X W (.BoolOp op [a] pos) m := ⟨pe_one h.pe⟩
theorem em_and {a b : Expr} {rest : List Expr} {m n : ME} {pos : Pos} (h : EM X W a m) (h2 : EM X W (.BoolOp .And (b :: rest) pos) n) : EM X W (.BoolOp .And (a :: b :: rest) pos) (mAndV m n) :=
  ⟨pe_imp (pe_and h.pe h2.pe) fun σ H Q q => tU_bind (f := fun env c S1 => match c with
    | .bl true => n env S1
    | .bl false => .ok (.bl false) S1
    | _ => .no) q fun as env d S1 as1 H1 x re rel rv g => by
    cases d with
    | bl b =>
      cases rv
      refine ⟨b, rfl, ?_⟩
      cases b with
      | true => rw [if_pos rfl]; exact ⟨as1, env, S1, re, rel, g⟩
      | false => rw [if_neg Bool.false_ne_true]; exact g as1 H1 _ Ex.refl rel (.bl false)
    | _ => exact g.elim⟩
theorem em_or {a b : Expr} {rest : List Expr} {m n : ME} {pos : Pos} (h : EM X W a m) (h2 : EM X W (.BoolOp .Or (b :: rest) pos) n) : EM X W (.BoolOp .Or (a :: b :: rest) pos) (mOrV m n) :=
  ⟨pe_imp (pe_or h.pe h2.pe) fun σ H Q q => tU_bind (f := fun env c S1 => match c with
    | .bl false => n env S1
    | .bl true => .ok (.bl true) S1
    | _ => .no) q fun as env d S1 as1 H1 x re rel rv g => by
    cases d with
    | bl b =>
      cases rv
      refine ⟨b, rfl, ?_⟩
      cases b with
      | true => rw [if_pos rfl]; exact g as1 H1 _ Ex.refl rel (.bl true)
      | false => rw [if_neg Bool.false_ne_true]; exact ⟨as1, env, S1, re, rel, g⟩
    | _ => exact g.elim⟩
theorem em_not {a : Expr} {m : ME} {pos : Pos} (h : EM X W a m) : EM X W (.UnaryOp .Not a pos) (mNotV m) :=
  ⟨pe_imp (pe_not h.pe) fun σ H Q q => tU_bind (f := fun env c S1 => (match c with
    | .bl b => .ok (.bl (!b)) S1
    | _ => .no : R D)) q fun as env d S1 as1 H1 x re rel rv g => by
    cases d with
    | bl b => cases rv; exact ⟨b, rfl, g as1 H1 _ Ex.refl rel (.bl _)⟩
    | _ => exact g.elim⟩
def mIf (t : MT) (a b : ME) : ME := fun env S => (t env S).bind fun c S1 => if c = true then a env S1 else b env S1
theorem em_if {c a b : Expr} {t : MT} {m n : ME} {pos : Pos} (hc : TM X W c t) (ha : EM X W a m) (hb : EM X W b n) : EM X W (.IfExp c a b pos) (mIf t m n) :=
  ⟨pe_imp (pe_ifExp hc.pt ha.pe hb.pe) fun σ H Q q => tU_bind (f := fun env c S1 => if c = true then m env S1 else n env S1) q fun as env d S1 as1 H1 x re rel rv g => by
    cases rv
    cases d with
    | true => rw [if_pos rfl]; exact ⟨as1, env, S1, re, rel, g⟩
    | false => rw [if_neg Bool.false_ne_true]; exact ⟨as1, env, S1, re, rel, g⟩⟩

/-! ### argument lists, displays -/
def mNil : MA := fun _ S => .ok [] S
def mCons (a : ME) (r : MA) : MA := fun env S => (a env S).bind fun x S1 => (r env S1).bind fun xs S2 => .ok (x :: xs) S2
theorem am_nil : AM X W [] mNil := ⟨pa_imp pa_nil fun σ H Q ⟨as, env, S, re, rel, g⟩ => g as H [] Ex.refl rel .nil⟩
theorem am_cons {e : Expr} {es : List Expr} {m : ME} {r : MA} (h : EM X W e m) (hr : AM X W es r) (hs : starEach (e :: es) X.env = (false, eval e X.env) :: starEach es X.env := by rfl) : AM X W (e :: es) (mCons m r) :=
  ⟨pa_imp (pa_cons h.pe hr.pa hs) fun σ H Q q => tU_bind (f := fun env x S1 => (r env S1).bind fun xs S2 => .ok (x :: xs) S2) q fun as env d S1 as1 H1 x re rel rv g =>
    ⟨as1, env, S1, re, rel, Go.bind g fun ds S2 as2 H2 xs x2 r2 rv2 g2 => g2 as2 H2 _ Ex.refl r2 (.cons (rv.mono x2) rv2)⟩⟩
def kTup (xs : List D) (S1 : Sto) : R D := if xs.length ≤ sizeLine then .ok (.tup xs) S1 else .no
def kLst (xs : List D) (S1 : Sto) : R D := if xs.length ≤ sizeLine then .ok (.obj S1.length) (S1 ++ [.lst xs]) else .no
def mTup (a : MA) : ME := fun env S => (a env S).bind kTup
def mLst (a : MA) : ME := fun env S => (a env S).bind kLst
theorem em_tup {es : List Expr} {m : MA} {k : Nat} {pos : Pos} (h : AM X W es m) : EM X W (.Tuple es k pos) (mTup m) :=
  ⟨pe_imp (pe_tup h.pa) fun σ H Q q => tU_bind (f := fun _ => kTup) q fun as env ds S1 as1 H1 xs re rel rv g => by
    unfold kTup at g
    by_cases hl : ds.length ≤ sizeLine
    · rw [if_pos hl] at g
      exact ⟨by rw [rv.len]; exact hl, fun p hp => g as1 _ _ (Ex.fresh hp) (rel.fresh hp) (.tup (SqT.of upd_same) (rv.mono (Ex.fresh hp)))⟩
    · rw [if_neg hl] at g; exact g.elim⟩
theorem new_lst {K : PySem.W.Frag} {as : List Addr} {S : Sto} {H : Hp} {p : Addr} {vs : List V} {ds : List D} (rel : Rel K as S H) (hp : H p = none) (rv : Rvs K as H vs ds) :
    Rel K (as ++ [p]) (S ++ [.lst ds]) (upd H p (.lst vs)) ∧ Ex K as H (as ++ [p]) (upd H p (.lst vs)) ∧ (as ++ [p])[S.length]? = some p :=
  rel.new hp ⟨vs, upd_same, rv.mono ((Ex.fresh hp).trans Ex.more)⟩ rfl
theorem em_lst {es : List Expr} {m : MA} {pos : Pos} (h : AM X W es m) : EM X W (.List es pos) (mLst m) :=
  ⟨pe_imp (pe_lst h.pa) fun σ H Q q => tU_bind (f := fun _ => kLst) q fun as env ds S1 as1 H1 xs re rel rv g => by
    unfold kLst at g
    by_cases hl : ds.length ≤ sizeLine
    · rw [if_pos hl] at g
      refine ⟨by rw [rv.len]; exact hl, fun p hp => ?_⟩
      obtain ⟨r1, x1, e1⟩ := new_lst rel hp rv
      exact g _ _ _ x1 r1 (.obj e1)
    · rw [if_neg hl] at g; exact g.elim⟩
end
end Mi

namespace Mi
open PySem PySem.Spec PyProof.Rows L2

/-! ### what a datum's V is -/
section
variable {K : PySem.W.Frag} {as : List Addr} {H : Hp} {S : Sto} {v : V}
theorem Rv.non_ (r : Rv K as H v .non) : v = .non := by cases r; rfl
theorem Rv.bl_ {b : Bool} (r : Rv K as H v (.bl b)) : v = .bl b := by cases r; rfl
theorem Rv.int_ {i : Int} (r : Rv K as H v (.int i)) : v = .int i := by cases r; rfl
theorem Rv.str_ {x : Str} (r : Rv K as H v (.str x)) : v = .str x := by cases r; rfl
theorem Rv.tup_ {ds : List D} (r : Rv K as H v (.tup ds)) : ∃ a xs, v = .ref a ∧ SqT K H a xs ∧ Rvs K as H xs ds := by cases r with | tup h t => exact ⟨_, _, rfl, h, t⟩
theorem Rv.obj_ {i : Nat} (r : Rv K as H v (.obj i)) : ∃ a, v = .ref a ∧ as[i]? = some a := by cases r with | obj h => exact ⟨_, rfl, h⟩
theorem Rv.lst_ {i : Nat} {ds : List D} (r : Rv K as H v (.obj i)) (rel : Rel K as S H) (h : S[i]? = some (.lst ds)) : ∃ a vs, v = .ref a ∧ as[i]? = some a ∧ H a = some (.lst vs) ∧ Rvs K as H vs ds := by
  obtain ⟨a, rfl, ha⟩ := r.obj_
  obtain ⟨vs, h1, h2⟩ := rel.ob i a _ ha h
  exact ⟨a, vs, rfl, ha, h1, h2⟩
/-- a list to be read -/
def lstAt (S : Sto) (i : Nat) : Option (List D) := match S[i]? with
  | some (.lst ds) => some ds
  | some (.fix ds) => some ds
  | _ => none
theorem Rv.seq_ {i : Nat} {ds : List D} (r : Rv K as H v (.obj i)) (rel : Rel K as S H) (h : lstAt S i = some ds) : ∃ a vs, v = .ref a ∧ as[i]? = some a ∧ SqL K H a vs ∧ Rvs K as H vs ds := by
  obtain ⟨a, rfl, ha⟩ := r.obj_
  unfold lstAt at h
  cases e : S[i]? with
  | none => rw [e] at h; cases h
  | some o =>
    rw [e] at h
    have q := rel.ob i a o ha e
    cases o with
    | lst es => cases h; obtain ⟨vs, h1, h2⟩ := q; exact ⟨a, vs, rfl, ha, SqL.of h1, h2⟩
    | fix es =>
      cases h
      obtain ⟨vs, h1, h2⟩ := q
      refine ⟨a, vs, rfl, ha, ?_, h2⟩
      rcases h1 with ⟨o, h1⟩ | h1
      · exact .inl (.inr ⟨o, h1⟩)
      · exact h1 H
    | dic es => cases h
theorem Rv.dic_ {i : Nat} {kds : List (Key × D)} (r : Rv K as H v (.obj i)) (rel : Rel K as S H) (h : S[i]? = some (.dic kds)) : ∃ a kvs, v = .ref a ∧ as[i]? = some a ∧ H a = some (.dK kvs) ∧ Rkv K as H kvs kds := by
  obtain ⟨a, rfl, ha⟩ := r.obj_
  obtain ⟨vs, h1, h2⟩ := rel.ob i a _ ha h
  exact ⟨a, vs, rfl, ha, h1, h2⟩
theorem Rvs.sing {d : D} {vs : List V} (r : Rvs K as H vs [d]) : ∃ v, vs = [v] ∧ Rv K as H v d := by
  cases r with | cons h t => cases t; exact ⟨_, rfl, h⟩
theorem Rvs.pair {d e : D} {vs : List V} (r : Rvs K as H vs [d, e]) : ∃ v u, vs = [v, u] ∧ Rv K as H v d ∧ Rv K as H u e := by
  cases r with | cons h t => obtain ⟨u, rfl, h2⟩ := t.sing; exact ⟨_, _, rfl, h, h2⟩
theorem Rvs.ints : ∀ {vs : List V} {ns : List Int}, Rvs K as H vs (ns.map D.int) → vs = ns.map V.int
  | _, [], .nil => rfl
  | _, n :: ns, .cons h t => by rw [h.int_, Rvs.ints t]; rfl
theorem Rvs.bls : ∀ {vs : List V} {ns : List Bool}, Rvs K as H vs (ns.map D.bl) → vs = ns.map V.bl
  | _, [], .nil => rfl
  | _, n :: ns, .cons h t => by rw [h.bl_, Rvs.bls t]; rfl
theorem Rvs.strs : ∀ {vs : List V} {ns : List Str}, Rvs K as H vs (ns.map D.str) → vs = ns.map V.str
  | _, [], .nil => rfl
  | _, n :: ns, .cons h t => by rw [h.str_, Rvs.strs t]; rfl
theorem Rvs.of_ints : ∀ ns : List Int, Rvs K as H (ns.map V.int) (ns.map D.int)
  | [] => .nil
  | n :: ns => .cons (.int n) (Rvs.of_ints ns)
end
/-- all ints, all bools, all texts -/
def toInts : List D → Option (List Int)
  | [] => some []
  | .int i :: r => (toInts r).map (i :: ·)
  | _ => none
theorem toInts_eq : ∀ {ds : List D} {ns : List Int}, toInts ds = some ns → ds = ns.map D.int
  | [], ns, h => by cases h; rfl
  | .int i :: r, ns, h => by
    unfold toInts at h
    cases e : toInts r with
    | none => rw [e] at h; cases h
    | some l => rw [e] at h; cases h; rw [toInts_eq e]; rfl
  | .non :: _, _, h => by cases h
  | .bl _ :: _, _, h => by cases h
  | .str _ :: _, _, h => by cases h
  | .tup _ :: _, _, h => by cases h
  | .obj _ :: _, _, h => by cases h
@[simp] theorem toInts_map : ∀ ns : List Int, toInts (ns.map D.int) = some ns
  | [] => rfl
  | n :: ns => by show (toInts (ns.map D.int)).map (n :: ·) = _; rw [toInts_map ns]; rfl
def toBls : List D → Option (List Bool)
  | [] => some []
  | .bl i :: r => (toBls r).map (i :: ·)
  | _ => none
theorem toBls_eq : ∀ {ds : List D} {ns : List Bool}, toBls ds = some ns → ds = ns.map D.bl
  | [], ns, h => by cases h; rfl
  | .bl i :: r, ns, h => by
    unfold toBls at h
    cases e : toBls r with
    | none => rw [e] at h; cases h
    | some l => rw [e] at h; cases h; rw [toBls_eq e]; rfl
  | .non :: _, _, h => by cases h
  | .int _ :: _, _, h => by cases h
  | .str _ :: _, _, h => by cases h
  | .tup _ :: _, _, h => by cases h
  | .obj _ :: _, _, h => by cases h
@[simp] theorem toBls_map : ∀ ns : List Bool, toBls (ns.map D.bl) = some ns
  | [] => rfl
  | n :: ns => by show (toBls (ns.map D.bl)).map (n :: ·) = _; rw [toBls_map ns]; rfl
def toStrs : List D → Option (List Str)
  | [] => some []
  | .str i :: r => (toStrs r).map (i :: ·)
  | _ => none
theorem toStrs_eq : ∀ {ds : List D} {ns : List Str}, toStrs ds = some ns → ds = ns.map D.str
  | [], ns, h => by cases h; rfl
  | .str i :: r, ns, h => by
    unfold toStrs at h
    cases e : toStrs r with
    | none => rw [e] at h; cases h
    | some l => rw [e] at h; cases h; rw [toStrs_eq e]; rfl
  | .non :: _, _, h => by cases h
  | .int _ :: _, _, h => by cases h
  | .bl _ :: _, _, h => by cases h
  | .tup _ :: _, _, h => by cases h
  | .obj _ :: _, _, h => by cases h
@[simp] theorem toStrs_map : ∀ ns : List Str, toStrs (ns.map D.str) = some ns
  | [] => rfl
  | n :: ns => by show (toStrs (ns.map D.str)).map (n :: ·) = _; rw [toStrs_map ns]; rfl

/-! ### arithmetic -/
def fAdd : F2 := fun d e S => match d, e with
  | .int i, .int j => some (.int (i + j), S)
  | .str x, .str y => if x.length + y.length ≤ sizeLine then some (.str (x ++ y), S) else none
  | .tup xs, .tup ys => if xs.length + ys.length ≤ sizeLine then some (.tup (xs ++ ys), S) else none
  | .obj i, .obj j => match S[i]?, S[j]? with
    | some (.lst xs), some (.lst ys) => if xs.length + ys.length ≤ sizeLine then some (.obj S.length, S ++ [.lst (xs ++ ys)]) else none
    | _, _ => none
  | _, _ => none
def fSub : F2 := fun d e S => match d, e with
  | .int i, .int j => some (.int (i - j), S)
  | _, _ => none
def fMul : F2 := fun d e S => match d, e with
  | .int i, .int j => if i.natAbs.log2 + j.natAbs.log2 < 1000000 then some (.int (i * j), S) else none
  | .obj i, .int k => match S[i]? with
    | some (.lst xs) => if -(2 ^ 63) ≤ k ∧ k < 2 ^ 63 ∧ xs.length * k.toNat ≤ sizeLine then some (.obj S.length, S ++ [.lst (List.replicate k.toNat xs).flatten]) else none
    | _ => none
  | _, _ => none
def fDiv : F2 := fun d e S => match d, e with
  | .int i, .int j => if 0 < j ∧ j.natAbs.log2 < 9000 then some (.int (i / j), S) else none
  | _, _ => none
def fMod : F2 := fun d e S => match d, e with
  | .int i, .int j => if 0 < j then some (.int (i % j), S) else none
  | _, _ => none
def fPow : F2 := fun d e S => match d, e with
  | .int i, .int j => if 0 ≤ j ∧ j ≤ 1000000 ∧ i.natAbs < 2 ^ 64 then some (.int (i ^ j.toNat), S) else none
  | _, _ => none
section
variable {X : Cx}
theorem op_fAdd : OpR X (binaryOp .Add) (rF X.K fAdd) := by
  refine op_imp (OpR.or (OpR.or op_add op_add_str) (OpR.or op_catA op_cat)) fun x y H Q ⟨as, S, d, e, z, S', rel, rx, ry, hf, q⟩ => ?_
  cases d <;> cases e <;> try (cases hf; done)
  case int.int i j => cases hf; exact .inl (.inl ⟨i, j, rx.int_, ry.int_, q as H _ Ex.refl rel (.int _)⟩)
  case str.str a b =>
    unfold fAdd at hf
    dsimp only at hf
    by_cases hl : a.length + b.length ≤ sizeLine
    · rw [if_pos hl] at hf; cases hf; exact .inl (.inr ⟨a, b, rx.str_, ry.str_, hl, q as H _ Ex.refl rel (.str _)⟩)
    · rw [if_neg hl] at hf; cases hf
  case tup.tup ds es =>
    unfold fAdd at hf
    dsimp only at hf
    by_cases hl : ds.length + es.length ≤ sizeLine
    · rw [if_pos hl] at hf
      cases hf
      obtain ⟨a, xs, rfl, ha, ra⟩ := rx.tup_
      obtain ⟨b, ys, rfl, hb, rb⟩ := ry.tup_
      refine .inr (.inl ⟨a, b, xs, ys, rfl, rfl, ha, hb, by rw [ra.len, rb.len]; exact hl, fun h => ?_, fun _ h => ?_, fun _ _ p hp => ?_⟩)
      · subst h; cases ra; exact q as H _ Ex.refl rel (.tup hb rb)
      · subst h; cases rb; rw [List.append_nil] at q; exact q as H _ Ex.refl rel (.tup ha ra)
      · exact q as _ _ (Ex.fresh hp) (rel.fresh hp) (.tup (SqT.of upd_same) ((ra.append rb).mono (Ex.fresh hp)))
    · rw [if_neg hl] at hf; cases hf
  case obj.obj i j =>
    unfold fAdd at hf
    dsimp only at hf
    split at hf
    · rename_i ds es h1 h2
      by_cases hl : ds.length + es.length ≤ sizeLine
      · rw [if_pos hl] at hf
        cases hf
        obtain ⟨a, xs, rfl, _, ha, ra⟩ := rx.lst_ rel h1
        obtain ⟨b, ys, rfl, _, hb, rb⟩ := ry.lst_ rel h2
        refine .inr (.inr ⟨a, b, xs, ys, rfl, rfl, ha, hb, by rw [ra.len, rb.len]; exact hl, fun p hp => ?_⟩)
        obtain ⟨r1, x1, e1⟩ := new_lst rel hp (ra.append rb)
        exact q _ _ _ x1 r1 (.obj e1)
      · rw [if_neg hl] at hf; cases hf
    · cases hf
theorem op_fSub : OpR X (binaryOp .Sub) (rF X.K fSub) := by
  refine op_imp op_sub fun x y H Q ⟨as, S, d, e, z, S', rel, rx, ry, hf, q⟩ => ?_
  cases d <;> cases e <;> try (cases hf; done)
  case int.int i j => cases hf; exact ⟨i, j, rx.int_, ry.int_, q as H _ Ex.refl rel (.int _)⟩
theorem op_fMul : OpR X (binaryOp .Mult) (rF X.K fMul) := by
  refine op_imp (OpR.or op_mulW op_rep) fun x y H Q ⟨as, S, d, e, z, S', rel, rx, ry, hf, q⟩ => ?_
  cases d <;> cases e <;> try (cases hf; done)
  case int.int i j =>
    unfold fMul at hf
    dsimp only at hf
    by_cases hl : i.natAbs.log2 + j.natAbs.log2 < 1000000
    · rw [if_pos hl] at hf; cases hf; exact .inl ⟨i, j, rx.int_, ry.int_, hl, q as H _ Ex.refl rel (.int _)⟩
    · rw [if_neg hl] at hf; cases hf
  case obj.int i k =>
    unfold fMul at hf
    dsimp only at hf
    split at hf
    · rename_i ds h1
      by_cases hl : -(2 ^ 63) ≤ k ∧ k < 2 ^ 63 ∧ ds.length * k.toNat ≤ sizeLine
      · rw [if_pos hl] at hf
        cases hf
        obtain ⟨a, xs, rfl, _, ha, ra⟩ := rx.lst_ rel h1
        refine .inr ⟨a, k, xs, rfl, ry.int_, ha, hl.1, hl.2.1, by rw [ra.len]; exact hl.2.2, fun p hp => ?_⟩
        obtain ⟨r1, x1, e1⟩ := new_lst rel hp (ra.repl k.toNat)
        exact q _ _ _ x1 r1 (.obj e1)
      · rw [if_neg hl] at hf; cases hf
    · cases hf
theorem op_fDiv : OpR X (binaryOp .FloorDiv) (rF X.K fDiv) := by
  refine op_imp op_fdivW fun x y H Q ⟨as, S, d, e, z, S', rel, rx, ry, hf, q⟩ => ?_
  cases d <;> cases e <;> try (cases hf; done)
  case int.int i j =>
    unfold fDiv at hf
    dsimp only at hf
    by_cases hl : 0 < j ∧ j.natAbs.log2 < 9000
    · rw [if_pos hl] at hf; cases hf; exact ⟨i, j, rx.int_, ry.int_, hl, q as H _ Ex.refl rel (.int _)⟩
    · rw [if_neg hl] at hf; cases hf
theorem op_fMod : OpR X (binaryOp .Mod) (rF X.K fMod) := by
  refine op_imp op_mod fun x y H Q ⟨as, S, d, e, z, S', rel, rx, ry, hf, q⟩ => ?_
  cases d <;> cases e <;> try (cases hf; done)
  case int.int i j =>
    unfold fMod at hf
    dsimp only at hf
    by_cases hl : 0 < j
    · rw [if_pos hl] at hf; cases hf; exact ⟨i, j, rx.int_, ry.int_, hl, q as H _ Ex.refl rel (.int _)⟩
    · rw [if_neg hl] at hf; cases hf
theorem op_fPow : OpR X (binaryOp .Pow) (rF X.K fPow) := by
  refine op_imp op_pow fun x y H Q ⟨as, S, d, e, z, S', rel, rx, ry, hf, q⟩ => ?_
  cases d <;> cases e <;> try (cases hf; done)
  case int.int i j =>
    unfold fPow at hf
    dsimp only at hf
    by_cases hl : 0 ≤ j ∧ j ≤ 1000000 ∧ i.natAbs < 2 ^ 64
    · rw [if_pos hl] at hf; cases hf; exact ⟨i, j, rx.int_, ry.int_, hl, q as H _ Ex.refl rel (.int _)⟩
    · rw [if_neg hl] at hf; cases hf
/-- -x -/
abbrev F1 := D → Sto → Option (D × Sto)
def rF1 (K : PySem.W.Frag) (f : F1) : V → Hp → VK → Prop := fun x H Q => ∃ as S d z S', Rel K as S H ∧ Rv K as H x d ∧ f d S = some (z, S') ∧ ∀ as' H' v, Ex K as H as' H' → Rel K as' S' H' → Rv K as' H' v z → Q v H'
def m1 (f : F1) (a : ME) : ME := fun env S => (a env S).bind fun x S1 => R.of (f x S1)
theorem em_un {W : WX} {f : F1} {a : Expr} {op : UnaryOp} {ma : ME} {pos : Pos} (ho : UnR X (unaryOp op) (rF1 X.K f)) (ha : EM X W a ma)
    (hu : ∀ {t : TE} {r : V → Hp → VK → Prop}, UnR X (unaryOp op) r → PE X a t → PE X (.UnaryOp op a pos) (tUn r t)) : EM X W (.UnaryOp op a pos) (m1 f ma) :=
  ⟨pe_imp (hu ho ha.pe) fun σ H Q h => tU_bind (f := fun _ x S1 => R.of (f x S1)) h fun as env d S1 as1 H1 x re rel rv g => by
    obtain ⟨z, S', hz, q⟩ := go_of g
    exact ⟨as1, S1, d, z, S', rel, rv, hz, q⟩⟩
def fNeg : F1 := fun d S => match d with
  | .int i => some (.int (-i), S)
  | _ => none
theorem un_fNeg : UnR X (unaryOp .USub) (rF1 X.K fNeg) := by
  refine un_imp un_neg fun x H Q ⟨as, S, d, z, S', rel, rx, hf, q⟩ => ?_
  cases d <;> try (cases hf; done)
  case int i => cases hf; exact ⟨i, rx.int_, q as H _ Ex.refl rel (.int _)⟩

/-! ### order -/
def fRel (p : Int → Int → Bool) (s : Str → Str → Option Bool) : F2 := fun d e S => match d, e with
  | .int i, .int j => some (.bl (p i j), S)
  | .str x, .str y => match s x y with
    | some b => some (.bl b, S)
    | none => none
  | _, _ => none
theorem op_rel {op : CmpOp} {p : Int → Int → Bool} {s : Str → Str → Option Bool} (h : OpR X (compareOp op) (rI0 fun i j => .bl (p i j)))
    (h2 : OpR X (compareOp op) (fun x y H Q => ∃ i j, x = .str i ∧ y = .str j ∧ ∃ b, s i j = some b ∧ Q (.bl b) H)) : OpR X (compareOp op) (rF X.K (fRel p s)) := by
  refine op_imp (OpR.or h h2) fun x y H Q ⟨as, S, d, e, z, S', rel, rx, ry, hf, q⟩ => ?_
  cases d <;> cases e <;> try (cases hf; done)
  case int.int i j => cases hf; exact .inl ⟨i, j, rx.int_, ry.int_, q as H _ Ex.refl rel (.bl _)⟩
  case str.str a b =>
    unfold fRel at hf
    dsimp only at hf
    cases e : s a b with
    | none => rw [e] at hf; cases hf
    | some c => rw [e] at hf; cases hf; exact .inr ⟨a, b, rx.str_, ry.str_, c, e, q as H _ Ex.refl rel (.bl _)⟩
def sLt (x y : Str) : Option Bool := some (decide (x.cps.toList < y.cps.toList))
def fLt : F2 := fRel (fun i j => decide (i < j)) sLt
def fLe : F2 := fRel (fun i j => decide (i ≤ j)) fun x y => some (!decide (y.cps.toList < x.cps.toList))
def fGt : F2 := fRel (fun i j => decide (j < i)) fun x y => some (decide (y.cps.toList < x.cps.toList))
def fGe : F2 := fRel (fun i j => decide (j ≤ i)) fun x y => some (!decide (x.cps.toList < y.cps.toList))
theorem op_fLt : OpR X (compareOp .Lt) (rF X.K fLt) := op_rel op_lt (op_imp op_lt_str fun x y H Q ⟨i, j, h1, h2, b, h3, q⟩ => by cases h3; exact ⟨i, j, h1, h2, q⟩)
theorem op_fLe : OpR X (compareOp .LtE) (rF X.K fLe) := op_rel op_le (op_imp op_le_str fun x y H Q ⟨i, j, h1, h2, b, h3, q⟩ => by cases h3; exact ⟨i, j, h1, h2, q⟩)
theorem op_fGt : OpR X (compareOp .Gt) (rF X.K fGt) := op_rel op_gt (op_imp op_gt_str fun x y H Q ⟨i, j, h1, h2, b, h3, q⟩ => by cases h3; exact ⟨i, j, h1, h2, q⟩)
theorem op_fGe : OpR X (compareOp .GtE) (rF X.K fGe) := op_rel op_ge (op_imp op_ge_str fun x y H Q ⟨i, j, h1, h2, b, h3, q⟩ => by cases h3; exact ⟨i, j, h1, h2, q⟩)

/-! ### ==, by data -/
mutual
def toP (S : Sto) : Nat → D → Option PyData
  | 0, _ => none
  | _ + 1, .non => some .none
  | _ + 1, .bl b => some (.bool b)
  | _ + 1, .int i => some (.int i)
  | _ + 1, .str x => some (.str x)
  | n + 1, .tup ds => (toPs S n ds).map .tuple
  | n + 1, .obj i => match lstAt S i with
    | some ds => (toPs S n ds).map .list
    | none => none
def toPs (S : Sto) : Nat → List D → Option (List PyData)
  | 0, _ => none
  | _ + 1, [] => some []
  | n + 1, d :: ds => match toP S n d, toPs S n ds with
    | some p, some ps => some (p :: ps)
    | _, _ => none
end
end
section
variable {K : PySem.W.Frag} {as : List Addr} {H : Hp} {S : Sto}
theorem dp_both (rel : Rel K as S H) : ∀ n : Nat, (∀ {v : V} {d : D} {p : PyData}, Rv K as H v d → toP S n d = some p → Dp K H v p) ∧ (∀ {vs : List V} {ds : List D} {ps : List PyData}, Rvs K as H vs ds → toPs S n ds = some ps → DpAll K H vs ps) := by
  intro n
  induction n with
  | zero => exact ⟨fun _ h => (by unfold toP at h; cases h), fun _ h => (by unfold toPs at h; cases h)⟩
  | succ n ih =>
    refine ⟨fun {v d p} r h => ?_, fun {vs ds ps} r h => ?_⟩
    · cases d with
      | non => unfold toP at h; cases h; rw [r.non_]; exact .non
      | bl b => unfold toP at h; cases h; rw [r.bl_]; exact .bl b
      | int i => unfold toP at h; cases h; rw [r.int_]; exact .int i
      | str x => unfold toP at h; cases h; rw [r.str_]; exact .str x
      | tup ds =>
        unfold toP at h
        cases e : toPs S n ds with
        | none => rw [e] at h; cases h
        | some ps =>
          rw [e] at h; cases h
          obtain ⟨a, xs, rfl, ha, ra⟩ := r.tup_
          exact .tup ha (ih.2 ra e)
      | obj i =>
        unfold toP at h
        cases e0 : lstAt S i with
        | none => rw [e0] at h; cases h
        | some ds =>
          rw [e0] at h
          dsimp only at h
          cases e : toPs S n ds with
          | none => rw [e] at h; cases h
          | some ps =>
            rw [e] at h; cases h
            obtain ⟨a, xs, rfl, _, ha, ra⟩ := r.seq_ rel e0
            exact .lst ha (ih.2 ra e)
    · cases r with
      | nil => unfold toPs at h; cases h; exact .nil
      | cons r1 r2 =>
        rename_i d ds
        unfold toPs at h
        cases e1 : toP S n _ with
        | none => rw [e1] at h; cases h
        | some p =>
          cases e2 : toPs S n _ with
          | none => rw [e1, e2] at h; cases h
          | some ps => rw [e1, e2] at h; cases h; exact .cons (ih.1 r1 e1) (ih.2 r2 e2)
end
/-- deep equality, where both are data -/
def eqD (S : Sto) (d e : D) : Option Bool := match toP S 1000000 d, toP S 1000000 e with
  | some p, some q => if SeqAt.shaped p = true ∧ SeqAt.shaped q = true then some (PyData.eqv p q) else none
  | _, _ => none
def eqB (S : Sto) (d e : D) : Option Bool := match d, e with
  | .int i, .int j => some (decide (i = j))
  | .str i, .str j => some (decide (i = j))
  | .bl i, .bl j => some (decide (i = j))
  | .non, .non => some true
  | _, _ => eqD S d e
def fEq : F2 := fun d e S => (eqB S d e).map fun b => (.bl b, S)
def fNe : F2 := fun d e S => (eqB S d e).map fun b => (.bl (!b), S)
section
variable {X : Cx}
theorem eq_cases {K : PySem.W.Frag} {as : List Addr} {H : Hp} {S : Sto} {x y : V} {d e : D} {b : Bool} (rel : Rel K as S H) (rx : Rv K as H x d) (ry : Rv K as H y e) (h : eqB S d e = some b) :
    (scal x y = true ∧ decide (x = y) = b) ∨ (∃ p q, Dp K H x p ∧ Dp K H y q ∧ SeqAt.shaped p = true ∧ SeqAt.shaped q = true ∧ PyData.eqv p q = b) := by
  have gen : ∀ {d e : D}, Rv K as H x d → Rv K as H y e → eqD S d e = some b → (∃ p q, Dp K H x p ∧ Dp K H y q ∧ SeqAt.shaped p = true ∧ SeqAt.shaped q = true ∧ PyData.eqv p q = b) := fun {d e} rx ry h => by
    unfold eqD at h
    cases e1 : toP S 1000000 d with
    | none => rw [e1] at h; cases h
    | some p =>
      cases e2 : toP S 1000000 e with
      | none => rw [e1, e2] at h; cases h
      | some q =>
        rw [e1, e2] at h
        dsimp only at h
        by_cases hs : SeqAt.shaped p = true ∧ SeqAt.shaped q = true
        · rw [if_pos hs] at h
          exact ⟨p, q, (dp_both rel _).1 rx e1, (dp_both rel _).1 ry e2, hs.1, hs.2, Option.some.inj h⟩
        · rw [if_neg hs] at h; cases h
  unfold eqB at h
  split at h
  · cases h; rw [rx.int_, ry.int_]; exact .inl ⟨rfl, by simp⟩
  · cases h; rw [rx.str_, ry.str_]; exact .inl ⟨rfl, by simp⟩
  · cases h; rw [rx.bl_, ry.bl_]; exact .inl ⟨rfl, by simp⟩
  · cases h; rw [rx.non_, ry.non_]; exact .inl ⟨rfl, by simp⟩
  · exact .inr (gen rx ry h)
theorem op_fEq (hu : X.A.units + 64 < cLine) : OpR X (compareOp .Eq) (rF X.K fEq) := by
  refine op_imp (OpR.or op_eq (op_eqD hu)) fun x y H Q ⟨as, S, d, e, z, S', rel, rx, ry, hf, q⟩ => ?_
  unfold fEq at hf
  cases h : eqB S d e with
  | none => rw [h] at hf; cases hf
  | some b =>
    rw [h] at hf; cases hf
    rcases eq_cases rel rx ry h with ⟨h1, h2⟩ | ⟨p, p', h1, h2, h3, h4, h5⟩
    · exact .inl ⟨h1, by rw [h2]; exact q as H _ Ex.refl rel (.bl _)⟩
    · exact .inr ⟨p, p', h1, h2, h3, h4, by rw [h5]; exact q as H _ Ex.refl rel (.bl _)⟩
theorem op_fNe (hu : X.A.units + 64 < cLine) : OpR X (compareOp .NotEq) (rF X.K fNe) := by
  refine op_imp (OpR.or op_ne (op_neD hu)) fun x y H Q ⟨as, S, d, e, z, S', rel, rx, ry, hf, q⟩ => ?_
  unfold fNe at hf
  cases h : eqB S d e with
  | none => rw [h] at hf; cases hf
  | some b =>
    rw [h] at hf; cases hf
    rcases eq_cases rel rx ry h with ⟨h1, h2⟩ | ⟨p, p', h1, h2, h3, h4, h5⟩
    · exact .inl ⟨h1, by rw [h2]; exact q as H _ Ex.refl rel (.bl _)⟩
    · exact .inr ⟨p, p', h1, h2, h3, h4, by rw [h5]; exact q as H _ Ex.refl rel (.bl _)⟩
/-- is: of None, of two bools -/
def fIs : F2 := fun d e S => match d, e with
  | .non, .non => some (.bl true, S)
  | _, .non => some (.bl false, S)
  | .bl a, .bl b => some (.bl (decide (a = b)), S)
  | _, _ => none
def fIsN : F2 := fun d e S => match d, e with
  | .non, .non => some (.bl false, S)
  | _, .non => some (.bl true, S)
  | .bl a, .bl b => some (.bl (!decide (a = b)), S)
  | _, _ => none
theorem Rv.non_iff {K : PySem.W.Frag} {as : List Addr} {H : Hp} {x : V} {d : D} (r : Rv K as H x d) (h : d ≠ .non) : decide (x = .non) = false := decide_eq_false fun e => by
  subst e
  cases r
  exact h rfl
theorem op_fIs : OpR X (compareOp .Is) (rF X.K fIs) := by
  refine op_imp (OpR.or op_isN op_is_bl) fun x y H Q ⟨as, S, d, e, z, S', rel, rx, ry, hf, q⟩ => ?_
  cases e <;> cases d <;> try (cases hf; done)
  case non.non => cases hf; exact .inl ⟨ry.non_, by rw [rx.non_]; exact q as H _ Ex.refl rel (.bl _)⟩
  case bl.bl a b => cases hf; exact .inr ⟨_, _, rx.bl_, ry.bl_, q as H _ Ex.refl rel (.bl _)⟩
  all_goals (cases hf; exact .inl ⟨ry.non_, by rw [rx.non_iff (fun h => nomatch h)]; exact q as H _ Ex.refl rel (.bl _)⟩)
theorem op_fIsN : OpR X (compareOp .IsNot) (rF X.K fIsN) := by
  refine op_imp (OpR.or op_notN op_isnot_bl) fun x y H Q ⟨as, S, d, e, z, S', rel, rx, ry, hf, q⟩ => ?_
  cases e <;> cases d <;> try (cases hf; done)
  case non.non => cases hf; exact .inl ⟨ry.non_, by rw [rx.non_]; exact q as H _ Ex.refl rel (.bl _)⟩
  case bl.bl a b => cases hf; exact .inr ⟨_, _, rx.bl_, ry.bl_, q as H _ Ex.refl rel (.bl _)⟩
  all_goals (cases hf; exact .inl ⟨ry.non_, by rw [rx.non_iff (fun h => nomatch h)]; exact q as H _ Ex.refl rel (.bl _)⟩)
end
end Mi

namespace Mi
open PySem PySem.Spec PyProof.Rows L2

/-! ### in, over flat things -/
def flatD : D → Bool
  | .non => true | .bl _ => true | .int _ => true | .str _ => true | _ => false
def eqF : D → D → Bool
  | .non, .non => true
  | .bl a, .bl b => a == b
  | .bl a, .int b => (if a then 1 else 0) == b
  | .int a, .bl b => a == (if b then 1 else 0)
  | .int a, .int b => a == b
  | .str a, .str b => a == b
  | _, _ => false
def inD (d : D) (ds : List D) : Bool := ds.any fun e => eqF e d
section
variable {K : PySem.W.Frag} {as : List Addr} {H : Hp} {S : Sto}
theorem flat_of {v : V} {d : D} (r : Rv K as H v d) (h : flatD d = true) : flatV v = true := by
  cases r <;> first | rfl | exact absurd h (by intro q; cases q)
theorem flats_of : ∀ {vs : List V} {ds : List D}, Rvs K as H vs ds → ds.all flatD = true → vs.all flatV = true
  | _, _, .nil, _ => rfl
  | _, _, .cons h t, q => by
    rw [List.all_cons, Bool.and_eq_true] at q
    rw [List.all_cons, flat_of h q.1, flats_of t q.2]; rfl
theorem eqF_of {v u : V} {d e : D} (r : Rv K as H v d) (q : Rv K as H u e) (h : flatD d = true) (h2 : flatD e = true) : eqV v u = eqF d e := by
  cases r <;> cases q <;> first | rfl | exact absurd h (by intro q; cases q) | exact absurd h2 (by intro q; cases q)
theorem inD_of {v : V} {d : D} (r : Rv K as H v d) (h : flatD d = true) : ∀ {vs : List V} {ds : List D}, Rvs K as H vs ds → ds.all flatD = true → inV v vs = inD d ds
  | _, _, .nil, _ => rfl
  | _, _, .cons r1 t, q => by
    rw [List.all_cons, Bool.and_eq_true] at q
    unfold inV inD
    rw [List.any_cons, List.any_cons, eqF_of r1 r q.1 h]
    exact congrArg _ (inD_of r h t q.2)
end
def inFlat (d : D) (ds : List D) : Option Bool := if flatD d = true ∧ ds.all flatD = true then some (inD d ds) else none
def inB (S : Sto) (d e : D) : Option Bool := match e with
  | .str y => match d with
    | .str x => match x.cps.toList with
      | [c] => some (decide (c ∈ y.cps.toList))
      | _ => some (!(Builtin.Str.occurrences y x 0 y.length 1).isEmpty)
    | _ => none
  | .tup ds => inFlat d ds
  | .obj i => (lstAt S i).bind (inFlat d)
  | _ => none
def fIn : F2 := fun d e S => (inB S d e).map fun b => (.bl b, S)
def fNotIn : F2 := fun d e S => (inB S d e).map fun b => (.bl (!b), S)
section
variable {X : Cx}
theorem in_cases {K : PySem.W.Frag} {as : List Addr} {H : Hp} {S : Sto} {x y : V} {d e : D} {b : Bool} (rel : Rel K as S H) (rx : Rv K as H x d) (ry : Rv K as H y e) (h : inB S d e = some b) :
    (∃ (c : Nat) (z : Str), x = .str ⟨#[c]⟩ ∧ y = .str z ∧ decide (c ∈ z.cps.toList) = b) ∨ (∃ i j : Str, x = .str i ∧ y = .str j ∧ (!(Builtin.Str.occurrences j i 0 j.length 1).isEmpty) = b) ∨
      ∃ (p : Addr) (xs : List V), y = .ref p ∧ (SqL K H p xs ∨ SqT K H p xs) ∧ flatV x = true ∧ xs.all flatV = true ∧ inV x xs = b := by
  have fl : ∀ {p : Addr} {xs : List V} {ds : List D}, inFlat d ds = some b → Rvs K as H xs ds → flatV x = true ∧ xs.all flatV = true ∧ inV x xs = b := fun {p xs ds} h rp => by
    unfold inFlat at h
    by_cases hf : flatD d = true ∧ ds.all flatD = true
    · rw [if_pos hf] at h; cases h
      exact ⟨flat_of rx hf.1, flats_of rp hf.2, inD_of rx hf.1 rp hf.2⟩
    · rw [if_neg hf] at h; cases h
  cases e with
  | str z =>
    cases d <;> try (cases h; done)
    rename_i a
    unfold inB at h
    dsimp only at h
    split at h
    · rename_i c hc
      cases h
      refine .inl ⟨c, z, ?_, ry.str_, rfl⟩
      rw [rx.str_]
      obtain ⟨⟨l⟩⟩ := a
      simp at hc
      rw [hc]
    · cases h; exact .inr (.inl ⟨a, z, rx.str_, ry.str_, rfl⟩)
  | tup ds =>
    obtain ⟨p, xs, rfl, hp, rp⟩ := ry.tup_
    exact .inr (.inr ⟨p, xs, rfl, .inr hp, fl (p := p) h rp⟩)
  | obj i =>
    unfold inB at h
    dsimp only at h
    cases e0 : lstAt S i with
    | none => rw [e0] at h; cases h
    | some ds =>
      rw [e0] at h
      obtain ⟨p, xs, rfl, _, hp, rp⟩ := ry.seq_ rel e0
      exact .inr (.inr ⟨p, xs, rfl, .inl hp, fl (p := p) h rp⟩)
  | non => cases h
  | bl _ => cases h
  | int _ => cases h
theorem op_fIn : OpR X (compareOp .In) (rF X.K fIn) := by
  refine op_imp (OpR.or (OpR.or op_in_sign op_in_str) op_in_seq) fun x y H Q ⟨as, S, d, e, z, S', rel, rx, ry, hf, q⟩ => ?_
  unfold fIn at hf
  cases h : inB S d e with
  | none => rw [h] at hf; cases hf
  | some b =>
    rw [h] at hf; cases hf
    have fin := q as H (.bl b) Ex.refl rel (.bl b)
    rcases in_cases rel rx ry h with ⟨c, z, h1, h2, h3⟩ | ⟨i, j, h1, h2, h3⟩ | ⟨p, xs, h1, h2, h3, h4, h5⟩
    · exact .inl (.inl ⟨c, z, h1, h2, by rw [h3]; exact fin⟩)
    · exact .inl (.inr ⟨i, j, h1, h2, by rw [h3]; exact fin⟩)
    · exact .inr ⟨p, xs, h1, h2, h3, h4, by rw [if_neg Bool.false_ne_true, h5]; exact fin⟩
theorem op_fNotIn : OpR X (compareOp .NotIn) (rF X.K fNotIn) := by
  refine op_imp (OpR.or (OpR.or op_notIn_sign op_notin_str) op_notIn_seq) fun x y H Q ⟨as, S, d, e, z, S', rel, rx, ry, hf, q⟩ => ?_
  unfold fNotIn at hf
  cases h : inB S d e with
  | none => rw [h] at hf; cases hf
  | some b =>
    rw [h] at hf; cases hf
    have fin := q as H (.bl (!b)) Ex.refl rel (.bl _)
    rcases in_cases rel rx ry h with ⟨c, z, h1, h2, h3⟩ | ⟨i, j, h1, h2, h3⟩ | ⟨p, xs, h1, h2, h3, h4, h5⟩
    · exact .inl (.inl ⟨c, z, h1, h2, by rw [h3]; exact fin⟩)
    · exact .inl (.inr ⟨i, j, h1, h2, by rw [h3]; exact fin⟩)
    · exact .inr ⟨p, xs, h1, h2, h3, h4, by rw [if_pos rfl, h5]; exact fin⟩

/-! ### items -/
def fIx : F2 := fun d e S => match d, e with
  | .tup ds, .int i => (atI ds i).map fun z => (z, S)
  | .obj j, .int i => (lstAt S j).bind fun ds => (atI ds i).map fun z => (z, S)
  | .str z, .int i => if z.length ≤ sizeLine then (atI z.cps.toList i).map fun c => (.str ⟨#[c]⟩, S) else none
  | _, _ => none
theorem atI_of {K : PySem.W.Frag} {as : List Addr} {H : Hp} {vs : List V} {ds : List D} {i : Int} {d : D} (r : Rvs K as H vs ds) (h : atI ds i = some d) : ∃ v, atI vs i = some v ∧ Rv K as H v d := by
  unfold atI at h ⊢
  rw [r.len]
  cases e : ixN ds.length i with
  | none => rw [e] at h; cases h
  | some j => rw [e] at h; exact r.get h
theorem ix_fIx : IxR X (rF X.K fIx) := by
  refine ix_imp (IxR.or (IxR.or ix_list ix_tup) ix_str) fun x y H Q ⟨as, S, d, e, z, S', rel, rx, ry, hf, q⟩ => ?_
  cases d <;> cases e <;> try (cases hf; done)
  case tup.int ds i =>
    unfold fIx at hf
    dsimp only at hf
    cases h : atI ds i with
    | none => rw [h] at hf; cases hf
    | some w =>
      rw [h] at hf; cases hf
      obtain ⟨a, xs, rfl, ha, ra⟩ := rx.tup_
      obtain ⟨v, hv, rv⟩ := atI_of ra h
      exact .inl (.inr ⟨a, xs, i, v, rfl, ry.int_, ha, hv, q as H v Ex.refl rel rv⟩)
  case obj.int j i =>
    unfold fIx at hf
    dsimp only at hf
    cases h0 : lstAt S j with
    | none => rw [h0] at hf; cases hf
    | some ds =>
      rw [h0] at hf
      cases h : atI ds i with
      | none => rw [Option.bind_some, h] at hf; cases hf
      | some w =>
        rw [Option.bind_some, h] at hf; cases hf
        obtain ⟨a, xs, rfl, _, ha, ra⟩ := rx.seq_ rel h0
        obtain ⟨v, hv, rv⟩ := atI_of ra h
        exact .inl (.inl ⟨a, xs, i, v, rfl, ry.int_, ha, hv, q as H v Ex.refl rel rv⟩)
  case str.int w i =>
    unfold fIx at hf
    dsimp only at hf
    by_cases hl : w.length ≤ sizeLine
    · rw [if_pos hl] at hf
      cases h : atI w.cps.toList i with
      | none => rw [h] at hf; cases hf
      | some c => rw [h] at hf; cases hf; exact .inr ⟨w, i, c, rx.str_, ry.int_, hl, h, q as H _ Ex.refl rel (.str _)⟩
    · rw [if_neg hl] at hf; cases hf

/-! ### slices -/
def cutD (xs : List D) (lo hi : Option Int) : List D := (xs.drop (HT.sIx xs.length 0 lo)).take (HT.sIx xs.length xs.length hi - HT.sIx xs.length 0 lo)
theorem cut_of {K : PySem.W.Frag} {as : List Addr} {H : Hp} {vs : List V} {ds : List D} {lo hi : Option Int} (r : Rvs K as H vs ds) : Rvs K as H (cutV vs lo hi) (cutD ds lo hi) := by
  unfold cutV cutD
  rw [r.len]
  exact (r.drop _).take _
def fSl (x : D) (lo hi : Option Int) (S : Sto) : Option (D × Sto) := match x with
  | .tup ds => some (.tup (cutD ds lo hi), S)
  | .obj j => (lstAt S j).map fun ds => (.obj S.length, S ++ [.lst (cutD ds lo hi)])
  | .str z => if z.length ≤ sizeLine then some (.str (cutS z lo hi), S) else none
  | _ => none
abbrev MO' := Env → Sto → R (Option Int)
def Ro' : List Addr → Hp → Option Int → Option Int → Prop := fun _ _ a b => a = b
structure OM (X : Cx) (W : WX) (e : Option Expr) (m : MO') : Prop where
  po : PO X e (tU X.K X.mg W Ro' m)
theorem po_imp {e : Option Expr} {t t' : TO} (h : PO X e t) (i : ∀ σ H Q, t' σ H Q → t σ H Q) : PO X e t' := ⟨fun pins s σ H Q I q => h.run pins s σ H Q I (i σ H Q q)⟩
def mNoPart : MO' := fun _ S => .ok none S
def kPart (x : D) (S : Sto) : R (Option Int) := match x with
  | .int i => .ok (some i) S
  | _ => .no
def mPart (a : ME) : MO' := fun env S => (a env S).bind kPart
theorem om_none {W : WX} : OM X W none mNoPart := ⟨po_imp po_none fun σ H Q ⟨as, env, S, re, rel, g⟩ => g as H none Ex.refl rel rfl⟩
theorem om_some {W : WX} {e : Expr} {m : ME} (h : EM X W e m) : OM X W (some e) (mPart m) := ⟨po_imp (po_some h.pe) fun σ H Q q => tU_bind (f := fun _ => kPart) q fun as env d S1 as1 H1 x re rel rv g => by
  cases d <;> first | exact g.elim | skip
  rw [rv.int_]
  exact ⟨_, rfl, g as1 H1 _ Ex.refl rel rfl⟩⟩
def mSl (a : ME) (lo hi : MO') : ME := fun env S => (a env S).bind fun x S1 => (lo env S1).bind fun l S2 => (hi env S2).bind fun u S3 => R.of (fSl x l u S3)
theorem em_sl {W : WX} {e : Expr} {lo hi : Option Expr} {m : ME} {l h : MO'} {p2 pos : Pos} (he : EM X W e m) (hl : OM X W lo l) (hh : OM X W hi h) : EM X W (.Subscript e (.Slice lo hi none p2) pos) (mSl m l h) :=
  ⟨pe_imp (pe_slice (SlR.or (SlR.or sl_tupA sl_list) sl_str) he.pe hl.po hh.po) fun σ H Q q =>
    tU_bind (f := fun env x S1 => (l env S1).bind fun lo S2 => (h env S2).bind fun u S3 => R.of (fSl x lo u S3)) q fun as env d S1 as1 H1 x re rel rv g =>
    ⟨as1, env, S1, re, rel, Go.bind g fun lo' S2 as2 H2 lo1 x2 r2 e2 g2 => ⟨as2, env, S2, re.mono x2, r2, Go.bind g2 fun hi' S3 as3 H3 hi1 x3 r3 e3 g3 => by
      cases e2
      cases e3
      obtain ⟨z, S', hz, q⟩ := go_of g3
      have rx := (rv.mono x2).mono x3
      cases d <;> try (cases hz; done)
      case tup ds =>
        cases hz
        obtain ⟨a, xs, rfl, ha, ra⟩ := rx.tup_
        refine .inl (.inl ⟨a, xs, rfl, ha, fun hw => ?_, fun _ p hp => ?_⟩)
        · have e : cutD ds lo' hi' = ds := by
            unfold cutD
            rw [← ra.len, hw.1, hw.2, List.drop_zero, Nat.sub_zero, ra.len, List.take_length]
          rw [e] at q
          exact q as3 H3 _ Ex.refl r3 (.tup ha ra)
        · exact q as3 _ _ (Ex.fresh hp) (r3.fresh hp) (.tup (SqT.of upd_same) ((cut_of ra).mono (Ex.fresh hp)))
      case obj j =>
        unfold fSl at hz
        dsimp only at hz
        cases h0 : lstAt S3 j with
        | none => rw [h0] at hz; cases hz
        | some ds =>
          rw [h0] at hz; cases hz
          obtain ⟨a, xs, rfl, _, ha, ra⟩ := rx.seq_ r3 h0
          refine .inl (.inr ⟨a, xs, rfl, ha, fun p hp => ?_⟩)
          obtain ⟨r1, x1, e1⟩ := new_lst r3 hp (cut_of (lo := lo') (hi := hi') ra)
          exact q _ _ _ x1 r1 (.obj e1)
      case str w =>
        unfold fSl at hz
        dsimp only at hz
        by_cases hl : w.length ≤ sizeLine
        · rw [if_pos hl] at hz; cases hz
          exact .inr ⟨w, rx.str_, hl, q as3 H3 _ Ex.refl r3 (.str _)⟩
        · rw [if_neg hl] at hz; cases hz⟩⟩⟩

/-! ### calls of built-ins -/
abbrev FL := List D → Sto → Option (D × Sto)
def rFL (K : PySem.W.Frag) (f : FL) : List V → Hp → VK → Prop := fun xs H Q => ∃ as S ds z S', Rel K as S H ∧ Rvs K as H xs ds ∧ f ds S = some (z, S') ∧ ∀ as' H' v, Ex K as H as' H' → Rel K as' S' H' → Rv K as' H' v z → Q v H'
def mB1 (f : FL) (a : MA) : ME := fun env S => (a env S).bind fun xs S1 => R.of (f xs S1)
theorem mB1_step {K : PySem.W.Frag} {mg : Str → Option Value} {W : WX} {f : FL} {m : MA} {σ : L2.St} {H : Hp} {Q : VK} (h : tU K mg W (Rv K) (mB1 f m) σ H Q) : tCB (rFL K f) (tU K mg W (Rvs K) m) σ H Q :=
  tU_bind (f := fun _ xs S1 => R.of (f xs S1)) h fun as env ds S1 as1 H1 vs re rel rv g => by
    obtain ⟨z, S', hz, q⟩ := go_of g
    exact ⟨as1, S1, ds, z, S', rel, rv, hz, q⟩
theorem em_callB {W : WX} {f : FL} {x : Str} {id : String} {e : Expr} {es : List Expr} {m : MA} {p pos : Pos} (hc : CallR X (.builtin id) (rFL X.K f)) (hg : Gl X x) (hm : X.mg x = none) (hv : bootBuiltins x = some (.builtin id)) (ha : AM X W (e :: es) m)
    (hn : x ≠ "__name__" := by decide) (hdb : (x == ("__debug__" : Str)) = false := by decide) (he : starEach (e :: es) X.env = (false, eval e X.env) :: starEach es X.env := by rfl) (hpl : (backTo pos (starEach es X.env)).any (·.1) = false := by rfl) :
    EM X W (.Call (.Name x p) (e :: es) [] pos) (mB1 f m) := ⟨pe_imp (pe_callB hc hg hm hv ha.pa hn hdb he hpl) fun σ H Q h => mB1_step h⟩
theorem em_callT {W : WX} {f : FL} {x : Str} {T : String} {e : Expr} {es : List Expr} {m : MA} {p pos : Pos} (hc : CallR X (.type T) (rFL X.K f)) (hg : Gl X x) (hm : X.mg x = none) (hv : bootBuiltins x = some (.type T)) (ha : AM X W (e :: es) m)
    (hn : x ≠ "__name__" := by decide) (hdb : (x == ("__debug__" : Str)) = false := by decide) (he : starEach (e :: es) X.env = (false, eval e X.env) :: starEach es X.env := by rfl) (hpl : (backTo pos (starEach es X.env)).any (·.1) = false := by rfl) :
    EM X W (.Call (.Name x p) (e :: es) [] pos) (mB1 f m) := ⟨pe_imp (pe_callTy hc hg hm hv ha.pa hn hdb he hpl) fun σ H Q h => mB1_step h⟩
theorem call_or {f : Value} {r r' : List V → Hp → VK → Prop} (h : CallR X f r) (h' : CallR X f r') : CallR X f (fun xs H Q => r xs H Q ∨ r' xs H Q) := fun pins s σ H xs us Q I rv q => q.elim (h pins s σ H xs us Q I rv) (h' pins s σ H xs us Q I rv)
/-- one argument -/
def f1L (f : F1) : FL := fun ds S => match ds with
  | [d] => f d S
  | _ => none
theorem f1L_inv {f : F1} {K : PySem.W.Frag} {as : List Addr} {H : Hp} {xs : List V} {ds : List D} {S S' : Sto} {z : D} (r : Rvs K as H xs ds) (h : f1L f ds S = some (z, S')) : ∃ x d, xs = [x] ∧ Rv K as H x d ∧ f d S = some (z, S') := by
  unfold f1L at h
  split at h
  · obtain ⟨x, rfl, rx⟩ := r.sing
    exact ⟨x, _, rfl, rx, h⟩
  · cases h
def fLen : F1 := fun d S => match d with
  | .tup ds => some (.int ds.length, S)
  | .obj i => match S[i]? with
    | some (.lst ds) => some (.int ds.length, S)
    | some (.fix ds) => some (.int ds.length, S)
    | some (.dic kds) => some (.int kds.length, S)
    | none => none
  | .str z => if z.length ≤ sizeLine then some (.int z.length, S) else none
  | _ => none
theorem call_fLen : CallR X (.builtin "len") (rFL X.K (f1L fLen)) := by
  refine call_imp (call_or call_len call_lenD) fun xs H Q ⟨as, S, ds, z, S', rel, rs, hf, q⟩ => ?_
  obtain ⟨x, d, rfl, rx, hf⟩ := f1L_inv rs hf
  cases d <;> try (cases hf; done)
  case tup es =>
    cases hf
    obtain ⟨a, ys, rfl, ha, ra⟩ := rx.tup_
    exact .inl ⟨_, ys.length, rfl, .inr ⟨ys, ha, rfl⟩, by rw [ra.len]; exact q as H _ Ex.refl rel (.int _)⟩
  case obj i =>
    unfold fLen at hf
    dsimp only at hf
    cases e : S[i]? with
    | none => rw [e] at hf; cases hf
    | some o =>
      rw [e] at hf
      cases o with
      | lst es =>
        cases hf
        obtain ⟨a, ys, rfl, _, ha, ra⟩ := rx.seq_ rel (ds := es) (by unfold lstAt; rw [e])
        exact .inl ⟨_, ys.length, rfl, .inl ⟨ys, ha, rfl⟩, by rw [ra.len]; exact q as H _ Ex.refl rel (.int _)⟩
      | fix es =>
        cases hf
        obtain ⟨a, ys, rfl, _, ha, ra⟩ := rx.seq_ rel (ds := es) (by unfold lstAt; rw [e])
        exact .inl ⟨_, ys.length, rfl, .inl ⟨ys, ha, rfl⟩, by rw [ra.len]; exact q as H _ Ex.refl rel (.int _)⟩
      | dic es =>
        cases hf
        obtain ⟨a, kvs, rfl, _, ha, k1, k2⟩ := rx.dic_ rel e
        have hl : kvs.length = es.length := by have := congrArg List.length k1; rwa [List.length_map, List.length_map] at this
        exact .inr ⟨a, kvs, rfl, ha, by rw [hl]; exact q as H _ Ex.refl rel (.int _)⟩
  case str w =>
    unfold fLen at hf
    dsimp only at hf
    by_cases hl : w.length ≤ sizeLine
    · rw [if_pos hl] at hf; cases hf
      exact .inl ⟨.str w, w.length, by rw [rx.str_], ⟨hl, rfl⟩, q as H _ Ex.refl rel (.int _)⟩
    · rw [if_neg hl] at hf; cases hf
def fInt : F1 := fun d S => match d with
  | .int i => some (.int i, S)
  | .bl b => some (.int (if b then 1 else 0), S)
  | _ => none
theorem call_fInt : CallR X (.type "int") (rFL X.K (f1L fInt)) := by
  refine call_imp call_int1 fun xs H Q ⟨as, S, ds, z, S', rel, rs, hf, q⟩ => ?_
  obtain ⟨x, d, rfl, rx, hf⟩ := f1L_inv rs hf
  cases d <;> try (cases hf; done)
  case int i => cases hf; exact .inl ⟨i, by rw [rx.int_], q as H _ Ex.refl rel (.int _)⟩
  case bl b => cases hf; exact .inr ⟨b, by rw [rx.bl_], q as H _ Ex.refl rel (.int _)⟩
def fStr : F1 := fun d S => match d with
  | .int i => if i.natAbs.log2 < 1920 then some (.str (toString i), S) else none
  | _ => none
theorem call_fStr : CallR X (.type "str") (rFL X.K (f1L fStr)) := by
  refine call_imp call_str_int fun xs H Q ⟨as, S, ds, z, S', rel, rs, hf, q⟩ => ?_
  obtain ⟨x, d, rfl, rx, hf⟩ := f1L_inv rs hf
  cases d <;> try (cases hf; done)
  case int i =>
    unfold fStr at hf
    dsimp only at hf
    by_cases hl : i.natAbs.log2 < 1920
    · rw [if_pos hl] at hf; cases hf; exact ⟨i, by rw [rx.int_], hl, q as H _ Ex.refl rel (.str _)⟩
    · rw [if_neg hl] at hf; cases hf
def fTuple : F1 := fun d S => match d with
  | .tup ds => some (.tup ds, S)
  | .obj i => (lstAt S i).map fun ds => (.tup ds, S)
  | _ => none
theorem call_fTuple : CallR X (.type "tuple") (rFL X.K (f1L fTuple)) := by
  refine call_imp call_tuple_of fun xs H Q ⟨as, S, ds, z, S', rel, rs, hf, q⟩ => ?_
  obtain ⟨x, d, rfl, rx, hf⟩ := f1L_inv rs hf
  cases d <;> try (cases hf; done)
  case tup es =>
    cases hf
    obtain ⟨a, ys, rfl, ha, ra⟩ := rx.tup_
    exact ⟨a, ys, rfl, .inr ⟨ha, q as H _ Ex.refl rel (.tup ha ra)⟩⟩
  case obj i =>
    unfold fTuple at hf
    dsimp only at hf
    cases h0 : lstAt S i with
    | none => rw [h0] at hf; cases hf
    | some es =>
      rw [h0] at hf; cases hf
      obtain ⟨a, ys, rfl, _, ha, ra⟩ := rx.seq_ rel h0
      exact ⟨a, ys, rfl, .inl ⟨ha, fun p hp => q as _ _ (Ex.fresh hp) (rel.fresh hp) (.tup (SqT.of upd_same) (ra.mono (Ex.fresh hp)))⟩⟩
def fList : F1 := fun d S => match d with
  | .tup ds => some (.obj S.length, S ++ [.lst ds])
  | .obj i => (lstAt S i).map fun ds => (.obj S.length, S ++ [.lst ds])
  | _ => none
theorem call_fList : CallR X (.type "list") (rFL X.K (f1L fList)) := by
  refine call_imp call_list_of fun xs H Q ⟨as, S, ds, z, S', rel, rs, hf, q⟩ => ?_
  obtain ⟨x, d, rfl, rx, hf⟩ := f1L_inv rs hf
  cases d <;> try (cases hf; done)
  case tup es =>
    cases hf
    obtain ⟨a, ys, rfl, ha, ra⟩ := rx.tup_
    refine ⟨a, ys, rfl, .inr ha, fun p hp => ?_⟩
    obtain ⟨r1, x1, e1⟩ := new_lst rel hp ra
    exact q _ _ _ x1 r1 (.obj e1)
  case obj i =>
    unfold fList at hf
    dsimp only at hf
    cases h0 : lstAt S i with
    | none => rw [h0] at hf; cases hf
    | some es =>
      rw [h0] at hf; cases hf
      obtain ⟨a, ys, rfl, _, ha, ra⟩ := rx.seq_ rel h0
      refine ⟨a, ys, rfl, .inl ha, fun p hp => ?_⟩
      obtain ⟨r1, x1, e1⟩ := new_lst rel hp ra
      exact q _ _ _ x1 r1 (.obj e1)
def fAll : F1 := fun d S => match d with
  | .obj i => (lstAt S i).bind fun ds => (toBls ds).map fun bs => (.bl (bs.all id), S)
  | _ => none
def fAny : F1 := fun d S => match d with
  | .obj i => (lstAt S i).bind fun ds => (toBls ds).map fun bs => (.bl (bs.any id), S)
  | _ => none
theorem call_fAll (hc : X.calm = true) : CallR X (.builtin "all") (rFL X.K (f1L fAll)) := by
  refine call_imp (cr_all hc) fun xs H Q ⟨as, S, ds, z, S', rel, rs, hf, q⟩ => ?_
  obtain ⟨x, d, rfl, rx, hf⟩ := f1L_inv rs hf
  cases d <;> try (cases hf; done)
  case obj i =>
    unfold fAll at hf
    dsimp only at hf
    cases h0 : lstAt S i with
    | none => rw [h0] at hf; cases hf
    | some es =>
      rw [h0, Option.bind_some] at hf
      cases h1 : toBls es with
      | none => rw [h1] at hf; cases hf
      | some bs =>
        rw [h1] at hf; cases hf
        obtain ⟨a, ys, rfl, _, ha, ra⟩ := rx.seq_ rel h0
        rw [toBls_eq h1] at ra
        rw [ra.bls] at ha
        exact ⟨a, bs, rfl, ha, q as H _ Ex.refl rel (.bl _)⟩
theorem call_fAny (hc : X.calm = true) : CallR X (.builtin "any") (rFL X.K (f1L fAny)) := by
  refine call_imp (cr_any hc) fun xs H Q ⟨as, S, ds, z, S', rel, rs, hf, q⟩ => ?_
  obtain ⟨x, d, rfl, rx, hf⟩ := f1L_inv rs hf
  cases d <;> try (cases hf; done)
  case obj i =>
    unfold fAny at hf
    dsimp only at hf
    cases h0 : lstAt S i with
    | none => rw [h0] at hf; cases hf
    | some es =>
      rw [h0, Option.bind_some] at hf
      cases h1 : toBls es with
      | none => rw [h1] at hf; cases hf
      | some bs =>
        rw [h1] at hf; cases hf
        obtain ⟨a, ys, rfl, _, ha, ra⟩ := rx.seq_ rel h0
        rw [toBls_eq h1] at ra
        rw [ra.bls] at ha
        exact ⟨a, bs, rfl, ha, q as H _ Ex.refl rel (.bl _)⟩
/-- sorted of ints -/
def srt (ns : List Int) : List Int := ns.mergeSort fun a b => decide (a ≤ b)
theorem srt_perm (ns : List Int) : (srt ns).Perm ns := List.mergeSort_perm _ _
theorem srt_le (ns : List Int) : (srt ns).Pairwise (· ≤ ·) := by
  have h := List.pairwise_mergeSort (le := fun a b : Int => decide (a ≤ b)) (fun a b c => by simp; omega) (fun a b => by simp; omega) ns
  exact h.imp fun q => of_decide_eq_true q
def fSorted : F1 := fun d S => match d with
  | .obj i => (lstAt S i).bind fun ds => (toInts ds).map fun ns => (.obj S.length, S ++ [.lst ((srt ns).map D.int)])
  | _ => none
theorem call_fSorted : CallR X (.builtin "sorted") (rFL X.K (f1L fSorted)) := by
  refine call_imp cr_sortedI fun xs H Q ⟨as, S, ds, z, S', rel, rs, hf, q⟩ => ?_
  obtain ⟨x, d, rfl, rx, hf⟩ := f1L_inv rs hf
  cases d <;> try (cases hf; done)
  case obj i =>
    unfold fSorted at hf
    dsimp only at hf
    cases h0 : lstAt S i with
    | none => rw [h0] at hf; cases hf
    | some es =>
      rw [h0, Option.bind_some] at hf
      cases h1 : toInts es with
      | none => rw [h1] at hf; cases hf
      | some ns =>
        rw [h1] at hf; cases hf
        obtain ⟨a, ys, rfl, _, ha, ra⟩ := rx.seq_ rel h0
        rw [toInts_eq h1] at ra
        rw [ra.ints] at ha
        refine ⟨a, ns, rfl, ha, fun ns' p hp hs hn => ?_⟩
        have e : ns' = srt ns := PySem.W.ksm_same (hp.trans (srt_perm ns).symm) hs (srt_le ns)
        subst e
        obtain ⟨r1, x1, e1⟩ := new_lst rel hn (Rvs.of_ints (K := X.K) (as := as) (H := H) (srt ns))
        exact q _ _ _ x1 r1 (.obj e1)
def f2L (f : D → D → Sto → Option (D × Sto)) : FL := fun ds S => match ds with
  | [d, e] => f d e S
  | _ => none
theorem f2L_inv {f : F2} {K : PySem.W.Frag} {as : List Addr} {H : Hp} {xs : List V} {ds : List D} {S S' : Sto} {z : D} (r : Rvs K as H xs ds) (h : f2L f ds S = some (z, S')) : ∃ x y d e, xs = [x, y] ∧ Rv K as H x d ∧ Rv K as H y e ∧ f d e S = some (z, S') := by
  match ds, r, h with
  | [d, e], r, h =>
    obtain ⟨x, y, rfl, rx, ry⟩ := r.pair
    exact ⟨x, y, d, e, rfl, rx, ry, h⟩
  | [], _, h => cases h
  | [_], _, h => cases h
  | _ :: _ :: _ :: _, _, h => cases h
def fMin2 : F2 := fun d e S => match d, e with
  | .int i, .int j => some (.int (if j < i then j else i), S)
  | _, _ => none
theorem call_fMin2 (hc : X.calm = true) : CallR X (.builtin "min") (rFL X.K (f2L fMin2)) := by
  refine call_imp (call_min2 hc) fun xs H Q ⟨as, S, ds, z, S', rel, rs, hf, q⟩ => ?_
  obtain ⟨x, y, d, e, rfl, rx, ry, hf⟩ := f2L_inv rs hf
  cases d <;> cases e <;> first | (cases hf; done) | skip
  rename_i i j
  cases hf
  exact ⟨i, j, by rw [rx.int_, ry.int_], q as H _ Ex.refl rel (.int _)⟩
end
end Mi

namespace Mi
open PySem PySem.Spec PyProof.Rows L2

/-- how a statement ends -/
inductive RS where
  | nx (env : Env) (S : Sto) | rt (d : D) (S : Sto) | bk (env : Env) (S : Sto) | ct (env : Env) (S : Sto) | ex (e : Xn) (env : Env) (S : Sto) | no
abbrev MS := Env → Sto → RS
def RS.of {α : Type} (x : R α) (env : Env) (f : α → Sto → RS) : RS := match x with
  | .ok a S => f a S
  | .ex e S => .ex e env S
  | .no => .no
def RS.then (x : RS) (f : Env → Sto → RS) : RS := match x with
  | .nx env S => f env S
  | o => o
section
variable (K : PySem.W.Frag) (mg : Str → Option Value) (W : WX)
def GoS (out : RS) (as : List Addr) (H : Hp) (Dn : Ends) : Prop := match out with
  | .nx env' S' => ∀ (as' : List Addr) (H' : Hp) (σ' : L2.St), Ex K as H as' H' → Rel K as' S' H' → Re K as' H' σ' env' → Dn.nx σ' H'
  | .rt d S' => ∀ (as' : List Addr) (H' : Hp) (v : V), Ex K as H as' H' → Rel K as' S' H' → Rv K as' H' v d → Dn.rt v H'
  | .bk env' S' => ∀ (as' : List Addr) (H' : Hp) (σ' : L2.St), Ex K as H as' H' → Rel K as' S' H' → Re K as' H' σ' env' → Dn.bk σ' H'
  | .ct env' S' => ∀ (as' : List Addr) (H' : Hp) (σ' : L2.St), Ex K as H as' H' → Rel K as' S' H' → Re K as' H' σ' env' → Dn.ct σ' H'
  | .ex e env' S' => ∀ (as' : List Addr) (H' : Hp) (σ' : L2.St) (cls : Value) (dd : Option Addr), Ex K as H as' H' → Rel K as' S' H' → Re K as' H' σ' env' → Rx K mg as' H' cls dd e → W cls dd σ' H'
  | .no => False
def tS (m : MS) : TS := fun Dn σ H => ∃ as env S, Re K as H σ env ∧ Rel K as S H ∧ GoS K mg W (m env S) as H Dn
end
section
variable {K : PySem.W.Frag} {mg : Str → Option Value} {W : WX} {as as1 : List Addr} {H H1 : Hp} {S : Sto} {σ : L2.St} {Dn : Ends}
theorem GoS.later {out : RS} (x : Ex K as H as1 H1) (h : GoS K mg W out as H Dn) : GoS K mg W out as1 H1 Dn := by
  cases out with
  | nx env S' => exact fun as' H' σ' y r q => h as' H' σ' (x.trans y) r q
  | rt d S' => exact fun as' H' v y r q => h as' H' v (x.trans y) r q
  | bk env S' => exact fun as' H' σ' y r q => h as' H' σ' (x.trans y) r q
  | ct env S' => exact fun as' H' σ' y r q => h as' H' σ' (x.trans y) r q
  | ex e env S' => exact fun as' H' σ' c dd y r q => h as' H' σ' c dd (x.trans y) r q
  | no => exact h
/-- a statement's expression -/
theorem GoS.ofE {α β : Type} {Ra : List Addr → Hp → β → α → Prop} {x : R α} {env : Env} {f : α → Sto → RS} {Q1 : β → Hp → Prop} (re : Re K as H σ env) (h : GoS K mg W (RS.of x env f) as H Dn)
    (k : ∀ (d : α) (S1 : Sto) (as1 : List Addr) (H1 : Hp) (v : β), Ex K as H as1 H1 → Rel K as1 S1 H1 → Ra as1 H1 v d → GoS K mg W (f d S1) as1 H1 Dn → Q1 v H1) : Go K mg W Ra x as H σ Q1 := by
  cases x with
  | ok d S' => exact fun as' H' v y r q => k d S' as' H' v y r q (GoS.later y h)
  | ex e S' => exact fun as' H' c dd y r q => h as' H' σ c dd y r (re.mono y) q
  | no => exact h
theorem tS_of {α β : Type} {Ra : List Addr → Hp → β → α → Prop} {m : Env → Sto → R α} {f : Env → α → Sto → RS} {Q1 : β → Hp → Prop} (h : tS K mg W (fun env S => RS.of (m env S) env (f env)) Dn σ H)
    (k : ∀ (as : List Addr) (env : Env) (d : α) (S1 : Sto) (as1 : List Addr) (H1 : Hp) (v : β), Re K as1 H1 σ env → Rel K as1 S1 H1 → Ra as1 H1 v d → GoS K mg W (f env d S1) as1 H1 Dn → Q1 v H1) : tU K mg W Ra m σ H Q1 := by
  obtain ⟨as, env, S, re, rel, g⟩ := h
  exact ⟨as, env, S, re, rel, GoS.ofE re g fun d S1 as1 H1 v x r q g' => k as env d S1 as1 H1 v (re.mono x) r q g'⟩
/-- other ends behind it -/
theorem GoS.thenS {x : RS} {f : Env → Sto → RS} (h : GoS K mg W (x.then f) as H Dn) : GoS K mg W x as H { Dn with nx := fun σ' H' => tS K mg W f Dn σ' H' } := by
  cases x with
  | nx env S' => exact fun as' H' σ' y r q => ⟨as', env, S', q, r, GoS.later y h⟩
  | rt d S' => exact h
  | bk env S' => exact h
  | ct env S' => exact h
  | ex e env S' => exact h
  | no => exact h
end
section
variable (X : Cx) (W : WX)
structure SM (st : Stmt) (m : MS) : Prop where
  ps : PS X st (tS X.K X.mg W m)
structure BM (st : List Stmt) (m : MS) : Prop where
  ps : PSs X st (tS X.K X.mg W m)
end
section
variable {X : Cx} {W : WX}
def sNil : MS := fun env S => .nx env S
def sSeq (m n : MS) : MS := fun env S => (m env S).then n
theorem bm_nil : BM X W [] sNil := ⟨pss_imp pss_nil fun D σ H ⟨as, env, S, re, rel, g⟩ => g as H σ Ex.refl rel re⟩
theorem bm_cons {st : Stmt} {rest : List Stmt} {m n : MS} (h : SM X W st m) (h2 : BM X W rest n) : BM X W (st :: rest) (sSeq m n) :=
  ⟨pss_imp (pss_cons h.ps h2.ps) fun D σ H ⟨as, env, S, re, rel, g⟩ => ⟨as, env, S, re, rel, GoS.thenS g⟩⟩
theorem bm_one {st : Stmt} {m : MS} (h : SM X W st m) : BM X W [st] m := ⟨pss_one h.ps⟩
def sBreak : MS := fun env S => .bk env S
def sCont : MS := fun env S => .ct env S
theorem sm_pass {pos : Pos} : SM X W (.Pass pos) sNil := ⟨ps_imp ps_pass fun D σ H ⟨as, env, S, re, rel, g⟩ => g as H σ Ex.refl rel re⟩
theorem sm_break {pos : Pos} : SM X W (.Break pos) sBreak := ⟨ps_imp ps_break fun D σ H ⟨as, env, S, re, rel, g⟩ => g as H σ Ex.refl rel re⟩
theorem sm_cont {pos : Pos} : SM X W (.Continue pos) sCont := ⟨ps_imp ps_continue fun D σ H ⟨as, env, S, re, rel, g⟩ => g as H σ Ex.refl rel re⟩
def sExpr (a : ME) : MS := fun env S => RS.of (a env S) env fun _ S1 => .nx env S1
def sRet (a : ME) : MS := fun env S => RS.of (a env S) env fun d S1 => .rt d S1
def sRetN : MS := fun _ S => .rt .non S
def sSet (i : Nat) (a : ME) : MS := fun env S => RS.of (a env S) env fun d S1 => .nx (env.set i (some d)) S1
theorem sm_expr {e : Expr} {m : ME} {pos : Pos} (h : EM X W e m) (hs : swapsWith e none pos.line X.env = pure false := by rfl) : SM X W (.Expr e pos) (sExpr m) :=
  ⟨ps_imp (ps_expr h.pe hs) fun D σ H q => tS_of (f := fun env _ S1 => .nx env S1) q fun as env d S1 as1 H1 v re rel rv g => g as1 H1 σ Ex.refl rel re⟩
theorem sm_doc {x : Str} {j : Nat} {pos pos' : Pos} : SM X W (.Expr (.Constant (.str x) j pos) pos') sNil := ⟨ps_imp ps_doc fun D σ H ⟨as, env, S, re, rel, g⟩ => g as H σ Ex.refl rel re⟩
theorem sm_ret {e : Expr} {m : ME} {pos : Pos} (h : EM X W e m) : SM X W (.Return (some e) pos) (sRet m) :=
  ⟨ps_imp (ps_ret h.pe) fun D σ H q => tS_of (f := fun _ d S1 => .rt d S1) q fun as env d S1 as1 H1 v re rel rv g => g as1 H1 v Ex.refl rel rv⟩
theorem sm_retN {pos : Pos} : SM X W (.Return none pos) sRetN := ⟨ps_imp ps_retN fun D σ H ⟨as, env, S, re, rel, g⟩ => g as H _ Ex.refl rel .non⟩
theorem sm_set (i : Nat) {x : Str} {e : Expr} {m : ME} {pos pos' : Pos} (hN : X.N.Nodup) (h : EM X W e m) (hi : X.N[i]? = some x := by rfl) (hx : Loc X.env.scope x := by first | exact Or.inl rfl | exact Or.inr rfl)
    (hs : swapsWith e (some (.Name x pos')) pos.line X.env = pure false := by rfl) (hf : X.fn x = true ∨ X.env.scope.names.lookup x = some .local := by first | exact .inl rfl | exact .inr rfl | assumption) :
    SM X W (.Assign [.Name x pos'] e pos) (sSet i m) :=
  ⟨ps_imp (ps_set hN hi hx h.pe hs hf) fun D σ H q => tS_of (f := fun env d S1 => .nx (env.set i (some d)) S1) q fun as env d S1 as1 H1 v re rel rv g => g as1 H1 _ Ex.refl rel (re.set rv)⟩
def sIf (t : MT) (a b : MS) : MS := fun env S => RS.of (t env S) env fun c S1 => if c = true then a env S1 else b env S1
theorem sm_if {c : Expr} {a b : List Stmt} {t : MT} {m n : MS} {pos : Pos} (hc : TM X W c t) (ha : BM X W a m) (hb : BM X W b n) : SM X W (.If c a b pos) (sIf t m n) :=
  ⟨ps_imp (ps_if hc.pt ha.ps hb.ps) fun D σ H q => tS_of (f := fun env c S1 => if c = true then m env S1 else n env S1) q fun as env d S1 as1 H1 v re rel rv g => by
    cases rv
    cases d with
    | true => rw [if_pos rfl]; exact ⟨as1, env, S1, re, rel, g⟩
    | false => rw [if_neg Bool.false_ne_true]; exact ⟨as1, env, S1, re, rel, g⟩⟩
/-- x op= e -/
def sAug (i : Nat) (f : F2) (a : ME) : MS := fun env S => match env[i]? with
  | some (some x) => RS.of (a env S) env fun y S1 => match f x y S1 with
    | some (z, S2) => .nx (env.set i (some z)) S2
    | none => .no
  | _ => .no
theorem sm_aug (i : Nat) {x : Str} {e : Expr} {m : ME} {f : F2} {op : Operator} {pos pos' : Pos} (hN : X.N.Nodup) (ho : PIp X op (rF X.K f)) (h : EM X W e m) (hi : X.N[i]? = some x := by rfl) (hx : Loc X.env.scope x := by first | exact Or.inl rfl | exact Or.inr rfl)
    (hf : X.fn x = true ∨ X.env.scope.names.lookup x = some .local := by first | exact .inl rfl | exact .inr rfl | assumption) : SM X W (.AugAssign (.Name x pos') op e pos) (sAug i f m) :=
  ⟨ps_imp (ps_aug hN hi hx h.pe ho hf) fun D σ H ⟨as, env, S, re, rel, g⟩ => by
    unfold sAug at g
    cases e0 : env[i]? with
    | none => rw [e0] at g; exact g.elim
    | some o =>
      cases o with
      | none => rw [e0] at g; exact g.elim
      | some d =>
        rw [e0] at g
        obtain ⟨v, h1, h2⟩ := re.at_ i d e0
        refine ⟨v, h1, as, env, S, re, rel, GoS.ofE re g fun y S1 as1 H1 u x1 r1 ru g1 => ?_⟩
        cases q : f d y S1 with
        | none => rw [q] at g1; exact g1.elim
        | some p =>
          rw [q] at g1
          exact ⟨as1, S1, d, y, p.1, p.2, r1, h2.mono x1, ru, q, fun as2 H2 w x2 r2 rw' => g1 as2 H2 _ x2 r2 (((re.mono x1).mono x2).set rw')⟩⟩
/-- iadd of ints, texts -/
def fIAdd : F2 := fun d e S => match d, e with
  | .int i, .int j => some (.int (i + j), S)
  | .str x, .str y => if x.length + y.length ≤ sizeLine then some (.str (x ++ y), S) else none
  | _, _ => none
theorem ip_of {op : Operator} {r r' : R2} (h : OpR X (inplaceOp op) r) (i : ∀ x y H Q, r' x y H Q → r x y H Q) : PIp X op r' := fun pins s σ H x y v u Q I rx ry q => h pins s σ H x y v u Q I rx ry (i x y H Q q)
theorem ip_fAdd : PIp X .Add (rF X.K fIAdd) := by
  refine ip_of (OpR.or iop_add iop_add_str) fun x y H Q ⟨as, S, d, e, z, S', rel, rx, ry, hf, q⟩ => ?_
  cases d <;> cases e <;> try (cases hf; done)
  case int.int i j => cases hf; exact .inl ⟨i, j, rx.int_, ry.int_, q as H _ Ex.refl rel (.int _)⟩
  case str.str a b =>
    unfold fIAdd at hf
    dsimp only at hf
    by_cases hl : a.length + b.length ≤ sizeLine
    · rw [if_pos hl] at hf; cases hf; exact .inr ⟨a, b, rx.str_, ry.str_, hl, q as H _ Ex.refl rel (.str _)⟩
    · rw [if_neg hl] at hf; cases hf
theorem ip_fSub : PIp X .Sub (rF X.K fSub) := by
  refine ip_of iop_sub fun x y H Q ⟨as, S, d, e, z, S', rel, rx, ry, hf, q⟩ => ?_
  cases d <;> cases e <;> try (cases hf; done)
  case int.int i j => cases hf; exact ⟨i, j, rx.int_, ry.int_, q as H _ Ex.refl rel (.int _)⟩

/-! ### targets -/
/-- a store of a datum into the frame -/
abbrev MG := D → Env → Sto → Option Env
def gU (K : PySem.W.Frag) (g : MG) : TG := fun v σ H Q => ∃ as env S d env', Re K as H σ env ∧ Rel K as S H ∧ Rv K as H v d ∧ g d env S = some env' ∧ ∀ σ', Re K as H σ' env' → Q σ' H
structure GM (X : Cx) (tg : Expr) (g : MG) : Prop where
  pg : PG X tg (gU X.K g)
theorem pg_imp {tg : Expr} {g g' : TG} (h : PG X tg g) (i : ∀ v σ H Q, g' v σ H Q → g v σ H Q) : PG X tg g' := ⟨fun pins s σ H v u Q I r q => h.run pins s σ H v u Q I r (i v σ H Q q)⟩
def gN (i : Nat) : MG := fun d env _ => some (env.set i (some d))
theorem gm_n (i : Nat) {x : Str} {pos : Pos} (hN : X.N.Nodup) (hi : X.N[i]? = some x := by rfl) (hx : Loc X.env.scope x := by first | exact Or.inl rfl | exact Or.inr rfl) (hf : X.fn x = true ∨ X.env.scope.names.lookup x = some .local := by first | exact .inl rfl | exact .inr rfl | assumption) :
    GM X (.Name x pos) (gN i) := ⟨pg_imp (pg_name hN hi hx hf) fun v σ H Q ⟨as, env, S, d, env', re, rel, rv, e, q⟩ => by cases e; exact q _ (re.set rv)⟩
abbrev MGs := List D → Env → Sto → Option Env
def gUs (K : PySem.W.Frag) (g : MGs) : TGs := fun vs σ H Q => ∃ as env S ds env', Re K as H σ env ∧ Rel K as S H ∧ Rvs K as H vs ds ∧ g ds env S = some env' ∧ ∀ σ', Re K as H σ' env' → Q σ' H
structure GMs (X : Cx) (tg : List Expr) (g : MGs) : Prop where
  pg : PGs X tg (gUs X.K g)
theorem pgs_imp {tg : List Expr} {g g' : TGs} (h : PGs X tg g) (i : ∀ v σ H Q, g' v σ H Q → g v σ H Q) : PGs X tg g' := ⟨fun pins s σ H v u Q I r q => h.run pins s σ H v u Q I r (i v σ H Q q)⟩
def gsNil : MGs := fun ds env _ => match ds with
  | [] => some env
  | _ => none
def gsCons (g : MG) (r : MGs) : MGs := fun ds env S => match ds with
  | d :: ds => (g d env S).bind fun env' => r ds env' S
  | _ => none
theorem gms_nil : GMs X [] gsNil := ⟨pgs_imp pgs_nil fun vs σ H Q ⟨as, env, S, ds, env', re, rel, rv, e, q⟩ => by
  cases ds with
  | nil => cases rv; cases e; exact ⟨rfl, q _ re⟩
  | cons _ _ => cases e⟩
end
end Mi

namespace Mi
open PySem PySem.Spec PyProof.Rows L2
section
variable {X : Cx} {W : WX}
theorem gms_cons {e : Expr} {es : List Expr} {g : MG} {r : MGs} (h1 : GM X e g) (h2 : GMs X es r) (hs : (assignEach (e :: es) X.env).map (·.2) = assign e X.env :: (assignEach es X.env).map (·.2) := by rfl) : GMs X (e :: es) (gsCons g r) :=
  ⟨pgs_imp (pgs_cons h1.pg h2.pg hs) fun vs σ H Q ⟨as, env, S, ds, env', re, rel, rv, e0, q⟩ => by
    cases ds with
    | nil => cases e0
    | cons d ds =>
      cases rv with
      | cons r1 r2 =>
        unfold gsCons at e0
        dsimp only at e0
        cases e1 : g d env S with
        | none => rw [e1] at e0; cases e0
        | some env1 =>
          rw [e1] at e0
          exact ⟨_, _, rfl, as, env, S, d, env1, re, rel, r1, e1, fun σ1 re1 => ⟨as, env1, S, ds, env', re1, rel, r2, e0, q⟩⟩⟩
def gT (n : Nat) (r : MGs) : MG := fun d env S => match d with
  | .tup ds => if ds.length = n then r ds env S else none
  | _ => none
theorem gm_tup {es : List Expr} {k : Nat} {r : MGs} {n : Nat} {pos : Pos} (hc : X.calm = true) (h : GMs X es r)
    (hn : (assignEach es X.env).length = n := by rfl) (hst : (assignEach es X.env).findIdx? (·.1) = none := by rfl) : GM X (.Tuple es k pos) (gT n r) :=
  ⟨pg_imp (pg_tup hc h.pg hn hst) fun v σ H Q ⟨as, env, S, d, env', re, rel, rv, e, q⟩ => by
    cases d <;> first | (cases e; done) | skip
    rename_i ds
    unfold gT at e
    dsimp only at e
    by_cases hl : ds.length = n
    · rw [if_pos hl] at e
      obtain ⟨a, xs, rfl, ha, ra⟩ := rv.tup_
      exact ⟨a, xs, rfl, ha, by rw [ra.len]; exact hl, as, env, S, ds, env', re, rel, ra, e, q⟩
    · rw [if_neg hl] at e; cases e⟩
/-- tg = e -/
def kAsg (g : MG) (env : Env) (d : D) (S1 : Sto) : RS := match g d env S1 with
  | some env' => .nx env' S1
  | none => .no
def sAsg (a : ME) (g : MG) : MS := fun env S => RS.of (a env S) env (kAsg g env)
theorem sm_asg {tg e : Expr} {m : ME} {g : MG} {pos : Pos} (h : EM X W e m) (hg : GM X tg g) (hs : swapsWithSole [tg] e pos.line X.env = pure false := by rfl) (hw : swappedStores [tg] e X.env = pure none := by rfl) (h1 : (assignEach [tg] X.env).map (·.2) = [assign tg X.env] := by rfl) : SM X W (.Assign [tg] e pos) (sAsg m g) :=
  ⟨ps_imp (ps_asg h.pe hg.pg hs hw h1) fun D σ H q => tS_of (f := kAsg g) q fun as env d S1 as1 H1 v re rel rv g1 => by
    unfold kAsg at g1
    cases e : g d env S1 with
    | none => rw [e] at g1; exact g1.elim
    | some env' => rw [e] at g1; exact ⟨as1, env, S1, d, env', re, rel, rv, e, fun σ' re' => g1 as1 H1 σ' Ex.refl rel re'⟩⟩
/-- xs[i] = e -/
def fPut (o i v : D) (S : Sto) : Option Sto := match o, i with
  | .obj j, .int k => match S[j]? with
    | some (.lst ds) => (ixN ds.length k).map fun n => S.set j (.lst (ds.set n v))
    | _ => none
  | _, _ => none
def sPut (o i e : ME) : MS := fun env S => RS.of (e env S) env fun v S1 => RS.of (o env S1) env fun x S2 => RS.of (i env S2) env fun y S3 => match fPut x y v S3 with
  | some S4 => .nx env S4
  | none => .no
theorem put_lst {K : PySem.W.Frag} {as : List Addr} {S : Sto} {H : Hp} {i : Nat} {a : Addr} {ds es : List D} {vs us : List V} (rel : Rel K as S H) (ha : as[i]? = some a) (hs : S[i]? = some (.lst ds)) (hH : H a = some (.lst vs)) (ru : Rvs K as H us es) :
    Rel K as (S.set i (.lst es)) (upd H a (.lst us)) ∧ Ex K as H as (upd H a (.lst us)) := by
  have x : Ex K as H as (upd H a (.lst us)) := Ex.mut (by rw [hH]; trivial)
  exact rel.put ha hs rfl rfl ⟨us, upd_same, ru.mono x⟩
theorem sm_put {o i e : Expr} {mo mi me : ME} {pos pos' : Pos} (ho : EM X W o mo) (hi : EM X W i mi) (he : EM X W e me) (hs : swapsWithSole [.Subscript o i pos'] e pos.line X.env = pure false := by rfl) (hw : swappedStores [.Subscript o i pos'] e X.env = pure none := by rfl)
    (h1 : (assignEach [.Subscript o i pos'] X.env).map (·.2) = [assign (.Subscript o i pos') X.env] := by rfl)
    (hA : ∀ v, assign (.Subscript o i pos') X.env v = (do
      let ov ← holding [v] (eval o X.env)
      let iv ← holding [v, ov] (eval i X.env)
      standAt pos'
      holding [v, ov, iv] (setItem ov iv v)
      release [v, ov, iv] []) := by intro _; rfl) :
    SM X W (.Assign [.Subscript o i pos'] e pos) (sPut mo mi me) :=
  ⟨ps_imp (ps_asg he.pe (pg_sub ho.pe hi.pe set_list hA) hs hw h1) fun D σ H q => tS_of (f := fun env v S1 => RS.of (mo env S1) env fun x S2 => RS.of (mi env S2) env fun y S3 => match fPut x y v S3 with
    | some S4 => .nx env S4
    | none => .no) q fun as env d S1 as1 H1 v re rel rv g1 =>
    ⟨as1, env, S1, re, rel, GoS.ofE re g1 fun x S2 as2 H2 xv x2 r2 rx g2 => ⟨as2, env, S2, re.mono x2, r2, GoS.ofE (re.mono x2) g2 fun y S3 as3 H3 yv x3 r3 ry g3 => by
      cases e0 : fPut x y d S3 with
      | none => rw [e0] at g3; exact g3.elim
      | some S4 =>
        rw [e0] at g3
        cases x <;> cases y <;> first | (cases e0; done) | skip
        rename_i j k
        unfold fPut at e0
        dsimp only at e0
        cases e1 : S3[j]? with
        | none => rw [e1] at e0; cases e0
        | some ob =>
          rw [e1] at e0
          cases ob with
          | lst ds =>
            dsimp only at e0
            cases e2 : ixN ds.length k with
            | none => rw [e2] at e0; cases e0
            | some n =>
              rw [e2] at e0; cases e0
              obtain ⟨a, vs, rfl, ha, hH, rvs⟩ := (rx.mono x3).lst_ r3 e1
              refine ⟨a, vs, k, n, rfl, ry.int_, hH, by rw [rvs.len]; exact e2, ?_⟩
              obtain ⟨r4, x4⟩ := put_lst r3 ha e1 hH (rvs.set ((rv.mono x2).mono x3) n)
              exact g3 as3 _ σ x4 r4 (((re.mono x2).mono x3).mono x4)
          | fix _ => cases e0
          | dic _ => cases e0⟩⟩⟩

/-! ### while -/
def whileM (t : MT) (b : MS) : Nat → MS
  | 0 => fun _ _ => .no
  | n + 1 => fun env S => RS.of (t env S) env fun c S1 => if c = true then (match b env S1 with
      | .nx env2 S2 => whileM t b n env2 S2
      | .ct env2 S2 => whileM t b n env2 S2
      | .bk env2 S2 => .nx env2 S2
      | o => o) else .nx env S1
def sWhile (n : Nat) (t : MT) (b : MS) : MS := whileM t b n
theorem sm_while (n : Nat) {c : Expr} {body : List Stmt} {t : MT} {b : MS} {pos : Pos} (hp : PassesOwn (model X.prog X.w) X.A X.env X.xe) (hc : TM X W c t) (hb : BM X W body b) : SM X W (.While c body [] pos) (sWhile n t b) :=
  ⟨ps_imp (ps_while hp hc.pt hb.ps) fun D σ H ⟨as, env, S, re, rel, g⟩ => by
    refine ⟨fun m σ H => ∃ as env S, Re X.K as H σ env ∧ Rel X.K as S H ∧ GoS X.K X.mg W (whileM t b m env S) as H D, ⟨n, as, env, S, re, rel, g⟩, ?_⟩
    intro m σ H ⟨as, env, S, re, rel, g⟩
    cases m with
    | zero => exact g.elim
    | succ m =>
      refine ⟨as, env, S, re, rel, GoS.ofE re g fun c S1 as1 H1 v x r1 rv g1 => ?_⟩
      cases rv
      cases c with
      | false => rw [if_neg Bool.false_ne_true] at g1 ⊢; exact g1 as1 H1 σ Ex.refl r1 (re.mono x)
      | true =>
        rw [if_pos rfl] at g1 ⊢
        refine ⟨fun σ' H' => ∃ as env S, Re X.K as H' σ' env ∧ Rel X.K as S H' ∧ GoS X.K X.mg W (whileM t b m env S) as H' D, fun σ' H' q => ⟨m, Nat.lt_succ_self m, q⟩, as1, env, S1, re.mono x, r1, ?_⟩
        cases e : b env S1 with
        | nx env2 S2 => rw [e] at g1; exact fun as' H' σ' y r q => ⟨as', env2, S2, q, r, GoS.later y g1⟩
        | ct env2 S2 => rw [e] at g1; exact fun as' H' σ' y r q => ⟨as', env2, S2, q, r, GoS.later y g1⟩
        | bk env2 S2 => rw [e] at g1; exact g1
        | rt d S2 => rw [e] at g1; exact g1
        | ex x env2 S2 => rw [e] at g1; exact g1
        | no => rw [e] at g1; exact g1.elim⟩

/-! ### for -/
/-- over items that are told ahead; chk: what must hold of the store at each turn -/
def forM (chk : Sto → Bool) (g : MG) (b : MS) : List D → MS
  | [] => fun env S => if chk S = true then .nx env S else .no
  | d :: r => fun env S => if chk S = true then (match g d env S with
      | some env1 => (match b env1 S with
        | .nx env2 S2 => forM chk g b r env2 S2
        | .ct env2 S2 => forM chk g b r env2 S2
        | .bk env2 S2 => .nx env2 S2
        | o => o)
      | none => .no) else .no
/-- for x in a tuple -/
def kForT (g : MG) (b : MS) (env : Env) (d : D) (S1 : Sto) : RS := match d with
  | .tup ds => forM (fun _ => true) g b ds env S1
  | _ => .no
def sForT (a : ME) (g : MG) (b : MS) : MS := fun env S => RS.of (a env S) env (kForT g b env)
theorem forM_end {chk : Sto → Bool} {g : MG} {b : MS} {as : List Addr} {env : Env} {S : Sto} {H : Hp} {σ : L2.St} {Dn : Ends} (re : Re X.K as H σ env) (rel : Rel X.K as S H) (h : GoS X.K X.mg W (forM chk g b [] env S) as H Dn) : chk S = true ∧ Dn.nx σ H := by
  unfold forM at h
  by_cases hc : chk S = true
  · rw [if_pos hc] at h; exact ⟨hc, h as H σ Ex.refl rel re⟩
  · rw [if_neg hc] at h; exact h.elim
theorem forM_chk {chk : Sto → Bool} {g : MG} {b : MS} {l : List D} {as : List Addr} {env : Env} {S : Sto} {H : Hp} {Dn : Ends} (h : GoS X.K X.mg W (forM chk g b l env S) as H Dn) : chk S = true := by
  cases l with
  | nil =>
    unfold forM at h
    by_cases hc : chk S = true
    · exact hc
    · rw [if_neg hc] at h; exact h.elim
  | cons d r =>
    unfold forM at h
    by_cases hc : chk S = true
    · exact hc
    · rw [if_neg hc] at h; exact h.elim
theorem sm_forT {tg it : Expr} {body : List Stmt} {a : ME} {g : MG} {b : MS} {pos : Pos} (hp : PassesOwn (model X.prog X.w) X.A X.env X.xe) (hc : X.calm = true) (hi : EM X W it a) (hg : GM X tg g) (hb : BM X W body b)
    (hs : ∀ x, foldedSetIterable it X.env x = pure x := by intro _; rfl) : SM X W (.For tg it body [] pos) (sForT a g b) :=
  ⟨ps_imp (ps_for hp hc (pi_tup hi.pe) hg.pg hb.ps hs) fun D σ H q => tS_of (f := kForT g b) q fun as env d S1 as1 H1 v re rel rv g1 => by
    cases d <;> first | exact g1.elim | skip
    rename_i ds
    obtain ⟨a, xs, rfl, ha, ra⟩ := rv.tup_
    refine ⟨a, rfl, ⟨xs, ha⟩, fun i m σ H => m = ds.length - i ∧ i ≤ ds.length ∧ ∃ as env S, Ex X.K as1 H1 as H ∧ Re X.K as H σ env ∧ Rel X.K as S H ∧ GoS X.K X.mg W (forM (fun _ => true) g b (ds.drop i) env S) as H D,
      ⟨ds.length, by simp, Nat.zero_le _, as1, env, S1, Ex.refl, re, rel, by rw [List.drop_zero]; exact g1⟩, ?_⟩
    rintro i m σ H ⟨rfl, hi, as, env, S, x, re, rel, gg⟩
    have ha' : SqT X.K H a xs := x.tup _ _ ha
    have ra' : Rvs X.K as H xs ds := ra.mono x
    by_cases hlt : i < ds.length
    · rw [List.drop_eq_getElem_cons hlt] at gg
      obtain ⟨v, hv, rv⟩ := ra'.get (List.getElem?_eq_getElem hlt)
      refine .inr ⟨⟨xs, v, ha', hv⟩, fun σ' H' => i + 1 ≤ ds.length ∧ ∃ as env S, Ex X.K as1 H1 as H' ∧ Re X.K as H' σ' env ∧ Rel X.K as S H' ∧ GoS X.K X.mg W (forM (fun _ => true) g b (ds.drop (i + 1)) env S) as H' D,
        fun σ' H' q => ⟨ds.length - (i + 1), by omega, rfl, q⟩, fun y H' hy => ?_⟩
      obtain ⟨rfl, hy⟩ := hy
      have e := hy xs ha'
      rw [hv] at e
      cases e
      have gg' := gg
      unfold forM at gg'
      rw [if_pos rfl] at gg'
      cases e1 : g ds[i] env S with
      | none => rw [e1] at gg'; exact gg'.elim
      | some env1 =>
        rw [e1] at gg'
        dsimp only at gg'
        refine ⟨as, env, S, ds[i], env1, re, rel, rv, e1, fun σ' re' => ⟨as, env1, S, re', rel, ?_⟩⟩
        cases e : b env1 S with
        | nx env2 S2 => rw [e] at gg'; exact fun as2 H2 σ2 y r q => ⟨hlt, as2, env2, S2, x.trans y, q, r, GoS.later y gg'⟩
        | ct env2 S2 => rw [e] at gg'; exact fun as2 H2 σ2 y r q => ⟨hlt, as2, env2, S2, x.trans y, q, r, GoS.later y gg'⟩
        | bk env2 S2 => rw [e] at gg'; exact gg'
        | rt d S2 => rw [e] at gg'; exact gg'
        | ex x env2 S2 => rw [e] at gg'; exact gg'
        | no => rw [e] at gg'; exact gg'.elim
    · have hi2 : i = ds.length := by omega
      rw [List.drop_eq_nil_of_le (by omega)] at gg
      exact .inl ⟨⟨xs, ha', by rw [ra.len]; omega⟩, (forM_end re rel gg).2⟩⟩
/-- for x in a list, as it stands at each turn -/
def forL (g : MG) (b : MS) (j : Nat) : Nat → Nat → MS
  | 0, i => fun env S => match lstAt S j with
    | some es => if es.length ≤ i then .nx env S else .no
    | none => .no
  | n + 1, i => fun env S => match lstAt S j with
    | some es => match es[i]? with
      | none => .nx env S
      | some d => match g d env S with
        | some env1 => match b env1 S with
          | .nx env2 S2 => forL g b j n (i + 1) env2 S2
          | .ct env2 S2 => forL g b j n (i + 1) env2 S2
          | .bk env2 S2 => .nx env2 S2
          | o => o
        | none => .no
    | none => .no
def kForL (g : MG) (b : MS) (env : Env) (d : D) (S1 : Sto) : RS := match d with
  | .obj j => match lstAt S1 j with
    | some ds => forL g b j ds.length 0 env S1
    | none => .no
  | _ => .no
def sForL (a : ME) (g : MG) (b : MS) : MS := fun env S => RS.of (a env S) env (kForL g b env)
theorem sm_forL {tg it : Expr} {body : List Stmt} {a : ME} {g : MG} {b : MS} {pos : Pos} (hp : PassesOwn (model X.prog X.w) X.A X.env X.xe) (hc : X.calm = true) (hi : EM X W it a) (hg : GM X tg g) (hb : BM X W body b)
    (hs : ∀ x, foldedSetIterable it X.env x = pure x := by intro _; rfl) : SM X W (.For tg it body [] pos) (sForL a g b) :=
  ⟨ps_imp (ps_for hp hc (pi_list hi.pe) hg.pg hb.ps hs) fun D σ H q => tS_of (f := kForL g b) q fun as env d S1 as1 H1 v re rel rv g1 => by
    cases d <;> first | exact g1.elim | skip
    rename_i j
    unfold kForL at g1
    dsimp only at g1
    cases e0 : lstAt S1 j with
    | none => rw [e0] at g1; exact g1.elim
    | some ds =>
      rw [e0] at g1
      dsimp only at g1
      obtain ⟨a, xs, rfl, hj, ha, ra⟩ := rv.seq_ rel e0
      refine ⟨a, rfl, ⟨xs, ha⟩, fun i m σ H => ∃ as env S, Ex X.K as1 H1 as H ∧ Re X.K as H σ env ∧ Rel X.K as S H ∧ GoS X.K X.mg W (forL g b j m i env S) as H D,
        ⟨ds.length, as1, env, S1, Ex.refl, re, rel, g1⟩, ?_⟩
      rintro i m σ H ⟨as, env, S, x, re, rel, gg⟩
      have hj' := x.pre _ _ hj
      cases m with
      | zero =>
        unfold forL at gg
        cases e2 : lstAt S j with
        | none => rw [e2] at gg; exact gg.elim
        | some es =>
          rw [e2] at gg
          dsimp only at gg
          by_cases hl : es.length ≤ i
          · rw [if_pos hl] at gg
            obtain ⟨a', ys, ea, _, hy, ry⟩ := (Rv.obj (K := X.K) (H := H) hj').seq_ rel e2
            cases ea
            exact .inl ⟨⟨ys, hy, by rw [ry.len]; exact hl⟩, gg as H σ Ex.refl rel re⟩
          · rw [if_neg hl] at gg; exact gg.elim
      | succ m =>
        unfold forL at gg
        cases e2 : lstAt S j with
        | none => rw [e2] at gg; exact gg.elim
        | some es =>
          rw [e2] at gg
          dsimp only at gg
          obtain ⟨a', ys, ea, _, hy, ry⟩ := (Rv.obj (K := X.K) (H := H) hj').seq_ rel e2
          cases ea
          cases e3 : es[i]? with
          | none =>
            rw [e3] at gg
            exact .inl ⟨⟨ys, hy, by rw [ry.len]; exact List.getElem?_eq_none_iff.mp e3⟩, gg as H σ Ex.refl rel re⟩
          | some d =>
            rw [e3] at gg
            dsimp only at gg
            obtain ⟨v, hv, rv⟩ := ry.get e3
            refine .inr ⟨⟨ys, v, hy, hv⟩, fun σ' H' => ∃ as env S, Ex X.K as1 H1 as H' ∧ Re X.K as H' σ' env ∧ Rel X.K as S H' ∧ GoS X.K X.mg W (forL g b j m (i + 1) env S) as H' D, fun σ' H' q => ⟨m, Nat.lt_succ_self m, q⟩, fun y H' hy' => ?_⟩
            obtain ⟨rfl, hy'⟩ := hy'
            have e := hy' ys hy
            rw [hv] at e
            cases e
            cases e1 : g d env S with
            | none => rw [e1] at gg; exact gg.elim
            | some env1 =>
              rw [e1] at gg
              dsimp only at gg
              refine ⟨as, env, S, d, env1, re, rel, rv, e1, fun σ' re' => ⟨as, env1, S, re', rel, ?_⟩⟩
              cases e : b env1 S with
              | nx env2 S2 => rw [e] at gg; exact fun as2 H2 σ2 y r q => ⟨as2, env2, S2, x.trans y, q, r, GoS.later y gg⟩
              | ct env2 S2 => rw [e] at gg; exact fun as2 H2 σ2 y r q => ⟨as2, env2, S2, x.trans y, q, r, GoS.later y gg⟩
              | bk env2 S2 => rw [e] at gg; exact gg
              | rt d S2 => rw [e] at gg; exact gg
              | ex x env2 S2 => rw [e] at gg; exact gg
              | no => rw [e] at gg; exact gg.elim⟩
/-- for i in range(..) -/
def rngD (lo : Int) (n : Nat) : List D := (List.range n).map fun (k : Nat) => D.int (lo + (k : Int))
def kForR (g : MG) (b : MS) (env : Env) (ds : List D) (S1 : Sto) : RS := match ds with
  | [.int j] => if -(2 ^ 62) ≤ j ∧ j < 2 ^ 62 then forM (fun _ => true) g b (rngD 0 j.toNat) env S1 else .no
  | [.int i, .int j] => if -(2 ^ 62) ≤ i ∧ i < 2 ^ 62 ∧ -(2 ^ 62) ≤ j ∧ j < 2 ^ 62 then forM (fun _ => true) g b (rngD i (j - i).toNat) env S1 else .no
  | _ => .no
def sForR (a : MA) (g : MG) (b : MS) : MS := fun env S => RS.of (a env S) env (kForR g b env)
theorem for_rng {g : MG} {b : MS} {Dn : Ends} {lo : Int} {n : Nat} {as1 : List Addr} {env1 : Env} {S1 : Sto} {H1 : Hp} {σ : L2.St} (re1 : Re X.K as1 H1 σ env1) (rel1 : Rel X.K as1 S1 H1)
    (g1 : GoS X.K X.mg W (forM (fun _ => true) g b (rngD lo n) env1 S1) as1 H1 Dn) :
    ∃ Wv : Nat → Nat → L2.St → Hp → Prop, (∃ m, Wv 0 m σ H1) ∧ ∀ i m σ H, Wv i m σ H →
      ((Itr lo n).stop i H ∧ Dn.nx σ H) ∨ ((Itr lo n).go i H ∧ ∃ N : L2.St → Hp → Prop, (∀ σ' H', N σ' H' → ∃ m', m' < m ∧ Wv (i + 1) m' σ' H') ∧ ∀ x H', (Itr lo n).yld i H x H' → gU X.K g x σ H' fun σ2 H2 => tS X.K X.mg W b { Dn with nx := N, ct := N, bk := Dn.nx } σ2 H2) := by
  refine ⟨fun i m σ H => m = n - i ∧ i ≤ n ∧ ∃ as env S, Re X.K as H σ env ∧ Rel X.K as S H ∧ GoS X.K X.mg W (forM (fun _ => true) g b ((rngD lo n).drop i) env S) as H Dn,
      ⟨n, by simp, Nat.zero_le _, as1, env1, S1, re1, rel1, by rw [List.drop_zero]; exact g1⟩, ?_⟩
  have hln : (rngD lo n).length = n := by simp [rngD]
  rintro i m σ H ⟨rfl, hi, as, env, S, re, rel, gg⟩
  by_cases hlt : i < n
  · have hlt' : i < (rngD lo n).length := by rw [hln]; exact hlt
    rw [List.drop_eq_getElem_cons hlt'] at gg
    have hgi : (rngD lo n)[i] = D.int (lo + (i : Int)) := by simp [rngD]
    rw [hgi] at gg
    refine .inr ⟨hlt, fun σ' H' => i + 1 ≤ n ∧ ∃ as env S, Re X.K as H' σ' env ∧ Rel X.K as S H' ∧ GoS X.K X.mg W (forM (fun _ => true) g b ((rngD lo n).drop (i + 1)) env S) as H' Dn,
      fun σ' H' q => ⟨n - (i + 1), by omega, rfl, q⟩, fun y H' hy => ?_⟩
    obtain ⟨rfl, rfl⟩ := hy
    unfold forM at gg
    rw [if_pos rfl] at gg
    cases e1 : g (D.int (lo + (i : Int))) env S with
    | none => rw [e1] at gg; exact gg.elim
    | some env1 =>
      rw [e1] at gg
      dsimp only at gg
      refine ⟨as, env, S, _, env1, re, rel, .int _, e1, fun σ' re' => ⟨as, env1, S, re', rel, ?_⟩⟩
      cases e : b env1 S with
      | nx env2 S2 => rw [e] at gg; exact fun as2 H2 σ2 y r q => ⟨hlt, as2, env2, S2, q, r, GoS.later y gg⟩
      | ct env2 S2 => rw [e] at gg; exact fun as2 H2 σ2 y r q => ⟨hlt, as2, env2, S2, q, r, GoS.later y gg⟩
      | bk env2 S2 => rw [e] at gg; exact gg
      | rt d S2 => rw [e] at gg; exact gg
      | ex x env2 S2 => rw [e] at gg; exact gg
      | no => rw [e] at gg; exact gg.elim
  · have hi2 : i = n := by omega
    rw [List.drop_eq_nil_of_le (by rw [hln]; omega)] at gg
    exact .inl ⟨(show n ≤ i by omega), (forM_end re rel gg).2⟩
theorem rng_inv1 {g : MG} {b : MS} {env : Env} {S : Sto} {d : D} {vs : List V} {as : List Addr} {H : Hp} {Dn : Ends} (rv : Rvs X.K as H vs [d]) (g1 : GoS X.K X.mg W (kForR g b env [d] S) as H Dn) :
    ∃ j : Int, d = .int j ∧ vs = [.int j] ∧ -(2 ^ 62) ≤ j ∧ j < 2 ^ 62 ∧ GoS X.K X.mg W (forM (fun _ => true) g b (rngD 0 j.toNat) env S) as H Dn := by
  obtain ⟨v, rfl, r⟩ := rv.sing
  cases d <;> first | exact g1.elim | skip
  rename_i j
  unfold kForR at g1
  dsimp only at g1
  by_cases hj : -(2 ^ 62) ≤ j ∧ j < 2 ^ 62
  · rw [if_pos hj] at g1
    exact ⟨j, rfl, by rw [r.int_], hj.1, hj.2, g1⟩
  · rw [if_neg hj] at g1; exact g1.elim
theorem rng_inv2 {g : MG} {b : MS} {env : Env} {S : Sto} {d e : D} {vs : List V} {as : List Addr} {H : Hp} {Dn : Ends} (rv : Rvs X.K as H vs [d, e]) (g1 : GoS X.K X.mg W (kForR g b env [d, e] S) as H Dn) :
    ∃ i j : Int, vs = [.int i, .int j] ∧ (-(2 ^ 62) ≤ i ∧ i < 2 ^ 62 ∧ -(2 ^ 62) ≤ j ∧ j < 2 ^ 62) ∧ GoS X.K X.mg W (forM (fun _ => true) g b (rngD i (j - i).toNat) env S) as H Dn := by
  obtain ⟨v, u, rfl, r, r'⟩ := rv.pair
  cases d <;> cases e <;> first | exact g1.elim | skip
  rename_i i j
  unfold kForR at g1
  dsimp only at g1
  by_cases hj : -(2 ^ 62) ≤ i ∧ i < 2 ^ 62 ∧ -(2 ^ 62) ≤ j ∧ j < 2 ^ 62
  · rw [if_pos hj] at g1
    exact ⟨i, j, by rw [r.int_, r'.int_], hj, g1⟩
  · rw [if_neg hj] at g1; exact g1.elim
theorem sm_forR1 {tg a0 : Expr} {body : List Stmt} {m : ME} {g : MG} {b : MS} {p pos pos' : Pos} (hp : PassesOwn (model X.prog X.w) X.A X.env X.xe) (hc : X.calm = true) (hr : Gl X "range") (hm : X.mg "range" = none) (hi : EM X W a0 m) (hg : GM X tg g) (hb : BM X W body b)
    (hs : starEach [a0] X.env = [(false, eval a0 X.env)] := by rfl) (hf : ∀ x, foldedSetIterable (.Call (.Name "range" p) [a0] [] pos') X.env x = pure x := by intro _; rfl) : SM X W (.For tg (.Call (.Name "range" p) [a0] [] pos') body [] pos) (sForR (mCons m mNil) g b) :=
  ⟨ps_imp (ps_for hp hc (pi_range1 hr hm (pa_cons hi.pe pa_nil hs) hs) hg.pg hb.ps hf) fun Dn σ H q => by
    obtain ⟨as, env, S, re, rel, g1⟩ := q
    refine ⟨as, env, S, re, rel, ?_⟩
    unfold sForR mCons at g1
    cases e : m env S with
    | no => rw [e] at g1; exact g1.elim
    | ex x S' => rw [e] at g1; exact fun as' H' c dd y r q => g1 as' H' σ c dd y r (re.mono y) q
    | ok d S1 =>
      rw [e] at g1
      intro as1 H1 v x r1 rv
      obtain ⟨j, _, hv, h1, h2, gg⟩ := rng_inv1 (vs := [v]) (.cons rv .nil) (GoS.later x g1)
      exact ⟨j, hv, h1, h2, for_rng (re.mono x) r1 gg⟩⟩
theorem sm_forR2 {tg a0 a1 : Expr} {body : List Stmt} {m m' : ME} {g : MG} {b : MS} {p pos pos' : Pos} (hp : PassesOwn (model X.prog X.w) X.A X.env X.xe) (hc : X.calm = true) (hr : Gl X "range") (hm : X.mg "range" = none) (hi : EM X W a0 m) (hi' : EM X W a1 m') (hg : GM X tg g) (hb : BM X W body b)
    (hs : starEach [a0, a1] X.env = [(false, eval a0 X.env), (false, eval a1 X.env)] := by rfl) (hs2 : starEach [a1] X.env = [(false, eval a1 X.env)] := by rfl) (hf : ∀ x, foldedSetIterable (.Call (.Name "range" p) [a0, a1] [] pos') X.env x = pure x := by intro _; rfl) :
    SM X W (.For tg (.Call (.Name "range" p) [a0, a1] [] pos') body [] pos) (sForR (mCons m (mCons m' mNil)) g b) :=
  ⟨ps_imp (ps_for hp hc (pi_range2 hr hm (pa_cons hi.pe (pa_cons hi'.pe pa_nil hs2) (by rw [hs, hs2])) hs hs2) hg.pg hb.ps hf) fun Dn σ H q => by
    obtain ⟨as, env, S, re, rel, g1⟩ := q
    refine ⟨as, env, S, re, rel, ?_⟩
    unfold sForR mCons at g1
    cases e : m env S with
    | no => rw [e] at g1; exact g1.elim
    | ex x S' => rw [e] at g1; exact fun as' H' c dd y r q => g1 as' H' σ c dd y r (re.mono y) q
    | ok d S1 =>
      rw [e] at g1
      intro as1 H1 v x r1 rv
      refine ⟨as1, env, S1, re.mono x, r1, ?_⟩
      have g2 := GoS.later x g1
      cases e2 : m' env S1 with
      | no =>
        have g3 : GoS X.K X.mg W (RS.of (R.bind (R.bind (m' env S1) fun x S1 => R.bind (mNil env S1) fun xs S2 => R.ok (x :: xs) S2) fun xs S2 => R.ok (d :: xs) S2) env (kForR g b env)) as1 H1 Dn := g2
        rw [e2] at g3; exact g3.elim
      | ex z S' =>
        have g3 : GoS X.K X.mg W (RS.of (R.bind (R.bind (m' env S1) fun x S1 => R.bind (mNil env S1) fun xs S2 => R.ok (x :: xs) S2) fun xs S2 => R.ok (d :: xs) S2) env (kForR g b env)) as1 H1 Dn := g2
        rw [e2] at g3
        exact fun as' H' c dd y r q => g3 as' H' σ c dd y r ((re.mono x).mono y) q
      | ok d2 S2 =>
        have g3 : GoS X.K X.mg W (RS.of (R.bind (R.bind (m' env S1) fun x S1 => R.bind (mNil env S1) fun xs S2 => R.ok (x :: xs) S2) fun xs S2 => R.ok (d :: xs) S2) env (kForR g b env)) as1 H1 Dn := g2
        rw [e2] at g3
        intro as2 H2 v2 x2 r2 rv2
        obtain ⟨i, j, hv, hb', gg⟩ := rng_inv2 (vs := [v, v2]) (.cons (rv.mono x2) (.cons rv2 .nil)) (GoS.later x2 g3)
        exact ⟨i, j, hv, hb', for_rng ((re.mono x).mono x2) r2 gg⟩⟩
end
end Mi

namespace Mi
open PySem PySem.Spec PyProof.Rows L2

/-! ### functions -/
abbrev MFn := List D → Sto → R D
/-- a promise: what the mirror function says -/
def spM (K : PySem.W.Frag) (mg : Str → Option Value) (m : MFn) : Sp := fun vs H Q E => ∃ as ds S, Rvs K as H vs ds ∧ Rel K as S H ∧ Go K mg (fun c d _ H => E c d H) (Rv K) (m ds S) as H [] Q
def fnEnd : RS → R D
  | .nx _ S => .ok .non S
  | .rt d S => .ok d S
  | .ex e _ S => .ex e S
  | _ => .no
/-- a def's mirror from its body's: n parameters, N names -/
def mFn (n N : Nat) (b : MS) : MFn := fun ds S => if ds.length = n then fnEnd (b (ds.map some ++ List.replicate (N - n) none) S) else .no
theorem Re.start {K : PySem.W.Frag} {as : List Addr} {H : Hp} {vs : List V} {ds : List D} {N : List Str} (r : Rvs K as H vs ds) : Re K as H (L2.start N vs) (ds.map some ++ List.replicate (N.length - ds.length) none) := by
  unfold L2.start
  refine ⟨by simp [r.len], fun i d h => ?_⟩
  by_cases hi : i < ds.length
  · rw [List.getElem?_append_left (by simpa using hi), List.getElem?_map] at h
    cases e : ds[i]? with
    | none => rw [e] at h; cases h
    | some d' =>
      rw [e] at h; cases h
      obtain ⟨v, h1, h2⟩ := r.get e
      refine ⟨v, ?_, h2⟩
      rw [List.getElem?_append_left (by simp [r.len]; exact hi), List.getElem?_map, h1]; rfl
  · rw [List.getElem?_append_right (by simpa using hi), List.getElem?_replicate] at h
    split at h <;> cases h
section
variable {P : Program} {w : World} {K : PySem.W.Frag} {mg : Str → Option Value} {base : Heap}
/-- where a def's body runs -/
abbrev ctx (P : Program) (w : World) (K : PySem.W.Frag) (mg : Str → Option Value) (base : Heap) (N : List Str) (qual : Str) (scope : Scope) (f : Addr) (cdv : Value) (A : Around) (outer : List PySem.Env) (s : Shared) (H : Hp) (E : XK) : Cx :=
  cxOf (L2.CX P w) P w K mg base N qual scope f cdv A outer s H E
abbrev wE (E : XK) : WX := fun c d _ H => E c d H
/-- a def's body is mirrored by b, wherever it runs with room k -/
def BodyOk (P : Program) (w : World) (K : PySem.W.Frag) (mg : Str → Option Value) (base : Heap) (k : Nat) (N : List Str) (qual : Str) (scope : Scope) (body : List Stmt) (b : MS) : Prop :=
  ∀ (f : Addr) (cdv : Value) (A : Around) (outer : List PySem.Env) (s : Shared) (H : Hp) (E : XK), Room k (ctx P w K mg base N qual scope f cdv A outer s H E).A → Takes (ctx P w K mg base N qual scope f cdv A outer s H E) (wE E) →
    PassesOwn (model P w) (ctx P w K mg base N qual scope f cdv A outer s H E).A (ctx P w K mg base N qual scope f cdv A outer s H E).env (ctx P w K mg base N qual scope f cdv A outer s H E).xe →
    BM (ctx P w K mg base N qual scope f cdv A outer s H E) (wE E) body b
theorem fn_ok {x qual : Str} {params : Arguments} {body : List Stmt} {scope : Scope} {f : Addr} {fd : FuncData} {N ps : List Str} {k : Nat} {b : MS} (F : FunD K x qual params body scope [] [] f fd) (S : FnScope N ps scope)
    (hb : BodyOk P w K mg base k N qual scope body b) : FnOk P w K mg base (L2.CX P w) (k + 1) f fd ps (spM K mg (mFn ps.length N.length b)) := by
  refine F.ok S (fun vs H Q E h => ?_) (fun cdv A outer s H vs Q E hr h => ?_)
  · obtain ⟨as, ds, S', rv, rel, g⟩ := h
    unfold mFn at g
    by_cases hl : ds.length = ps.length
    · rw [rv.len, hl]
    · rw [if_neg hl] at g; exact g.elim
  · have B := hb f cdv A outer s H E hr (takes_of rfl rfl rfl rfl) (passes_of (K := fun e s'' => L2.CX P w outer H s E e s'') rfl)
    refine ⟨_, B.ps, ?_⟩
    obtain ⟨as, ds, S', rv, rel, g⟩ := h
    unfold mFn at g
    by_cases hl : ds.length = ps.length
    · rw [if_pos hl] at g
      refine ⟨as, _, S', Re.start (N := N) rv, rel, ?_⟩
      rw [hl]
      cases e : b (ds.map some ++ List.replicate (N.length - ps.length) none) S' with
      | nx env S2 => rw [e] at g; exact fun as' H' σ' x r q => g as' H' _ x r .non
      | rt d S2 => rw [e] at g; exact fun as' H' v x r q => g as' H' v x r q
      | bk env S2 => rw [e] at g; exact g.elim
      | ct env S2 => rw [e] at g; exact g.elim
      | ex z env S2 => rw [e] at g; exact fun as' H' σ' c dd x r q q2 => g as' H' c dd x r q2
      | no => rw [e] at g; exact g.elim
    · rw [if_neg hl] at g; exact g.elim
/-- a def of the module that may be called by its name -/
structure Cal (P : Program) (w : World) (K : PySem.W.Frag) (mg : Str → Option Value) (base : Heap) (k : Nat) (x : Str) (m : MFn) : Prop where
  ex : ∃ (f : Addr) (fd : FuncData) (ps : List Str), FnOk P w K mg base (L2.CX P w) k f fd ps (spM K mg m) ∧ mg x = some (.ref f) ∧ PySem.W.keepIn K (.ref f) = true ∧ Binds K fd ps []
theorem Cal.mono {j k : Nat} {x : Str} {m : MFn} (c : Cal P w K mg base j x m) (h : j ≤ k) : Cal P w K mg base k x m := let ⟨f, fd, ps, F, r⟩ := c.ex; ⟨f, fd, ps, F.mono h, r⟩
theorem cal_of {x qual : Str} {params : Arguments} {body : List Stmt} {scope : Scope} {f : Addr} {fd : FuncData} {N ps : List Str} {k : Nat} {b : MS} (F : FunD K x qual params body scope [] [] f fd) (S : FnScope N ps scope)
    (hm : mg x = some (.ref f)) (hbn : Binds K fd ps []) (hb : BodyOk P w K mg base k N qual scope body b) : Cal P w K mg base (k + 1) x (mFn ps.length N.length b) := ⟨f, fd, ps, fn_ok F S hb, hm, F.kp, hbn⟩
end
def mCall (m : MFn) (a : MA) : ME := fun env S => (a env S).bind m
section
variable {X : Cx} {W : WX}
theorem Go.wish {K : PySem.W.Frag} {mg : Str → Option Value} {W' : WX} {out : R D} {as : List Addr} {H : Hp} {σ σ' : L2.St} {Q : VK} (h : Go K mg W (Rv K) out as H σ Q) (i : ∀ c d H, W c d σ H → W' c d σ' H) : Go K mg W' (Rv K) out as H σ' Q := by
  cases out with
  | ok d S' => exact h
  | ex e S' => exact fun as' H' c dd y r q => i _ _ _ (h as' H' c dd y r q)
  | no => exact h
theorem em_call {k j : Nat} {x : Str} {m : MFn} {e : Expr} {es : List Expr} {a : MA} {p pos : Pos} (c : Cal X.prog X.w X.K X.mg X.base k x m) (hr : Room j X.A) (tk : Takes X W) (ha : AM X W (e :: es) a) (hk : k ≤ j := by decide) (hg : Gl X x := by rfl)
    (hdb : (x == ("__debug__" : Str)) = false := by decide) (he : starEach (e :: es) X.env = (false, eval e X.env) :: starEach es X.env := by rfl) (hpl : (backTo pos (starEach es X.env)).any (·.1) = false := by rfl) :
    EM X W (.Call (.Name x p) (e :: es) [] pos) (mCall m a) := by
  obtain ⟨f, fd, ps, F, hm, hkp, hb⟩ := c.ex
  refine ⟨pe_imp (pe_callS F (hr.mono hk) hg hm hkp hb (fun σ => passAt tk σ) ha.pa hdb he hpl) fun σ H Q q => ?_⟩
  exact tU_bind (f := fun _ => m) q fun as env ds S1 as1 H1 vs re rel rv g => ⟨as1, ds, S1, rv, rel, g.wish fun _ _ _ z => z⟩
end
end Mi

namespace Mi
open PySem PySem.Spec PyProof.Rows L2

/-! ### isinstance -/
def tyD (S : Sto) : D → Option String
  | .non => some "NoneType"
  | .bl _ => some "bool"
  | .int _ => some "int"
  | .str _ => some "str"
  | .tup _ => some "tuple"
  | .obj i => match S[i]? with
    | some (.lst _) => some "list"
    | some (.fix _) => some "list"
    | some (.dic _) => some "dict"
    | none => none
def kinds : List String := ["NoneType", "bool", "int", "str", "tuple", "list", "dict"]
def isK (t T : String) : Bool := t == T || (t == "bool" && T == "int")
theorem kit_all : (kinds.all fun t => kinds.tail.all fun T => kitB t T == some (isK t T)) = true := by decide +kernel
theorem kit_is {t T : String} (ht : t ∈ kinds) (hT : T ∈ kinds.tail) : kitB t T = some (isK t T) := by
  have h := List.all_eq_true.mp (List.all_eq_true.mp kit_all t ht) T hT
  exact eq_of_beq h
section
variable {K : PySem.W.Frag} {as : List Addr} {H : Hp} {S : Sto} {v : V} {d : D}
theorem tyX_of {t : String} (rel : Rel K as S H) (r : Rv K as H v d) (h : tyD S d = some t) : TyX K H v (.type t) ∧ t ∈ kinds := by
  cases d with
  | non => cases h; rw [r.non_]; exact ⟨.base .non, by decide⟩
  | bl b => cases h; rw [r.bl_]; exact ⟨.base (.bl b), by decide⟩
  | int i => cases h; rw [r.int_]; exact ⟨.base (.int i), by decide⟩
  | str x => cases h; rw [r.str_]; exact ⟨.base (.str x), by decide⟩
  | tup ds =>
    cases h
    obtain ⟨a, xs, rfl, ha, _⟩ := r.tup_
    refine ⟨?_, by decide⟩
    rcases ha with (ha | ⟨o, ha⟩) | ⟨o, its, n, hk, hc, _⟩
    · exact .base (.tup ha)
    · exact .fTuple ha
    · exact .kTuple hk hc
  | obj i =>
    unfold tyD at h
    dsimp only at h
    cases e : S[i]? with
    | none => rw [e] at h; cases h
    | some o =>
      rw [e] at h
      obtain ⟨a, rfl, ha⟩ := r.obj_
      have q := rel.ob i a o ha e
      cases o with
      | lst es => cases h; obtain ⟨vs, h1, _⟩ := q; exact ⟨.base (.lst h1), by decide⟩
      | dic es => cases h; obtain ⟨vs, h1, _⟩ := q; exact ⟨.base (.dK h1), by decide⟩
      | fix es =>
        cases h
        obtain ⟨vs, h1, _⟩ := q
        refine ⟨?_, by decide⟩
        rcases h1 with ⟨o, h1⟩ | h1
        · exact .base (.frz h1)
        · rcases h1 (fun _ => none) with (h1 | ⟨o, h1⟩) | ⟨o, its, n, hk, hc, _⟩
          · cases h1
          · cases h1
          · exact .kList hk hc
end
/-- isinstance(x, T), isinstance(x, (T1, T2, ..)) -/
def fIsi (Ts : List String) : F1 := fun d S => (tyD S d).map fun t => (.bl (Ts.any fun T => isK t T), S)
section
variable {X : Cx} {W : WX}
theorem em_isi {e : Expr} {m : ME} {T : String} {xT : Str} {p p2 pos : Pos} (he : EM X W e m) (hg : Gl X "isinstance" := by rfl) (hm : X.mg "isinstance" = none) (hgT : Gl X xT := by rfl) (hmT : X.mg xT = none) (hvT : bootBuiltins xT = some (.type T))
    (hT : T ∈ kinds.tail := by decide) (hnT : xT ≠ "__name__" := by decide) (hdT : (xT == ("__debug__" : Str)) = false := by decide)
    (hs : starEach [e, .Name xT p2] X.env = (false, eval e X.env) :: starEach [.Name xT p2] X.env := by rfl) (hpl : (backTo pos (starEach [.Name xT p2] X.env)).any (·.1) = false := by rfl) :
    EM X W (.Call (.Name "isinstance" p) [e, .Name xT p2] [] pos) (m1 (fIsi [T]) m) :=
  ⟨pe_imp (pe_callB call_isi hg hm boot_isinstance (pa_cons he.pe (pa_cons (pe_bltn hgT hmT hvT (v := .ty T) rfl hnT hdT) pa_nil rfl) hs) (by decide) (by decide) hs hpl) fun σ H Q q => tU_bind (f := fun _ x S1 => R.of (fIsi [T] x S1)) q fun as env d S1 as1 H1 x re rel rv g => by
    obtain ⟨z, S', hz, q⟩ := go_of g
    unfold fIsi at hz
    cases e : tyD S1 d with
    | none => rw [e] at hz; cases hz
    | some t =>
      rw [e] at hz
      cases hz
      obtain ⟨ty, ht⟩ := tyX_of rel rv e
      refine ⟨x, .ty T, .type t, .type T, isK t T, rfl, .ty T, ty, kit_ty (kit_is ht hT), ?_⟩
      have e2 : ([T].any fun T => isK t T) = isK t T := by simp
      rw [e2] at q
      exact q as1 H1 _ Ex.refl rel (.bl _)⟩
theorem kitAny_of {K : PySem.W.Frag} {t : String} (ht : t ∈ kinds) : ∀ {Ts : List String}, (∀ T ∈ Ts, T ∈ kinds.tail) → PySem.W.kitAny K (.type t) (Ts.map Value.type) = some (Ts.any fun T => isK t T)
  | [], _ => kitAny_nil
  | T :: Ts, h => by
    have h1 : PySem.W.kitOne K (.type t) (.type T) = some (isK t T) := kit_ty (kit_is ht (h T (by simp)))
    have ih := kitAny_of (K := K) ht (Ts := Ts) fun T' m => h T' (by simp [m])
    refine kitAny_cons h1 (fun hb => ?_) fun hb => ?_
    · rw [List.any_cons, hb, Bool.false_or]; exact ih
    · rw [List.any_cons, hb, Bool.true_or]
theorem em_isiT2 {e : Expr} {m : ME} {T1 T2 : String} {x1 x2 : Str} {k : Nat} {p p1 p2 p3 pos : Pos} (he : EM X W e m) (hg : Gl X "isinstance" := by rfl) (hm : X.mg "isinstance" = none) (hg1 : Gl X x1 := by rfl) (hm1 : X.mg x1 = none) (hv1 : bootBuiltins x1 = some (.type T1))
    (hg2 : Gl X x2 := by rfl) (hm2 : X.mg x2 = none) (hv2 : bootBuiltins x2 = some (.type T2))
    (hT1 : T1 ∈ kinds.tail := by decide) (hT2 : T2 ∈ kinds.tail := by decide) (hn1 : x1 ≠ "__name__" := by decide) (hd1 : (x1 == ("__debug__" : Str)) = false := by decide) (hn2 : x2 ≠ "__name__" := by decide) (hd2 : (x2 == ("__debug__" : Str)) = false := by decide)
    (hs : starEach [e, .Tuple [.Name x1 p1, .Name x2 p2] k p3] X.env = (false, eval e X.env) :: starEach [.Tuple [.Name x1 p1, .Name x2 p2] k p3] X.env := by rfl) (hpl : (backTo pos (starEach [.Tuple [.Name x1 p1, .Name x2 p2] k p3] X.env)).any (·.1) = false := by rfl) :
    EM X W (.Call (.Name "isinstance" p) [e, .Tuple [.Name x1 p1, .Name x2 p2] k p3] [] pos) (m1 (fIsi [T1, T2]) m) :=
  ⟨pe_imp (pe_callB call_isiT hg hm boot_isinstance (pa_cons he.pe (pa_cons (pe_tup (pa_cons (pe_bltn hg1 hm1 hv1 (v := .ty T1) rfl hn1 hd1) (pa_cons (pe_bltn hg2 hm2 hv2 (v := .ty T2) rfl hn2 hd2) pa_nil rfl) rfl)) pa_nil rfl) hs) (by decide) (by decide) hs hpl)
    fun σ H Q q => tU_bind (f := fun _ x S1 => R.of (fIsi [T1, T2] x S1)) q fun as env d S1 as1 H1 x re rel rv g => by
    obtain ⟨z, S', hz, q⟩ := go_of g
    unfold fIsi at hz
    cases e : tyD S1 d with
    | none => rw [e] at hz; cases hz
    | some t =>
      rw [e] at hz
      cases hz
      refine ⟨by show 2 ≤ sizeLine; decide, fun tp htp => ?_⟩
      have x1 : Ex X.K as1 H1 as1 (upd H1 tp (.tup [.ty T1, .ty T2])) := Ex.fresh htp
      obtain ⟨ty, ht⟩ := tyX_of (rel.fresh htp) (rv.mono x1) e
      exact ⟨x, tp, [.ty T1, .ty T2], .type t, [.type T1, .type T2], _, rfl, upd_same, .cons (.ty _) (.cons (.ty _) .nil), ty, kitAny_of (Ts := [T1, T2]) ht (fun T hT => (List.mem_cons.mp hT).elim (fun e => e ▸ hT1) fun h => (List.mem_cons.mp h).elim (fun e => e ▸ hT2) fun z => nomatch z), q as1 _ _ x1 (rel.fresh htp) (.bl _)⟩⟩

/-! ### methods of lists, texts -/
abbrev FM := D → List D → Sto → Option (D × Sto)
def rFM (K : PySem.W.Frag) (f : FM) : V → List V → Hp → VK → Prop := fun x xs H Q => ∃ as S d ds z S', Rel K as S H ∧ Rv K as H x d ∧ Rvs K as H xs ds ∧ f d ds S = some (z, S') ∧ ∀ as' H' v, Ex K as H as' H' → Rel K as' S' H' → Rv K as' H' v z → Q v H'
/-- of that type -/
def tyOk (T : String) (d : D) (S : Sto) : Bool := match d with
  | .str _ => T == "str"
  | .obj i => match S[i]? with
    | some (.lst _) => T == "list"
    | some (.fix _) => T == "list"
    | some (.dic _) => T == "dict"
    | none => false
  | _ => false
theorem ty_of {K : PySem.W.Frag} {as : List Addr} {H : Hp} {S : Sto} {v : V} {d : D} {T : String} (rel : Rel K as S H) (r : Rv K as H v d) (h : tyOk T d S = true) : tyV K T v H := by
  cases d <;> first | (cases h; done) | skip
  case str x => rw [r.str_]; exact eq_of_beq h
  case obj i =>
    unfold tyOk at h
    dsimp only at h
    obtain ⟨a, rfl, ha⟩ := r.obj_
    cases e : S[i]? with
    | none => rw [e] at h; cases h
    | some o =>
      rw [e] at h
      cases o with
      | lst es => obtain ⟨b, vs, eb, _, hq, _⟩ := r.seq_ rel (ds := es) (by unfold lstAt; rw [e]); cases eb; exact .inl ⟨eq_of_beq h, vs, hq⟩
      | fix es => obtain ⟨b, vs, eb, _, hq, _⟩ := r.seq_ rel (ds := es) (by unfold lstAt; rw [e]); cases eb; exact .inl ⟨eq_of_beq h, vs, hq⟩
      | dic es => obtain ⟨b, vs, eb, _, hq, _⟩ := r.dic_ rel e; cases eb; exact .inr (.inr (.inl ⟨eq_of_beq h, .inl ⟨vs, hq⟩⟩))
def mM (T : String) (f : FM) (o : ME) (a : MA) : ME := fun env S => (o env S).bind fun d S1 => if tyOk T d S1 = true then (a env S1).bind fun ds S2 => R.of (f d ds S2) else .no
def mM0 (T : String) (f : FM) (o : ME) : ME := fun env S => (o env S).bind fun d S1 => if tyOk T d S1 = true then R.of (f d [] S1) else .no
theorem em_bm {f : FM} {T id : String} {name : Str} {o e : Expr} {es : List Expr} {m : ME} {a : MA} {apos cpos : Pos} (pa : PlainAttrs T) (slot : Slot T name id) (hty : typeOf (.builtin id) = pure (.type "method_descriptor")) (hm : MtR X id (rFM X.K f)) (ho : EM X W o m) (ha : AM X W (e :: es) a)
    (hbase : attributeBase o name X.env (eval o X.env) = eval o X.env := by rfl)
    (hfew : ((backTo cpos (starEach (e :: es) X.env)).all (fun x => !x.1) && (backToKw cpos (keywordEach [] X.env)).all (fun x => x.1.isSome)
      && decide ((e :: es).length + ([] : List Keyword).length + (if ([] : List Keyword).isEmpty then 0 else 1) < 30)) = true := by rfl) (hline : (apos.endLine == cpos.line) = true := by rfl)
    (hs : starEach (e :: es) X.env = (false, eval e X.env) :: starEach es X.env := by rfl) (hplain : (backTo cpos (starEach es X.env)).any (·.1) = false := by rfl) :
    EM X W (.Call (.Attribute o name apos) (e :: es) [] cpos) (mM T f m a) :=
  ⟨pe_imp (pe_bm pa slot hty hm ho.pe ha.pa hbase hfew hline hs hplain) fun σ H Q q => tU_bind (f := fun env d S1 => if tyOk T d S1 = true then (a env S1).bind fun ds S2 => R.of (f d ds S2) else .no) q fun as env d S1 as1 H1 x re rel rv g => by
    by_cases ht : tyOk T d S1 = true
    · rw [if_pos ht] at g
      refine ⟨ty_of rel rv ht, as1, env, S1, re, rel, Go.bind g fun ds S2 as2 H2 vs x2 r2 rv2 g2 => ?_⟩
      obtain ⟨z, S', hz, q⟩ := go_of g2
      exact ⟨as2, S2, d, ds, z, S', r2, rv.mono x2, rv2, hz, q⟩
    · rw [if_neg ht] at g; exact g.elim⟩
theorem em_bm0 {f : FM} {T id : String} {name : Str} {o : Expr} {m : ME} {apos cpos : Pos} (pa : PlainAttrs T) (slot : Slot T name id) (hty : typeOf (.builtin id) = pure (.type "method_descriptor")) (hm : MtR X id (rFM X.K f)) (ho : EM X W o m)
    (hbase : attributeBase o name X.env (eval o X.env) = eval o X.env := by rfl) (hline : (apos.endLine == cpos.line) = true := by rfl) : EM X W (.Call (.Attribute o name apos) [] [] cpos) (mM0 T f m) :=
  ⟨pe_imp (pe_bm0 pa slot hty hm ho.pe hbase hline) fun σ H Q q => tU_bind (f := fun env d S1 => if tyOk T d S1 = true then R.of (f d [] S1) else .no) q fun as env d S1 as1 H1 x re rel rv g => by
    by_cases ht : tyOk T d S1 = true
    · rw [if_pos ht] at g
      obtain ⟨z, S', hz, q⟩ := go_of g
      exact ⟨ty_of rel rv ht, as1, S1, d, [], z, S', rel, rv, .nil, hz, q⟩
    · rw [if_neg ht] at g; exact g.elim⟩
def fAppend : FM := fun d ds S => match d, ds with
  | .obj i, [e] => match S[i]? with
    | some (.lst xs) => if xs.length < sizeLine then some (.non, S.set i (.lst (xs ++ [e]))) else none
    | _ => none
  | _, _ => none
def fExtend : FM := fun d ds S => match d, ds with
  | .obj i, [.obj j] => match S[i]?, S[j]? with
    | some (.lst xs), some (.lst ys) => if xs.length + ys.length ≤ sizeLine then some (.non, S.set i (.lst (xs ++ ys))) else none
    | _, _ => none
  | _, _ => none
def fPop : FM := fun d ds S => match d, ds with
  | .obj i, [] => match S[i]? with
    | some (.lst xs) => (xs[xs.length - 1]?).map fun z => (z, S.set i (.lst xs.dropLast))
    | _ => none
  | _, _ => none
def fReverse : FM := fun d ds S => match d, ds with
  | .obj i, [] => match S[i]? with
    | some (.lst xs) => some (.non, S.set i (.lst xs.reverse))
    | _ => none
  | _, _ => none
theorem Rvs.dropLast {K : PySem.W.Frag} {as : List Addr} {H : Hp} {vs : List V} {ds : List D} (r : Rvs K as H vs ds) : Rvs K as H vs.dropLast ds.dropLast := by
  rw [List.dropLast_eq_take, List.dropLast_eq_take, r.len]; exact r.take _
theorem mt_fAppend : MtR X "list.append" (rFM X.K fAppend) := by
  refine mt_imp mt_append fun x xs H Q ⟨as, S, d, ds, z, S', rel, rx, rs, hf, q⟩ => ?_
  unfold fAppend at hf
  split at hf
  · rename_i i e
    split at hf
    · rename_i es h0
      by_cases hl : es.length < sizeLine
      · rw [if_pos hl] at hf; cases hf
        obtain ⟨a, vs, rfl, ha, hH, rvs⟩ := rx.lst_ rel h0
        obtain ⟨y, rfl, ry⟩ := rs.sing
        refine ⟨a, vs, y, rfl, rfl, hH, by rw [rvs.len]; exact hl, ?_⟩
        obtain ⟨r1, x1⟩ := put_lst rel ha h0 hH (rvs.append (.cons ry .nil))
        exact q as _ _ x1 r1 .non
      · rw [if_neg hl] at hf; cases hf
    · cases hf
  · cases hf
theorem mt_fExtend : MtR X "list.extend" (rFM X.K fExtend) := by
  refine mt_imp mt_extend fun x xs H Q ⟨as, S, d, ds, z, S', rel, rx, rs, hf, q⟩ => ?_
  unfold fExtend at hf
  split at hf
  · rename_i i j
    split at hf
    · rename_i es us h0 h1
      by_cases hl : es.length + us.length ≤ sizeLine
      · rw [if_pos hl] at hf; cases hf
        obtain ⟨a, vs, rfl, ha, hH, rvs⟩ := rx.lst_ rel h0
        obtain ⟨y, rfl, ry⟩ := rs.sing
        obtain ⟨b, ws, rfl, hb, hB, rws⟩ := ry.lst_ rel h1
        refine ⟨a, b, vs, ws, rfl, rfl, hH, hB, by rw [rvs.len, rws.len]; exact hl, ?_⟩
        obtain ⟨r1, x1⟩ := put_lst rel ha h0 hH (rvs.append rws)
        exact q as _ _ x1 r1 .non
      · rw [if_neg hl] at hf; cases hf
    · cases hf
  · cases hf
theorem mt_fPop : MtR X "list.pop" (rFM X.K fPop) := by
  refine mt_imp mt_pop fun x xs H Q ⟨as, S, d, ds, z, S', rel, rx, rs, hf, q⟩ => ?_
  unfold fPop at hf
  split at hf
  · rename_i i
    split at hf
    · rename_i es h0
      cases e : es[es.length - 1]? with
      | none => rw [e] at hf; cases hf
      | some y =>
        rw [e] at hf; cases hf
        obtain ⟨a, vs, rfl, ha, hH, rvs⟩ := rx.lst_ rel h0
        cases rs
        obtain ⟨v, hv, rv⟩ := rvs.get e
        refine ⟨a, vs, v, rfl, rfl, hH, by rw [rvs.len]; exact hv, ?_⟩
        obtain ⟨r1, x1⟩ := put_lst rel ha h0 hH rvs.dropLast
        exact q as _ _ x1 r1 (rv.mono x1)
    · cases hf
  · cases hf
theorem mt_fReverse : MtR X "list.reverse" (rFM X.K fReverse) := by
  refine mt_imp mt_reverse fun x xs H Q ⟨as, S, d, ds, z, S', rel, rx, rs, hf, q⟩ => ?_
  unfold fReverse at hf
  split at hf
  · rename_i i
    split at hf
    · rename_i es h0
      cases hf
      obtain ⟨a, vs, rfl, ha, hH, rvs⟩ := rx.lst_ rel h0
      cases rs
      refine ⟨a, vs, rfl, rfl, hH, ?_⟩
      obtain ⟨r1, x1⟩ := put_lst rel ha h0 hH rvs.reverse
      exact q as _ _ x1 r1 .non
    · cases hf
  · cases hf
/-- sep.join(list or tuple of texts) -/
def fJoin : FM := fun d ds S => match d, ds with
  | .str a, [e] => match (match e with
      | .obj i => lstAt S i
      | .tup es => some es
      | _ => none) with
    | some es => (toStrs es).bind fun ys => if (ys.map (·.length)).sum + ys.length * a.length ≤ 16777216 then some (.str (Txt.join a ys), S) else none
    | none => none
  | _, _ => none
theorem mt_fJoin : MtR X "str.join" (rFM X.K fJoin) := by
  refine mt_imp mt_join fun x xs H Q ⟨as, S, d, ds, z, S', rel, rx, rs, hf, q⟩ => ?_
  unfold fJoin at hf
  split at hf
  · rename_i a e
    obtain ⟨y, rfl, ry⟩ := rs.sing
    split at hf
    · rename_i es h0
      cases h1 : toStrs es with
      | none => rw [h1] at hf; cases hf
      | some ys =>
        rw [h1, Option.bind_some] at hf
        by_cases hl : (ys.map (·.length)).sum + ys.length * a.length ≤ 16777216
        · rw [if_pos hl] at hf; cases hf
          have fin := q as H _ Ex.refl rel (.str _)
          split at h0
          · obtain ⟨b, vs, rfl, _, hq, rvs⟩ := ry.seq_ rel h0
            rw [toStrs_eq h1] at rvs
            rw [rvs.strs] at hq
            exact ⟨a, b, ys, rx.str_, rfl, .inl hq, hl, fin⟩
          · cases h0
            obtain ⟨b, vs, rfl, hq, rvs⟩ := ry.tup_
            rw [toStrs_eq h1] at rvs
            rw [rvs.strs] at hq
            exact ⟨a, b, ys, rx.str_, rfl, .inr hq, hl, fin⟩
          · cases h0
        · rw [if_neg hl] at hf; cases hf
    · cases hf
  · cases hf
end
end Mi

namespace Mi
open PySem PySem.Spec PyProof.Rows L2

/-- what is written of an own exception class whose __init__ says super().__init__(text) first -/
structure ExcF (K : PySem.W.Frag) (prog : Program) (C fI cc : Addr) (qual : Str) (params : Arguments) (body : List Stmt) (scope : Scope) : Prop where
  ox : OexC K C
  init : PySem.W.findIn K (.ref C) "__init__" = some (some (.ref fI))
  tI : PySem.W.typeIn K (.ref fI) = some (.type "function")
  fn : ∃ (oc : Value) (od : Option Addr) (kV doc pm : Value) (an : Option Addr) (cda : Addr) (ct : Value) (osl : Array (Option Value)) (vs : Array Value) (file : Str) (tf : Tok) (ccl : Value) (cdd : Option Addr) (ccs : Array (Option Value)),
    K.lookup fI = some ⟨oc, od, .func (PySem.W.fnX "__init__" qual params body scope [("__class__", cc)] .none kV doc pm an (.ref cda) ct), osl⟩ ∧ PySem.W.codeIn K (.ref cda) qual = true ∧ K.lookup cda = some ⟨ccl, cdd, .fields vs, ccs⟩ ∧
      vs[2]? = some (.str file tf) ∧ ((prog.main.file : Str) == file) = true
  cell : ∃ (cl : Value) (cld : Option Addr) (csl : Array (Option Value)), K.lookup cc = some ⟨cl, cld, .cell (some (.ref C)), csl⟩
  sub : PySem.W.mroIn K C (.ref C) = some true
  meth : PySem.W.ks_superIn K C C "__init__" = some (some (.builtin "ValueError.__init__"))
  subV : PySem.W.subIn K (.ref C) (.type "ValueError") = some true
  tp : PySem.W.nsIn K cStatics "thirdparty.any" = some none
  top : (prog.main.scope.names.lookup ("super" : Str)).isSome = false

section
variable {X : Cx} {pins : List (Addr × Obj)} {σ : L2.St} {H : Hp} {s : Shared} {a C u : Addr} {A : Around}
/-- the bound built-in __init__, called: nothing of it is told -/
theorem mw_call {us : List Value} {Q : Value → Shared → Prop} {E : Value → Shared → Prop} (T : OexC X.K C) (I : Inv X pins σ H s) (e : H a = some (exo a C none)) (hu : s.heap.get? u = some (PySem.W.kxs_mw "ValueError.__init__" a)) (hl : us.length ≤ sizeLine)
    (h : ∀ s', Inv X pins σ H s' → Q .none s') : wpAny (model X.prog X.w) A (call (.ref u) us) Q E s := by
  obtain ⟨nm, q, N, bs, bm, sn, sub, ab, col, dd, k0, k1, k2, k3, k5, hC, hbm⟩ := T.cls
  obtain ⟨t1, ho⟩ := exo_at I.hok e
  obtain ⟨hp, g, d, t, os⟩ := s
  have hCh := I.kIn _ _ hC
  refine wpAny_call (codeAny_of_tree ?_)
  show wpAny _ A.in1 (callAny (.ref u) ⟨us, []⟩) _ _ _
  simp only [callAny]
  refine wpAny_bind (wpAny_load hu ?_)
  simp only [PySem.W.kxs_mw, show (Value.type "method-wrapper" == Value.type "method" || Value.type "method-wrapper" == Value.type "builtin_function_or_method" || Value.type "method-wrapper" == Value.type "method-wrapper") = true by decide, if_true]
  refine PySem.W.KFB.if_so (by decide) ?_
  refine wpAny_bind (PySem.W.check_bound_init F.excBase_ValueError.toExcCallFacts hCh ho rfl ?_)
  refine wpAny_bind (wpAny_pure (wpAny_pure ?_))
  refine ⟨PySem.plainId_quiet F.excBase_ValueError.init.plain _, codeAny_builtin F.excBase_ValueError.initEntry ?_⟩
  refine PySem.W.exc_init_tree (cls := .ref C) (t0 := t1) (dv := none) (c2 := .none) (c3 := .none) (b4 := .bool false) ho hl fun h' k e' t' => ?_
  have J := I.write (t' := t) (x := a) (e := a) (o := exo a C none) (by rw [e]; exact True.intro) (.inl rfl) k ⟨_, e'⟩ (exo_ok e')
  have eu : upd H a (exo a C none) = H := by
    funext b
    by_cases hb : b = a
    · rw [hb, upd_same, e]
    · rw [upd_ne hb]
  rw [eu] at J
  exact h _ J
end
/-! ### the __init__ -/
section
variable {P : Program} {w : World} {K : PySem.W.Frag} {mg : Str → Option Value} {base : Heap} {C fI cc : Addr} {qual : Str} {params : Arguments} {body : List Stmt} {scope : Scope}
theorem xf_find {K : PySem.W.Frag} {C D : Addr} {n : Str} {v : Value} (h : PySem.W.ks_superIn K C D n = some (some v)) : ∃ cd, PySem.W.clsIn K C = some cd ∧ PySem.W.alongIn K n ((cd.mro.dropWhile (· != .ref D)).drop 1) = some (some v) := by
  unfold PySem.W.ks_superIn at h
  cases hc : PySem.W.clsIn K C with
  | none => rw [hc] at h; cases h
  | some cd => rw [hc] at h; exact ⟨cd, rfl, h⟩
open NdefX in
/-- the first statement of the __init__, then the rest -/
theorem xin_ok {z self : Str} {j k : Nat} {ps : List Str} {p0 p1 p2 p3 p4 p5 : Pos} {rest : List Stmt} {N : List Str} {ts : Addr → TS} {sp : Sp}
    (F : ExcF K P C fI cc qual params body scope) (hbody : body = .Expr (.Call (.Attribute (.Call (.Name "super" p0) [] [] p1) "__init__" p2) [.Constant (.str z) j p3] [] p4) p5 :: rest)
    (hev : ∀ env : PySem.Env, eval (.Call (.Attribute (.Call (.Name "super" p0) [] [] p1) "__init__" p2) [.Constant (.str z) j p3] [] p4) env = (do
      let ov ← attributeBase (.Call (.Name "super" p0) [] [] p1) "__init__" env (eval (.Call (.Name "super" p0) [] [] p1) env)
      standAt p2.atName
      let (f, first) ← holding [ov] (getMethod ov "__init__" (do return (← importBound (.Call (.Name "super" p0) [] [] p1) env).getD true))
      callWith p4 f first (backTo p4 (starEach [.Constant (.str z) j p3] env)) []))
    (S : NScope N (self :: ps) ["__class__"] scope) (hks : scope.names.lookup ("super" : Str) = some .globalImplicit) (hpar : ∃ ar, (params.posonlyargs ++ params.args).head? = some ar ∧ ar.arg = self)
    (hm : mg "super" = none)
    (len : ∀ vs H Q E, sp vs H Q E → vs.length = (self :: ps).length)
    (hsp : ∀ vs H Q E, sp vs H Q E → ∃ a us, vs = .ref a :: us ∧ H a = some (exo a C none) ∧ ts a { nx := fun _ H' => Q .non H', rt := Q } (startF N vs [some (.ref C)]) H)
    (hrest : ∀ (X : Cx) (a : Addr), X.K = K → X.N = N → X.env.scope = scope → PSs X rest (ts a))
    (hbn : ∀ (kV doc pm : Value) (an : Option Addr) (cdv ct : Value) (us : List Value), us.length = (self :: ps).length → bindArgs (PySem.W.fnX "__init__" qual params body scope [("__class__", cc)] .none kV doc pm an cdv ct) ⟨us, []⟩ = pure ((self :: ps).zip us)) :
    ∃ fd : FuncData, FnOk P w K mg base (L2.CX P w) (k + 1) fI fd (self :: ps) sp ∧ Binds K fd (self :: ps) [] := by
  obtain ⟨oc, od, kV, doc, pm, an, cda, ct, osl, vs0, file, tf, ccl, cdd, ccs, lk, hcd, lc, hvs, hfile⟩ := F.fn
  obtain ⟨cl, cld, csl, lcc⟩ := F.cell
  obtain ⟨ar, hp, har⟩ := hpar
  refine ⟨_, ⟨len, fun A outer s H args us vs Q E hr e0 hb r hs => ?_⟩, Binds.all (hbn kV doc pm an (.ref cda) ct)⟩
  have hl := len _ _ _ _ hs
  have KX : K.In s.heap := e0.mod.kin.keeps fun b o e => (e0.bs b o e).1
  have lim : s.heap.NoLimit := e0.mod.nolimit.keeps fun b o e => (e0.bs b o e).1
  refine codeAny_call_function hr.depth (KX _ _ lk) rfl S.co S.gen rfl (PySem.W.codeRec_of KX hcd) (hb _ _ _ _ ?_)
  refine wpAny_newFunctionEnv S.nocell (fun ⟨n, _⟩ hy => S.par n (List.of_mem_zip hy).1) (fun h₁ hns hsb => ⟨lim.fresh _ hsb, ?_⟩) S.kind
  have kp : ∀ b o, s.heap.get? b = some o → h₁.get? b = some o := fun b o e => hsb.extBut b o (Nat.ne_of_lt (Heap.lt_size e)) (Heap.get?_push_of_some _ e)
  let NFi : NF := ⟨"__init__", qual, params, body, scope, [("__class__", cc)], cda⟩
  show codeAny _ _ (.func body (envF NFi fI s.heap.objs.size)) _ _
  refine PySem.ks_codeAny_funcAt ?_
  obtain ⟨a, us', ev, ea, hts⟩ := hsp _ _ _ _ hs
  subst ev
  obtain ⟨ua, ur, rfl⟩ : ∃ ua ur, us = ua :: ur := by
    cases r with
    | cons => exact ⟨_, _, rfl⟩
  obtain rfl : ua = Value.ref a := by
    cases r with
    | cons h _ => exact h
  have hCb := e0.mod.kin _ _ lcc
  have CA : CellsAt NFi.cl ["__class__"] [some (.ref C)] s.heap H := by
    refine ⟨rfl, fun y c e => ?_, fun x y c e1 e2 => ?_, fun i y e => ?_⟩
    · have e' : List.lookup y [(("__class__" : Str), cc)] = some c := e
      simp only [List.lookup] at e'
      split at e'
      · cases e'
        exact ⟨(e0.bs _ _ hCb).2, _, _, (e0.bs _ _ hCb).1, rfl⟩
      · cases e'
    · have e1' : List.lookup x [(("__class__" : Str), cc)] = some c := e1
      have e2' : List.lookup y [(("__class__" : Str), cc)] = some c := e2
      simp only [List.lookup] at e1' e2'
      split at e1'
      · split at e2'
        · rename_i q1 _ q2
          rw [beq_iff_eq] at q1 q2
          rw [q1, q2]
        · cases e2'
      · cases e1'
    · cases i with
      | zero =>
        have e' : (some ("__class__" : Str)) = some y := e
        cases e'
        exact ⟨cc, rfl, fun v ev => by
          have : v = .ref C := by cases ev; rfl
          subst this
          exact ⟨.ref C, rfl, _, (e0.bs _ _ hCb).1, rfl⟩⟩
      | succ i => cases e
  have I : Inv (ncx (L2.CX P w) P w K mg base N NFi fI A outer s H E) [] (startF N (.ref a :: us') [some (.ref C)]) H { s with heap := h₁, toks := s.toks + ((self :: ps).zip (.ref a :: ur)).length } := inv_startN S hr.hd e0 hl r CA hns kp
  have T := F.ox
  obtain ⟨nm, q, Nn, bs, bm, sn, sub, ab, col, dd, k0, k1, k2, k3, k5, hC, hbm⟩ := T.cls
  obtain ⟨cd, hcl, hal⟩ := xf_find F.meth
  have X1 : K.In h₁ := I.kIn
  obtain ⟨t1, hoe⟩ := exo_at I.hok ea
  have IA : PySem.W.InstAt h₁ a _ C none := ⟨hoe, rfl, rfl, trivial⟩
  have hcc : h₁.get? cc = some ⟨cl, cld, .cell (some (.ref C)), csl⟩ := X1 _ _ lcc
  rw [hbody]
  refine PySem.ks_wpAt_execs_cons (PySem.ks_wpAt_Expr_any (PySem.ks_wpAt_MethodCall (he := hev _) ?_) (hi := by unfold interactive; rw [show (envF NFi fI s.heap.objs.size).scope.kind = .function from S.kind]; rfl))
  refine PySem.ks_wpAt_super_base (env := envF NFi fI s.heap.objs.size) hks (S.frk _ (List.mem_singleton.mpr rfl)) (by decide) rfl (X1 _ _ lk) rfl hp rfl (X1 _ _ lc) rfl hvs hfile F.top ?_
  obtain ⟨mb, hmb1, hmb2⟩ := e0.mod.blt
  refine PySem.W.ks_loadName_global S.kind hks (PySem.Calls.loadGlobal_builtin (env := envF NFi fI s.heap.objs.size) (e0.mod.glob.keeps I.bk) hm (hmb1.keeps I.bk) ((hmb2 _ (by decide +kernel)).trans PyProof.Rows.Boot.«super») ⟨rfl, ?_⟩)
  refine wpAny_loadName_free S.kind (S.frk _ (List.mem_singleton.mpr rfl)) rfl ⟨_, hcc, rfl⟩ ?_
  refine wpAny_loadName_local S.kind (by rw [har]; exact S.par _ (List.mem_cons_self ..)) hns (v := .ref a) ?_ ?_
  · rw [har]
    have nd := S.nd.sublist (List.take_sublist ((self :: ps).length + [("__class__" : Str)].length) N)
    rw [S.pre] at nd
    exact zip_look (i := 0) (List.nodup_append.mp nd).1 rfl rfl
  have hCh := X1 _ _ hC
  refine PySem.ks_wpAny_isType_cls hCh rfl ⟨rfl, ?_⟩
  refine PySem.ks_wpAny_call_super hCh rfl hoe rfl (fun c e => by cases e) (PySem.W.looks_mroIn X1 F.sub) (fun h2 e2 k2 => ?_)
  have I2 := I.kept (t' := s.toks + ((self :: ps).zip (.ref a :: ur)).length) k2
  have X2 : K.In h2 := I2.kIn
  obtain ⟨t2, hoe2⟩ := exo_at I2.hok ea
  have IA2 : PySem.W.InstAt h2 a _ C none := ⟨hoe2, rfl, rfl, trivial⟩
  have hI2 : PySem.W.Looks (model P w) h2 (isInstance (.ref a) (.type "ValueError")) true := IA2.type.andThen (PySem.W.looks_subIn X2 F.subV)
  refine PySem.W.kxs_getMethod PySem.W.kxs_ValueError e2 (PySem.W.looks_opaque X2 F.tp) (l₀ := cd.mro) ?_ rfl X2 hal hI2 (PySem.W.ks_ne X2 IA2 hcl) (by decide) ?_
  · exact fun A Q E s k q => wpAny_bind ((PySem.W.looks_clsIn X2 hcl) A _ E s k (wpAny_pure q))
  refine PySem.W.kxs_callWith (i := "ValueError.__init__") (x := a) rfl ?_
  refine PySem.Calls.evalArgs_plain (PySem.Calls.spliced_cons (PySem.Calls.Constant_str (x := z) (k := j) (pos := p3) (env := envF NFi fI s.heap.objs.size) (PySem.Calls.spliced_nil ⟨Heap.get?_push_size _ rfl, ?_⟩)))
  have I3 := I2.kept (h' := h2.push (PySem.W.kxs_mw "ValueError.__init__" a)) (t' := s.toks + ((self :: ps).zip (.ref a :: ur)).length + 1 + 1) fun b o e => Heap.get?_push_of_some _ e
  refine mw_call (X := ncx (L2.CX P w) P w K mg base N NFi fI A outer s H E) T I3 ea (Heap.get?_push_size _ rfl) (by rw [sizeLine_eq]; simp) fun s' J => ?_
  refine PySem.wpAt_of_wpAny (wpAny_mono ((hrest (ncx (L2.CX P w) P w K mg base N NFi fI A outer s H E) a rfl rfl rfl).run [] s' _ H _ J hts) (fun fl s2 hs => ?_) fun e s2 hs => hs)
  have fin : ∀ {σ' : L2.St} {H' : Hp} {v : V} {u : Value}, L2.Inv (ncx (L2.CX P w) P w K mg base N NFi fI A outer s H E) [] σ' H' s2 → L2.RelV v u → Q v H' → L2.CE outer P w H s Q u s2 :=
    fun {σ' H' v u} J rv q => ⟨v, H', J.os, J.bare, J.base, J.hok, rv, q⟩
  cases fl with
  | ret u =>
    obtain ⟨v, σ', H', J, rv, q⟩ := hs
    exact fin J rv q
  | next =>
    obtain ⟨σ', H', J, q⟩ := hs
    exact fin (v := V.non) (u := Value.none) J rfl q
  | brk =>
    obtain ⟨_, _, _, q⟩ := hs
    exact False.elim q
  | cont =>
    obtain ⟨_, _, _, q⟩ := hs
    exact False.elim q
end
end Mi

namespace Mi
open PySem PySem.Spec PyProof.Rows L2 NdefX

/-- what an __init__ promises that lays the fields fs, in their order -/
def spIni (C : Addr) (n : Nat) (fl : List V → List (Str × V)) : Sp := fun vs H Q _ => ∃ a ws, vs = .ref a :: ws ∧ ws.length = n ∧ H a = some (exo a C none) ∧
  ∀ dx, H dx = none → dx ≠ a → Q .non (upd (upd H dx (exd dx (fl ws))) a (exo a C (some dx)))
/-- the expression super().__init__(z) -/
abbrev supE (z : Str) (j : Nat) (p0 p1 p2 p3 p4 : Pos) : Expr := .Call (.Attribute (.Call (.Name "super" p0) [] [] p1) "__init__" p2) [.Constant (.str z) j p3] [] p4
/-- how it runs: at a written place this is rfl -/
def SupEv (z : Str) (j : Nat) (p0 p1 p2 p3 p4 : Pos) : Prop := ∀ env : PySem.Env, eval (supE z j p0 p1 p2 p3 p4) env = (do
      let ov ← attributeBase (.Call (.Name "super" p0) [] [] p1) "__init__" env (eval (.Call (.Name "super" p0) [] [] p1) env)
      standAt p2.atName
      let (f, first) ← holding [ov] (getMethod ov "__init__" (do return (← importBound (.Call (.Name "super" p0) [] [] p1) env).getD true))
      callWith p4 f first (backTo p4 (starEach [.Constant (.str z) j p3] env)) [])
section
variable {P : Program} {w : World} {K : PySem.W.Frag} {mg : Str → Option Value} {base : Heap} {C fI cc : Addr} {qual : Str} {params : Arguments} {body : List Stmt} {scope : Scope}
theorem ini1 {z self p f : Str} {j k : Nat} {p0 p1 p2 p3 p4 p5 q1 q2 q3 q4 : Pos}
    (F : ExcF K P C fI cc qual params body scope) (hbody : body = [.Expr (supE z j p0 p1 p2 p3 p4) p5, .Assign [.Attribute (.Name self q1) f q2] (.Name p q3) q4]) (hev : SupEv z j p0 p1 p2 p3 p4)
    (S : NScope [self, p, "__class__"] [self, p] ["__class__"] scope) (hks : scope.names.lookup ("super" : Str) = some .globalImplicit) (hpar : ∃ ar, (params.posonlyargs ++ params.args).head? = some ar ∧ ar.arg = self)
    (hm : mg "super" = none) (hno : PySem.W.findIn K (.ref C) f = some none)
    (d1 : (self == ("__debug__" : Str)) = false) (d2 : (p == ("__debug__" : Str)) = false) (d3 : (self == ("__classdict__" : Str)) = false) (d4 : (p == ("__classdict__" : Str)) = false)
    (hbn : ∀ (kV doc pm : Value) (an : Option Addr) (cdv ct : Value) (us : List Value), us.length = [self, p].length → bindArgs (PySem.W.fnX "__init__" qual params body scope [("__class__", cc)] .none kV doc pm an cdv ct) ⟨us, []⟩ = pure ([self, p].zip us)) :
    ∃ fd : FuncData, FnOk P w K mg base (L2.CX P w) (k + 1) fI fd [self, p] (spIni C 1 fun ws => [(f, ws.getD 0 .non)]) ∧ Binds K fd [self, p] [] := by
  refine xin_ok (ts := fun _ => tOst K f (tVar 0) (tVar 1)) F hbody hev S hks hpar hm (fun vs H Q E h => ?_) (fun vs H Q E h => ?_) (fun X a eK eN eS => ?_) hbn
  · obtain ⟨a, ws, rfl, hl, _⟩ := h
    simp [hl]
  · obtain ⟨a, ws, rfl, hl, ha, hq⟩ := h
    obtain ⟨v, rfl⟩ : ∃ v, ws = [v] := match ws, hl with | [v], _ => ⟨v, rfl⟩
    exact ⟨a, [v], rfl, ha, v, rfl, .ref a, rfl, a, C, rfl, F.ox, hno, .inl ⟨ha, fun dx n ne => hq dx n ne⟩⟩
  · subst eK eS
    have l0 : X.N[0]? = some self := by rw [eN]; rfl
    have l1 : X.N[1]? = some p := by rw [eN]; rfl
    exact pss_one (ps_ost (pe_var l0 (.inl (S.par _ (List.mem_cons_self ..))) d1 d3) (pe_var l1 (.inl (S.par _ (List.mem_cons_of_mem _ (List.mem_cons_self ..)))) d2 d4))
/-- an own exception class x that may be raised with n arguments; fl: its fields from them -/
structure Rsb (P : Program) (w : World) (K : PySem.W.Frag) (mg : Str → Option Value) (base : Heap) (k : Nat) (x : Str) (n : Nat) (fl : List V → List (Str × V)) : Prop where
  ex : ∃ (C fI : Addr) (fd : FuncData) (ps : List Str), OexC K C ∧ PySem.W.findIn K (.ref C) "__init__" = some (some (.ref fI)) ∧ PySem.W.typeIn K (.ref fI) = some (.type "function") ∧
    FnOk P w K mg base (L2.CX P w) k fI fd ps (spIni C n fl) ∧ Binds K fd ps [] ∧ mg x = some (.ref C)
theorem Rsb.mono {j k n : Nat} {x : Str} {fl : List V → List (Str × V)} (c : Rsb P w K mg base j x n fl) (h : j ≤ k) : Rsb P w K mg base k x n fl := let ⟨C, fI, fd, ps, a, b, c, d, e⟩ := c.ex; ⟨C, fI, fd, ps, a, b, c, d.mono h, e⟩
end
/-- raise x(..): the fields fs get the arguments (in the order of the dict's making, the last one first) -/
def sRaise (x : Str) (n : Nat) (fl : List D → List (Str × D)) (a : MA) : MS := fun env S => RS.of (a env S) env fun ds S1 => if ds.length = n then .ex ⟨x, fl ds⟩ env S1 else .no
/-- the fields are told alike of V's and D's -/
def Flds (n : Nat) (fv : List V → List (Str × V)) (fd : List D → List (Str × D)) : Prop := ∀ (K : PySem.W.Frag) (as : List Addr) (H : Hp) (vs : List V) (ds : List D), Rvs K as H vs ds → ds.length = n → (fv vs).map (·.1) = (fd ds).map (·.1) ∧ Rvs K as H ((fv vs).map (·.2)) ((fd ds).map (·.2))
theorem flds1 {f : Str} : Flds 1 (fun ws => [(f, ws.getD 0 .non)]) (fun ds => [(f, ds.getD 0 .non)]) := fun K as H vs ds r hl => by
  obtain ⟨d, rfl⟩ : ∃ d, ds = [d] := match ds, hl with | [d], _ => ⟨d, rfl⟩
  cases r with
  | cons h t => cases t; exact ⟨rfl, .cons h .nil⟩
section
variable {X : Cx} {W : WX}
theorem sm_raise {k j n : Nat} {x : Str} {fv : List V → List (Str × V)} {fd : List D → List (Str × D)} {e : Expr} {es : List Expr} {a : MA} {p pos pos' : Pos} (c : Rsb X.prog X.w X.K X.mg X.base k x n fv) (hf : Flds n fv fd) (hn : n ≤ 1000) (hr : Room j X.A) (tk : Takes X W) (hc : X.calm = true)
    (ha : AM X W (e :: es) a) (hk : k + 1 ≤ j := by decide) (hg : Gl X x := by rfl) (hdb : (x == ("__debug__" : Str)) = false := by decide)
    (he : starEach (e :: es) X.env = (false, eval e X.env) :: starEach es X.env := by rfl) (hpl : (backTo pos (starEach es X.env)).any (·.1) = false := by rfl) :
    SM X W (.Raise (some (.Call (.Name x p) (e :: es) [] pos)) none pos') (sRaise x n fd a) := by
  obtain ⟨C, fI, fD, ps, T, iC, tI, F, hb, hm⟩ := c.ex
  refine ⟨ps_imp (ps_raise hc tk (pmk_oex (CX := L2.CX X.prog X.w) T iC tI F (hr.mono hk) hb .nil (fun _ _ _ _ _ _ _ h => by obtain ⟨_, _, _, _, _, _, _, _, _, _, _, _, z⟩ := h; exact z.elim) hg hm ha.pa hdb he hpl)) fun Dn σ H q => ?_⟩
  refine tS_of (f := fun env (ds : List D) S1 => if ds.length = n then .ex ⟨x, fd ds⟩ env S1 else .no) q fun as env ds S1 as1 H1 vs re rel rvs g => ?_
  by_cases hl : ds.length = n
  · rw [if_pos hl] at g
    have hlv : vs.length = n := by rw [rvs.len, hl]
    refine ⟨by omega, fun a na => ?_⟩
    rw [List.append_nil]
    refine ⟨a, vs, rfl, hlv, upd_same, fun dx nd ne => ⟨rfl, dx, fv vs, upd_same, ?_, ?_, ?_⟩⟩
    · rw [upd_ne ne, upd_same]
    · rw [upd_ne ne] at nd; exact nd
    · have nd' : H1 dx = none := by rw [upd_ne ne] at nd; exact nd
      have eH : upd (del (upd (upd (upd H1 a (exo a C none)) dx (exd dx (fv vs))) a (exo a C (some dx))) a) dx (.xd (fv vs)) = upd H1 dx (.xd (fv vs)) := by
        funext b
        by_cases hbd : b = dx
        · rw [hbd, upd_same, upd_same]
        · rw [upd_ne hbd, upd_ne hbd]
          by_cases hba : b = a
          · rw [hba, del_same, na]
          · rw [del_ne hba, upd_ne hba, upd_ne hbd, upd_ne hba]
      rw [eH]
      have hex : Ex X.K as1 H1 as1 (upd H1 dx (.xd (fv vs))) := Ex.fresh nd'
      refine g as1 _ σ (.ref C) (some dx) hex (rel.fresh nd') (re.mono hex) ?_
      obtain ⟨f1, f2⟩ := hf X.K as1 _ vs ds (rvs.mono hex) hl
      exact ⟨C, dx, fv vs, rfl, hm, rfl, upd_same, f1, f2⟩
  · rw [if_neg hl] at g; exact g.elim
end
end Mi

namespace Mi
open PySem PySem.Spec PyProof.Rows L2

/-! ### except suites -/
/-- the caught exception e, at slot i -/
def Known (K : PySem.W.Frag) (mg : Str → Option Value) (a : Addr) (cls : Value) (dd : Option Addr) (i : Nat) (as : List Addr) (H : Hp) (σ : L2.St) (e : Xn) : Prop := σ[i]? = some (some (.ref a)) ∧ Rx K mg as H cls dd e
theorem Rx.mono_same {K : PySem.W.Frag} {mg : Str → Option Value} {as as' : List Addr} {H H' : Hp} {cls : Value} {dd : Option Addr} {e : Xn} (x : Ex K as H as' H') (h : ∀ b o, H b = some o → H' b = some o) (r : Rx K mg as H cls dd e) : Rx K mg as' H' cls dd e := by
  obtain ⟨C, d, fs, h1, h2, h3, h4, h5, h6⟩ := r
  exact ⟨C, d, fs, h1, h2, h3, h _ _ h4, h5, h6.mono x⟩
abbrev W0 : WX := fun _ _ _ _ => False
section
variable (X : Cx) (a : Addr) (cls : Value) (dd : Option Addr) (i : Nat)
structure XP (e : Expr) (g : Xn → Option D) : Prop where
  ex : ∃ te : TE, PE X e te ∧ ∀ (as : List Addr) (S : Sto) (H : Hp) (σ : L2.St) (en : Xn) (d : D) (Q : VK), Rel X.K as S H → Known X.K X.mg a cls dd i as H σ en → g en = some d →
    (∀ H' v, Ex X.K as H as H' → (∀ b o, H b = some o → H' b = some o) → Rel X.K as S H' → Rv X.K as H' v d → Q v H') → te σ H Q
structure XPs (es : List Expr) (g : Xn → Option (List D)) : Prop where
  ex : ∃ ta : TA, PA X es ta ∧ ∀ (as : List Addr) (S : Sto) (H : Hp) (σ : L2.St) (en : Xn) (d : List D) (Q : List V → Hp → Prop), Rel X.K as S H → Known X.K X.mg a cls dd i as H σ en → g en = some d →
    (∀ H' v, Ex X.K as H as H' → (∀ b o, H b = some o → H' b = some o) → Rel X.K as S H' → Rvs X.K as H' v d → Q v H') → ta σ H Q
def tSX (m : Xn → MS) : TS := fun Dn σ H => ∃ as env S e, Re X.K as H σ env ∧ Rel X.K as S H ∧ Known X.K X.mg a cls dd i as H σ e ∧ GoS X.K X.mg W0 (m e env S) as H Dn
structure SX (st : Stmt) (m : Xn → MS) : Prop where
  ps : PS X st (tSX X a cls dd i m)
structure BX (st : List Stmt) (m : Xn → MS) : Prop where
  ps : PSs X st (tSX X a cls dd i m)
end
section
variable {X : Cx} {a : Addr} {cls : Value} {dd : Option Addr} {i : Nat}
theorem xp_of {e : Expr} {v : V} {d : D} (h : PE X e (tC v)) (r : ∀ as H, Rv X.K as H v d) : XP X a cls dd i e (fun _ => some d) :=
  ⟨_, h, fun as S H σ en d' Q rel kn e hq => by cases e; exact hq H v Ex.refl (fun _ _ h => h) rel (r as H)⟩
theorem xp_int {n : Int} {j : Nat} {pos : Pos} : XP X a cls dd i (.Constant (.int n) j pos) (fun _ => some (.int n)) := xp_of pe_int fun _ _ => .int n
theorem xp_str {x : Str} {j : Nat} {pos : Pos} : XP X a cls dd i (.Constant (.str x) j pos) (fun _ => some (.str x)) := xp_of pe_str fun _ _ => .str x
theorem xp_bl {b : Bool} {j : Nat} {pos : Pos} : XP X a cls dd i (.Constant (.bool b) j pos) (fun _ => some (.bl b)) := xp_of pe_bl fun _ _ => .bl b
theorem xp_non {j : Nat} {pos : Pos} : XP X a cls dd i (.Constant .none j pos) (fun _ => some .non) := xp_of pe_non fun _ _ => .non
theorem xps_nil : XPs X a cls dd i [] (fun _ => some []) := ⟨_, pa_nil, fun as S H σ en d Q rel kn e hq => by cases e; exact hq H [] Ex.refl (fun _ _ h => h) rel .nil⟩
theorem xps_cons {e : Expr} {es : List Expr} {g : Xn → Option D} {r : Xn → Option (List D)} (h : XP X a cls dd i e g) (hr : XPs X a cls dd i es r) (hs : starEach (e :: es) X.env = (false, eval e X.env) :: starEach es X.env := by rfl) :
    XPs X a cls dd i (e :: es) (fun en => (g en).bind fun d => (r en).map fun ds => d :: ds) := by
  obtain ⟨te, p1, h1⟩ := h.ex
  obtain ⟨ta, p2, h2⟩ := hr.ex
  refine ⟨_, pa_cons p1 p2 hs, fun as S H σ en d Q rel kn e hq => ?_⟩
  cases e1 : g en with
  | none => rw [e1] at e; cases e
  | some d1 =>
    cases e2 : r en with
    | none => rw [e1, e2] at e; cases e
    | some ds =>
      rw [e1, e2] at e
      cases e
      refine h1 as S H σ en d1 _ rel kn e1 fun H1 v x1 k1 r1 v1 => ?_
      refine h2 as S H1 σ en ds _ r1 ⟨kn.1, kn.2.mono_same x1 k1⟩ e2 fun H2 vs x2 k2 r2 v2 => ?_
      exact hq H2 (v :: vs) (x1.trans x2) (fun b o h => k2 b o (k1 b o h)) r2 (.cons (v1.mono x2) v2)
theorem xp_tup {es : List Expr} {g : Xn → Option (List D)} {k : Nat} {pos : Pos} (h : XPs X a cls dd i es g) : XP X a cls dd i (.Tuple es k pos) (fun en => (g en).bind fun ds => if ds.length ≤ sizeLine then some (.tup ds) else none) := by
  obtain ⟨ta, p, h1⟩ := h.ex
  refine ⟨_, pe_tup p, fun as S H σ en d Q rel kn e hq => ?_⟩
  cases e1 : g en with
  | none => rw [e1] at e; cases e
  | some ds =>
    rw [e1] at e
    have e' : (if ds.length ≤ sizeLine then some (D.tup ds) else none) = some d := e
    split at e'
    · rename_i hl
      cases e'
      refine h1 as S H σ en ds _ rel kn e1 fun H1 vs x1 k1 r1 v1 => ⟨by rw [v1.len]; exact hl, fun p hp => ?_⟩
      exact hq _ _ (x1.trans (Ex.fresh hp)) (fun b o q => by rw [upd_ne (ne_of_none (k1 b o q) hp)]; exact k1 b o q) (r1.fresh hp) (.tup (SqT.of upd_same) (v1.mono (Ex.fresh hp)))
    · cases e'
/-- the field f is there to be read at these classes -/
structure Xfk (K : PySem.W.Frag) (mg : Str → Option Value) (f : Str) (l : List Str) : Prop where
  ok : ∀ y ∈ l, ∀ C, mg y = some (.ref C) → XfC K C ∧ PySem.W.findIn K (.ref C) f = some none
theorem lookup_rv {K : PySem.W.Frag} {as : List Addr} {H : Hp} {f : Str} : ∀ {fs : List (Str × V)} {ds : List (Str × D)} {d : D}, fs.map (·.1) = ds.map (·.1) → Rvs K as H (fs.map (·.2)) (ds.map (·.2)) → ds.lookup f = some d → ∃ v, fs.lookup f = some v ∧ Rv K as H v d
  | [], [], _, _, _, e => by cases e
  | [], _ :: _, _, h, _, _ => by cases h
  | _ :: _, [], _, h, _, _ => by cases h
  | (n, v) :: fs, (n', d') :: ds, d, h, r, e => by
    simp only [List.map_cons, List.cons.injEq] at h
    obtain ⟨h1, h2⟩ := h
    subst h1
    cases r with
    | cons r1 r2 =>
      simp only [List.lookup] at e ⊢
      split at e
      · cases e; exact ⟨v, rfl, r1⟩
      · exact lookup_rv h2 r2 e
end
section
variable {X : Cx} {a : Addr} {cls : Value} {dd : Option Addr} {i : Nat} {oe : Obj} {pn : List (Addr × Obj)}
theorem xp_f {f x : Str} {l : List Str} {p pos : Pos} (T : Xfk X.K X.mg f l) (hz : Zc cls dd oe) (hf : ∃ vs, oe.data = .fields vs) (hN : X.N[i]? = some x := by rfl) (hv : Vis X.env.scope x := by first | exact Or.inl rfl | exact Or.inr (Or.inl rfl) | exact Or.inr (Or.inr rfl))
    (hd : (x == ("__debug__" : Str)) = false := by decide) (hcd : (x == ("__classdict__" : Str)) = false := by decide)
    (hb : attributeBase (.Name x p) f X.env (eval (.Name x p) X.env) = eval (.Name x p) X.env := by rfl) :
    XP (X.suite a ((a, oe) :: pn)) a cls dd i (.Attribute (.Name x p) f pos) (fun en => if en.cls ∈ l then en.fs.lookup f else none) := by
  by_cases hC : ∃ C, cls = .ref C ∧ XfC X.K C ∧ PySem.W.findIn X.K (.ref C) f = some none
  · obtain ⟨C, rfl, h1, h2⟩ := hC
    refine ⟨_, pe_xf h1 h2 hz hf (pe_var (X := X.suite a ((a, oe) :: pn)) hN hv hd hcd) hb, fun as S H σ en d Q rel kn e hq => ?_⟩
    by_cases hm : en.cls ∈ l
    · rw [if_pos hm] at e
      obtain ⟨e1, C', d', fs, e2, e3, e4, e5, e6, e7⟩ := kn
      obtain ⟨v, l1, l2⟩ := lookup_rv e6 e7 e
      exact ⟨.ref a, e1, rfl, rfl, d', fs, v, e4, e5, l1, hq H v Ex.refl (fun _ _ h => h) rel l2⟩
    · rw [if_neg hm] at e; cases e
  · refine ⟨fun _ _ _ => False, ⟨fun _ _ _ _ _ _ h => h.elim⟩, fun as S H σ en d Q rel kn e hq => ?_⟩
    by_cases hm : en.cls ∈ l
    · obtain ⟨e1, C', d', fs, e2, e3, e4, e5, e6, e7⟩ := kn
      obtain ⟨h1, h2⟩ := T.ok _ hm C' e3
      exact hC ⟨C', e2, h1, h2⟩
    · rw [if_neg hm] at e; cases e
end
section
variable {X : Cx} {a : Addr} {cls : Value} {dd : Option Addr} {i : Nat}
theorem sx_sm {st : Stmt} {m : MS} (h : SM X W0 st m) : SX X a cls dd i st (fun _ => m) := ⟨ps_imp h.ps fun Dn σ H ⟨as, env, S, e, re, rel, kn, g⟩ => ⟨as, env, S, re, rel, g⟩⟩
theorem bx_bm {st : List Stmt} {m : MS} (h : BM X W0 st m) : BX X a cls dd i st (fun _ => m) := ⟨pss_imp h.ps fun Dn σ H ⟨as, env, S, e, re, rel, kn, g⟩ => ⟨as, env, S, re, rel, g⟩⟩
theorem bx_one {st : Stmt} {m : Xn → MS} (h : SX X a cls dd i st m) : BX X a cls dd i [st] m := ⟨pss_one h.ps⟩
theorem bx_cons {st : Stmt} {rest : List Stmt} {m : Xn → MS} {n : MS} (h : SX X a cls dd i st m) (h2 : BM X W0 rest n) : BX X a cls dd i (st :: rest) (fun e => sSeq (m e) n) :=
  ⟨pss_imp (pss_cons h.ps h2.ps) fun D σ H ⟨as, env, S, e, re, rel, kn, g⟩ => ⟨as, env, S, e, re, rel, kn, GoS.thenS g⟩⟩
def xSet (j : Nat) (g : Xn → Option D) : Xn → MS := fun e env S => match g e with
  | some d => .nx (env.set j (some d)) S
  | none => .no
def xRet (g : Xn → Option D) : Xn → MS := fun e _ S => match g e with
  | some d => .rt d S
  | none => .no
def xSetL (j : Nat) (g : Xn → Option (List D)) : Xn → MS := fun e env S => match g e with
  | some ds => if ds.length ≤ sizeLine then .nx (env.set j (some (.obj S.length))) (S ++ [.lst ds]) else .no
  | none => .no
theorem sx_set (j : Nat) {x : Str} {e : Expr} {g : Xn → Option D} {pos pos' : Pos} (hN : X.N.Nodup) (h : XP X a cls dd i e g) (hi : X.N[j]? = some x := by rfl) (hx : Loc X.env.scope x := by first | exact Or.inl rfl | exact Or.inr rfl)
    (hs : swapsWith e (some (.Name x pos')) pos.line X.env = pure false := by rfl) (hf : X.fn x = true ∨ X.env.scope.names.lookup x = some .local := by first | exact .inl rfl | exact .inr rfl | assumption) :
    SX X a cls dd i (.Assign [.Name x pos'] e pos) (xSet j g) := by
  obtain ⟨te, p, h1⟩ := h.ex
  refine ⟨ps_imp (ps_set hN hi hx p hs hf) fun D σ H ⟨as, env, S, en, re, rel, kn, q⟩ => ?_⟩
  unfold xSet at q
  cases e1 : g en with
  | none => rw [e1] at q; exact q.elim
  | some d =>
    rw [e1] at q
    exact h1 as S H σ en d _ rel kn e1 fun H' v x1 k1 r1 v1 => q as H' _ x1 r1 ((re.mono x1).set v1)
theorem sx_ret {e : Expr} {g : Xn → Option D} {pos : Pos} (h : XP X a cls dd i e g) : SX X a cls dd i (.Return (some e) pos) (xRet g) := by
  obtain ⟨te, p, h1⟩ := h.ex
  refine ⟨ps_imp (ps_ret p) fun D σ H ⟨as, env, S, en, re, rel, kn, q⟩ => ?_⟩
  unfold xRet at q
  cases e1 : g en with
  | none => rw [e1] at q; exact q.elim
  | some d =>
    rw [e1] at q
    exact h1 as S H σ en d _ rel kn e1 fun H' v x1 k1 r1 v1 => q as H' _ x1 r1 v1
theorem sx_setL (j : Nat) {x : Str} {es : List Expr} {g : Xn → Option (List D)} {pos pos' p2 : Pos} (hN : X.N.Nodup) (h : XPs X a cls dd i es g) (hi : X.N[j]? = some x := by rfl) (hx : Loc X.env.scope x := by first | exact Or.inl rfl | exact Or.inr rfl)
    (hs : swapsWith (.List es p2) (some (.Name x pos')) pos.line X.env = pure false := by rfl) (hf : X.fn x = true ∨ X.env.scope.names.lookup x = some .local := by first | exact .inl rfl | exact .inr rfl | assumption) :
    SX X a cls dd i (.Assign [.Name x pos'] (.List es p2) pos) (xSetL j g) := by
  obtain ⟨te, p, h1⟩ := h.ex
  refine ⟨ps_imp (ps_set hN hi hx (pe_lst p) hs hf) fun D σ H ⟨as, env, S, en, re, rel, kn, q⟩ => ?_⟩
  unfold xSetL at q
  cases e1 : g en with
  | none => rw [e1] at q; exact q.elim
  | some ds =>
    rw [e1] at q
    by_cases hl : ds.length ≤ sizeLine
    · simp only [hl, if_true] at q
      refine h1 as S H σ en ds _ rel kn e1 fun H' vs x1 k1 r1 v1 => ⟨by rw [v1.len]; exact hl, fun p hp => ?_⟩
      obtain ⟨r2, x2, e2⟩ := new_lst r1 hp v1
      exact q _ _ _ (x1.trans x2) r2 ((re.mono (x1.trans x2)).set (.obj e2))
    · simp only [hl, if_false] at q
      exact q.elim
end
/-! ### try .. except x as n -/
def unsetEnd (i : Nat) : RS → RS
  | .nx env S => .nx (env.set i none) S
  | .rt d S => .rt d S
  | .bk env S => .bk (env.set i none) S
  | .ct env S => .ct (env.set i none) S
  | _ => .no
def sTryAs (b : MS) (i : Nat) (sub : Str → Option Bool) (su : Xn → MS) : MS := fun env S => match b env S with
  | .ex e env' S' => (match sub e.cls with
    | some true => if i < env'.length then unsetEnd i (su e (env'.set i none) S') else .no
    | some false => .ex e env' S'
    | none => .no)
  | o => o
/-- an except clause that names the class x: which classes it catches -/
structure Exk (K : PySem.W.Frag) (mg : Str → Option Value) (x : Str) (sub : Str → Option Bool) : Prop where
  ex : ∃ C, mg x = some (.ref C) ∧ ∀ y C' b, mg y = some (.ref C') → sub y = some b → PySem.W.exmOne K (.ref C') (.ref C) = some b
section
variable {X : Cx} {W : WX}
theorem sm_try_as {x n : Str} (i : Nat) {body suite : List Stmt} {b₀ : Stmt} {np pos pos' : Pos} {b : MS} {su : Xn → MS} {sub : Str → Option Bool} (T : Exk X.K X.mg x sub) (tk : Takes X W) (hN : X.N.Nodup)
    (hb : ∀ (W : WX) (pn : List (Addr × Obj)) (xe : Value → Shared → Prop), Takes (X.tr pn xe) W → PassesOwn (model X.prog X.w) X.A X.env xe → BM (X.tr pn xe) W body b)
    (hsu : ∀ (a : Addr) (oe : Obj) (cls : Value) (d : Option Addr) (pn : List (Addr × Obj)), Zc cls d oe → (∃ vs, oe.data = .fields vs) → BX (X.suite a ((a, oe) :: pn)) a cls d i (b₀ :: suite) su)
    (hs : X.stack = X.env :: X.outer := by rfl) (hf : X.env.frame = some X.env.locals := by rfl) (hi : X.N[i]? = some n := by rfl) (hln : X.env.kindOf n = some .local := by rfl)
    (hg : Gl X x := by rfl) (hd : (x == ("__debug__" : Str)) = false := by decide) :
    SM X W (.Try body [.ExceptHandler (some (.Name x np)) (some n) (b₀ :: suite) pos'] [] [] pos) (sTryAs b i sub su) := by
  obtain ⟨C, hm, hx⟩ := T.ex
  refine ⟨ps_imp (ps_try_as (tb := fun W => tS X.K X.mg W b) (ts := fun a cls d => tSX (X.suite a ([])) a cls d i su) hs hf hN hi hln ⟨hg, hd, .inl hm⟩ tk (fun W' pn xe tk' po => (hb W' pn xe tk' po).ps) (fun a oe cls d pn hz hv => (hsu a oe cls d pn hz hv).ps)) fun Dn σ H ⟨as, env, S, re, rel, g⟩ => ⟨as, env, S, re, rel, ?_⟩⟩
  unfold sTryAs at g
  cases eb : b env S with
  | nx env S => rw [eb] at g; exact g
  | rt d S => rw [eb] at g; exact g
  | bk env S => rw [eb] at g; exact g
  | ct env S => rw [eb] at g; exact g
  | no => rw [eb] at g; exact g
  | ex e env' S' =>
    rw [eb] at g
    intro as' H' σ' cls dd x1 rel1 re1 rx
    obtain ⟨C', d', fs, e2, e3, r⟩ := id rx
    cases es : sub e.cls with
    | none => simp only [es] at g; exact g.elim
    | some bb =>
      refine ⟨bb, by rw [e2]; exact hx _ _ _ e3 es, fun hbt a na => ?_, fun hbf => ?_⟩
      · subst hbt
        simp only [es] at g
        by_cases hl : i < env'.length
        · rw [if_pos hl] at g
          have hls : i < σ'.length := by rw [re1.len]; exact hl
          have re2 : Re X.K as' H' (σ'.set i (some (.ref a))) (env'.set i none) := by
            refine ⟨by simp [re1.len], fun j d hj => ?_⟩
            by_cases hij : i = j
            · subst hij
              rw [List.getElem?_set_self hl] at hj
              cases hj
            · rw [List.getElem?_set_ne hij] at hj ⊢
              exact re1.at_ j d hj
          refine ⟨as', _, S', e, re2, rel1, ⟨List.getElem?_set_self hls, rx⟩, ?_⟩
          have g' := GoS.later x1 g
          cases eu : su e (env'.set i none) S' with
          | nx en2 S2 => rw [eu] at g'; exact fun as3 H3 σ3 x3 r3 q3 => g' as3 H3 _ x3 r3 q3.unset
          | rt d S2 => rw [eu] at g'; exact g'
          | bk en2 S2 => rw [eu] at g'; exact fun as3 H3 σ3 x3 r3 q3 => g' as3 H3 _ x3 r3 q3.unset
          | ct en2 S2 => rw [eu] at g'; exact fun as3 H3 σ3 x3 r3 q3 => g' as3 H3 _ x3 r3 q3.unset
          | ex _ _ _ => rw [eu] at g'; exact g'.elim
          | no => rw [eu] at g'; exact g'.elim
        · rw [if_neg hl] at g; exact g.elim
      · subst hbf
        simp only [es] at g
        exact g as' H' σ' cls dd x1 rel1 re1 rx
end
end Mi

namespace Mi
open PySem PySem.Spec PyProof.Rows L2

/-! ### iterators -/
/-- a mirror iterator: at most n turns; what turn i finds in the store (some none: the end) -/
structure MIt where
  n : Nat
  f : Nat → Sto → Option (Option D)
structure ItOk (K : PySem.W.Frag) (as1 : List Addr) (H1 : Hp) (J : It) (m : MIt) : Prop where
  stop : ∀ (as : List Addr) (S : Sto) (H : Hp) (i : Nat), Ex K as1 H1 as H → Rel K as S H → m.f i S = some none → J.stop i H
  go : ∀ (as : List Addr) (S : Sto) (H : Hp) (i : Nat) (d : D), Ex K as1 H1 as H → Rel K as S H → m.f i S = some (some d) → J.go i H ∧ ∀ x H', J.yld i H x H' → Ex K as H as H' ∧ Rel K as S H' ∧ Rv K as H' x d
abbrev MI := Env → Sto → R MIt
section
variable (X : Cx) (W : WX)
structure IM (tg iter : Expr) (m : MI) : Prop where
  pi : PI X tg iter (tU X.K X.mg W (ItOk X.K) m)
end
section
variable {X : Cx} {W : WX}
theorem pi_imp {tg it : Expr} {t t' : TI} (h : PI X tg it t) (i : ∀ σ H Q, t' σ H Q → t σ H Q) : PI X tg it t' := ⟨fun pins s σ H R I q => h.run pins s σ H R I (i σ H R q)⟩
def itFix (ds : List D) : MIt := ⟨ds.length, fun i _ => some ds[i]?⟩
def itLst (n j : Nat) : MIt := ⟨n, fun i S => (lstAt S j).map fun ds => ds[i]?⟩
def kSeqI (d : D) (S : Sto) : R MIt := match d with
  | .tup ds => .ok (itFix ds) S
  | .obj j => (match lstAt S j with
    | some ds => .ok (itLst ds.length j) S
    | none => .no)
  | _ => .no
def iSeq (a : ME) : MI := fun env S => (a env S).bind kSeqI
def iSeqT (K : PySem.W.Frag) (tl : TE) : TI := fun σ H R => tl σ H fun x H1 => ∃ a, x = .ref a ∧ (((∃ xs, SqL K H1 a xs) ∧ R (Itl K a) H1) ∨ ((∃ xs, SqT K H1 a xs) ∧ R (Itt K a) H1))
theorem pi_seq {tg l : Expr} {tl : TE} (hl : PE X l tl) : PI X tg l (iSeqT X.K tl) := by
  refine ⟨fun pins s σ H R I h => ?_⟩
  refine thn (hl.run pins s σ H _ I h) fun v s1 ⟨x, H1, I1, r1, q1⟩ => ?_
  obtain ⟨a, e, q1⟩ := q1
  subst e
  cases r1
  rcases q1 with ⟨⟨xs, hq⟩, q⟩ | ⟨⟨xs, hq⟩, q⟩
  · obtain ⟨its, rv, p, hz⟩ := I1.list hq
    refine wpAny_pyIter_list p.isList ?_
    refine ⟨s1.heap.objs.size, [s1.heap.objs.size], _, _, H1, rfl, I1.kept (t' := s1.toks) fun b o e => Heap.get?_push_of_some _ e, turn_list a _, ⟨_, Heap.get?_push_size _ rfl, rfl, rfl⟩, fun b hb => ?_, q⟩
    have e : b = s1.heap.objs.size := by simpa using hb
    subst e
    exact I1.fpOk (Nat.le_refl _) (I1.hok.fresh (Nat.le_refl _))
  · obtain ⟨its, rv, p, hz⟩ := I1.tuple hq
    refine wpAny_pyIter_tuple (show s1.heap.IsTuple a its.toArray from p) ?_
    refine ⟨s1.heap.objs.size, [s1.heap.objs.size], _, _, H1, rfl, I1.kept (t' := s1.toks) fun b o e => Heap.get?_push_of_some _ e, turn_tuple a _, ⟨_, Heap.get?_push_size _ rfl, rfl, rfl⟩, fun b hb => ?_, q⟩
    have e : b = s1.heap.objs.size := by simpa using hb
    subst e
    exact I1.fpOk (Nat.le_refl _) (I1.hok.fresh (Nat.le_refl _))
theorem itl_ok {K : PySem.W.Frag} {as1 : List Addr} {H1 : Hp} {a : Addr} {j n : Nat} (hj : as1[j]? = some a) : ItOk K as1 H1 (Itl K a) (itLst n j) where
  stop := fun as S H i x rel e => by
    have e' : (lstAt S j).map (fun ds => ds[i]?) = some none := e
    cases e2 : lstAt S j with
    | none => rw [e2] at e'; cases e'
    | some ds =>
      rw [e2] at e'
      obtain ⟨a', ys, ea, _, hy, ry⟩ := (Rv.obj (K := K) (H := H) (x.pre _ _ hj)).seq_ rel e2
      cases ea
      have e3 : ds[i]? = none := Option.some.inj e'
      exact ⟨ys, hy, by rw [ry.len]; exact List.getElem?_eq_none_iff.mp e3⟩
  go := fun as S H i d x rel e => by
    have e' : (lstAt S j).map (fun ds => ds[i]?) = some (some d) := e
    cases e2 : lstAt S j with
    | none => rw [e2] at e'; cases e'
    | some ds =>
      rw [e2] at e'
      obtain ⟨a', ys, ea, _, hy, ry⟩ := (Rv.obj (K := K) (H := H) (x.pre _ _ hj)).seq_ rel e2
      cases ea
      have e3 : ds[i]? = some d := Option.some.inj e'
      obtain ⟨v, hv, rv⟩ := ry.get e3
      refine ⟨⟨ys, v, hy, hv⟩, fun y H' hy' => ?_⟩
      obtain ⟨rfl, hy'⟩ := hy'
      have e4 := hy' ys hy
      rw [hv] at e4
      cases e4
      exact ⟨Ex.refl, rel, rv⟩
theorem itt_ok {K : PySem.W.Frag} {as1 : List Addr} {H1 : Hp} {a : Addr} {xs : List V} {ds : List D} (ha : SqT K H1 a xs) (ra : Rvs K as1 H1 xs ds) : ItOk K as1 H1 (Itt K a) (itFix ds) where
  stop := fun as S H i x rel e => ⟨xs, x.tup _ _ ha, by
    have e3 : ds[i]? = none := Option.some.inj e
    rw [ra.len]; exact List.getElem?_eq_none_iff.mp e3⟩
  go := fun as S H i d x rel e => by
    have e3 : ds[i]? = some d := Option.some.inj e
    obtain ⟨v, hv, rv⟩ := (ra.mono x).get e3
    have ha' := x.tup _ _ ha
    refine ⟨⟨xs, v, ha', hv⟩, fun y H' hy' => ?_⟩
    obtain ⟨rfl, hy'⟩ := hy'
    have e4 := hy' xs ha'
    rw [hv] at e4
    cases e4
    exact ⟨Ex.refl, rel, rv⟩
theorem im_seq {tg l : Expr} {m : ME} (h : EM X W l m) : IM X W tg l (iSeq m) :=
  ⟨pi_imp (pi_seq h.pe) fun σ H R q => tU_bind (f := fun _ => kSeqI) q fun as env d S1 as1 H1 v re rel rv g => by
    cases d <;> first | exact g.elim | skip
    · rename_i ds
      obtain ⟨a, xs, rfl, ha, ra⟩ := rv.tup_
      exact ⟨a, rfl, .inr ⟨⟨xs, ha⟩, g as1 H1 _ Ex.refl rel (itt_ok ha ra)⟩⟩
    · rename_i j
      unfold kSeqI at g
      dsimp only at g
      cases e0 : lstAt S1 j with
      | none => rw [e0] at g; exact g.elim
      | some ds =>
        rw [e0] at g
        obtain ⟨a, xs, rfl, hj, ha, ra⟩ := rv.seq_ rel e0
        exact ⟨a, rfl, .inl ⟨⟨xs, ha⟩, g as1 H1 _ Ex.refl rel (itl_ok hj)⟩⟩⟩
/-! ranges -/
def itRng (lo : Int) (n : Nat) : MIt := ⟨n, fun i _ => if i < n then some (some (.int (lo + (i : Int)))) else some none⟩
theorem itr_ok {K : PySem.W.Frag} {as1 : List Addr} {H1 : Hp} {lo : Int} {n : Nat} : ItOk K as1 H1 (Itr lo n) (itRng lo n) where
  stop := fun as S H i x rel e => by
    have e' : (if i < n then some (some (D.int (lo + (i : Int)))) else some none) = some none := e
    split at e'
    · cases e'
    · show n ≤ i; omega
  go := fun as S H i d x rel e => by
    have e' : (if i < n then some (some (D.int (lo + (i : Int)))) else some none) = some (some d) := e
    split at e'
    · rename_i hlt
      cases e'
      exact ⟨hlt, fun y H' hy => by obtain ⟨rfl, rfl⟩ := hy; exact ⟨Ex.refl, rel, .int _⟩⟩
    · cases e'
def kRngI (ds : List D) (S : Sto) : R MIt := match ds with
  | [.int j] => if -(2 ^ 62) ≤ j ∧ j < 2 ^ 62 then .ok (itRng 0 j.toNat) S else .no
  | [.int i, .int j] => if -(2 ^ 62) ≤ i ∧ i < 2 ^ 62 ∧ -(2 ^ 62) ≤ j ∧ j < 2 ^ 62 then .ok (itRng i (j - i).toNat) S else .no
  | _ => .no
def iRng (a : MA) : MI := fun env S => (a env S).bind kRngI
theorem im_rng1 {tg a0 : Expr} {m : ME} {p pos' : Pos} (hm : X.mg "range" = none) (hi : EM X W a0 m) (hr : Gl X "range" := by rfl) (hs : starEach [a0] X.env = [(false, eval a0 X.env)] := by rfl) : IM X W tg (.Call (.Name "range" p) [a0] [] pos') (iRng (mCons m mNil)) :=
  ⟨pi_imp (pi_range1 hr hm (pa_cons hi.pe pa_nil hs) hs) fun σ H R q => by
    obtain ⟨as, env, S, re, rel, g1⟩ := q
    refine ⟨as, env, S, re, rel, ?_⟩
    unfold iRng mCons at g1
    cases e : m env S with
    | no => rw [e] at g1; exact g1.elim
    | ex x S' => rw [e] at g1; exact g1
    | ok d S1 =>
      rw [e] at g1
      intro as1 H1 v x r1 rv
      have g2 : Go X.K X.mg W (ItOk X.K) (kRngI [d] S1) as1 H1 σ R := Go.later x g1
      cases d <;> first | exact g2.elim | skip
      rename_i j
      unfold kRngI at g2
      dsimp only at g2
      by_cases hj : -(2 ^ 62) ≤ j ∧ j < 2 ^ 62
      · rw [if_pos hj] at g2
        refine ⟨j, by rw [rv.int_], hj.1, hj.2, g2 as1 H1 _ Ex.refl r1 ?_⟩
        exact itr_ok
      · rw [if_neg hj] at g2; exact g2.elim⟩
theorem im_rng2 {tg a0 a1 : Expr} {m m' : ME} {p pos' : Pos} (hm : X.mg "range" = none) (hi : EM X W a0 m) (hi' : EM X W a1 m') (hr : Gl X "range" := by rfl)
    (hs : starEach [a0, a1] X.env = [(false, eval a0 X.env), (false, eval a1 X.env)] := by rfl) (hs2 : starEach [a1] X.env = [(false, eval a1 X.env)] := by rfl) : IM X W tg (.Call (.Name "range" p) [a0, a1] [] pos') (iRng (mCons m (mCons m' mNil))) :=
  ⟨pi_imp (pi_range2 hr hm (pa_cons hi.pe (pa_cons hi'.pe pa_nil hs2) (by rw [hs, hs2])) hs hs2) fun σ H Qr q => by
    obtain ⟨as, env, S, re, rel, g1⟩ := q
    refine ⟨as, env, S, re, rel, ?_⟩
    unfold iRng mCons at g1
    cases e : m env S with
    | no => rw [e] at g1; exact g1.elim
    | ex x S' => rw [e] at g1; exact g1
    | ok d S1 =>
      rw [e] at g1
      intro as1 H1 v x r1 rv
      refine ⟨as1, env, S1, re.mono x, r1, ?_⟩
      have g3 : Go X.K X.mg W (ItOk X.K) (R.bind (R.bind (R.bind (m' env S1) fun x S1 => R.bind (mNil env S1) fun xs S2 => R.ok (x :: xs) S2) fun xs S2 => R.ok (d :: xs) S2) kRngI) as1 H1 σ Qr := Go.later x g1
      cases e2 : m' env S1 with
      | no => rw [e2] at g3; exact g3.elim
      | ex z S' => rw [e2] at g3; exact g3
      | ok d2 S2 =>
        rw [e2] at g3
        intro as2 H2 v2 x2 r2 rv2
        have g4 : Go X.K X.mg W (ItOk X.K) (kRngI [d, d2] S2) as2 H2 σ Qr := Go.later x2 g3
        cases d <;> cases d2 <;> first | exact g4.elim | skip
        rename_i i j
        unfold kRngI at g4
        dsimp only at g4
        by_cases hj : -(2 ^ 62) ≤ i ∧ i < 2 ^ 62 ∧ -(2 ^ 62) ≤ j ∧ j < 2 ^ 62
        · rw [if_pos hj] at g4
          refine ⟨i, j, by rw [rv.int_, rv2.int_], hj, g4 as2 H2 _ Ex.refl r2 ?_⟩
          exact itr_ok
        · rw [if_neg hj] at g4; exact g4.elim⟩
/-! enumerate over a list -/
def itEnumL (n j : Nat) : MIt := ⟨n, fun i S => (lstAt S j).map fun ds => ds[i]?.map fun d => .tup [.int (i : Int), d]⟩
def kEnumL (ds : List D) (S : Sto) : R MIt := match ds with
  | [.obj j] => (match lstAt S j with
    | some ds => .ok (itEnumL ds.length j) S
    | none => .no)
  | _ => .no
def iEnumL (a : MA) : MI := fun env S => (a env S).bind kEnumL
theorem ite_ok {K : PySem.W.Frag} {as1 : List Addr} {H1 : Hp} {a : Addr} {j n : Nat} (hj : as1[j]? = some a) : ItOk K as1 H1 (Ite K a) (itEnumL n j) where
  stop := fun as S H i x rel e => by
    have e' : (lstAt S j).map (fun ds => ds[i]?.map fun d => D.tup [.int (i : Int), d]) = some none := e
    cases e2 : lstAt S j with
    | none => rw [e2] at e'; cases e'
    | some ds =>
      rw [e2] at e'
      obtain ⟨a', ys, ea, _, hy, ry⟩ := (Rv.obj (K := K) (H := H) (x.pre _ _ hj)).seq_ rel e2
      cases ea
      have e3 : ds[i]?.map (fun d => D.tup [.int (i : Int), d]) = none := Option.some.inj e'
      exact ⟨ys, hy, by rw [ry.len]; exact List.getElem?_eq_none_iff.mp (Option.map_eq_none_iff.mp e3)⟩
  go := fun as S H i d x rel e => by
    have e' : (lstAt S j).map (fun ds => ds[i]?.map fun d => D.tup [.int (i : Int), d]) = some (some d) := e
    cases e2 : lstAt S j with
    | none => rw [e2] at e'; cases e'
    | some ds =>
      rw [e2] at e'
      obtain ⟨a', ys, ea, _, hy, ry⟩ := (Rv.obj (K := K) (H := H) (x.pre _ _ hj)).seq_ rel e2
      cases ea
      have e3 : ds[i]?.map (fun d => D.tup [.int (i : Int), d]) = some d := Option.some.inj e'
      obtain ⟨d0, e4, e5⟩ := Option.map_eq_some_iff.mp e3
      subst e5
      obtain ⟨v, hv, rv⟩ := ry.get e4
      refine ⟨⟨ys, v, hy, hv⟩, fun y H' hy' => ?_⟩
      obtain ⟨T, x', rfl, hT, rfl, hy'⟩ := hy'
      have e6 := hy' ys hy
      rw [hv] at e6
      cases e6
      exact ⟨Ex.fresh hT, rel.fresh hT, .tup (SqT.of upd_same) (.cons (.int _) (.cons (rv.mono (Ex.fresh hT)) .nil))⟩
theorem im_enumL {e : Expr} {m : ME} {elts : List Expr} {kk : Nat} {p pos tpos : Pos} (hm : X.mg "enumerate" = none) (h : EM X W e m) (hg : Gl X "enumerate" := by rfl) (hs : starEach [e] X.env = [(false, eval e X.env)] := by rfl) :
    IM X W (.Tuple elts kk tpos) (.Call (.Name "enumerate" p) [e] [] pos) (iEnumL (mCons m mNil)) :=
  ⟨pi_imp (pi_enum hg hm (am_cons h am_nil (by rw [hs]; rfl)).pa hs) fun σ H R q => tU_bind (f := fun _ => kEnumL) q fun as env ds S1 as1 H1 vs re rel rvs g => by
    unfold kEnumL at g
    split at g
    · rename_i j
      cases e0 : lstAt S1 j with
      | none => rw [e0] at g; exact g.elim
      | some es =>
        rw [e0] at g
        obtain ⟨v, rfl, r⟩ := rvs.sing
        obtain ⟨a, xs, rfl, hj, ha, ra⟩ := r.seq_ rel e0
        exact ⟨a, xs, rfl, ha, g as1 H1 _ Ex.refl rel (ite_ok hj)⟩
    · exact g.elim⟩
/-! ### for -/
def forI (it : MIt) (g : MG) (b : MS) : Nat → Nat → MS
  | 0, i => fun env S => match it.f i S with
    | some none => .nx env S
    | _ => .no
  | n + 1, i => fun env S => match it.f i S with
    | some none => .nx env S
    | some (some d) => (match g d env S with
      | some env1 => (match b env1 S with
        | .nx env2 S2 => forI it g b n (i + 1) env2 S2
        | .ct env2 S2 => forI it g b n (i + 1) env2 S2
        | .bk env2 S2 => .nx env2 S2
        | o => o)
      | none => .no)
    | none => .no
def sFor (a : MI) (g : MG) (b : MS) : MS := fun env S => RS.of (a env S) env fun it S1 => forI it g b it.n 0 env S1
theorem sm_for {tg it : Expr} {body : List Stmt} {a : MI} {g : MG} {b : MS} {pos : Pos} (hp : PassesOwn (model X.prog X.w) X.A X.env X.xe) (hc : X.calm = true) (hi : IM X W tg it a) (hg : GM X tg g) (hb : BM X W body b)
    (hs : ∀ x, foldedSetIterable it X.env x = pure x := by intro _; rfl) : SM X W (.For tg it body [] pos) (sFor a g b) :=
  ⟨ps_imp (ps_for hp hc hi.pi hg.pg hb.ps hs) fun Dn σ H q => tS_of (f := fun env it S1 => forI it g b it.n 0 env S1) q fun as env m S1 as1 H1 J re rel ok g1 => by
    refine ⟨fun i n σ H => ∃ as env S, Ex X.K as1 H1 as H ∧ Re X.K as H σ env ∧ Rel X.K as S H ∧ GoS X.K X.mg W (forI m g b n i env S) as H Dn, ⟨m.n, as1, env, S1, Ex.refl, re, rel, g1⟩, ?_⟩
    rintro i n σ H ⟨as, env, S, x, re, rel, gg⟩
    cases n with
    | zero =>
      unfold forI at gg
      split at gg
      · rename_i e1
        exact .inl ⟨ok.stop as S H i x rel e1, gg as H σ Ex.refl rel re⟩
      · exact gg.elim
    | succ n =>
      unfold forI at gg
      split at gg
      · rename_i e1
        exact .inl ⟨ok.stop as S H i x rel e1, gg as H σ Ex.refl rel re⟩
      · rename_i d e1
        obtain ⟨h1, h2⟩ := ok.go as S H i d x rel e1
        refine .inr ⟨h1, fun σ' H' => ∃ as env S, Ex X.K as1 H1 as H' ∧ Re X.K as H' σ' env ∧ Rel X.K as S H' ∧ GoS X.K X.mg W (forI m g b n (i + 1) env S) as H' Dn, fun σ' H' q => ⟨n, Nat.lt_succ_self n, q⟩, fun y H' hy => ?_⟩
        obtain ⟨x1, rel1, rv⟩ := h2 y H' hy
        cases e2 : g d env S with
        | none => rw [e2] at gg; exact gg.elim
        | some env1 =>
          rw [e2] at gg
          dsimp only at gg
          have gg' := GoS.later x1 gg
          refine ⟨as, env, S, d, env1, re.mono x1, rel1, rv, e2, fun σ' re' => ⟨as, env1, S, re', rel1, ?_⟩⟩
          cases e : b env1 S with
          | nx env2 S2 => rw [e] at gg'; exact fun as2 H2 σ2 y r q => ⟨as2, env2, S2, (x.trans x1).trans y, q, r, GoS.later y gg'⟩
          | ct env2 S2 => rw [e] at gg'; exact fun as2 H2 σ2 y r q => ⟨as2, env2, S2, (x.trans x1).trans y, q, r, GoS.later y gg'⟩
          | bk env2 S2 => rw [e] at gg'; exact gg'
          | rt d S2 => rw [e] at gg'; exact gg'
          | ex x env2 S2 => rw [e] at gg'; exact gg'
          | no => rw [e] at gg'; exact gg'.elim
      · exact gg.elim⟩
end
end Mi

namespace Mi
open PySem PySem.Spec PyProof.Rows L2

/-! ### comprehensions -/
def noEx {α : Type} : R α → R α
  | .ex _ _ => .no
  | x => x
def wipeE (env : Env) : List Nat → Env
  | [] => env
  | v :: vs => (wipeE env vs).set v none
theorem wipe_get {σ : L2.St} {i : Nat} : ∀ {vs : List Nat}, (wipe σ vs)[i]? = if i ∈ vs ∧ i < σ.length then some none else σ[i]?
  | [] => by simp [wipe]
  | v :: vs => by
    unfold wipe
    by_cases h : v = i
    · subst h
      by_cases hl : v < σ.length
      · rw [List.getElem?_set_self (by rw [wipe_length]; exact hl), if_pos ⟨List.mem_cons_self .., hl⟩]
      · rw [List.getElem?_eq_none (by rw [List.length_set, wipe_length]; omega), if_neg (fun h => hl h.2), List.getElem?_eq_none (by omega)]
    · rw [List.getElem?_set_ne h, wipe_get]
      have : (i ∈ v :: vs) ↔ i ∈ vs := by simp only [List.mem_cons]; exact ⟨fun q => q.elim (fun z => absurd z.symm h) id, .inr⟩
      simp only [this]
theorem wipe_set {σ : L2.St} {i : Nat} {x : Option V} {vs : List Nat} (h : i ∈ vs) : wipe (σ.set i x) vs = wipe σ vs := by
  refine List.ext_getElem? fun j => ?_
  rw [wipe_get, wipe_get, List.length_set]
  by_cases hj : j ∈ vs ∧ j < σ.length
  · rw [if_pos hj, if_pos hj]
  · rw [if_neg hj, if_neg hj]
    by_cases hij : i = j
    · subst hij
      have : ¬ i < σ.length := fun z => hj ⟨h, z⟩
      rw [List.getElem?_eq_none (by rw [List.length_set]; omega), List.getElem?_eq_none (by omega)]
    · rw [List.getElem?_set_ne hij]
theorem wipe_wipe {σ : L2.St} {vs : List Nat} : wipe (wipe σ vs) vs = wipe σ vs := by
  refine List.ext_getElem? fun j => ?_
  rw [wipe_get, wipe_get, wipe_length]
  by_cases hj : j ∈ vs ∧ j < σ.length
  · rw [if_pos hj, if_pos hj]
  · rw [if_neg hj]
theorem Re.wipe {K : PySem.W.Frag} {as : List Addr} {H : Hp} {σ : L2.St} {env : Env} (r : Re K as H σ env) : ∀ vs : List Nat, Re K as H (L2.wipe σ vs) (wipeE env vs)
  | [] => r
  | v :: vs => by unfold L2.wipe wipeE; exact (Re.wipe r vs).unset
section
variable {K : PySem.W.Frag} {mg : Str → Option Value} {W : WX} {as as1 : List Addr} {H H1 : Hp} {S : Sto} {σ σ2 : L2.St}
theorem Go.bind0 {α β γ δ : Type} {Ra : List Addr → Hp → β → α → Prop} {Rc : List Addr → Hp → δ → γ → Prop} {x : R α} {f : α → Sto → R γ} {Q : δ → Hp → Prop} {Q1 : β → Hp → Prop} (h : Go K mg W Rc ((noEx x).bind f) as H σ Q)
    (k : ∀ d S1 as1 H1 v, Ex K as H as1 H1 → Rel K as1 S1 H1 → Ra as1 H1 v d → Go K mg W Rc (f d S1) as1 H1 σ Q → Q1 v H1) : Go K mg W0 Ra x as H σ2 Q1 := by
  cases x with
  | ok d S' => exact fun as' H' v y r q => k d S' as' H' v y r q (Go.later y h)
  | ex e S' => exact h.elim
  | no => exact h
end
/-- a comprehension's target: it sets the slots vs alone -/
def gUc (K : PySem.W.Frag) (g : MG) (vs : List Nat) : TG := fun v σ H Q => ∃ as env S d env', Re K as H σ env ∧ Rel K as S H ∧ Rv K as H v d ∧ g d env S = some env' ∧ ∀ σ', Re K as H σ' env' → L2.wipe σ' vs = L2.wipe σ vs → Q σ' H
def gUcs (K : PySem.W.Frag) (g : MGs) (vs : List Nat) : TGs := fun v σ H Q => ∃ as env S d env', Re K as H σ env ∧ Rel K as S H ∧ Rvs K as H v d ∧ g d env S = some env' ∧ ∀ σ', Re K as H σ' env' → L2.wipe σ' vs = L2.wipe σ vs → Q σ' H
structure GC (X : Cx) (tg : Expr) (g : MG) (vs : List Nat) : Prop where
  pg : PG X tg (gUc X.K g vs)
structure GCs (X : Cx) (tg : List Expr) (g : MGs) (vs : List Nat) : Prop where
  pg : PGs X tg (gUcs X.K g vs)
structure TMs (X : Cx) (W : WX) (ifs : List Expr) (m : MT) : Prop where
  pt : PTs X ifs (tU X.K X.mg W Rb m)
section
variable {X : Cx} {W : WX}
theorem gc_n (i : Nat) {x : Str} {pos : Pos} {vs : List Nat} (hN : X.N.Nodup) (hm : i ∈ vs := by decide) (hi : X.N[i]? = some x := by rfl) (hx : Loc X.env.scope x := by first | exact Or.inl rfl | exact Or.inr rfl) (hf : X.fn x = true ∨ X.env.scope.names.lookup x = some .local := by first | exact .inl rfl | exact .inr rfl | assumption) :
    GC X (.Name x pos) (gN i) vs := ⟨pg_imp (pg_name hN hi hx hf) fun v σ H Q ⟨as, env, S, d, env', re, rel, rv, e, q⟩ => by cases e; exact q _ (re.set rv) (wipe_set hm)⟩
theorem gcs_nil {vs : List Nat} : GCs X [] gsNil vs := ⟨pgs_imp pgs_nil fun _ σ H Q ⟨as, env, S, ds, env', re, rel, rv, e, q⟩ => by
  cases ds with
  | nil => cases rv; cases e; exact ⟨rfl, q _ re rfl⟩
  | cons _ _ => cases e⟩
theorem gcs_cons {e : Expr} {es : List Expr} {g : MG} {r : MGs} {vs : List Nat} (h1 : GC X e g vs) (h2 : GCs X es r vs) (hs : (assignEach (e :: es) X.env).map (·.2) = assign e X.env :: (assignEach es X.env).map (·.2) := by rfl) : GCs X (e :: es) (gsCons g r) vs :=
  ⟨pgs_imp (pgs_cons h1.pg h2.pg hs) fun _ σ H Q ⟨as, env, S, ds, env', re, rel, rv, e0, q⟩ => by
    cases ds with
    | nil => cases e0
    | cons d ds =>
      cases rv with
      | cons r1 r2 =>
        unfold gsCons at e0
        dsimp only at e0
        cases e1 : g d env S with
        | none => rw [e1] at e0; cases e0
        | some env1 =>
          rw [e1] at e0
          exact ⟨_, _, rfl, as, env, S, d, env1, re, rel, r1, e1, fun σ1 re1 w1 => ⟨as, env1, S, ds, env', re1, rel, r2, e0, fun σ' re' w' => q σ' re' (w'.trans w1)⟩⟩⟩
theorem gc_tup {es : List Expr} {k : Nat} {r : MGs} {n : Nat} {pos : Pos} {vs : List Nat} (hc : X.calm = true) (h : GCs X es r vs)
    (hn : (assignEach es X.env).length = n := by rfl) (hst : (assignEach es X.env).findIdx? (·.1) = none := by rfl) : GC X (.Tuple es k pos) (gT n r) vs :=
  ⟨pg_imp (pg_tup hc h.pg hn hst) fun v σ H Q ⟨as, env, S, d, env', re, rel, rv, e, q⟩ => by
    cases d <;> first | (cases e; done) | skip
    rename_i ds
    unfold gT at e
    dsimp only at e
    by_cases hl : ds.length = n
    · rw [if_pos hl] at e
      obtain ⟨a, xs, rfl, ha, ra⟩ := rv.tup_
      exact ⟨a, xs, rfl, ha, by rw [ra.len]; exact hl, as, env, S, ds, env', re, rel, ra, e, q⟩
    · rw [if_neg hl] at e; cases e⟩
def tAll : MT := fun _ S => .ok true S
theorem pts_imp {es : List Expr} {t t' : TT} (h : PTs X es t) (i : ∀ σ H Q, t' σ H Q → t σ H Q) : PTs X es t' := ⟨fun pins s σ H Q I q => h.run pins s σ H Q I (i σ H Q q)⟩
theorem tms_nil : TMs X W [] tAll := ⟨pts_imp pts_nil fun σ H Q ⟨as, env, S, re, rel, g⟩ => g as H true Ex.refl rel rfl⟩
theorem tms_one {c : Expr} {m : MT} (h : TM X W c m) : TMs X W [c] m := ⟨pts_one h.pt⟩
end
/-- the block's turns: j the new list -/
def lcI (it : MIt) (g : MG) (t : MT) (e : ME) (j : Nat) : Nat → Nat → Env → Sto → R D
  | 0, i, _, S => (match it.f i S with
    | some none => .ok (.obj j) S
    | _ => .no)
  | n + 1, i, env, S => (match it.f i S with
    | some none => .ok (.obj j) S
    | some (some d) => (match g d env S with
      | some env1 => (noEx (t env1 S)).bind fun c S2 => if c = true then (noEx (e env1 S2)).bind fun y S3 => (match S3[j]? with
          | some (.lst acc) => if acc.length < sizeLine then lcI it g t e j n (i + 1) env (S3.set j (.lst (acc ++ [y]))) else .no
          | _ => .no) else lcI it g t e j n (i + 1) env S2
      | none => .no)
    | none => .no)
def kLc (g : MG) (t : MT) (e : ME) (vs : List Nat) (env : Env) (it : MIt) (S1 : Sto) : R D := lcI it g t e S1.length it.n 0 (wipeE env vs) (S1 ++ [.lst []])
def mLc (a : MI) (g : MG) (t : MT) (e : ME) (vs : List Nat) : ME := fun env S => (a env S).bind (kLc g t e vs env)
section
variable {X : Cx} {W : WX}
/-- what the rule of a comprehension asks -/
theorem lc_reads {wi : TI} {mi : MI} {g : MG} {t : MT} {e : ME} {vs : List Nat} {σ : L2.St} {H : Hp} {Q : VK} (hw : wi = tU X.K X.mg W (ItOk X.K) mi)
    (q : tU X.K X.mg W (Rv X.K) (mLc mi g t e vs) σ H Q) : tLc wi (gUc X.K g vs) (tU X.K X.mg W0 Rb t) (tU X.K X.mg W0 (Rv X.K) e) vs σ H Q := by
  subst hw
  refine tU_bind (f := kLc g t e vs) q fun as env it S1 as1 H1 J re rel ok gg => ?_
  intro p hp
  obtain ⟨rel0, x0, hj0⟩ := new_lst (vs := []) (ds := []) rel hp .nil
  generalize hj : S1.length = j at *
  unfold kLc at gg
  rw [hj] at gg
  refine ⟨fun i n H => ∃ as S, Ex X.K (as1 ++ [p]) (upd H1 p (.lst [])) as H ∧ Rel X.K as S H ∧ Go X.K X.mg W (Rv X.K) (lcI it g t e j n i (wipeE env vs) S) as H σ Q, ⟨it.n, as1 ++ [p], _, Ex.refl, rel0, Go.later x0 gg⟩, ?_⟩
  rintro i n H ⟨as, S, x, rel, gg⟩
  have xx := x0.trans x
  cases n with
  | zero =>
    unfold lcI at gg
    split at gg
    · rename_i e1
      exact .inl ⟨ok.stop as S H i xx rel e1, gg as H _ Ex.refl rel (.obj (x.pre _ _ hj0))⟩
    · exact gg.elim
  | succ n =>
    unfold lcI at gg
    split at gg
    · rename_i e1
      exact .inl ⟨ok.stop as S H i xx rel e1, gg as H _ Ex.refl rel (.obj (x.pre _ _ hj0))⟩
    · rename_i d e1
      obtain ⟨h1, h2⟩ := ok.go as S H i d xx rel e1
      refine .inr ⟨h1, fun H' => ∃ as S, Ex X.K (as1 ++ [p]) (upd H1 p (.lst [])) as H' ∧ Rel X.K as S H' ∧ Go X.K X.mg W (Rv X.K) (lcI it g t e j n (i + 1) (wipeE env vs) S) as H' σ Q, fun H' q => ⟨n, Nat.lt_succ_self n, q⟩, fun y H' hy => ?_⟩
      obtain ⟨x1, rel1, rv⟩ := h2 y H' hy
      cases e2 : g d (wipeE env vs) S with
      | none => rw [e2] at gg; exact gg.elim
      | some env1 =>
        rw [e2] at gg
        dsimp only at gg
        have reW : Re X.K as H' (L2.wipe σ vs) (wipeE env vs) := (re.mono (xx.trans x1)).wipe vs
        refine ⟨as, _, S, d, env1, reW, rel1, rv, e2, fun σ2 re2 w2 => ⟨w2.trans wipe_wipe, as, env1, S, re2, rel1, ?_⟩⟩
        refine Go.bind0 (Go.later x1 gg) fun c S2 as2 H2 b x2 r2 rb g2 => ?_
        cases rb
        cases c with
        | false =>
          rw [if_neg Bool.false_ne_true] at g2 ⊢
          exact ⟨as2, S2, (x.trans x1).trans x2, r2, g2⟩
        | true =>
          rw [if_pos rfl] at g2 ⊢
          refine ⟨as2, env1, S2, re2.mono x2, r2, ?_⟩
          refine Go.bind0 g2 fun yd S3 as3 H3 yv x3 r3 ry g3 => ?_
          split at g3
          · rename_i acc e4
            have hj3 : as3[j]? = some p := x3.pre _ _ (x2.pre _ _ (x1.pre _ _ (x.pre _ _ hj0)))
            obtain ⟨vacc, hv, ra⟩ := r3.ob j p _ hj3 e4
            refine ⟨vacc, hv, ?_⟩
            by_cases hl : acc.length < sizeLine
            · rw [if_pos hl] at g3
              refine ⟨by rw [ra.len]; exact hl, ?_⟩
              have hmut : L2.Mut (H3 p) := by rw [hv]; exact True.intro
              obtain ⟨r4, x4⟩ := r3.put (u := .lst (acc ++ [yd])) (o := .lst (vacc ++ [yv])) hj3 e4 rfl rfl ⟨_, upd_same, (ra.append (.cons ry .nil)).mono (Ex.mut hmut)⟩
              exact ⟨as3, _, (((x.trans x1).trans x2).trans x3).trans x4, r4, Go.later x4 g3⟩
            · rw [if_neg hl] at g3; exact g3.elim
          · exact g3.elim
    · exact gg.elim
theorem em_lc {elt tg iter : Expr} {ifs : List Expr} {scope : Scope} {own : List (Str × Nat)} {pos : Pos} {mi : MI} {g : MG} {t : MT} {e : ME} (vs : List Nat) (hc : X.calm = true) (hN : X.N.Nodup) (hi : IM X W tg iter mi) (ok : BlkOk X.N X.env.scope scope own)
    (hg : ∀ (s : Shared) (H : Hp) (C : Addr) (cl : List (Str × Addr)) (fp : List Addr), GC (X.blk s H scope (compEnvC scope cl C X.env) fp) tg g vs) (ht : ∀ (s : Shared) (H : Hp) (C : Addr) (cl : List (Str × Addr)) (fp : List Addr), TMs (X.blk s H scope (compEnvC scope cl C X.env) fp) W0 ifs t)
    (he : ∀ (s : Shared) (H : Hp) (C : Addr) (cl : List (Str × Addr)) (fp : List Addr), EM (X.blk s H scope (compEnvC scope cl C X.env) fp) W0 elt e) (hv : own.map (·.2) = vs := by rfl) (hs : ∀ x, foldedSetIterable iter X.env x = pure x := by intro _; rfl) :
    EM X W (.ListComp elt [⟨tg, iter, ifs, 0⟩] scope pos) (mLc mi g t e vs) := by
  subst hv
  exact ⟨pe_imp (pe_lc (g := gUc X.K g (own.map (·.2))) (tt := tU X.K X.mg W0 Rb t) (te := tU X.K X.mg W0 (Rv X.K) e) hc hN hi.pi ok (fun s H C cl fp => (hg s H C cl fp).pg) (fun s H C cl fp => (ht s H C cl fp).pt) (fun s H C cl fp => (he s H C cl fp).pe) hs) fun σ H Q q => lc_reads rfl q⟩
theorem sm_setLc (i : Nat) {y : Str} {py : Pos} {elt tg iter : Expr} {ifs : List Expr} {scope : Scope} {own : List (Str × Nat)} {pos spos : Pos} {mi : MI} {g : MG} {t : MT} {e : ME} (vs : List Nat) (hc : X.calm = true) (hN : X.N.Nodup) (hi : IM X W tg iter mi) (ok : BlkOk X.N X.env.scope scope own)
    (hg : ∀ (s : Shared) (H : Hp) (C : Addr) (cl : List (Str × Addr)) (fp : List Addr), GC (X.blk s H scope (compEnvC scope cl C X.env) fp) tg g vs) (ht : ∀ (s : Shared) (H : Hp) (C : Addr) (cl : List (Str × Addr)) (fp : List Addr), TMs (X.blk s H scope (compEnvC scope cl C X.env) fp) W0 ifs t)
    (he : ∀ (s : Shared) (H : Hp) (C : Addr) (cl : List (Str × Addr)) (fp : List Addr), EM (X.blk s H scope (compEnvC scope cl C X.env) fp) W0 elt e) (hv : own.map (·.2) = vs := by rfl)
    (hy : X.N[i]? = some y := by rfl) (hyl : X.env.scope.names.lookup y = some .local := by rfl) (hk : X.env.scope.kind = .function := by rfl) (hl : (py.line == pos.line) = true := by rfl) (ha : (scope.names.any fun (n, k) => n == y && (k == .local || k == .cell)) = false := by rfl)
    (hs : ∀ x, foldedSetIterable iter X.env x = pure x := by intro _; rfl) :
    SM X W (.Assign [.Name y py] (.ListComp elt [⟨tg, iter, ifs, 0⟩] scope pos) spos) (sSet i (mLc mi g t e vs)) := by
  subst hv
  refine ⟨ps_imp (ps_setLc (g := gUc X.K g (own.map (·.2))) (tt := tU X.K X.mg W0 Rb t) (te := tU X.K X.mg W0 (Rv X.K) e) hc hN hy hyl (sw_true hk hyl hl ha) hi.pi ok (fun s H C cl fp => (hg s H C cl fp).pg) (fun s H C cl fp => (ht s H C cl fp).pt) (fun s H C cl fp => (he s H C cl fp).pe) hs) fun Dn σ H q => ?_⟩
  have q2 : tU X.K X.mg W (Rv X.K) (mLc mi g t e (own.map (·.2))) σ H fun x H1 => gName i x σ H1 Dn.nx := tS_of (f := fun env d S1 => .nx (env.set i (some d)) S1) q fun as env d S1 as1 H1 v re rel rv g => g as1 H1 _ Ex.refl rel (re.set rv)
  exact lc_reads rfl q2
end
end Mi

namespace Mi
open PySem PySem.Spec PyProof.Rows L2
/-! ### a call without arguments -/
section
variable {X : Cx} {W : WX}
def mCall0 (m : MFn) : ME := fun _ S => noEx (m [] S)
theorem em_call0 {k j : Nat} {x : Str} {m : MFn} {p pos : Pos} (c : Cal X.prog X.w X.K X.mg X.base k x m) (hr : Room j X.A) (hk : k ≤ j := by decide) (hg : Gl X x := by rfl)
    (hdb : (x == ("__debug__" : Str)) = false := by decide) : EM X W (.Call (.Name x p) [] [] pos) (mCall0 m) := by
  obtain ⟨f, fd, ps, F, hm, hkp, hb⟩ := c.ex
  refine ⟨pe_imp (pe_call0 (E := fun _ _ _ => False) F (hr.mono hk) hg hm hkp hb .nil (fun _ _ _ _ _ _ _ h => by obtain ⟨_, _, _, _, _, _, _, _, _, _, _, _, z⟩ := h; exact z.elim) hdb) fun σ H Q ⟨as, env, S, re, rel, g⟩ => ?_⟩
  refine ⟨as, [], S, .nil, rel, ?_⟩
  unfold mCall0 at g
  cases e : m [] S with
  | ok d S' => rw [e] at g; exact g
  | ex _ _ => rw [e] at g; exact g.elim
  | no => rw [e] at g; exact g.elim
/-! ### str * int -/
def strMul (x : Str) (n : Nat) : Str := ⟨(List.replicate n x.cps).foldl (· ++ ·) #[]⟩
theorem foldl_size {α : Type} (c : Array α) : ∀ (n : Nat) (a : Array α), ((List.replicate n c).foldl (· ++ ·) a).size = a.size + c.size * n
  | 0, a => by simp
  | n + 1, a => by rw [List.replicate_succ, List.foldl_cons, foldl_size c n, Array.size_append, Nat.mul_succ]; omega
theorem foldl_nil {α : Type} : ∀ (n : Nat) (a : Array α), (List.replicate n (#[] : Array α)).foldl (· ++ ·) a = a
  | 0, a => rfl
  | n + 1, a => by rw [List.replicate_succ, List.foldl_cons, foldl_nil n, Array.append_empty]
theorem strMul_len (x : Str) (n : Nat) : (strMul x n).length = x.length * n := by
  have h := foldl_size x.cps n #[]
  rw [show (#[] : Array Nat).size = 0 from rfl, Nat.zero_add] at h
  exact h
def fMulS : F2 := fun d e S => match d, e with
  | .str x, .int n => if -(2 ^ 63) ≤ n ∧ n < 2 ^ 63 ∧ x.length * n.toNat ≤ sizeLine then some (.str (strMul x n.toNat), S) else none
  | _, _ => none
theorem op_fMulS : OpR X (binaryOp .Mult) (rF X.K fMulS) := by
  intro pins s σ H x y v u Q I r r' ⟨as, S, d, e, z, S', rel, rx, ry, hf, q⟩
  cases d <;> cases e <;> try (cases hf; done)
  case str.int x n =>
    unfold fMulS at hf
    dsimp only at hf
    by_cases hl : -(2 ^ 63) ≤ n ∧ n < 2 ^ 63 ∧ x.length * n.toNat ≤ sizeLine
    · rw [if_pos hl] at hf
      cases hf
      obtain ⟨h1, h2, h3⟩ := hl
      cases rx.str_
      cases ry.int_
      obtain ⟨t, rfl⟩ := r
      obtain ⟨t', rfl⟩ := r'
      have hz : PySem.Builtin.Str.tooLong (x.length * n.toNat) = false := decide_eq_false (Nat.not_lt.mpr h3)
      refine PySem.P.mul_str ?_ (fun hn hx => ?_) (fun _ _ => hz) ?_
      · rw [decide_eq_false (Int.not_lt.mpr h1), decide_eq_false (by omega : ¬ n ≥ 2 ^ 63)] <;> rfl
      · have h5 : (x.length : Int) * n ≤ (sizeLine : Int) := by
          have : n = (n.toNat : Int) := by omega
          rw [this, ← Int.natCast_mul]
          exact Int.ofNat_le.mpr h3
        have h6 : (sizeLine : Int) ≤ 2 ^ 63 - 1 := by rw [sizeLine_eq]; decide
        have h7 : (x.length : Int) ≤ (2 ^ 63 - 1) / n := (Int.le_ediv_iff_mul_le (by omega)).mpr (Int.le_trans h5 h6)
        omega
      · by_cases hn : n < 1
        · rw [if_pos hn]
          have e0 : n.toNat = 0 := by omega
          refine ⟨by decide, .str Str.empty, H, I.tok _, ⟨_, rfl⟩, ?_⟩
          have q0 := q as H (.str (strMul x n.toNat)) Ex.refl rel (.str _)
          rw [e0] at q0
          exact q0
        · rw [if_neg hn]
          by_cases hx : (n == 1 || x.length == 0) = true
          · rw [if_pos hx]
            refine ⟨.str x, H, I, ⟨_, rfl⟩, ?_⟩
            have q0 := q as H (.str (strMul x n.toNat)) Ex.refl rel (.str _)
            have ex : strMul x n.toNat = x := by
              rw [Bool.or_eq_true] at hx
              rcases hx with hx | hx
              · have : n = 1 := by simpa using hx
                subst this
                show (⟨#[] ++ x.cps⟩ : Str) = x
                rw [Array.empty_append]
              · have h0 : x.cps = #[] := Array.eq_empty_of_size_eq_zero (show x.length = 0 by simpa using hx)
                unfold strMul
                obtain ⟨c⟩ := x
                simp only at h0
                subst h0
                rw [foldl_nil]
            rw [ex] at q0
            exact q0
          · rw [if_neg hx]
            exact ⟨by rw [show (Str.length ⟨_⟩ : Nat) = (strMul x n.toNat).length from rfl, strMul_len]; exact h3, .str (strMul x n.toNat), H, I.tok _, ⟨_, rfl⟩, q as H _ Ex.refl rel (.str _)⟩
    · rw [if_neg hl] at hf; cases hf
end
/-! ### list(str) -/
def signsD (z : Str) : List D := z.cps.toList.map fun c => .str ⟨#[c]⟩
def fList2 : F1 := fun d S => match d with
  | .str z => if z.length ≤ sizeLine then some (.obj S.length, S ++ [.lst (signsD z)]) else none
  | d => fList d S
section
variable {X : Cx} {W : WX}
theorem vals_sgn : ∀ (cs : List Nat) (its : List Value), its.length = cs.length → (∀ (j : Nat) (v : Value), its[j]? = some v → ∃ (c : Nat) (u : Tok), cs[j]? = some c ∧ v = Value.str ⟨#[c]⟩ u) → Vals (cs.map fun c => V.str ⟨#[c]⟩) its
  | [], [], _, _ => .nil
  | [], _ :: _, h, _ => by simp at h
  | _ :: _, [], h, _ => by simp at h
  | c :: cs, v :: its, h, hi => by
    obtain ⟨c', u, h1, h2⟩ := hi 0 v rfl
    have h1' : some c = some c' := h1
    cases h1'
    subst h2
    exact .cons ⟨u, rfl⟩ (vals_sgn cs its (by simpa using h) fun j w hj => hi (j + 1) w hj)
theorem call_list_sgn (hc : X.calm = true) : CallR X (.type "list") (fun xs H Q => ∃ z : Str, xs = [.str z] ∧ z.length ≤ sizeLine ∧ ∀ l, H l = none → Q (.ref l) (upd H l (.lst (z.cps.toList.map fun c => .str ⟨#[c]⟩)))) := by
  intro pins s σ H xs us Q I r h
  obtain ⟨z, rfl, hz, q⟩ := h
  obtain ⟨u, rfl, t, rfl⟩ := vals1 r
  refine PySem.call_list_str (I.ok.hd hc) z t (fun h' tk acc' c' k e hi => ?_) hz
  have hn : H s.heap.objs.size = none := I.hok.fresh (Nat.le_refl _)
  have hv : Vals (z.cps.toList.map fun c => V.str ⟨#[c]⟩) acc'.toList := by
    refine vals_sgn _ _ (by rw [Array.length_toList, Array.length_toList]; exact hi.1) fun j v hj => ?_
    obtain ⟨c, u, h1, h2⟩ := hi.2 j v (by rw [← Array.getElem?_toList]; exact hj)
    exact ⟨c, u, by rw [Array.getElem?_toList]; exact h1, h2⟩
  have new : ObjOk X.prog X.w (upd H s.heap.objs.size (.lst (z.cps.toList.map fun c => V.str ⟨#[c]⟩))) h' s.heap.objs.size (.lst (z.cps.toList.map fun c => V.str ⟨#[c]⟩)) :=
    ⟨by rw [List.length_map, Array.length_toList]; exact hz, acc'.toList, c', hv, by simpa using e⟩
  exact ⟨.ref s.heap.objs.size, _, I.laid (t' := tk) k (Nat.le_refl _) new, rfl, q _ hn⟩
theorem call_fList2 (hc : X.calm = true) : CallR X (.type "list") (rFL X.K (f1L fList2)) := by
  refine call_imp (call_or (call_list_sgn hc) (call_fList (X := X))) fun xs H Q ⟨as, S, ds, z, S', rel, rs, hf, q⟩ => ?_
  obtain ⟨x, d, ex, rx, hf'⟩ := f1L_inv rs hf
  cases d with
  | str z0 =>
    unfold fList2 at hf'
    dsimp only at hf'
    by_cases hl : z0.length ≤ sizeLine
    · rw [if_pos hl] at hf'
      cases hf'
      subst ex
      refine .inl ⟨z0, by rw [rx.str_], hl, fun p hp => ?_⟩
      have rv : Rvs X.K as H (z0.cps.toList.map fun c => V.str ⟨#[c]⟩) (signsD z0) := Rvs.map (fun c => .str _) _
      obtain ⟨r1, x1, e1⟩ := new_lst rel hp rv
      exact q _ _ _ x1 r1 (.obj e1)
    · rw [if_neg hl] at hf'; cases hf'
  | _ => subst ex; exact .inr ⟨as, S, [_], z, S', rel, .cons rx .nil, hf', q⟩
end
/-! ### a class's constant, its static method -/
section
variable {X : Cx} {W : WX}
open ClX
/-- C.f is v, wherever it is read -/
theorem em_cval {x f : Str} {C : Addr} {mc : Value} {v : V} {u : Value} {d : D} {p pos : Pos} (r : CRead X.K C mc) (k : CVal X.K C mc f v u) (hm : X.mg x = some (.ref C)) (rd : ∀ as H, Rv X.K as H v d) (hg : Gl X x := by rfl) (hd : (x == ("__debug__" : Str)) = false := by decide)
    (hb : attributeBase (.Name x p) f X.env (eval (.Name x p) X.env) = eval (.Name x p) X.env := by rfl) : EM X W (.Attribute (.Name x p) f pos) (mC d) :=
  ⟨pe_imp (pe_cval (pe_glob (v := .ref C) hg hm rfl hd) hb) fun σ H Q ⟨as, env, S, re, rel, g⟩ => ⟨C, mc, v, u, rfl, r, k, g as H v Ex.refl rel (rd as H)⟩⟩
/-- a static method m of the class x -/
structure Sta (P : Program) (w : World) (K : PySem.W.Frag) (mg : Str → Option Value) (base : Heap) (k : Nat) (x m : Str) (f : MFn) : Prop where
  ex : ∃ (C p g : Addr) (mc : Value) (fd : FuncData) (ps : List Str), CRead K C mc ∧ PySem.W.findCls K (.ref C) mc m = some (.get (.builtin "staticmethod.__get__") (.ref p) .none (.ref C)) ∧ (∃ rest, PySem.W.recIn K p "staticmethod" = some (.ref g :: rest)) ∧
    FnOk P w K mg base (L2.CX P w) k g fd ps (spM K mg f) ∧ mg x = some (.ref C) ∧ PySem.W.keepIn K (.ref g) = true ∧ Binds K fd ps []
theorem em_sta {k j : Nat} {x m : Str} {f : MFn} {e : Expr} {es : List Expr} {a : MA} {p apos pos : Pos} {pl : Sem Bool} (c : Sta X.prog X.w X.K X.mg X.base k x m f) (hr : Room j X.A) (tk : Takes X W) (ha : AM X W (e :: es) a) (hk : k ≤ j := by decide) (hg : Gl X x := by rfl)
    (hdb : (x == ("__debug__" : Str)) = false := by decide) (hst : starEach (e :: es) X.env = (false, eval e X.env) :: starEach es X.env := by rfl) (hpl : (backTo pos (starEach es X.env)).any (·.1) = false := by rfl)
    (ht : eval (.Call (.Attribute (.Name x p) m apos) (e :: es) [] pos) X.env = (do
      let ov ← eval (.Name x p) X.env
      standAt apos.atName
      let (f, first) ← holding [ov] (getMethod ov m pl)
      callWith pos f first (backTo pos (starEach (e :: es) X.env)) (backToKw pos (keywordEach [] X.env))) := by rfl) :
    EM X W (.Call (.Attribute (.Name x p) m apos) (e :: es) [] pos) (mCall f a) := by
  obtain ⟨C, q, g, mc, fd, ps, r, hf, ⟨rest, hrc⟩, F, hm, hkp, hb⟩ := c.ex
  refine ⟨⟨fun pins s σ H Q I h => ?_⟩⟩
  refine PySem.W.methodCall_KW (pl := pl) (ld_glob I hg hm ?_ hdb) ht
  refine PySem.W.method_cls I.kIn r.ga (PySem.W.cls_bind I.kIn r.rd hf ?_)
  refine wpAny_call (PySem.W.sm_get (s := { s with toks := s.toks + 1 }) I.kIn hrc (PySem.W.handed_on rfl ?_))
  have I1 := I.tok (s.toks + 1)
  have hq : tU X.K X.mg W (Rvs X.K) a σ H (fun vs H1 => spM X.K X.mg f vs H1 Q (WE W σ)) := tU_bind (f := fun _ => f) h fun as env ds S1 as1 H1 vs re rel rv gg => ⟨as1, ds, S1, rv, rel, gg.wish fun _ _ _ z => z⟩
  refine PySem.W.callWith_K (h₀ := X.base) I.ok.mod.kin hkp (thn (ha.pa.run pos pins _ σ H _ I1 hq) fun us s1 ⟨vs, H1, I2, rv, q2⟩ => ⟨I2.kIn, ?_⟩) hst hpl
  exact run_fnS F (hr.mono hk) hb (passAt tk σ) I2 rv q2
end
end Mi

namespace Mi
open PySem PySem.Spec PyProof.Rows L2

/-! ### the head's facts, read off a part of the heap -/
abbrev ga := He.ga
abbrev FnV : Type := Option (Str × Str × Arguments × FuncBody × Scope × Addr × Addr × List Str)
/-- the function object at a, without its cells -/
def fnV (K : PySem.W.Frag) (a : Addr) : FnV := match K.lookup a with
  | some ⟨_, _, .func fd, _⟩ => some (fd.name, fd.qualname, fd.params, fd.body, fd.scope, fd.globals, fd.builtins, fd.closure.map (·.1))
  | _ => none
/-- one def: where it stands, what the text says of it -/
structure FnM where
  adr : PySem.W.Frag → Addr
  name : Str
  qual : Str
  params : Arguments
  body : List Stmt
  scope : Scope
  clo : List Str := []
def FnM.val (d : FnM) : FnV := some (d.name, d.qual, d.params, .stmts d.body, d.scope, mainGlobals, builtinsNs, d.clo)
def noneB : Value → Bool
  | .none => true
  | _ => false
theorem noneB_ok {v : Value} (h : noneB v = true) : v = .none := by
  cases v <;> first | rfl | cases h
def FnM.ok (K : PySem.W.Frag) (d : FnM) : Bool := match K.lookup (d.adr K) with
  | some ⟨_, _, .func fd, _⟩ => PySem.W.codeIn K fd.code d.qual && noneB fd.defaults
  | _ => false
theorem ba {a b : Bool} (h : (a && b) = true) : a = true ∧ b = true := Bool.and_eq_true_iff.mp h
theorem FnM.at_ {K : PySem.W.Frag} {d : FnM} (e : fnV K (d.adr K) = d.val) (c : d.ok K = true) : ∃ (oc : Value) (od : Option Addr) (cl : List (Str × Addr)) (kV doc pm : Value) (an : Option Addr) (cdv ct : Value) (osl : Array (Option Value)),
    cl.map (·.1) = d.clo ∧ K.lookup (d.adr K) = some ⟨oc, od, .func (PySem.W.fnX d.name d.qual d.params d.body d.scope cl .none kV doc pm an cdv ct), osl⟩ ∧ PySem.W.codeIn K cdv d.qual = true := by
  unfold fnV at e
  unfold FnM.ok at c
  cases q : K.lookup (d.adr K) with
  | none => rw [q] at c; cases c
  | some o =>
    obtain ⟨oc, od, dt, osl⟩ := o
    rw [q] at c e
    cases dt with
    | func fd =>
      obtain ⟨n1, n2, n3, n4, n5, n6, n7, n8, n9, n10, n11, n12, n13, n14, n15⟩ := fd
      have e2 : (some (n1, n2, n3, n4, n5, n6, n15, n7.map (·.1)) : FnV) = some (d.name, d.qual, d.params, .stmts d.body, d.scope, mainGlobals, builtinsNs, d.clo) := e
      simp only [Option.some.injEq, Prod.mk.injEq] at e2
      obtain ⟨h1, h2, h3, h4, h5, h6, h7, h8⟩ := e2
      subst h1 h2 h3 h4 h5 h6 h7
      obtain ⟨c1, c2⟩ := ba c
      have h9 : n8 = .none := noneB_ok c2
      subst h9
      exact ⟨oc, od, n7, n9, n10, n11, n12, n13, n14, osl, h8, rfl, c1⟩
    | _ => cases c
theorem FnM.funD {K : PySem.W.Frag} {d : FnM} (e : fnV K (d.adr K) = d.val) (c : d.ok K = true) (hk : PySem.W.keepIn K (.ref (d.adr K)) = true) (h0 : d.clo = []) : ∃ fd, FunD K d.name d.qual d.params d.body d.scope [] [] (d.adr K) fd := by
  obtain ⟨oc, od, cl, kV, doc, pm, an, cdv, ct, osl, h1, h2, h3⟩ := d.at_ e c
  rw [h0] at h1
  have hcl : cl = [] := List.map_eq_nil_iff.mp h1
  subst hcl
  exact ⟨_, ⟨oc, od, .none, kV, doc, pm, an, cdv, ct, osl, rfl, h2, h3, .inl ⟨rfl, rfl⟩, .inl rfl⟩, hk⟩
/-! exceptions -/
def oexB (K : PySem.W.Frag) (C : Addr) : Bool := match K.lookup C with
  | some ⟨.type "type", _, .cls cd, sl⟩ => (match cd.mro, sl.toList with
    | .ref C' :: bm, [_, _, _, _, some (.builtin n), _] => C' == C && n == "ValueError.__new__" && !cd.hasDel && PySem.HandSPX.refsVE bm && cd.hasDict
    | _, _ => false)
  | _ => false
theorem oexB_ok {K : PySem.W.Frag} {C : Addr} (q : oexB K C = true) : ∃ nm q N bs bm sn sub ab col dd k0 k1 k2 k3 k5, K.lookup C = some (excClassObj nm q C N bs bm true sn sub ab col dd k0 k1 k2 k3 k5 "ValueError.__new__") ∧ PySem.HandSPX.refsVE bm = true := by
  unfold oexB at q
  split at q
  · rename_i dd cd sl ho
    split at q
    · rename_i C' bm k0 k1 k2 k3 n k5 hm hs
      simp only [Bool.and_eq_true, beq_iff_eq, Bool.not_eq_true'] at q
      obtain ⟨⟨⟨⟨rfl, rfl⟩, hdel⟩, ht⟩, hd'⟩ := q
      obtain ⟨nm, bs, mro, ns, qn, hd, sn, sub, ab, col, del⟩ := cd
      dsimp only at hm hdel hd'
      subst hm hdel hd'
      have hsl : sl = #[k0, k1, k2, k3, some (.builtin "ValueError.__new__"), k5] := by
        obtain ⟨l⟩ := sl
        simp only at hs
        rw [hs]
      subst hsl
      exact ⟨nm, qn, ns, bs, bm, sn, sub, ab, col, dd, k0, k1, k2, k3, k5, ho, ht⟩
    · cases q
  · cases q
def OexB (K : PySem.W.Frag) (C : Addr) : Bool := oexB K C && (decide (PySem.W.findIn K (.ref C) "__setattr__" = some (some (.builtin "object.__setattr__"))) && (decide (PySem.W.subIn K (.ref C) (.type "BaseException") = some true) && (decide (PySem.W.typeIn K (.ref C) = some (.type "type")) && PySem.W.keepIn K (.ref C))))
theorem OexB_ok {K : PySem.W.Frag} {C : Addr} (h : OexB K C = true) : OexC K C := by
  obtain ⟨h1, h⟩ := ba h
  obtain ⟨h2, h⟩ := ba h
  obtain ⟨h3, h⟩ := ba h
  obtain ⟨h4, h5⟩ := ba h
  exact ⟨oexB_ok h1, of_decide_eq_true h2, of_decide_eq_true h3, of_decide_eq_true h4, h5⟩
/-- where the __init__ of the class x stands -/
def iniA (x : Str) (K : PySem.W.Frag) : Addr := He.ma K (ga K x) "__init__"
def cellB (K : PySem.W.Frag) (a C : Addr) : Bool := match K.lookup a with
  | some ⟨_, _, .cell (some (.ref C')), _⟩ => C' == C
  | _ => false
def fileB (K : PySem.W.Frag) (cdv : Value) (file : Str) : Bool := match cdv with
  | .ref c => (match K.lookup c with
    | some ⟨_, _, .fields vs, _⟩ => (match (vs[2]? : Option Value) with
      | some (Value.str f _) => file == f
      | _ => false)
    | _ => false)
  | _ => false
/-- what is asked of the class x with an __init__ of its own -/
def iniB (K : PySem.W.Frag) (file x : Str) : Bool := OexB K (ga K x) && (decide (PySem.W.findIn K (.ref (ga K x)) "__init__" = some (some (.ref (iniA x K)))) && (decide (PySem.W.typeIn K (.ref (iniA x K)) = some (.type "function")) && (
  decide (PySem.W.mroIn K (ga K x) (.ref (ga K x)) = some true) && (decide (PySem.W.ks_superIn K (ga K x) (ga K x) "__init__" = some (some (.builtin "ValueError.__init__"))) && (decide (PySem.W.subIn K (.ref (ga K x)) (.type "ValueError") = some true) && (
  decide (PySem.W.nsIn K cStatics "thirdparty.any" = some none) && (match K.lookup (iniA x K) with
    | some ⟨_, _, .func fd, _⟩ => fileB K fd.code file && (match fd.closure with
      | [(_, cc)] => cellB K cc (ga K x)
      | _ => false)
    | _ => false)))))))
theorem iniB_ok {K : PySem.W.Frag} {P : Program} {x : Str} {d : FnM} (e : fnV K (d.adr K) = d.val) (c : d.ok K = true) (hd : d.adr K = iniA x K) (hn : d.name = "__init__") (hc : d.clo = [("__class__" : Str)]) (h : iniB K P.main.file x = true) (htop : (P.main.scope.names.lookup ("super" : Str)).isSome = false) :
    ∃ cc, ExcF K P (ga K x) (iniA x K) cc d.qual d.params d.body d.scope := by
  obtain ⟨h1, h⟩ := ba h
  obtain ⟨h2, h⟩ := ba h
  obtain ⟨h3, h⟩ := ba h
  obtain ⟨h4, h⟩ := ba h
  obtain ⟨h5, h⟩ := ba h
  obtain ⟨h6, h⟩ := ba h
  obtain ⟨h7, h⟩ := ba h
  obtain ⟨oc, od, cl, kV, doc, pm, an, cdv, ct, osl, g1, g2, g3⟩ := d.at_ e c
  rw [hd] at g2
  rw [g2] at h
  obtain ⟨h8, h9⟩ := ba h
  rw [hc] at g1
  obtain ⟨⟨nm, cc⟩, rfl⟩ : ∃ p, cl = [p] := by
    match cl, g1 with
    | [p], _ => exact ⟨p, rfl⟩
  have e1 : nm = "__class__" := by simpa using g1
  subst e1
  rw [hn] at g2
  have h9' : cellB K cc (ga K x) = true := h9
  have h8' : fileB K cdv P.main.file = true := h8
  unfold cellB at h9'
  unfold fileB at h8'
  split at h8'
  · rename_i cd
    split at h8'
    · rename_i ccl cdd vs ccs hcd
      split at h8'
      · rename_i f tf hf
        split at h9'
        · rename_i a1 a2 C' a3 hcell
          have hC : C' = ga K x := by simpa using h9'
          rw [hC] at hcell
          exact ⟨cc, ⟨OexB_ok h1, of_decide_eq_true h2, of_decide_eq_true h3, ⟨oc, od, kV, doc, pm, an, cd, ct, osl, vs, f, tf, ccl, cdd, ccs, g2, g3, hcd, hf, h8'⟩, ⟨_, _, _, hcell⟩, of_decide_eq_true h4, of_decide_eq_true h5, of_decide_eq_true h6, of_decide_eq_true h7, htop⟩⟩
        · cases h9'
      · cases h8'
    · cases h8'
  · cases h8'
/-! ### the Hook -/
def asM (g : Addr → Option Obj) : Nat → List Addr
  | 0 => [mainGlobals, cStatics]
  | n + 1 => He.growD g (asM g n)
abbrev AlM : Type := Bool × List FnV
def obsM (fa : List (PySem.W.Frag → Bool)) (fn : List FnM) (K : PySem.W.Frag) : AlM := ((fa.all fun f => f K) && fn.all fun d => d.ok K, fn.map fun d => fnV K (d.adr K))
def valM (fn : List FnM) : AlM := (true, fn.map FnM.val)
def SaysM (fa : List (PySem.W.Frag → Bool)) (fn : List FnM) (K : PySem.W.Frag) : Prop := obsM fa fn K = valM fn
def obsMG (n : Nat) (fa : List (PySem.W.Frag → Bool)) (fn : List FnM) (g : Addr → Option Obj) : AlM := obsM fa fn (He.frG g (asM g n))
def hookM (n : Nat) (fa : List (PySem.W.Frag → Bool)) (fn : List FnM) : PySem.W.Hook where
  α := AlM
  obs := fun s => obsMG n fa fn s.heap.get?
  val := fun _ => valM fn
  says := fun _ h => ∃ K : PySem.W.Frag, K.In h ∧ SaysM fa fn K
  of := fun _ _ e => ⟨_, He.frG_in, e⟩
  keeps := fun _ _ _ ⟨K, hK, c⟩ k => ⟨K, PySem.W.Frag.In.keeps hK k, c⟩
theorem obsMG_eq {n : Nat} {fa : List (PySem.W.Frag → Bool)} {fn : List FnM} {g : Addr → Option Obj} {s : Shared} (h : ∀ a, g a = s.heap.get? a) : obsMG n fa fn g = (hookM n fa fn).obs s := by
  have e : g = s.heap.get? := funext h
  rw [e] <;> rfl
section
variable {fa : List (PySem.W.Frag → Bool)} {fn : List FnM} {K : PySem.W.Frag}
theorem SaysM.fact (c : SaysM fa fn K) (i : Nat) {f : PySem.W.Frag → Bool} (h : fa[i]? = some f := by rfl) : f K = true := by
  have c1 := (ba (show ((fa.all fun f => f K) && fn.all fun d => d.ok K) = true from congrArg (fun z : AlM => z.1) c)).1
  exact List.all_eq_true.mp c1 f (List.mem_of_getElem? h)
theorem SaysM.fn_ (c : SaysM fa fn K) (i : Nat) {d : FnM} (h : fn[i]? = some d := by rfl) : fnV K (d.adr K) = d.val ∧ d.ok K = true := by
  have c2 := (ba (show ((fa.all fun f => f K) && fn.all fun d => d.ok K) = true from congrArg (fun z : AlM => z.1) c)).2
  have e : fn.map (fun d => fnV K (d.adr K)) = fn.map FnM.val := congrArg (fun z : AlM => z.2) c
  have e2 : (fn.map fun d => fnV K (d.adr K))[i]? = (fn.map FnM.val)[i]? := by rw [e]
  rw [List.getElem?_map, List.getElem?_map, h] at e2
  exact ⟨Option.some.inj e2, List.all_eq_true.mp c2 d (List.mem_of_getElem? h)⟩
end
end Mi

namespace Mi
open PySem PySem.Spec PyProof.Rows L2

def fMulA : F2 := fun d e S => match d with
  | .str _ => fMulS d e S
  | _ => fMul d e S
section
variable {X : Cx} {W : WX}
theorem op_fMulA : OpR X (binaryOp .Mult) (rF X.K fMulA) := by
  refine op_imp (OpR.or op_fMulS op_fMul) fun x y H Q ⟨as, S, d, e, z, S', rel, rx, ry, hf, q⟩ => ?_
  cases d with
  | str s => exact .inl ⟨as, S, _, e, z, S', rel, rx, ry, hf, q⟩
  | _ => exact .inr ⟨as, S, _, e, z, S', rel, rx, ry, hf, q⟩
theorem em_neg {a : Expr} {ma : ME} {pos : Pos} (ha : EM X W a ma) : EM X W (.UnaryOp .USub a pos) (m1 fNeg ma) := em_un un_fNeg ha pe_un
/-- a constant of the module -/
structure Gc (K : PySem.W.Frag) (mg : Str → Option Value) (x : Str) (d : D) : Prop where
  ex : ∃ (v : V) (u : Value), mg x = some u ∧ RelV v u ∧ ∀ as H, Rv K as H v d
theorem em_gc {x : Str} {d : D} {pos : Pos} (c : Gc X.K X.mg x d) (hg : Gl X x := by rfl) (hd : (x == ("__debug__" : Str)) = false := by decide) : EM X W (.Name x pos) (mC d) := by
  obtain ⟨v, u, h1, h2, h3⟩ := c.ex
  exact em_g hg h1 h2 h3 hd
open ClX in
/-- a constant of a class -/
structure Cc (K : PySem.W.Frag) (mg : Str → Option Value) (x f : Str) (d : D) : Prop where
  ex : ∃ (C : Addr) (mc : Value) (v : V) (u : Value), CRead K C mc ∧ CVal K C mc f v u ∧ mg x = some (.ref C) ∧ ∀ as H, Rv K as H v d
theorem em_cc {x f : Str} {d : D} {p pos : Pos} (c : Cc X.K X.mg x f d) (hg : Gl X x := by rfl) (hd : (x == ("__debug__" : Str)) = false := by decide)
    (hb : attributeBase (.Name x p) f X.env (eval (.Name x p) X.env) = eval (.Name x p) X.env := by rfl) : EM X W (.Attribute (.Name x p) f pos) (mC d) := by
  obtain ⟨C, mc, v, u, h1, h2, h3, h4⟩ := c.ex
  exact em_cval h1 h2 h3 h4 hg hd hb
end
/-- the def st stands as the module's name x -/
structure Fun1 (K : PySem.W.Frag) (mg : Str → Option Value) (x : Str) (st : Stmt) : Prop where
  ex : ∃ (f : Addr) (fd : FuncData), FunD K x x (defArgs st) (defBody st) (defScope st) [] [] f fd ∧ mg x = some (.ref f)
section
variable {P : Program} {w : World} {K : PySem.W.Frag} {mg : Str → Option Value} {base : Heap}
theorem cal1 {x : Str} {st : Stmt} {N ps : List Str} {k : Nat} {b : MS} (F : Fun1 K mg x st) (S : FnScope N ps (defScope st))
    (hbn : ∀ (kV doc pm : Value) (an : Option Addr) (cdv ct : Value) (us : List Value), us.length = ps.length → bindArgs (PySem.W.fnOf x x (defArgs st) (defBody st) (defScope st) .none kV doc pm an cdv ct) ⟨us, []⟩ = pure (ps.zip us))
    (hb : BodyOk P w K mg base k N x (defScope st) (defBody st) b) : Cal P w K mg base (k + 1) x (mFn ps.length N.length b) := by
  obtain ⟨f, fd, h1, h2⟩ := F.ex
  exact cal_of h1 S h2 (h1.bindsN hbn) hb
end
/-- the def st stands as the static method m of the class x -/
structure Sta1 (K : PySem.W.Frag) (mg : Str → Option Value) (x m qual : Str) (st : Stmt) : Prop where
  ex : ∃ (C p g : Addr) (mc : Value) (fd : FuncData), ClX.CRead K C mc ∧ PySem.W.findCls K (.ref C) mc m = some (.get (.builtin "staticmethod.__get__") (.ref p) .none (.ref C)) ∧ (∃ rest, PySem.W.recIn K p "staticmethod" = some (.ref g :: rest)) ∧
    FunD K m qual (defArgs st) (defBody st) (defScope st) [] [] g fd ∧ mg x = some (.ref C)
theorem sta1 {P : Program} {w : World} {K : PySem.W.Frag} {mg : Str → Option Value} {base : Heap} {x m qual : Str} {st : Stmt} {N ps : List Str} {k : Nat} {b : MS} (F : Sta1 K mg x m qual st) (S : FnScope N ps (defScope st))
    (hbn : ∀ (kV doc pm : Value) (an : Option Addr) (cdv ct : Value) (us : List Value), us.length = ps.length → bindArgs (PySem.W.fnOf m qual (defArgs st) (defBody st) (defScope st) .none kV doc pm an cdv ct) ⟨us, []⟩ = pure (ps.zip us))
    (hb : BodyOk P w K mg base k N qual (defScope st) (defBody st) b) : Sta P w K mg base (k + 1) x m (mFn ps.length N.length b) := by
  obtain ⟨C, p, g, mc, fd, h1, h2, h3, h4, h5⟩ := F.ex
  exact ⟨C, p, g, mc, fd, ps, h1, h2, h3, fn_ok h4 S hb, h5, h4.kp, h4.bindsN hbn⟩
def clsBody : Stmt → List Stmt
  | .ClassDef (body := b) .. => b
  | _ => []
def inCls (st : Stmt) (j : Nat) : Stmt := (clsBody st).getD j (.Pass ⟨0, 0, 0, 0⟩)
/-- the room that an equality asks -/
theorem uRoom {X : Cx} {j : Nat} (h : Room j X.A) : X.A.units + 64 < cLine := by have := h.un; omega
end Mi

namespace Mi
open PySem PySem.Spec PyProof.Rows L2

/-! ### constants, read off K -/
def all2 {α β : Type} (f : α → β → Bool) : List α → List β → Bool
  | [], [] => true
  | a :: as, b :: bs => f a b && all2 f as bs
  | _, _ => false
def constB (K : PySem.W.Frag) : Nat → Value → D → Bool
  | 0, _, _ => false
  | n + 1, u, d => match d, u with
    | .non, .none => true
    | .bl b, .bool c => b == c
    | .int i, .int j _ => decide (i = j)
    | .str x, .str y _ => decide (x = y)
    | .tup ds, .ref a => (match K.lookup a with
      | some ⟨.type c, _, .seq its _, _⟩ => decide (c = "tuple") && (decide (its.size ≤ sizeLine) && all2 (constB K n) its.toList ds)
      | _ => false)
    | _, _ => false
theorem all2_ok {K : PySem.W.Frag} {f : Value → D → Bool} (hf : ∀ u d, f u d = true → ∃ v, RelV v u ∧ ∀ as H, Rv K as H v d) : ∀ {us : List Value} {ds : List D}, all2 f us ds = true → ∃ vs, Vals vs us ∧ ∀ as H, Rvs K as H vs ds
  | [], [], _ => ⟨[], .nil, fun _ _ => .nil⟩
  | [], _ :: _, h => by cases h
  | _ :: _, [], h => by cases h
  | u :: us, d :: ds, h => by
    obtain ⟨h1, h2⟩ := ba (show (f u d && all2 f us ds) = true from h)
    obtain ⟨v, r1, r2⟩ := hf u d h1
    obtain ⟨vs, q1, q2⟩ := all2_ok hf h2
    exact ⟨v :: vs, .cons r1 q1, fun as H => .cons (r2 as H) (q2 as H)⟩
theorem constB_ok {K : PySem.W.Frag} : ∀ (n : Nat) (u : Value) (d : D), constB K n u d = true → ∃ v, RelV v u ∧ ∀ as H, Rv K as H v d
  | 0, _, _, h => by cases h
  | n + 1, u, d, h => by
    unfold constB at h
    split at h
    · exact ⟨.non, rfl, fun _ _ => .non⟩
    · rename_i b c
      have e : b = c := eq_of_beq h
      subst e
      exact ⟨.bl b, rfl, fun _ _ => .bl b⟩
    · rename_i i j t
      have e : i = j := of_decide_eq_true h
      subst e
      exact ⟨.int i, ⟨t, rfl⟩, fun _ _ => .int i⟩
    · rename_i x y t
      have e : x = y := of_decide_eq_true h
      subst e
      exact ⟨.str x, ⟨t, rfl⟩, fun _ _ => .str x⟩
    · rename_i ds a
      split at h
      · rename_i c x1 its x2 x3 hl
        obtain ⟨h1, h2⟩ := ba h
        obtain ⟨h3, h4⟩ := ba h2
        have e : c = "tuple" := of_decide_eq_true h1
        subst e
        obtain ⟨vs, q1, q2⟩ := all2_ok (fun u d => constB_ok n u d) h4
        exact ⟨.ref a, rfl, fun as H => .tup (.inr ⟨_, its, _, hl, rfl, rfl, of_decide_eq_true h3, q1⟩) (q2 as H)⟩
      · cases h
    · cases h
def gcB (x : Str) (d : D) (K : PySem.W.Frag) : Bool := match PySem.W.nsIn K mainGlobals x with
  | some (some u) => constB K 6 u d
  | _ => false
def creadB (K : PySem.W.Frag) (C : Addr) : Bool := PySem.W.readsIn K C (.type "type") && decide (PySem.W.specialIn K (.ref C) "__getattribute__" = some (some (.builtin "type.__getattribute__")))
theorem creadB_ok {K : PySem.W.Frag} {C : Addr} (h : creadB K C = true) : ClX.CRead K C (.type "type") := by
  obtain ⟨h1, h2⟩ := ba h
  exact ⟨h1, of_decide_eq_true h2⟩
def gloB (x : Str) (K : PySem.W.Frag) : Bool := (He.Fa.glo x).ok K
def freeB (x : Str) (K : PySem.W.Frag) : Bool := (He.Fa.free x).ok K
def ccB (x f : Str) (d : D) (K : PySem.W.Frag) : Bool := gloB x K && (creadB K (ga K x) && (match PySem.W.findCls K (.ref (ga K x)) (.type "type") f with
  | some (.val u) => constB K 6 u d
  | _ => false))
def funB (x : Str) (K : PySem.W.Frag) : Bool := gloB x K && PySem.W.keepIn K (.ref (ga K x))
/-- the function of the static method m of the class x -/
def staA (x m : Str) (K : PySem.W.Frag) : Addr := match PySem.W.findCls K (.ref (ga K x)) (.type "type") m with
  | some (.get _ (.ref p) _ _) => (match PySem.W.recIn K p "staticmethod" with
    | some (.ref g :: _) => g
    | _ => 0)
  | _ => 0
def staB (x m : Str) (K : PySem.W.Frag) : Bool := gloB x K && (creadB K (ga K x) && (PySem.W.keepIn K (.ref (staA x m K)) && (match PySem.W.findCls K (.ref (ga K x)) (.type "type") m with
  | some (.get (.builtin i) (.ref p) .none (.ref C)) => i == "staticmethod.__get__" && (C == ga K x && (match PySem.W.recIn K p "staticmethod" with
    | some (.ref _ :: _) => true
    | _ => false))
  | _ => false)))
def exmB (x y : Str) (b : Bool) (K : PySem.W.Frag) : Bool := (He.Fa.exm x y b).ok K && (gloB x K && gloB y K)
def xfkB (x f : Str) (K : PySem.W.Frag) : Bool := gloB x K && (xfB K (ga K x) && (He.Fa.noat x f).ok K)
def excB (file x : Str) (fs : List Str) (K : PySem.W.Frag) : Bool := gloB x K && (iniB K file x && fs.all fun f => (He.Fa.noat x f).ok K)
section
variable {K : PySem.W.Frag} {h : Heap} {mg : Str → Option Value} (X : K.In h) (G : h.Ns mainGlobals mg)
include X G
theorem gc_ok {x : Str} {d : D} (c : gcB x d K = true) : Gc K mg x d := by
  unfold gcB at c
  split at c
  · rename_i u e
    obtain ⟨v, r1, r2⟩ := constB_ok 6 u d c
    exact ⟨v, u, PySem.W.mg_of X G e, r1, r2⟩
  · cases c
theorem free_ok {x : Str} (c : freeB x K = true) : mg x = none := He.free_ok X G c
theorem glo_ok {x : Str} (c : gloB x K = true) : mg x = some (.ref (ga K x)) := He.glo_ok X G c
theorem cc_ok {x f : Str} {d : D} (c : ccB x f d K = true) : Cc K mg x f d := by
  obtain ⟨c1, c⟩ := ba c
  obtain ⟨c2, c⟩ := ba c
  split at c
  · rename_i u e
    obtain ⟨v, r1, r2⟩ := constB_ok 6 u d c
    exact ⟨ga K x, .type "type", v, u, creadB_ok c2, ⟨e, r1⟩, glo_ok X G c1, r2⟩
  · cases c
theorem fun_ok {x : Str} {st : Stmt} {d : FnM} (c : funB x K = true) (e : fnV K (d.adr K) = d.val ∧ d.ok K = true) (hd : d = ⟨fun K => ga K x, x, x, defArgs st, defBody st, defScope st, []⟩) : Fun1 K mg x st := by
  obtain ⟨c1, c2⟩ := ba c
  subst hd
  obtain ⟨fd, F⟩ := FnM.funD e.1 e.2 c2 rfl
  exact ⟨ga K x, fd, F, glo_ok X G c1⟩
theorem sta_ok {x m qual : Str} {st : Stmt} {d : FnM} (c : staB x m K = true) (e : fnV K (d.adr K) = d.val ∧ d.ok K = true) (hd : d = ⟨staA x m, m, qual, defArgs st, defBody st, defScope st, []⟩) : Sta1 K mg x m qual st := by
  obtain ⟨c1, c⟩ := ba c
  obtain ⟨c2, c⟩ := ba c
  obtain ⟨c3, c⟩ := ba c
  subst hd
  obtain ⟨fd, F⟩ := FnM.funD e.1 e.2 c3 rfl
  split at c
  · rename_i i p C hf
    obtain ⟨c4, c6⟩ := ba c
    obtain ⟨c5, c7⟩ := ba c6
    clear c c6
    have e1 : i = "staticmethod.__get__" := by simpa using c4
    have e2 : C = ga K x := by simpa using c5
    subst e1 e2
    cases hr : PySem.W.recIn K p "staticmethod" with
    | none => rw [hr] at c7; cases c7
    | some l =>
      rw [hr] at c7
      cases l with
      | nil => cases c7
      | cons v rest =>
        cases v <;> first | (cases c7; done) | skip
        rename_i g
        have eg : staA x m K = g := by
          unfold staA
          rw [hf]
          dsimp only
          rw [hr]
        have F' : FunD K m qual (defArgs st) (defBody st) (defScope st) [] [] g fd := by rw [← eg]; exact F
        exact ⟨ga K x, p, g, .type "type", fd, creadB_ok c2, hf, ⟨rest, hr⟩, F', glo_ok X G c1⟩
  · cases c
theorem exm_ok {x y : Str} {b : Bool} (c : exmB x y b K = true) : ∃ C C', mg x = some (.ref C) ∧ mg y = some (.ref C') ∧ PySem.W.exmOne K (.ref C) (.ref C') = some b := by
  obtain ⟨c1, c⟩ := ba c
  obtain ⟨c2, c3⟩ := ba c
  exact ⟨_, _, glo_ok X G c2, glo_ok X G c3, He.exm_ok c1⟩
/-- the except clauses that name x: l the classes it may meet -/
theorem exk_ok {x : Str} (l : List (Str × Bool)) (c1 : gloB x K = true) (c : ∀ p ∈ l, exmB p.1 x p.2 K = true) : Exk K mg x (fun y => l.lookup y) := by
  refine ⟨ga K x, glo_ok X G c1, fun y C' b hy hb => ?_⟩
  have hmem : ∀ {l : List (Str × Bool)}, l.lookup y = some b → (y, b) ∈ l := by
    intro l
    induction l with
    | nil => intro h; cases h
    | cons p l ih =>
      intro h
      obtain ⟨z, b'⟩ := p
      simp only [List.lookup] at h
      split at h
      · rename_i hz
        cases h
        rw [beq_iff_eq] at hz
        subst hz
        exact List.mem_cons_self ..
      · exact List.mem_cons_of_mem _ (ih h)
  obtain ⟨C, C2, e1, e2, e3⟩ := exm_ok X G (c _ (hmem hb))
  rw [hy] at e1
  cases e1
  rw [glo_ok X G c1] at e2
  cases e2
  exact e3
theorem exkB_ok {x : Str} {l : List (Str × Bool)} (c : (gloB x K && l.all fun p => exmB p.1 x p.2 K) = true) : Exk K mg x (fun y => l.lookup y) := by
  obtain ⟨c1, c2⟩ := ba c
  exact exk_ok X G l c1 (List.all_eq_true.mp c2)
theorem xfk_ok {f : Str} (l : List Str) (c : ∀ y ∈ l, xfkB y f K = true) : Xfk K mg f l := by
  refine ⟨fun y hy C hC => ?_⟩
  obtain ⟨c1, c2⟩ := ba (c y hy)
  obtain ⟨c3, c4⟩ := ba c2
  have e := glo_ok X G c1
  rw [hC] at e
  cases e
  exact ⟨xfB_ok c3, He.noat_ok c4⟩
theorem xfkB_ok {f : Str} {l : List Str} (c : (l.all fun y => xfkB y f K) = true) : Xfk K mg f l := xfk_ok X G l (List.all_eq_true.mp c)
theorem rsb1 {P : Program} {w : World} {base : Heap} {x qual z self p f : Str} {j : Nat} {st : Stmt} {d : FnM} {p0 p1 p2 p3 p4 p5 q1 q2 q3 q4 : Pos} (c : excB P.main.file x [f] K = true) (e : fnV K (d.adr K) = d.val ∧ d.ok K = true)
    (hd : d = ⟨iniA x, "__init__", qual, defArgs st, defBody st, defScope st, ["__class__"]⟩) (hs : freeB "super" K = true) (htop : (P.main.scope.names.lookup ("super" : Str)).isSome = false)
    (hbody : defBody st = [.Expr (supE z j p0 p1 p2 p3 p4) p5, .Assign [.Attribute (.Name self q1) f q2] (.Name p q3) q4]) (hev : SupEv z j p0 p1 p2 p3 p4)
    (S : NdefX.NScope [self, p, "__class__"] [self, p] ["__class__"] (defScope st)) (hks : (defScope st).names.lookup ("super" : Str) = some .globalImplicit) (hpar : ∃ ar, ((defArgs st).posonlyargs ++ (defArgs st).args).head? = some ar ∧ ar.arg = self)
    (d1 : (self == ("__debug__" : Str)) = false) (d2 : (p == ("__debug__" : Str)) = false) (d3 : (self == ("__classdict__" : Str)) = false) (d4 : (p == ("__classdict__" : Str)) = false)
    (hbn : ∀ (cc : Addr) (kV doc pm : Value) (an : Option Addr) (cdv ct : Value) (us : List Value), us.length = [self, p].length → bindArgs (PySem.W.fnX "__init__" qual (defArgs st) (defBody st) (defScope st) [("__class__", cc)] .none kV doc pm an cdv ct) ⟨us, []⟩ = pure ([self, p].zip us)) :
    Rsb P w K mg base 1 x 1 (fun ws => [(f, ws.getD 0 .non)]) := by
  obtain ⟨c1, c⟩ := ba c
  obtain ⟨c2, c3⟩ := ba c
  have c4 := He.noat_ok (List.all_eq_true.mp c3 f (List.mem_singleton.mpr rfl))
  subst hd
  obtain ⟨cc, F⟩ := iniB_ok e.1 e.2 rfl rfl rfl c2 htop
  obtain ⟨fd, H1, H2⟩ := ini1 (w := w) (mg := mg) (base := base) (k := 0) F hbody hev S hks hpar (free_ok X G hs) c4 d1 d2 d3 d4 (hbn cc)
  exact ⟨ga K x, iniA x K, fd, [self, p], F.ox, F.init, F.tI, H1, H2, glo_ok X G c1⟩
end
/-! ### the end -/
def script0 (ns : List Int) : Sto := [.fix (ns.map D.int)]
/-- the plain law: what is left to be shown of the mirror -/
def Plain (m : MFn) : Prop := ∀ ns : List Int, ns.length ≤ 63 → ∃ S', m [.obj 0] (script0 ns) = .ok (.bl true) S'
theorem spM_plain {K : PySem.W.Frag} {mg : Str → Option Value} {m : MFn} (h : Plain m) {H : Hp} {a : Addr} {ns : List Int} {E : XK} (hl : ns.length ≤ 63) (hO : Only H) (hS : SqL K H a (ns.map V.int)) : spM K mg m [.ref a] H (fun v _ => v = .bl true) E := by
  have rv : Rvs K [a] H (ns.map V.int) (ns.map D.int) := Rvs.map (fun i => .int i) ns
  have rel : Rel K [a] (script0 ns) H := by
    refine ⟨rfl, fun i b o hi ho => ?_, fun i j b o u hi hj ho hu mo mu => ?_⟩
    · match i, hi with
      | 0, hi =>
        cases hi
        cases ho
        refine ⟨ns.map V.int, ?_, rv⟩
        rcases hS with hS | hS
        · rcases hS with hS | hS
          · rcases hO a with z | ⟨o, xs, z⟩
            · rw [z] at hS; cases hS
            · rw [z] at hS; cases hS
          · exact .inl hS
        · exact .inr fun _ => .inr hS
      | _ + 1, hi => cases hi
    · match i, ho with
      | 0, ho => cases ho; cases mo
      | _ + 1, ho => cases ho
  refine ⟨[a], [.obj 0], script0 ns, .cons (.obj rfl) .nil, rel, ?_⟩
  obtain ⟨S', e⟩ := h ns hl
  rw [e]
  intro as' H' v x r q
  cases q
  rfl
/-- the law's end, an own exception let out of a call being no end -/
theorem walk_ofW {lw : PySem.W.OpenLaw} {m lv : Nat} {qv : Program} {lo : List Str} {XPr : (Str → Option Value) → Heap → Prop} {YPr : World → Heap → Prop} {df : DefRec} {x : Str} (h1 : lw.most = some m) (h2 : m ≤ sizeLine) (h3 : df.params.defaults = []) (h4 : Room lv callerA)
    (F : ∀ (w : World) (mg : Str → Option Value) (fa : Addr) (h : Heap), YPr w h → h.Ns mainGlobals mg → mg df.name = some (.ref fa) → ∃ (K : PySem.W.Frag) (fd : FuncData) (sp : Sp), K.In h ∧ (∀ (s : Shared) (u : Value), BindsTo s fd ⟨[u], []⟩ [(x, u)]) ∧
      (∀ (H : Hp) (a : Addr) (ns : List Int), ns.length ≤ m → Only H → SqL K H a (ns.map V.int) → sp [.ref a] H (fun v _ => v = .bl true) fun _ _ _ => False) ∧ ∀ base : Heap, K.In base → base.Ns mainGlobals mg → FnOk lw.prog w K mg base (L2.CX lw.prog w) lv fa fd [x] sp) :
    PySem.W.WalkO qv lo XPr YPr lw.row.toRowW df [] (fun f vs => PySem.call f vs) := by
  refine Att.attach_call h1 h3 fun w s0 s1 mg mb fa ob pm cd doc a us ns G Y z1 z2 z3 z4 z5 z6 z7 z8 => ?_
  obtain ⟨K, fd, sp, kx, q1, q2, q3⟩ := F w mg fa _ Y G.T.g z4
  refine law_call kx G.T.g G.T.b G.T.builtins G.T.nolimit z8 z5 z6 (Nat.le_trans z7 h2) h4 q3 q1 (fun H u v => q2 H a ns z7 u v) fun H e s' c => ?_
  obtain ⟨_, _, _, _, _, _, _, _, _, _, _, _, bad⟩ := c
  exact bad
end Mi

namespace Mi
open PySem PySem.Spec PyProof.Rows L2

/-! ### the mirror, evaluated -/
abbrev st (l : List Nat) : Str := ⟨l.toArray⟩
abbrev sD (l : List Nat) : D := .str (st l)
abbrev nD (n : Nat) : D := .int (n : Int)
theorem st_len (l : List Nat) : (st l).length = l.length := (rfl)
theorem st_eq {a b : List Nat} : (st a = st b) = (a = b) := by
  refine propext ⟨fun h => ?_, fun h => by rw [h]⟩
  have h1 : a.toArray = b.toArray := congrArg Str.cps h
  simpa using congrArg Array.toList h1
theorem st_app (a b : List Nat) : st a ++ st b = st (a ++ b) := by
  show (⟨a.toArray ++ b.toArray⟩ : Str) = _
  simp
section
variable {α β : Type} {env : Env} {S S1 : Sto}
theorem bind_ok {a : α} {f : α → Sto → R β} : (R.ok a S).bind f = f a S := (rfl)
theorem bind_ex {e : Xn} {f : α → Sto → R β} : (R.ex e S).bind f = R.ex e S := (rfl)
theorem bind_no {f : α → Sto → R β} : (R.no).bind f = R.no := (rfl)
theorem of_some {d : α} : R.of (some (d, S)) = R.ok d S := (rfl)
theorem rs_ok {a : α} {f : α → Sto → RS} : RS.of (.ok a S) env f = f a S := (rfl)
theorem rs_ex {e : Xn} {f : α → Sto → RS} : RS.of (.ex e S) env f = .ex e env S := (rfl)
theorem rs_bind {x : R α} {f : α → Sto → R β} {g : β → Sto → RS} : RS.of (x.bind f) env g = RS.of x env fun a S1 => RS.of (f a S1) env g := by
  cases x <;> rfl
theorem then_nx {f : Env → Sto → RS} : (RS.nx env S).then f = f env S := (rfl)
theorem then_rt {d : D} {f : Env → Sto → RS} : (RS.rt d S).then f = .rt d S := (rfl)
theorem then_ex {e : Xn} {f : Env → Sto → RS} : (RS.ex e env S).then f = .ex e env S := (rfl)
theorem then_bk {f : Env → Sto → RS} : (RS.bk env S).then f = .bk env S := (rfl)
theorem then_ct {f : Env → Sto → RS} : (RS.ct env S).then f = .ct env S := (rfl)
theorem mV0 {d : D} : mV 0 (some d :: env) S = .ok d S := (rfl)
theorem mVs {n : Nat} {x : Option D} : mV (n + 1) (x :: env) S = mV n env S := (rfl)
theorem mC_ {d : D} : mC d env S = .ok d S := (rfl)
theorem m2_ {f : F2} {a b : ME} : m2 f a b env S = (a env S).bind fun x S1 => (b env S1).bind fun y S2 => R.of (f x y S2) := (rfl)
theorem m1_ {f : F1} {a : ME} : m1 f a env S = (a env S).bind fun x S1 => R.of (f x S1) := (rfl)
def kB (x : D) (S : Sto) : R Bool := match x with
  | .bl b => .ok b S
  | _ => .no
theorem mB_ {a : ME} : mB a env S = (a env S).bind kB := (rfl)
theorem kB_bl {b : Bool} : kB (.bl b) S = .ok b S := (rfl)
theorem mB1_ {f : FL} {a : MA} : mB1 f a env S = (a env S).bind fun xs S1 => R.of (f xs S1) := (rfl)
theorem mNil_ : mNil env S = .ok [] S := (rfl)
theorem mCons_ {a : ME} {r : MA} : mCons a r env S = (a env S).bind fun x S1 => (r env S1).bind fun xs S2 => .ok (x :: xs) S2 := (rfl)
theorem f1L_ {f : F1} {d : D} : f1L f [d] S = f d S := (rfl)
theorem f2L_ {f : D → D → Sto → Option (D × Sto)} {d e : D} : f2L f [d, e] S = f d e S := (rfl)
theorem mTup_ {a : MA} : mTup a env S = (a env S).bind kTup := (rfl)
theorem mLst_ {a : MA} : mLst a env S = (a env S).bind kLst := (rfl)
theorem mCall_ {m : MFn} {a : MA} : mCall m a env S = (a env S).bind m := (rfl)
theorem mNotT_ {a : MT} : mNotT a env S = (a env S).bind fun b S1 => .ok (!b) S1 := (rfl)
theorem mAndT_ {a b : MT} : mAndT a b env S = (a env S).bind fun c S1 => if c = true then b env S1 else .ok false S1 := (rfl)
theorem mOrT_ {a b : MT} : mOrT a b env S = (a env S).bind fun c S1 => if c = true then .ok true S1 else b env S1 := (rfl)
theorem mIf_ {t : MT} {a b : ME} : mIf t a b env S = (t env S).bind fun c S1 => if c = true then a env S1 else b env S1 := (rfl)
def kAndV (b : ME) (env : Env) (c : D) (S : Sto) : R D := match c with
  | .bl true => b env S
  | .bl false => .ok (.bl false) S
  | _ => .no
def kOrV (b : ME) (env : Env) (c : D) (S : Sto) : R D := match c with
  | .bl false => b env S
  | .bl true => .ok (.bl true) S
  | _ => .no
def kNotV (c : D) (S : Sto) : R D := match c with
  | .bl b => .ok (.bl (!b)) S
  | _ => .no
theorem mAndV_ {a b : ME} : mAndV a b env S = (a env S).bind (kAndV b env) := by
  unfold mAndV; congr 1
theorem mOrV_ {a b : ME} : mOrV a b env S = (a env S).bind (kOrV b env) := by
  unfold mOrV; congr 1
theorem mNotV_ {a : ME} : mNotV a env S = (a env S).bind kNotV := (rfl)
theorem kAndV_bl {b : ME} {c : Bool} : kAndV b env (.bl c) S = if c = true then b env S else .ok (.bl false) S := by cases c <;> rfl
theorem kOrV_bl {b : ME} {c : Bool} : kOrV b env (.bl c) S = if c = true then .ok (.bl true) S else b env S := by cases c <;> rfl
theorem kNotV_bl {b : Bool} : kNotV (.bl b) S = .ok (.bl (!b)) S := (rfl)
theorem mSl_ {a : ME} {lo hi : MO'} : mSl a lo hi env S = (a env S).bind fun x S1 => (lo env S1).bind fun l S2 => (hi env S2).bind fun u S3 => R.of (fSl x l u S3) := (rfl)
theorem mPart_ {a : ME} : mPart a env S = (a env S).bind kPart := (rfl)
theorem kPart_ {i : Int} : kPart (.int i) S = .ok (some i) S := (rfl)
theorem mNoPart_ : mNoPart env S = .ok none S := (rfl)
theorem kTup_ {xs : List D} (h : xs.length ≤ sizeLine) : kTup xs S = .ok (.tup xs) S := if_pos h
theorem kLst_ {xs : List D} (h : xs.length ≤ sizeLine) : kLst xs S = .ok (.obj S.length) (S ++ [.lst xs]) := if_pos h
theorem kTu1 {x0 : D} : kTup [x0] S = .ok (.tup [x0]) S := kTup_ (by rw [sizeLine_eq]; simp)
theorem kLs1 {x0 : D} : kLst [x0] S = .ok (.obj S.length) (S ++ [.lst [x0]]) := kLst_ (by rw [sizeLine_eq]; simp)
theorem kTu2 {x0 x1 : D} : kTup [x0, x1] S = .ok (.tup [x0, x1]) S := kTup_ (by rw [sizeLine_eq]; simp)
theorem kLs2 {x0 x1 : D} : kLst [x0, x1] S = .ok (.obj S.length) (S ++ [.lst [x0, x1]]) := kLst_ (by rw [sizeLine_eq]; simp)
theorem kTu3 {x0 x1 x2 : D} : kTup [x0, x1, x2] S = .ok (.tup [x0, x1, x2]) S := kTup_ (by rw [sizeLine_eq]; simp)
theorem kLs3 {x0 x1 x2 : D} : kLst [x0, x1, x2] S = .ok (.obj S.length) (S ++ [.lst [x0, x1, x2]]) := kLst_ (by rw [sizeLine_eq]; simp)
theorem kTu4 {x0 x1 x2 x3 : D} : kTup [x0, x1, x2, x3] S = .ok (.tup [x0, x1, x2, x3]) S := kTup_ (by rw [sizeLine_eq]; simp)
theorem kLs4 {x0 x1 x2 x3 : D} : kLst [x0, x1, x2, x3] S = .ok (.obj S.length) (S ++ [.lst [x0, x1, x2, x3]]) := kLst_ (by rw [sizeLine_eq]; simp)
theorem kTu5 {x0 x1 x2 x3 x4 : D} : kTup [x0, x1, x2, x3, x4] S = .ok (.tup [x0, x1, x2, x3, x4]) S := kTup_ (by rw [sizeLine_eq]; simp)
theorem kLs5 {x0 x1 x2 x3 x4 : D} : kLst [x0, x1, x2, x3, x4] S = .ok (.obj S.length) (S ++ [.lst [x0, x1, x2, x3, x4]]) := kLst_ (by rw [sizeLine_eq]; simp)
theorem kLs0 : kLst [] S = .ok (.obj S.length) (S ++ [.lst []]) := kLst_ (by rw [sizeLine_eq]; simp)
/-! statements -/
theorem sSeq_ {m n : MS} : sSeq m n env S = (m env S).then n := (rfl)
theorem sSet_ {i : Nat} {a : ME} : sSet i a env S = RS.of (a env S) env fun d S1 => .nx (env.set i (some d)) S1 := (rfl)
theorem sRet_ {a : ME} : sRet a env S = RS.of (a env S) env fun d S1 => .rt d S1 := (rfl)
theorem sIf_ {t : MT} {a b : MS} : sIf t a b env S = RS.of (t env S) env fun c S1 => if c = true then a env S1 else b env S1 := (rfl)
theorem sExpr_ {a : ME} : sExpr a env S = RS.of (a env S) env fun _ S1 => .nx env S1 := (rfl)
theorem sNil_ : sNil env S = .nx env S := (rfl)
theorem sBreak_ : sBreak env S = .bk env S := (rfl)
theorem sCont_ : sCont env S = .ct env S := (rfl)
theorem sAug_ {i : Nat} {f : F2} {a : ME} {x : D} (h : env[i]? = some (some x)) : sAug i f a env S = RS.of ((a env S).bind fun y S1 => R.of (f x y S1)) env fun z S2 => .nx (env.set i (some z)) S2 := by
  unfold sAug
  rw [h]
  cases a env S with
  | ok y S1 =>
    show (match f x y S1 with | some (z, S2) => RS.nx (env.set i (some z)) S2 | none => .no) = RS.of (R.of (f x y S1)) env _
    cases f x y S1 <;> rfl
  | ex e S1 => rfl
  | no => rfl
theorem aug_int {i : Nat} {k v : Int} (h : env[i]? = some (some (.int v))) : sAug i fIAdd (mC (.int k)) env S = .nx (env.set i (some (.int (v + k)))) S := by
  rw [sAug_ h]; rfl
/-! while -/
theorem wh_eq {t : MT} {b : MS} {n : Nat} : whileM t b (n + 1) env S = RS.of (t env S) env fun c S1 => if c = true then (match b env S1 with
      | .nx env2 S2 => whileM t b n env2 S2
      | .ct env2 S2 => whileM t b n env2 S2
      | .bk env2 S2 => .nx env2 S2
      | o => o) else .nx env S1 := (rfl)
theorem wh_stop {t : MT} {b : MS} {n : Nat} (h : t env S = .ok false S1) : whileM t b (n + 1) env S = .nx env S1 := by unfold whileM; rw [h]; rfl
theorem wh_next {t : MT} {b : MS} {n : Nat} {env2 : Env} {S2 : Sto} (h : t env S = .ok true S1) (h2 : b env S1 = .nx env2 S2) : whileM t b (n + 1) env S = whileM t b n env2 S2 := by
  rw [wh_eq, h, rs_ok]; simp only [if_true, h2]
theorem wh_brk {t : MT} {b : MS} {n : Nat} {env2 : Env} {S2 : Sto} (h : t env S = .ok true S1) (h2 : b env S1 = .bk env2 S2) : whileM t b (n + 1) env S = .nx env2 S2 := by
  rw [wh_eq, h, rs_ok]; simp only [if_true, h2]
theorem wh_ex {t : MT} {b : MS} {n : Nat} {e : Xn} {env2 : Env} {S2 : Sto} (h : t env S = .ok true S1) (h2 : b env S1 = .ex e env2 S2) : whileM t b (n + 1) env S = .ex e env2 S2 := by
  rw [wh_eq, h, rs_ok]; simp only [if_true, h2]
theorem wh_rt {t : MT} {b : MS} {n : Nat} {d : D} {S2 : Sto} (h : t env S = .ok true S1) (h2 : b env S1 = .rt d S2) : whileM t b (n + 1) env S = .rt d S2 := by
  rw [wh_eq, h, rs_ok]; simp only [if_true, h2]
/-! operations -/
theorem e_len {l : List Nat} (h : l.length ≤ sizeLine) : fLen (sD l) S = some (.int (l.length : Int), S) := if_pos h
theorem e_lenL {i : Nat} {ds : List D} (h : S[i]? = some (.lst ds)) : fLen (.obj i) S = some (.int (ds.length : Int), S) := by unfold fLen; simp only [h]
theorem e_lenT {ds : List D} : fLen (.tup ds) S = some (.int (ds.length : Int), S) := (rfl)
theorem e_lt {a b : Int} : fLt (.int a) (.int b) S = some (.bl (decide (a < b)), S) := (rfl)
theorem e_le {a b : Int} : fLe (.int a) (.int b) S = some (.bl (decide (a ≤ b)), S) := (rfl)
theorem e_gt {a b : Int} : fGt (.int a) (.int b) S = some (.bl (decide (b < a)), S) := (rfl)
theorem e_ge {a b : Int} : fGe (.int a) (.int b) S = some (.bl (decide (b ≤ a)), S) := (rfl)
theorem e_eqI {a b : Int} : fEq (.int a) (.int b) S = some (.bl (decide (a = b)), S) := (rfl)
theorem e_neI {a b : Int} : fNe (.int a) (.int b) S = some (.bl (!decide (a = b)), S) := (rfl)
theorem e_eqS {a b : Str} : fEq (.str a) (.str b) S = some (.bl (decide (a = b)), S) := (rfl)
theorem e_neS {a b : Str} : fNe (.str a) (.str b) S = some (.bl (!decide (a = b)), S) := (rfl)
theorem e_add {a b : Int} : fAdd (.int a) (.int b) S = some (.int (a + b), S) := (rfl)
theorem e_sub {a b : Int} : fSub (.int a) (.int b) S = some (.int (a - b), S) := (rfl)
theorem e_addS {a b : List Nat} (h : a.length + b.length ≤ sizeLine) : fAdd (sD a) (sD b) S = some (sD (a ++ b), S) := by
  unfold fAdd
  dsimp only
  rw [st_len, st_len, if_pos h, st_app]
theorem nat_lt {c d : Nat} : decide ([c] < [d]) = decide (c < d) := by
  have : ([c] < [d]) ↔ c < d := by
    constructor
    · intro h
      cases h with
      | rel h => exact h
      | cons h => cases h
    · intro h; exact List.Lex.rel h
  simp only [this]
theorem e_ltS {c d : Nat} : fLt (sD [c]) (sD [d]) S = some (.bl (decide (c < d)), S) := by
  show some (D.bl (decide ((st [c]).cps.toList < (st [d]).cps.toList)), S) = _
  rw [show (st [c]).cps.toList = [c] from rfl, show (st [d]).cps.toList = [d] from rfl, nat_lt]
theorem e_gtS {c d : Nat} : fGt (sD [c]) (sD [d]) S = some (.bl (decide (d < c)), S) := by
  show some (D.bl (decide ((st [d]).cps.toList < (st [c]).cps.toList)), S) = _
  rw [show (st [c]).cps.toList = [c] from rfl, show (st [d]).cps.toList = [d] from rfl, nat_lt]
theorem e_leS {c d : Nat} : fLe (sD [c]) (sD [d]) S = some (.bl (decide (c ≤ d)), S) := by
  show some (D.bl (!decide ((st [d]).cps.toList < (st [c]).cps.toList)), S) = _
  rw [show (st [c]).cps.toList = [c] from rfl, show (st [d]).cps.toList = [d] from rfl, nat_lt]
  congr 3
  by_cases h : d < c <;> simp [h] <;> omega
theorem e_inS {c : Nat} {g : List Nat} : fIn (sD [c]) (sD g) S = some (.bl (decide (c ∈ g)), S) := by
  unfold fIn inB
  simp
theorem e_notinS {c : Nat} {g : List Nat} : fNotIn (sD [c]) (sD g) S = some (.bl (!decide (c ∈ g)), S) := by
  unfold fNotIn inB
  simp
theorem ixN_nat {n i : Nat} (h : i < n) : ixN n (i : Int) = some i := by
  unfold ixN
  rw [if_pos (by omega), if_pos (by omega)]
  simp
theorem e_at {pre suf : List Nat} {c : Nat} (h : (pre ++ c :: suf).length ≤ sizeLine) : fIx (sD (pre ++ c :: suf)) (.int (pre.length : Int)) S = some (sD [c], S) := by
  unfold fIx
  dsimp only
  rw [st_len, if_pos h]
  unfold atI
  rw [ixN_nat (by simp)]
  simp
theorem e_ixL {i k : Nat} {ds : List D} {d : D} (h : S[i]? = some (.lst ds)) (h2 : ds[k]? = some d) : fIx (.obj i) (.int (k : Int)) S = some (d, S) := by
  have e0 : lstAt S i = some ds := by unfold lstAt; rw [h]
  unfold fIx
  dsimp only
  rw [e0]
  show Option.map (fun z => (z, S)) (atI ds (k : Int)) = _
  unfold atI
  have hk : k < ds.length := by
    rcases Nat.lt_or_ge k ds.length with z | z
    · exact z
    · rw [List.getElem?_eq_none z] at h2; cases h2
  rw [ixN_nat hk]
  simp [h2]
theorem e_ixT {k : Nat} {ds : List D} {d : D} (h2 : ds[k]? = some d) : fIx (.tup ds) (.int (k : Int)) S = some (d, S) := by
  unfold fIx
  dsimp only
  unfold atI
  have hk : k < ds.length := by
    rcases Nat.lt_or_ge k ds.length with z | z
    · exact z
    · rw [List.getElem?_eq_none z] at h2; cases h2
  rw [ixN_nat hk]
  simp [h2]
theorem e_cut {a b c : List Nat} (h : (a ++ b ++ c).length ≤ sizeLine) : fSl (sD (a ++ b ++ c)) (some (a.length : Int)) (some ((a.length + b.length : Nat) : Int)) S = some (sD b, S) := by
  unfold fSl
  dsimp only
  rw [st_len, if_pos h]
  unfold cutS
  rw [st_len]
  rw [HT.sIx_nat, HT.sIx_nat]
  simp only [List.toList_toArray]
  have e1 : min a.length (a ++ b ++ c).length = a.length := by simp
  have e2 : min (a.length + b.length) (a ++ b ++ c).length = a.length + b.length := by simp
  rw [e1, e2]
  simp
theorem e_append {i : Nat} {ds : List D} {d : D} (h : S[i]? = some (.lst ds)) (hl : ds.length < sizeLine) : fAppend (.obj i) [d] S = some (.non, S.set i (.lst (ds ++ [d]))) := by
  unfold fAppend
  simp only [h, if_pos hl]
theorem mM_lst {f : FM} {o : ME} {a : MA} {i : Nat} {ds : List D} (ho : o env S = .ok (.obj i) S1) (h : S1[i]? = some (.lst ds)) : mM "list" f o a env S = (a env S1).bind fun xs S2 => R.of (f (.obj i) xs S2) := by
  unfold mM
  rw [ho, bind_ok]
  have : tyOk "list" (.obj i) S1 = true := by unfold tyOk; simp only [h]; rfl
  rw [if_pos this]
theorem e_cutK {pre suf : List Nat} {k : Nat} (h : (pre ++ suf).length ≤ sizeLine) : fSl (sD (pre ++ suf)) (some (pre.length : Int)) (some ((pre.length + k : Nat) : Int)) S = some (sD (suf.take k), S) := by
  unfold fSl
  dsimp only
  rw [st_len, if_pos h]
  unfold cutS
  rw [st_len, HT.sIx_nat, HT.sIx_nat]
  simp only [List.toList_toArray]
  have e1 : min pre.length (pre ++ suf).length = pre.length := by simp
  rw [e1, List.drop_left]
  rcases Nat.le_total (pre.length + k) (pre ++ suf).length with h2 | h2
  · rw [Nat.min_eq_left h2]
    simp
  · rw [Nat.min_eq_right h2]
    rw [List.length_append] at h2 ⊢
    rw [List.take_of_length_le (by omega), List.take_of_length_le (by omega)]
theorem flat_strs (ys : List (List Nat)) : (ys.map sD).all flatD = true := by
  rw [List.all_eq_true]
  intro d hd
  obtain ⟨y, _, rfl⟩ := List.mem_map.mp hd
  rfl
theorem in_strs (x : List Nat) (ys : List (List Nat)) : inFlat (sD x) (ys.map sD) = some (decide (x ∈ ys)) := by
  unfold inFlat
  rw [if_pos ⟨rfl, flat_strs ys⟩]
  congr 1
  unfold inD
  rw [List.any_map]
  induction ys with
  | nil => rfl
  | cons y ys ih =>
    rw [List.any_cons, ih]
    have e : eqF (sD y) (sD x) = decide (y = x) := by
      show (st y == st x) = decide (y = x)
      by_cases h : y = x
      · subst h; simp
      · have : ¬ st y = st x := by rw [st_eq]; exact h
        simp [h, this]
    show (eqF (sD y) (sD x) || decide (x ∈ ys)) = decide (x ∈ y :: ys)
    rw [e]
    by_cases h : y = x
    · subst h; simp
    · have : ¬ x = y := fun z => h z.symm
      simp [h, this]
theorem e_inT {x : List Nat} {ys : List (List Nat)} : fIn (sD x) (.tup (ys.map sD)) S = some (.bl (decide (x ∈ ys)), S) := by
  unfold fIn inB
  dsimp only
  rw [in_strs]; rfl
theorem e_inL {x : List Nat} {ys : List (List Nat)} {i : Nat} (h : S[i]? = some (.lst (ys.map sD))) : fIn (sD x) (.obj i) S = some (.bl (decide (x ∈ ys)), S) := by
  have e0 : lstAt S i = some (ys.map sD) := by unfold lstAt; rw [h]
  unfold fIn inB
  dsimp only
  rw [e0]
  show Option.map _ (inFlat (sD x) (ys.map sD)) = _
  rw [in_strs]; rfl
theorem e_notinL {x : List Nat} {ys : List (List Nat)} {i : Nat} (h : S[i]? = some (.lst (ys.map sD))) : fNotIn (sD x) (.obj i) S = some (.bl (!decide (x ∈ ys)), S) := by
  have e0 : lstAt S i = some (ys.map sD) := by unfold lstAt; rw [h]
  unfold fNotIn inB
  dsimp only
  rw [e0]
  show Option.map _ (inFlat (sD x) (ys.map sD)) = _
  rw [in_strs]; rfl
theorem mM_ {T : String} {f : FM} {o : ME} {a : MA} : mM T f o a env S = (o env S).bind fun d S1 => if tyOk T d S1 = true then (a env S1).bind fun ds S2 => R.of (f d ds S2) else .no := (rfl)
theorem mM0_ {T : String} {f : FM} {o : ME} : mM0 T f o env S = (o env S).bind fun d S1 => if tyOk T d S1 = true then R.of (f d [] S1) else .no := (rfl)
theorem tyL {i : Nat} {ds : List D} (h : S[i]? = some (.lst ds)) : tyOk "list" (.obj i) S = true := by unfold tyOk; simp only [h]; rfl
theorem tyS {z : Str} : tyOk "str" (.str z) S = true := (rfl)
theorem ga0 {T : Sto} {x : MO} : (S ++ x :: T)[S.length]? = some x := by simp
theorem ga1 {T : Sto} {x y : MO} : (S ++ x :: y :: T)[S.length + 1]? = some y := by simp
theorem sa0 {T : Sto} {x x' : MO} : (S ++ x :: T).set S.length x' = S ++ x' :: T := by simp
theorem sa1 {T : Sto} {x y y' : MO} : (S ++ x :: y :: T).set (S.length + 1) y' = S ++ x :: y' :: T := by simp
theorem sAsg_ {a : ME} {g : MG} : sAsg a g env S = RS.of (a env S) env (kAsg g env) := (rfl)
/-! for -/
theorem sFor_ {a : MI} {g : MG} {b : MS} : sFor a g b env S = RS.of (a env S) env fun it S1 => forI it g b it.n 0 env S1 := (rfl)
theorem iRng_ {a : MA} : iRng a env S = (a env S).bind kRngI := (rfl)
theorem kRng1 {j : Int} (h : -(2 ^ 62) ≤ j ∧ j < 2 ^ 62) : kRngI [.int j] S = .ok (itRng 0 j.toNat) S := if_pos h
theorem kRng2 {i j : Int} (h : -(2 ^ 62) ≤ i ∧ i < 2 ^ 62 ∧ -(2 ^ 62) ≤ j ∧ j < 2 ^ 62) : kRngI [.int i, .int j] S = .ok (itRng i (j - i).toNat) S := if_pos h
theorem fr_end {lo : Int} {n k : Nat} {g : MG} {b : MS} : forI (itRng lo n) g b k n env S = .nx env S := by
  have e : (itRng lo n).f n S = some none := if_neg (Nat.lt_irrefl n)
  cases k <;> (unfold forI; simp only [e])
theorem fr_at {lo : Int} {n i : Nat} (h : i < n) : (itRng lo n).f i S = some (some (.int (lo + (i : Int)))) := if_pos h
theorem fr_nx {lo : Int} {n i j k : Nat} {b : MS} {env2 : Env} {S2 : Sto} (h : i < n) (hb : b (env.set j (some (.int (lo + (i : Int))))) S = .nx env2 S2) : forI (itRng lo n) (gN j) b (k + 1) i env S = forI (itRng lo n) (gN j) b k (i + 1) env2 S2 := by
  rw [forI]; simp only [fr_at h, gN, hb]
theorem fr_rt {lo : Int} {n i j k : Nat} {b : MS} {d : D} {S2 : Sto} (h : i < n) (hb : b (env.set j (some (.int (lo + (i : Int))))) S = .rt d S2) : forI (itRng lo n) (gN j) b (k + 1) i env S = .rt d S2 := by
  rw [forI]; simp only [fr_at h, gN, hb]
theorem fr_ex {lo : Int} {n i j k : Nat} {b : MS} {e : Xn} {env2 : Env} {S2 : Sto} (h : i < n) (hb : b (env.set j (some (.int (lo + (i : Int))))) S = .ex e env2 S2) : forI (itRng lo n) (gN j) b (k + 1) i env S = .ex e env2 S2 := by
  rw [forI]; simp only [fr_at h, gN, hb]
/-- turns over a fixed row -/
theorem fx_end {ds : List D} {k : Nat} {g : MG} {b : MS} : forI (itFix ds) g b k ds.length env S = .nx env S := by
  have e : (itFix ds).f ds.length S = some none := by show some (ds[ds.length]?) = some none; simp
  cases k <;> (unfold forI; simp only [e])
theorem fx_nx {ds : List D} {d : D} {i k : Nat} {g : MG} {b : MS} {env1 env2 : Env} {S2 : Sto} (h : ds[i]? = some d) (hg : g d env S = some env1) (hb : b env1 S = .nx env2 S2) : forI (itFix ds) g b (k + 1) i env S = forI (itFix ds) g b k (i + 1) env2 S2 := by
  have e : (itFix ds).f i S = some (some d) := by show some (ds[i]?) = some (some d); rw [h]
  rw [forI]; simp only [e, hg, hb]
theorem fx_rt {ds : List D} {d d' : D} {i k : Nat} {g : MG} {b : MS} {env1 : Env} {S2 : Sto} (h : ds[i]? = some d) (hg : g d env S = some env1) (hb : b env1 S = .rt d' S2) : forI (itFix ds) g b (k + 1) i env S = .rt d' S2 := by
  have e : (itFix ds).f i S = some (some d) := by show some (ds[i]?) = some (some d); rw [h]
  rw [forI]; simp only [e, hg, hb]
/-- turns over a list in the store -/
theorem fl_end {ds : List D} {n j k : Nat} {g : MG} {b : MS} (h : S[j]? = some (.lst ds)) : forI (itLst n j) g b k ds.length env S = .nx env S := by
  have e : (itLst n j).f ds.length S = some none := by show (lstAt S j).map _ = some none; unfold lstAt; rw [h]; simp
  cases k <;> (unfold forI; simp only [e])
theorem fl_at {ds : List D} {d : D} {n j i : Nat} (h : S[j]? = some (.lst ds)) (h2 : ds[i]? = some d) : (itLst n j).f i S = some (some d) := by
  show (lstAt S j).map _ = some (some d); unfold lstAt; rw [h]; simp [h2]
theorem fl_nx {ds : List D} {d : D} {n j i k : Nat} {g : MG} {b : MS} {env1 env2 : Env} {S2 : Sto} (h : S[j]? = some (.lst ds)) (h2 : ds[i]? = some d) (hg : g d env S = some env1) (hb : b env1 S = .nx env2 S2) : forI (itLst n j) g b (k + 1) i env S = forI (itLst n j) g b k (i + 1) env2 S2 := by
  rw [forI]; simp only [fl_at h h2, hg, hb]
theorem fl_rt {ds : List D} {d d' : D} {n j i k : Nat} {g : MG} {b : MS} {env1 : Env} {S2 : Sto} (h : S[j]? = some (.lst ds)) (h2 : ds[i]? = some d) (hg : g d env S = some env1) (hb : b env1 S = .rt d' S2) : forI (itLst n j) g b (k + 1) i env S = .rt d' S2 := by
  rw [forI]; simp only [fl_at h h2, hg, hb]
theorem iSeq_ {a : ME} : iSeq a env S = (a env S).bind kSeqI := (rfl)
theorem kSeqT {ds : List D} : kSeqI (.tup ds) S = .ok (itFix ds) S := (rfl)
theorem kSeqL {ds : List D} {j : Nat} (h : S[j]? = some (.lst ds)) : kSeqI (.obj j) S = .ok (itLst ds.length j) S := by
  unfold kSeqI lstAt; simp only [h]
end
end Mi

namespace K00
open PySem PySem.Spec PyProof.Rows L2 Mi
abbrev RW : PySem.W.OpenLaw := PySem.Challenge.rw_provedtorun_k00_cut_in_one_way
def top (i : Nat) : Stmt := PySem.Challenge.pw_provedtorun_k00_cut_in_one_way.main.body.getD i (.Pass ⟨0, 0, 0, 0⟩)
abbrev s_law : Stmt := top 41
abbrev s__law_pool : Stmt := top 23
abbrev s__law_pick : Stmt := top 24
abbrev s__law_piece : Stmt := top 29
abbrev s__law_layout : Stmt := top 28
abbrev s__law_kept_words : Stmt := top 26
abbrev s__law_strange : Stmt := top 27
abbrev s__law_cut : Stmt := top 33
abbrev s__law_layout_end : Stmt := top 30
abbrev s__law_token : Stmt := top 32
abbrev s__law_run_end : Stmt := top 31
abbrev s__law_told : Stmt := top 34
abbrev s_cut_text : Stmt := top 16
abbrev s__layout_end : Stmt := top 14
abbrev s__remark_end : Stmt := top 13
abbrev s__token_at : Stmt := top 15
abbrev s__run_end : Stmt := top 12
abbrev s__law_int : Stmt := top 25
abbrev s__law_other_kinds : Stmt := top 40
abbrev s__law_same : Stmt := top 35
abbrev s_same_tokens : Stmt := top 20
abbrev s_token_texts : Stmt := top 19
abbrev s__law_same_due : Stmt := top 36
abbrev s__law_words_right : Stmt := top 39
abbrev s_is_name : Stmt := top 21
abbrev s__law_joined : Stmt := top 37
abbrev s_joined_text : Stmt := top 18
abbrev s__is_token : Stmt := top 17
abbrev s__law_join_refused : Stmt := top 38
abbrev s_Words_is_kept : Stmt := inCls (top 11) 1
def d_LETTERS : D := (.str "abcdefghijklmnopqrstuvwxyz")
def d_FIGURES : D := (.str "0123456789")
def d_WORD_SIGNS : D := (.str "abcdefghijklmnopqrstuvwxyz0123456789_")
def d_LONG_SIGNS : D := (.tup [(.str "=="), (.str "!="), (.str "<="), (.str ">="), (.str "//")])
def d_SHORT_SIGNS : D := (.str "<>=+-*()[],:.")
def d_MOST_FIGURES : D := (.int 1000)
def d_Words_KEPT : D := (.tup [(.str "record"), (.str "end"), (.str "procedure"), (.str "results"), (.str "asks"), (.str "gives"), (.str "falls"), (.str "as"), (.str "var"), (.str "do"), (.str "call"), (.str "if"), (.str "then"), (.str "else"), (.str "while"), (.str "keep"), (.str "assert"), (.str "hold"), (.str "return"), (.str "and"), (.str "or"), (.str "not"), (.str "for"), (.str "all"), (.str "some"), (.str "upto"), (.str "from"), (.str "to"), (.str "yes"), (.str "no"), (.str "int"), (.str "bool"), (.str "ints"), (.str "len"), (.str "new"), (.str "same")])
abbrev fl_BadSign (β : Type) (z : β) : List β → List (Str × β) := fun ws => [("offset", ws.getD 0 z)]
abbrev fl_BadText (β : Type) (z : β) : List β → List (Str × β) := fun ws => [("offset", ws.getD 0 z)]
abbrev sl_BadSign : List (Str × Bool) := [("BadSign", true), ("BadText", false)]
abbrev sub_BadSign : Str → Option Bool := fun y => sl_BadSign.lookup y
abbrev sl_BadText : List (Str × Bool) := [("BadSign", false), ("BadText", true)]
abbrev sub_BadText : Str → Option Bool := fun y => sl_BadText.lookup y
def xl_offset : List Str := ["BadSign", "BadText"]
structure Txt (P : Program) (w : World) (K : PySem.W.Frag) (mg : Str → Option Value) (base : Heap) : Prop where
  n_bool : mg "bool" = none
  n_enumerate : mg "enumerate" = none
  n_int : mg "int" = none
  n_isinstance : mg "isinstance" = none
  n_len : mg "len" = none
  n_list : mg "list" = none
  n_min : mg "min" = none
  n_range : mg "range" = none
  n_str : mg "str" = none
  n_tuple : mg "tuple" = none
  c_LETTERS : Gc K mg "LETTERS" d_LETTERS
  c_FIGURES : Gc K mg "FIGURES" d_FIGURES
  c_WORD_SIGNS : Gc K mg "WORD_SIGNS" d_WORD_SIGNS
  c_LONG_SIGNS : Gc K mg "LONG_SIGNS" d_LONG_SIGNS
  c_SHORT_SIGNS : Gc K mg "SHORT_SIGNS" d_SHORT_SIGNS
  c_MOST_FIGURES : Gc K mg "MOST_FIGURES" d_MOST_FIGURES
  c_Words_KEPT : Cc K mg "Words" "KEPT" d_Words_KEPT
  d_law : Fun1 K mg "law" s_law
  d__law_pool : Fun1 K mg "_law_pool" s__law_pool
  d__law_pick : Fun1 K mg "_law_pick" s__law_pick
  d__law_piece : Fun1 K mg "_law_piece" s__law_piece
  d__law_layout : Fun1 K mg "_law_layout" s__law_layout
  d__law_kept_words : Fun1 K mg "_law_kept_words" s__law_kept_words
  d__law_strange : Fun1 K mg "_law_strange" s__law_strange
  d__law_cut : Fun1 K mg "_law_cut" s__law_cut
  d__law_layout_end : Fun1 K mg "_law_layout_end" s__law_layout_end
  d__law_token : Fun1 K mg "_law_token" s__law_token
  d__law_run_end : Fun1 K mg "_law_run_end" s__law_run_end
  d__law_told : Fun1 K mg "_law_told" s__law_told
  d_cut_text : Fun1 K mg "cut_text" s_cut_text
  d__layout_end : Fun1 K mg "_layout_end" s__layout_end
  d__remark_end : Fun1 K mg "_remark_end" s__remark_end
  d__token_at : Fun1 K mg "_token_at" s__token_at
  d__run_end : Fun1 K mg "_run_end" s__run_end
  d__law_int : Fun1 K mg "_law_int" s__law_int
  d__law_other_kinds : Fun1 K mg "_law_other_kinds" s__law_other_kinds
  d__law_same : Fun1 K mg "_law_same" s__law_same
  d_same_tokens : Fun1 K mg "same_tokens" s_same_tokens
  d_token_texts : Fun1 K mg "token_texts" s_token_texts
  d__law_same_due : Fun1 K mg "_law_same_due" s__law_same_due
  d__law_words_right : Fun1 K mg "_law_words_right" s__law_words_right
  d_is_name : Fun1 K mg "is_name" s_is_name
  d__law_joined : Fun1 K mg "_law_joined" s__law_joined
  d_joined_text : Fun1 K mg "joined_text" s_joined_text
  d__is_token : Fun1 K mg "_is_token" s__is_token
  d__law_join_refused : Fun1 K mg "_law_join_refused" s__law_join_refused
  s_Words_is_kept : Sta1 K mg "Words" "is_kept" "Words.is_kept" s_Words_is_kept
  x_BadSign : Rsb P w K mg base 1 "BadSign" 1 (fl_BadSign V .non)
  x_BadText : Rsb P w K mg base 1 "BadText" 1 (fl_BadText V .non)
  k_BadSign : Exk K mg "BadSign" sub_BadSign
  k_BadText : Exk K mg "BadText" sub_BadText
  f_offset : Xfk K mg "offset" xl_offset
section
variable {P : Program} {w : World} {K : PySem.W.Frag} {mg : Str → Option Value} {base : Heap}
abbrev N__law_pool : List Str := ["script", "pool", "place", "cell", "turn", "mixed"]
def B__law_pool : MS :=
  (sSeq (sSet 1 (mLst mNil))
  (sSeq (sFor (iRng (mCons (mB1 (f2L fMin2) (mCons (mB1 (f1L fLen) (mCons (mV 0) mNil)) (mCons (mC (.int 63)) mNil))) mNil)) (gN 2)
  (sSeq (sSet 3 (mB1 (f1L fInt) (mCons (m2 fIx (mV 0) (mV 2)) mNil)))
  (sSeq (sIf (mB (m2 fLt (mV 3) (mC (.int 0))))
  (sSet 3 (m2 fSub (mC (.int 3)) (mV 3)))
  sNil)
  (sIf (mB (m2 fGe (mV 3) (m2 fPow (mC (.int 10)) (mC (.int 18)))))
  (sFor (iRng (mCons (mC (.int 48)) mNil)) (gN 4)
  (sIf (mB (m2 fGt (mV 3) (mC (.int 0))))
  (sSeq (sExpr (mM "list" fAppend (mV 1) (mCons (m2 fMod (mB1 (f1L fInt) (mCons (mV 3) mNil)) (mC (.int 30))) mNil)))
  (sSet 3 (m2 fDiv (mV 3) (mC (.int 30)))))
  sNil))
  (sSeq (sSet 5 (m2 fMod (mB1 (f1L fInt) (mCons (m2 fAdd (m2 fAdd (m2 fMulA (mV 3) (mC (.int 50021))) (m2 fMulA (mV 2) (mC (.int 30011)))) (mC (.int 17))) mNil)) (mC (.int 1000000007))))
  (sFor (iRng (mCons (mC (.int 5)) mNil)) (gN 4)
  (sSeq (sSet 5 (m2 fMod (mB1 (f1L fInt) (mCons (m2 fAdd (m2 fAdd (m2 fAdd (m2 fMulA (mV 5) (mV 5)) (m2 fMulA (mV 4) (mC (.int 7919)))) (mV 2)) (mC (.int 11))) mNil)) (mC (.int 998244353))))
  (sExpr (mM "list" fAppend (mV 1) (mCons (m2 fDiv (mV 5) (mC (.int 13))) mNil))))))))))
  (sSeq (sExpr (mM0 "list" fReverse (mV 1)))
  (sRet (mV 1)))))
def M__law_pool : MFn := mFn 1 6 B__law_pool
theorem sc__law_pool : FnScope N__law_pool ["script"] (defScope s__law_pool) := ⟨rfl, rfl, rfl, by decide +kernel, rfl, by decide +kernel, by decide +kernel⟩
theorem b__law_pool (T : Txt P w K mg base) : BodyOk P w K mg base 0 N__law_pool "_law_pool" (defScope s__law_pool) (defBody s__law_pool) B__law_pool := by
  intro f cdv A outer s H E hr tk po
  have nd := sc__law_pool.nd
  exact (bm_cons (sm_set 1 nd (em_lst am_nil))
  (bm_cons (sm_for po rfl (im_rng1 T.n_range (em_callB (call_fMin2 rfl) rfl T.n_min PyProof.Rows.Boot.«min» (am_cons (em_callB call_fLen rfl T.n_len PyProof.Rows.Boot.«len» (am_cons (em_v 0) am_nil)) (am_cons em_int am_nil)))) (gm_n 2 nd)
  (bm_cons (sm_set 3 nd (em_callT call_fInt rfl T.n_int PyProof.Rows.Boot.«int» (am_cons (em_ix ix_fIx (em_v 0) (em_v 2)) am_nil)))
  (bm_cons (sm_if (tm_cmp op_fLt (em_v 3) em_int)
  (bm_one (sm_set 3 nd (em_bin op_fSub em_int (em_v 3))))
  bm_nil)
  (bm_one (sm_if (tm_cmp op_fGe (em_v 3) (em_bin op_fPow em_int em_int))
  (bm_one (sm_for po rfl (im_rng1 T.n_range em_int) (gm_n 4 nd)
  (bm_one (sm_if (tm_cmp op_fGt (em_v 3) em_int)
  (bm_cons (sm_expr (em_bm PySem.F.plainAttrs_list PySem.F.slot_list_append PySem.F.type_list_append mt_fAppend (em_v 1) (am_cons (em_bin op_fMod (em_callT call_fInt rfl T.n_int PyProof.Rows.Boot.«int» (am_cons (em_v 3) am_nil)) em_int) am_nil)))
  (bm_one (sm_set 3 nd (em_bin op_fDiv (em_v 3) em_int))))
  bm_nil))))
  (bm_cons (sm_set 5 nd (em_bin op_fMod (em_callT call_fInt rfl T.n_int PyProof.Rows.Boot.«int» (am_cons (em_bin op_fAdd (em_bin op_fAdd (em_bin op_fMulA (em_v 3) em_int) (em_bin op_fMulA (em_v 2) em_int)) em_int) am_nil)) em_int))
  (bm_one (sm_for po rfl (im_rng1 T.n_range em_int) (gm_n 4 nd)
  (bm_cons (sm_set 5 nd (em_bin op_fMod (em_callT call_fInt rfl T.n_int PyProof.Rows.Boot.«int» (am_cons (em_bin op_fAdd (em_bin op_fAdd (em_bin op_fAdd (em_bin op_fMulA (em_v 5) (em_v 5)) (em_bin op_fMulA (em_v 4) em_int)) (em_v 2)) em_int) am_nil)) em_int))
  (bm_one (sm_expr (em_bm PySem.F.plainAttrs_list PySem.F.slot_list_append PySem.F.type_list_append mt_fAppend (em_v 1) (am_cons (em_bin op_fDiv (em_v 5) em_int) am_nil)))))))))))))
  (bm_cons (sm_expr (em_bm0 PySem.F.plainAttrs_list PySem.F.slot_list_reverse PySem.F.type_list_reverse mt_fReverse (em_v 1)))
  (bm_one (sm_ret (em_v 1))))))
theorem c__law_pool (T : Txt P w K mg base) : Cal P w K mg base 1 "_law_pool" M__law_pool := cal1 T.d__law_pool sc__law_pool (fun _ _ _ _ _ _ us hl => match us, hl with | [_], _ => rfl) (b__law_pool T)
abbrev N__law_pick : List Str := ["pool", "many"]
def B__law_pick : MS :=
  (sSeq (sIf (mB (m2 fEq (mB1 (f1L fLen) (mCons (mV 0) mNil)) (mC (.int 0))))
  (sRet (mC (.int 0)))
  sNil)
  (sRet (m2 fMod (mB1 (f1L fInt) (mCons (mM0 "list" fPop (mV 0)) mNil)) (mV 1))))
def M__law_pick : MFn := mFn 2 2 B__law_pick
theorem sc__law_pick : FnScope N__law_pick ["pool", "many"] (defScope s__law_pick) := ⟨rfl, rfl, rfl, by decide +kernel, rfl, by decide +kernel, by decide +kernel⟩
theorem b__law_pick (T : Txt P w K mg base) : BodyOk P w K mg base 0 N__law_pick "_law_pick" (defScope s__law_pick) (defBody s__law_pick) B__law_pick := by
  intro f cdv A outer s H E hr tk po
  have nd := sc__law_pick.nd
  exact (bm_cons (sm_if (tm_cmp (op_fEq (uRoom hr)) (em_callB call_fLen rfl T.n_len PyProof.Rows.Boot.«len» (am_cons (em_v 0) am_nil)) em_int)
  (bm_one (sm_ret em_int))
  bm_nil)
  (bm_one (sm_ret (em_bin op_fMod (em_callT call_fInt rfl T.n_int PyProof.Rows.Boot.«int» (am_cons (em_bm0 PySem.F.plainAttrs_list PySem.F.slot_list_pop PySem.F.type_list_pop mt_fPop (em_v 0)) am_nil)) (em_v 1)))))
theorem c__law_pick (T : Txt P w K mg base) : Cal P w K mg base 1 "_law_pick" M__law_pick := cal1 T.d__law_pick sc__law_pick (fun _ _ _ _ _ _ us hl => match us, hl with | [_, _], _ => rfl) (b__law_pick T)
abbrev N__law_layout : List Str := ["pool"]
def B__law_layout : MS :=
  (sRet (m2 fIx (mLst (mCons (mC (.str "")) (mCons (mC (.str " ")) (mCons (mC (.str "\n")) (mCons (mC (.str "  ")) (mCons (mC (.str "# a!B/\n")) (mCons (mC (.str " #\n")) (mCons (mC (.str "\n\n ")) (mCons (mC (.str "#_x#\n# \n")) mNil))))))))) (mCall M__law_pick (mCons (mV 0) (mCons (mC (.int 8)) mNil)))))
def M__law_layout : MFn := mFn 1 1 B__law_layout
theorem sc__law_layout : FnScope N__law_layout ["pool"] (defScope s__law_layout) := ⟨rfl, rfl, rfl, by decide +kernel, rfl, by decide +kernel, by decide +kernel⟩
theorem b__law_layout (T : Txt P w K mg base) : BodyOk P w K mg base 1 N__law_layout "_law_layout" (defScope s__law_layout) (defBody s__law_layout) B__law_layout := by
  intro f cdv A outer s H E hr tk po
  have nd := sc__law_layout.nd
  exact (bm_one (sm_ret (em_ix ix_fIx (em_lst (am_cons em_str (am_cons em_str (am_cons em_str (am_cons em_str (am_cons em_str (am_cons em_str (am_cons em_str (am_cons em_str am_nil))))))))) (em_call (c__law_pick T) hr tk (am_cons (em_v 0) (am_cons em_int am_nil))))))
theorem c__law_layout (T : Txt P w K mg base) : Cal P w K mg base 2 "_law_layout" M__law_layout := cal1 T.d__law_layout sc__law_layout (fun _ _ _ _ _ _ us hl => match us, hl with | [_], _ => rfl) (b__law_layout T)
abbrev N__law_kept_words : List Str := ["one", "two"]
def B__law_kept_words : MS :=
  (sSeq (sSet 0 (mLst (mCons (mC (.str "record")) (mCons (mC (.str "end")) (mCons (mC (.str "procedure")) (mCons (mC (.str "results")) (mCons (mC (.str "asks")) (mCons (mC (.str "gives")) (mCons (mC (.str "falls")) (mCons (mC (.str "as")) (mCons (mC (.str "var")) (mCons (mC (.str "do")) (mCons (mC (.str "call")) (mCons (mC (.str "if")) mNil))))))))))))))
  (sSeq (sSet 1 (mLst (mCons (mC (.str "then")) (mCons (mC (.str "else")) (mCons (mC (.str "while")) (mCons (mC (.str "keep")) (mCons (mC (.str "assert")) (mCons (mC (.str "hold")) (mCons (mC (.str "return")) (mCons (mC (.str "and")) (mCons (mC (.str "or")) (mCons (mC (.str "not")) (mCons (mC (.str "for")) (mCons (mC (.str "all")) mNil))))))))))))))
  (sRet (m2 fAdd (m2 fAdd (mV 0) (mV 1)) (mLst (mCons (mC (.str "some")) (mCons (mC (.str "upto")) (mCons (mC (.str "from")) (mCons (mC (.str "to")) (mCons (mC (.str "yes")) (mCons (mC (.str "no")) (mCons (mC (.str "int")) (mCons (mC (.str "bool")) (mCons (mC (.str "ints")) (mCons (mC (.str "len")) (mCons (mC (.str "new")) (mCons (mC (.str "same")) mNil)))))))))))))))))
def M__law_kept_words : MFn := mFn 0 2 B__law_kept_words
theorem sc__law_kept_words : FnScope N__law_kept_words [] (defScope s__law_kept_words) := ⟨rfl, rfl, rfl, by decide +kernel, rfl, by decide +kernel, by decide +kernel⟩
theorem b__law_kept_words (T : Txt P w K mg base) : BodyOk P w K mg base 0 N__law_kept_words "_law_kept_words" (defScope s__law_kept_words) (defBody s__law_kept_words) B__law_kept_words := by
  intro f cdv A outer s H E hr tk po
  have nd := sc__law_kept_words.nd
  exact (bm_cons (sm_set 0 nd (em_lst (am_cons em_str (am_cons em_str (am_cons em_str (am_cons em_str (am_cons em_str (am_cons em_str (am_cons em_str (am_cons em_str (am_cons em_str (am_cons em_str (am_cons em_str (am_cons em_str am_nil))))))))))))))
  (bm_cons (sm_set 1 nd (em_lst (am_cons em_str (am_cons em_str (am_cons em_str (am_cons em_str (am_cons em_str (am_cons em_str (am_cons em_str (am_cons em_str (am_cons em_str (am_cons em_str (am_cons em_str (am_cons em_str am_nil))))))))))))))
  (bm_one (sm_ret (em_bin op_fAdd (em_bin op_fAdd (em_v 0) (em_v 1)) (em_lst (am_cons em_str (am_cons em_str (am_cons em_str (am_cons em_str (am_cons em_str (am_cons em_str (am_cons em_str (am_cons em_str (am_cons em_str (am_cons em_str (am_cons em_str (am_cons em_str am_nil))))))))))))))))))
theorem c__law_kept_words (T : Txt P w K mg base) : Cal P w K mg base 1 "_law_kept_words" M__law_kept_words := cal1 T.d__law_kept_words sc__law_kept_words (fun _ _ _ _ _ _ us hl => match us, hl with | [], _ => rfl) (b__law_kept_words T)
abbrev N__law_strange : List Str := []
def B__law_strange : MS :=
  (sRet (m2 fAdd (mB1 (f1L fList2) (mCons (mC (.str "!/_AZ@$&';?^`{|}~")) mNil)) (mLst (mCons (mC (.str "\t")) (mCons (mC (.str "\\")) (mCons (mC (.str "\"")) mNil))))))
def M__law_strange : MFn := mFn 0 0 B__law_strange
theorem sc__law_strange : FnScope N__law_strange [] (defScope s__law_strange) := ⟨rfl, rfl, rfl, by decide +kernel, rfl, by decide +kernel, by decide +kernel⟩
theorem b__law_strange (T : Txt P w K mg base) : BodyOk P w K mg base 0 N__law_strange "_law_strange" (defScope s__law_strange) (defBody s__law_strange) B__law_strange := by
  intro f cdv A outer s H E hr tk po
  have nd := sc__law_strange.nd
  exact (bm_one (sm_ret (em_bin op_fAdd (em_callT (call_fList2 rfl) rfl T.n_list PyProof.Rows.Boot.«list» (am_cons em_str am_nil)) (em_lst (am_cons em_str (am_cons em_str (am_cons em_str am_nil)))))))
theorem c__law_strange (T : Txt P w K mg base) : Cal P w K mg base 1 "_law_strange" M__law_strange := cal1 T.d__law_strange sc__law_strange (fun _ _ _ _ _ _ us hl => match us, hl with | [], _ => rfl) (b__law_strange T)
abbrev N__law_piece : List Str := ["pool", "word", "text", "turn", "kept", "remark"]
def B__law_piece : MS :=
  (sSeq (sSet 1 (mCall M__law_pick (mCons (mV 0) (mCons (mC (.int 15)) mNil))))
  (sSeq (sIf (mB (m2 fLt (mV 1) (mC (.int 4))))
  (sSeq (sSet 2 (m2 fIx (mC (.str "abcdefghijklmnopqrstuvwxyz")) (mCall M__law_pick (mCons (mV 0) (mCons (mC (.int 26)) mNil)))))
  (sSeq (sFor (iRng (mCons (mCall M__law_pick (mCons (mV 0) (mCons (mC (.int 4)) mNil))) mNil)) (gN 3)
  (sSet 2 (m2 fAdd (mV 2) (m2 fIx (mC (.str "abyz0189_")) (mCall M__law_pick (mCons (mV 0) (mCons (mC (.int 9)) mNil)))))))
  (sRet (mV 2))))
  sNil)
  (sSeq (sIf (mB (m2 fLt (mV 1) (mC (.int 6))))
  (sRet (m2 fIx (mC (.str "0123456789")) (mCall M__law_pick (mCons (mV 0) (mCons (mC (.int 10)) mNil)))))
  sNil)
  (sSeq (sIf (mB (m2 fLt (mV 1) (mC (.int 9))))
  (sRet (m2 fIx (mC (.str "<>=+-*()[],:.")) (mCall M__law_pick (mCons (mV 0) (mCons (mC (.int 13)) mNil)))))
  sNil)
  (sSeq (sIf (mB (m2 fEq (mV 1) (mC (.int 9))))
  (sRet (m2 fIx (mLst (mCons (mC (.str "==")) (mCons (mC (.str "!=")) (mCons (mC (.str "<=")) (mCons (mC (.str ">=")) (mCons (mC (.str "//")) mNil)))))) (mCall M__law_pick (mCons (mV 0) (mCons (mC (.int 5)) mNil)))))
  sNil)
  (sSeq (sIf (mB (m2 fLt (mV 1) (mC (.int 12))))
  (sRet (mCall M__law_layout (mCons (mV 0) mNil)))
  sNil)
  (sSeq (sIf (mB (m2 fEq (mV 1) (mC (.int 12))))
  (sSeq (sSet 4 (mCall0 M__law_kept_words))
  (sRet (m2 fIx (mV 4) (mCall M__law_pick (mCons (mV 0) (mCons (mB1 (f1L fLen) (mCons (mV 4) mNil)) mNil))))))
  sNil)
  (sSeq (sIf (mAndT (mB (m2 fEq (mV 1) (mC (.int 13)))) (mB (m2 fEq (mCall M__law_pick (mCons (mV 0) (mCons (mC (.int 2)) mNil))) (mC (.int 1)))))
  (sRet (m2 fIx (mCall0 M__law_strange) (mCall M__law_pick (mCons (mV 0) (mCons (mC (.int 20)) mNil)))))
  sNil)
  (sSeq (sIf (mAndT (mB (m2 fEq (mV 1) (mC (.int 14)))) (mB (m2 fEq (mCall M__law_pick (mCons (mV 0) (mCons (mC (.int 3)) mNil))) (mC (.int 2)))))
  (sSeq (sSet 5 (m2 fIx (mLst (mCons (mC (.str "")) (mCons (mC (.str "\t")) (mCons (mC (.str "A! x")) (mCons (m2 fAdd (mC (.str " ")) (m2 fIx (mCall0 M__law_strange) (mCall M__law_pick (mCons (mV 0) (mCons (mC (.int 20)) mNil))))) mNil))))) (mCall M__law_pick (mCons (mV 0) (mCons (mC (.int 4)) mNil)))))
  (sRet (m2 fAdd (m2 fAdd (mC (.str "#")) (mV 5)) (m2 fIx (mLst (mCons (mC (.str "")) (mCons (mC (.str "\n")) mNil))) (mCall M__law_pick (mCons (mV 0) (mCons (mC (.int 2)) mNil)))))))
  sNil)
  (sRet (mC (.str " "))))))))))))
def M__law_piece : MFn := mFn 1 6 B__law_piece
theorem sc__law_piece : FnScope N__law_piece ["pool"] (defScope s__law_piece) := ⟨rfl, rfl, rfl, by decide +kernel, rfl, by decide +kernel, by decide +kernel⟩
theorem b__law_piece (T : Txt P w K mg base) : BodyOk P w K mg base 2 N__law_piece "_law_piece" (defScope s__law_piece) (defBody s__law_piece) B__law_piece := by
  intro f cdv A outer s H E hr tk po
  have nd := sc__law_piece.nd
  exact (bm_cons (sm_set 1 nd (em_call (c__law_pick T) hr tk (am_cons (em_v 0) (am_cons em_int am_nil))))
  (bm_cons (sm_if (tm_cmp op_fLt (em_v 1) em_int)
  (bm_cons (sm_set 2 nd (em_ix ix_fIx em_str (em_call (c__law_pick T) hr tk (am_cons (em_v 0) (am_cons em_int am_nil)))))
  (bm_cons (sm_for po rfl (im_rng1 T.n_range (em_call (c__law_pick T) hr tk (am_cons (em_v 0) (am_cons em_int am_nil)))) (gm_n 3 nd)
  (bm_one (sm_set 2 nd (em_bin op_fAdd (em_v 2) (em_ix ix_fIx em_str (em_call (c__law_pick T) hr tk (am_cons (em_v 0) (am_cons em_int am_nil))))))))
  (bm_one (sm_ret (em_v 2)))))
  bm_nil)
  (bm_cons (sm_if (tm_cmp op_fLt (em_v 1) em_int)
  (bm_one (sm_ret (em_ix ix_fIx em_str (em_call (c__law_pick T) hr tk (am_cons (em_v 0) (am_cons em_int am_nil))))))
  bm_nil)
  (bm_cons (sm_if (tm_cmp op_fLt (em_v 1) em_int)
  (bm_one (sm_ret (em_ix ix_fIx em_str (em_call (c__law_pick T) hr tk (am_cons (em_v 0) (am_cons em_int am_nil))))))
  bm_nil)
  (bm_cons (sm_if (tm_cmp (op_fEq (uRoom hr)) (em_v 1) em_int)
  (bm_one (sm_ret (em_ix ix_fIx (em_lst (am_cons em_str (am_cons em_str (am_cons em_str (am_cons em_str (am_cons em_str am_nil)))))) (em_call (c__law_pick T) hr tk (am_cons (em_v 0) (am_cons em_int am_nil))))))
  bm_nil)
  (bm_cons (sm_if (tm_cmp op_fLt (em_v 1) em_int)
  (bm_one (sm_ret (em_call (c__law_layout T) hr tk (am_cons (em_v 0) am_nil))))
  bm_nil)
  (bm_cons (sm_if (tm_cmp (op_fEq (uRoom hr)) (em_v 1) em_int)
  (bm_cons (sm_set 4 nd (em_call0 (c__law_kept_words T) hr))
  (bm_one (sm_ret (em_ix ix_fIx (em_v 4) (em_call (c__law_pick T) hr tk (am_cons (em_v 0) (am_cons (em_callB call_fLen rfl T.n_len PyProof.Rows.Boot.«len» (am_cons (em_v 4) am_nil)) am_nil)))))))
  bm_nil)
  (bm_cons (sm_if (WM.tm (wm_and (tm_cmp (op_fEq (uRoom hr)) (em_v 1) em_int) (wm_and1 (tm_cmp (op_fEq (uRoom hr)) (em_call (c__law_pick T) hr tk (am_cons (em_v 0) (am_cons em_int am_nil))) em_int))))
  (bm_one (sm_ret (em_ix ix_fIx (em_call0 (c__law_strange T) hr) (em_call (c__law_pick T) hr tk (am_cons (em_v 0) (am_cons em_int am_nil))))))
  bm_nil)
  (bm_cons (sm_if (WM.tm (wm_and (tm_cmp (op_fEq (uRoom hr)) (em_v 1) em_int) (wm_and1 (tm_cmp (op_fEq (uRoom hr)) (em_call (c__law_pick T) hr tk (am_cons (em_v 0) (am_cons em_int am_nil))) em_int))))
  (bm_cons (sm_set 5 nd (em_ix ix_fIx (em_lst (am_cons em_str (am_cons em_str (am_cons em_str (am_cons (em_bin op_fAdd em_str (em_ix ix_fIx (em_call0 (c__law_strange T) hr) (em_call (c__law_pick T) hr tk (am_cons (em_v 0) (am_cons em_int am_nil))))) am_nil))))) (em_call (c__law_pick T) hr tk (am_cons (em_v 0) (am_cons em_int am_nil)))))
  (bm_one (sm_ret (em_bin op_fAdd (em_bin op_fAdd em_str (em_v 5)) (em_ix ix_fIx (em_lst (am_cons em_str (am_cons em_str am_nil))) (em_call (c__law_pick T) hr tk (am_cons (em_v 0) (am_cons em_int am_nil))))))))
  bm_nil)
  (bm_one (sm_ret em_str)))))))))))
theorem c__law_piece (T : Txt P w K mg base) : Cal P w K mg base 3 "_law_piece" M__law_piece := cal1 T.d__law_piece sc__law_piece (fun _ _ _ _ _ _ us hl => match us, hl with | [_], _ => rfl) (b__law_piece T)
abbrev N__law_layout_end : List Str := ["text", "at", "remark", "place", "sign"]
def B__law_layout_end : MS :=
  (sSeq (sSet 2 (mC (.bl false)))
  (sSeq (sFor (iRng (mCons (mV 1) (mCons (mB1 (f1L fLen) (mCons (mV 0) mNil)) mNil))) (gN 3)
  (sSeq (sSet 4 (m2 fIx (mV 0) (mV 3)))
  (sIf (mB (m2 fEq (mV 4) (mC (.str "\n"))))
  (sSet 2 (mC (.bl false)))
  (sIf (mOrT (mB (m2 fLt (mV 4) (mC (.str " ")))) (mB (m2 fGt (mV 4) (mC (.str "~")))))
  (sRet (mLst (mCons (mV 3) (mCons (mC (.bl true)) mNil))))
  (sIf (mB (m2 fEq (mV 4) (mC (.str "#"))))
  (sSet 2 (mC (.bl true)))
  (sIf (mAndT (mB (m2 fNe (mV 4) (mC (.str " ")))) (mNotT (mB (mV 2))))
  (sRet (mLst (mCons (mV 3) (mCons (mC (.bl false)) mNil))))
  sNil))))))
  (sRet (mLst (mCons (mB1 (f1L fLen) (mCons (mV 0) mNil)) (mCons (mC (.bl false)) mNil))))))
def M__law_layout_end : MFn := mFn 2 5 B__law_layout_end
theorem sc__law_layout_end : FnScope N__law_layout_end ["text", "at"] (defScope s__law_layout_end) := ⟨rfl, rfl, rfl, by decide +kernel, rfl, by decide +kernel, by decide +kernel⟩
theorem b__law_layout_end (T : Txt P w K mg base) : BodyOk P w K mg base 0 N__law_layout_end "_law_layout_end" (defScope s__law_layout_end) (defBody s__law_layout_end) B__law_layout_end := by
  intro f cdv A outer s H E hr tk po
  have nd := sc__law_layout_end.nd
  exact (bm_cons (sm_set 2 nd em_bl)
  (bm_cons (sm_for po rfl (im_rng2 T.n_range (em_v 1) (em_callB call_fLen rfl T.n_len PyProof.Rows.Boot.«len» (am_cons (em_v 0) am_nil))) (gm_n 3 nd)
  (bm_cons (sm_set 4 nd (em_ix ix_fIx (em_v 0) (em_v 3)))
  (bm_one (sm_if (tm_cmp (op_fEq (uRoom hr)) (em_v 4) em_str)
  (bm_one (sm_set 2 nd em_bl))
  (bm_one (sm_if (WM.tm (wm_or (tm_cmp op_fLt (em_v 4) em_str) (wm_or1 (tm_cmp op_fGt (em_v 4) em_str))))
  (bm_one (sm_ret (em_lst (am_cons (em_v 3) (am_cons em_bl am_nil)))))
  (bm_one (sm_if (tm_cmp (op_fEq (uRoom hr)) (em_v 4) em_str)
  (bm_one (sm_set 2 nd em_bl))
  (bm_one (sm_if (WM.tm (wm_and (tm_cmp (op_fNe (uRoom hr)) (em_v 4) em_str) (wm_and1 (tm_not (tm_val (em_v 2))))))
  (bm_one (sm_ret (em_lst (am_cons (em_v 3) (am_cons em_bl am_nil)))))
  bm_nil))))))))))
  (bm_one (sm_ret (em_lst (am_cons (em_callB call_fLen rfl T.n_len PyProof.Rows.Boot.«len» (am_cons (em_v 0) am_nil)) (am_cons em_bl am_nil)))))))
theorem c__law_layout_end (T : Txt P w K mg base) : Cal P w K mg base 1 "_law_layout_end" M__law_layout_end := cal1 T.d__law_layout_end sc__law_layout_end (fun _ _ _ _ _ _ us hl => match us, hl with | [_, _], _ => rfl) (b__law_layout_end T)
abbrev N__law_run_end : List Str := ["text", "at", "signs", "place"]
def B__law_run_end : MS :=
  (sSeq (sFor (iRng (mCons (mV 1) (mCons (mB1 (f1L fLen) (mCons (mV 0) mNil)) mNil))) (gN 3)
  (sIf (mB (m2 fNotIn (m2 fIx (mV 0) (mV 3)) (mV 2)))
  (sRet (mV 3))
  sNil))
  (sRet (mB1 (f1L fLen) (mCons (mV 0) mNil))))
def M__law_run_end : MFn := mFn 3 4 B__law_run_end
theorem sc__law_run_end : FnScope N__law_run_end ["text", "at", "signs"] (defScope s__law_run_end) := ⟨rfl, rfl, rfl, by decide +kernel, rfl, by decide +kernel, by decide +kernel⟩
theorem b__law_run_end (T : Txt P w K mg base) : BodyOk P w K mg base 0 N__law_run_end "_law_run_end" (defScope s__law_run_end) (defBody s__law_run_end) B__law_run_end := by
  intro f cdv A outer s H E hr tk po
  have nd := sc__law_run_end.nd
  exact (bm_cons (sm_for po rfl (im_rng2 T.n_range (em_v 1) (em_callB call_fLen rfl T.n_len PyProof.Rows.Boot.«len» (am_cons (em_v 0) am_nil))) (gm_n 3 nd)
  (bm_one (sm_if (tm_cmp op_fNotIn (em_ix ix_fIx (em_v 0) (em_v 3)) (em_v 2))
  (bm_one (sm_ret (em_v 3)))
  bm_nil)))
  (bm_one (sm_ret (em_callB call_fLen rfl T.n_len PyProof.Rows.Boot.«len» (am_cons (em_v 0) am_nil)))))
theorem c__law_run_end (T : Txt P w K mg base) : Cal P w K mg base 1 "_law_run_end" M__law_run_end := cal1 T.d__law_run_end sc__law_run_end (fun _ _ _ _ _ _ us hl => match us, hl with | [_, _, _], _ => rfl) (b__law_run_end T)
abbrev N__law_token : List Str := ["text", "at", "letters", "end"]
def B__law_token : MS :=
  (sSeq (sSet 2 (mC (.str "abcdefghijklmnopqrstuvwxyz")))
  (sSeq (sIf (mB (m2 fIn (m2 fIx (mV 0) (mV 1)) (mV 2)))
  (sRet (mLst (mCons (mC (.str "word")) (mCons (mCall M__law_run_end (mCons (mV 0) (mCons (mV 1) (mCons (m2 fAdd (mV 2) (mC (.str "0123456789_"))) mNil)))) mNil))))
  sNil)
  (sSeq (sIf (mB (m2 fEq (m2 fIx (mV 0) (mV 1)) (mC (.str "0"))))
  (sRet (mLst (mCons (mC (.str "number")) (mCons (m2 fAdd (mV 1) (mC (.int 1))) mNil))))
  sNil)
  (sSeq (sIf (mB (m2 fIn (m2 fIx (mV 0) (mV 1)) (mC (.str "123456789"))))
  (sSeq (sSet 3 (mCall M__law_run_end (mCons (mV 0) (mCons (mV 1) (mCons (mC (.str "0123456789")) mNil)))))
  (sSeq (sIf (mB (m2 fGt (m2 fSub (mV 3) (mV 1)) (mC (.int 1000))))
  (sRet (mLst (mCons (mC (.str "bad")) (mCons (mV 1) mNil))))
  sNil)
  (sRet (mLst (mCons (mC (.str "number")) (mCons (mV 3) mNil))))))
  sNil)
  (sSeq (sIf (mB (m2 fIn (mSl (mV 0) (mPart (mV 1)) (mPart (m2 fAdd (mV 1) (mC (.int 2))))) (mLst (mCons (mC (.str "==")) (mCons (mC (.str "!=")) (mCons (mC (.str "<=")) (mCons (mC (.str ">=")) (mCons (mC (.str "//")) mNil))))))))
  (sRet (mLst (mCons (mC (.str "sign")) (mCons (m2 fAdd (mV 1) (mC (.int 2))) mNil))))
  sNil)
  (sSeq (sIf (mB (m2 fIn (m2 fIx (mV 0) (mV 1)) (mC (.str "<>=+-*()[],:."))))
  (sRet (mLst (mCons (mC (.str "sign")) (mCons (m2 fAdd (mV 1) (mC (.int 1))) mNil))))
  sNil)
  (sRet (mLst (mCons (mC (.str "bad")) (mCons (mV 1) mNil))))))))))
def M__law_token : MFn := mFn 2 4 B__law_token
theorem sc__law_token : FnScope N__law_token ["text", "at"] (defScope s__law_token) := ⟨rfl, rfl, rfl, by decide +kernel, rfl, by decide +kernel, by decide +kernel⟩
theorem b__law_token (T : Txt P w K mg base) : BodyOk P w K mg base 1 N__law_token "_law_token" (defScope s__law_token) (defBody s__law_token) B__law_token := by
  intro f cdv A outer s H E hr tk po
  have nd := sc__law_token.nd
  exact (bm_cons (sm_set 2 nd em_str)
  (bm_cons (sm_if (tm_cmp op_fIn (em_ix ix_fIx (em_v 0) (em_v 1)) (em_v 2))
  (bm_one (sm_ret (em_lst (am_cons em_str (am_cons (em_call (c__law_run_end T) hr tk (am_cons (em_v 0) (am_cons (em_v 1) (am_cons (em_bin op_fAdd (em_v 2) em_str) am_nil)))) am_nil)))))
  bm_nil)
  (bm_cons (sm_if (tm_cmp (op_fEq (uRoom hr)) (em_ix ix_fIx (em_v 0) (em_v 1)) em_str)
  (bm_one (sm_ret (em_lst (am_cons em_str (am_cons (em_bin op_fAdd (em_v 1) em_int) am_nil)))))
  bm_nil)
  (bm_cons (sm_if (tm_cmp op_fIn (em_ix ix_fIx (em_v 0) (em_v 1)) em_str)
  (bm_cons (sm_set 3 nd (em_call (c__law_run_end T) hr tk (am_cons (em_v 0) (am_cons (em_v 1) (am_cons em_str am_nil)))))
  (bm_cons (sm_if (tm_cmp op_fGt (em_bin op_fSub (em_v 3) (em_v 1)) em_int)
  (bm_one (sm_ret (em_lst (am_cons em_str (am_cons (em_v 1) am_nil)))))
  bm_nil)
  (bm_one (sm_ret (em_lst (am_cons em_str (am_cons (em_v 3) am_nil)))))))
  bm_nil)
  (bm_cons (sm_if (tm_cmp op_fIn (em_sl (em_v 0) (om_some (em_v 1)) (om_some (em_bin op_fAdd (em_v 1) em_int))) (em_lst (am_cons em_str (am_cons em_str (am_cons em_str (am_cons em_str (am_cons em_str am_nil)))))))
  (bm_one (sm_ret (em_lst (am_cons em_str (am_cons (em_bin op_fAdd (em_v 1) em_int) am_nil)))))
  bm_nil)
  (bm_cons (sm_if (tm_cmp op_fIn (em_ix ix_fIx (em_v 0) (em_v 1)) em_str)
  (bm_one (sm_ret (em_lst (am_cons em_str (am_cons (em_bin op_fAdd (em_v 1) em_int) am_nil)))))
  bm_nil)
  (bm_one (sm_ret (em_lst (am_cons em_str (am_cons (em_v 1) am_nil)))))))))))
theorem c__law_token (T : Txt P w K mg base) : Cal P w K mg base 2 "_law_token" M__law_token := cal1 T.d__law_token sc__law_token (fun _ _ _ _ _ _ us hl => match us, hl with | [_, _], _ => rfl) (b__law_token T)
abbrev N__law_cut : List Str := ["text", "layouts", "tokens", "at", "turn", "start", "token"]
def B__law_cut : MS :=
  (sSeq (sSet 1 (mLst mNil))
  (sSeq (sSet 2 (mLst mNil))
  (sSeq (sSet 3 (mC (.int 0)))
  (sSeq (sFor (iRng (mCons (m2 fAdd (mB1 (f1L fLen) (mCons (mV 0) mNil)) (mC (.int 1))) mNil)) (gN 4)
  (sSeq (sSet 5 (mCall M__law_layout_end (mCons (mV 0) (mCons (mV 3) mNil))))
  (sSeq (sIf (mB (m2 fIx (mV 5) (mC (.int 1))))
  (sRet (mLst (mCons (mC (.str "bad")) (mCons (m2 fIx (mV 5) (mC (.int 0))) mNil))))
  sNil)
  (sSeq (sExpr (mM "list" fAppend (mV 1) (mCons (mSl (mV 0) (mPart (mV 3)) (mPart (m2 fIx (mV 5) (mC (.int 0))))) mNil)))
  (sSeq (sIf (mB (m2 fEq (m2 fIx (mV 5) (mC (.int 0))) (mB1 (f1L fLen) (mCons (mV 0) mNil))))
  (sRet (mLst (mCons (mC (.str "good")) (mCons (mV 1) (mCons (mV 2) mNil)))))
  sNil)
  (sSeq (sSet 6 (mCall M__law_token (mCons (mV 0) (mCons (m2 fIx (mV 5) (mC (.int 0))) mNil))))
  (sSeq (sIf (mB (m2 fEq (m2 fIx (mV 6) (mC (.int 0))) (mC (.str "bad"))))
  (sRet (mV 6))
  sNil)
  (sSeq (sExpr (mM "list" fAppend (mV 2) (mCons (mLst (mCons (m2 fIx (mV 6) (mC (.int 0))) (mCons (mSl (mV 0) (mPart (m2 fIx (mV 5) (mC (.int 0)))) (mPart (m2 fIx (mV 6) (mC (.int 1))))) (mCons (m2 fIx (mV 5) (mC (.int 0))) mNil)))) mNil)))
  (sSet 3 (m2 fIx (mV 6) (mC (.int 1))))))))))))
  (sRet (mLst (mCons (mC (.str "odd")) mNil)))))))
def M__law_cut : MFn := mFn 1 7 B__law_cut
theorem sc__law_cut : FnScope N__law_cut ["text"] (defScope s__law_cut) := ⟨rfl, rfl, rfl, by decide +kernel, rfl, by decide +kernel, by decide +kernel⟩
theorem b__law_cut (T : Txt P w K mg base) : BodyOk P w K mg base 2 N__law_cut "_law_cut" (defScope s__law_cut) (defBody s__law_cut) B__law_cut := by
  intro f cdv A outer s H E hr tk po
  have nd := sc__law_cut.nd
  exact (bm_cons (sm_set 1 nd (em_lst am_nil))
  (bm_cons (sm_set 2 nd (em_lst am_nil))
  (bm_cons (sm_set 3 nd em_int)
  (bm_cons (sm_for po rfl (im_rng1 T.n_range (em_bin op_fAdd (em_callB call_fLen rfl T.n_len PyProof.Rows.Boot.«len» (am_cons (em_v 0) am_nil)) em_int)) (gm_n 4 nd)
  (bm_cons (sm_set 5 nd (em_call (c__law_layout_end T) hr tk (am_cons (em_v 0) (am_cons (em_v 3) am_nil))))
  (bm_cons (sm_if (tm_val (em_ix ix_fIx (em_v 5) em_int))
  (bm_one (sm_ret (em_lst (am_cons em_str (am_cons (em_ix ix_fIx (em_v 5) em_int) am_nil)))))
  bm_nil)
  (bm_cons (sm_expr (em_bm PySem.F.plainAttrs_list PySem.F.slot_list_append PySem.F.type_list_append mt_fAppend (em_v 1) (am_cons (em_sl (em_v 0) (om_some (em_v 3)) (om_some (em_ix ix_fIx (em_v 5) em_int))) am_nil)))
  (bm_cons (sm_if (tm_cmp (op_fEq (uRoom hr)) (em_ix ix_fIx (em_v 5) em_int) (em_callB call_fLen rfl T.n_len PyProof.Rows.Boot.«len» (am_cons (em_v 0) am_nil)))
  (bm_one (sm_ret (em_lst (am_cons em_str (am_cons (em_v 1) (am_cons (em_v 2) am_nil))))))
  bm_nil)
  (bm_cons (sm_set 6 nd (em_call (c__law_token T) hr tk (am_cons (em_v 0) (am_cons (em_ix ix_fIx (em_v 5) em_int) am_nil))))
  (bm_cons (sm_if (tm_cmp (op_fEq (uRoom hr)) (em_ix ix_fIx (em_v 6) em_int) em_str)
  (bm_one (sm_ret (em_v 6)))
  bm_nil)
  (bm_cons (sm_expr (em_bm PySem.F.plainAttrs_list PySem.F.slot_list_append PySem.F.type_list_append mt_fAppend (em_v 2) (am_cons (em_lst (am_cons (em_ix ix_fIx (em_v 6) em_int) (am_cons (em_sl (em_v 0) (om_some (em_ix ix_fIx (em_v 5) em_int)) (om_some (em_ix ix_fIx (em_v 6) em_int))) (am_cons (em_ix ix_fIx (em_v 5) em_int) am_nil)))) am_nil)))
  (bm_one (sm_set 3 nd (em_ix ix_fIx (em_v 6) em_int)))))))))))
  (bm_one (sm_ret (em_lst (am_cons em_str am_nil))))))))
theorem c__law_cut (T : Txt P w K mg base) : Cal P w K mg base 3 "_law_cut" M__law_cut := cal1 T.d__law_cut sc__law_cut (fun _ _ _ _ _ _ us hl => match us, hl with | [_], _ => rfl) (b__law_cut T)
abbrev N__remark_end : List Str := ["text", "at"]
def B__remark_end : MS :=
  (sSeq (sWhile 1000000000 (mAndT (mB (m2 fLt (mV 1) (mB1 (f1L fLen) (mCons (mV 0) mNil)))) (mB (m2 fNe (m2 fIx (mV 0) (mV 1)) (mC (.str "\n")))))
  (sSeq (sIf (mNotT (mB (mCh fLe fLe (mC (.str " ")) (m2 fIx (mV 0) (mV 1)) (mC (.str "~")))))
  (sRaise "BadSign" 1 (fl_BadSign D .non) (mCons (mV 1) mNil))
  sNil)
  (sAug 1 fIAdd (mC (.int 1)))))
  (sRet (mV 1)))
def M__remark_end : MFn := mFn 2 2 B__remark_end
theorem sc__remark_end : FnScope N__remark_end ["text", "at"] (defScope s__remark_end) := ⟨rfl, rfl, rfl, by decide +kernel, rfl, by decide +kernel, by decide +kernel⟩
theorem b__remark_end (T : Txt P w K mg base) : BodyOk P w K mg base 2 N__remark_end "_remark_end" (defScope s__remark_end) (defBody s__remark_end) B__remark_end := by
  intro f cdv A outer s H E hr tk po
  have nd := sc__remark_end.nd
  exact (bm_cons (sm_while 1000000000 po (WM.tm (wm_and (tm_cmp op_fLt (em_v 1) (em_callB call_fLen rfl T.n_len PyProof.Rows.Boot.«len» (am_cons (em_v 0) am_nil))) (wm_and1 (tm_cmp (op_fNe (uRoom hr)) (em_ix ix_fIx (em_v 0) (em_v 1)) em_str))))
  (bm_cons (sm_if (tm_not (tm_chain op_fLe op_fLe em_str (em_ix ix_fIx (em_v 0) (em_v 1)) em_str))
  (bm_one (sm_raise T.x_BadSign flds1 (by decide) hr tk rfl (am_cons (em_v 1) am_nil)))
  bm_nil)
  (bm_one (sm_aug 1 nd ip_fAdd em_int))))
  (bm_one (sm_ret (em_v 1))))
theorem c__remark_end (T : Txt P w K mg base) : Cal P w K mg base 3 "_remark_end" M__remark_end := cal1 T.d__remark_end sc__remark_end (fun _ _ _ _ _ _ us hl => match us, hl with | [_, _], _ => rfl) (b__remark_end T)
abbrev N__layout_end : List Str := ["text", "at", "sign"]
def B__layout_end : MS :=
  (sSeq (sWhile 1000000000 (mB (m2 fLt (mV 1) (mB1 (f1L fLen) (mCons (mV 0) mNil))))
  (sSeq (sSet 2 (m2 fIx (mV 0) (mV 1)))
  (sIf (mB (m2 fEq (mV 2) (mC (.str "#"))))
  (sSet 1 (mCall M__remark_end (mCons (mV 0) (mCons (mV 1) mNil))))
  (sIf (mOrT (mB (m2 fEq (mV 2) (mC (.str " ")))) (mB (m2 fEq (mV 2) (mC (.str "\n")))))
  (sAug 1 fIAdd (mC (.int 1)))
  sBreak))))
  (sRet (mV 1)))
def M__layout_end : MFn := mFn 2 3 B__layout_end
theorem sc__layout_end : FnScope N__layout_end ["text", "at"] (defScope s__layout_end) := ⟨rfl, rfl, rfl, by decide +kernel, rfl, by decide +kernel, by decide +kernel⟩
theorem b__layout_end (T : Txt P w K mg base) : BodyOk P w K mg base 3 N__layout_end "_layout_end" (defScope s__layout_end) (defBody s__layout_end) B__layout_end := by
  intro f cdv A outer s H E hr tk po
  have nd := sc__layout_end.nd
  exact (bm_cons (sm_while 1000000000 po (tm_cmp op_fLt (em_v 1) (em_callB call_fLen rfl T.n_len PyProof.Rows.Boot.«len» (am_cons (em_v 0) am_nil)))
  (bm_cons (sm_set 2 nd (em_ix ix_fIx (em_v 0) (em_v 1)))
  (bm_one (sm_if (tm_cmp (op_fEq (uRoom hr)) (em_v 2) em_str)
  (bm_one (sm_set 1 nd (em_call (c__remark_end T) hr tk (am_cons (em_v 0) (am_cons (em_v 1) am_nil)))))
  (bm_one (sm_if (WM.tm (wm_or (tm_cmp (op_fEq (uRoom hr)) (em_v 2) em_str) (wm_or1 (tm_cmp (op_fEq (uRoom hr)) (em_v 2) em_str))))
  (bm_one (sm_aug 1 nd ip_fAdd em_int))
  (bm_one sm_break)))))))
  (bm_one (sm_ret (em_v 1))))
theorem c__layout_end (T : Txt P w K mg base) : Cal P w K mg base 4 "_layout_end" M__layout_end := cal1 T.d__layout_end sc__layout_end (fun _ _ _ _ _ _ us hl => match us, hl with | [_, _], _ => rfl) (b__layout_end T)
abbrev N__run_end : List Str := ["text", "at", "signs"]
def B__run_end : MS :=
  (sSeq (sWhile 1000000000 (mAndT (mB (m2 fLt (mV 1) (mB1 (f1L fLen) (mCons (mV 0) mNil)))) (mB (m2 fIn (m2 fIx (mV 0) (mV 1)) (mV 2))))
  (sAug 1 fIAdd (mC (.int 1))))
  (sRet (mV 1)))
def M__run_end : MFn := mFn 3 3 B__run_end
theorem sc__run_end : FnScope N__run_end ["text", "at", "signs"] (defScope s__run_end) := ⟨rfl, rfl, rfl, by decide +kernel, rfl, by decide +kernel, by decide +kernel⟩
theorem b__run_end (T : Txt P w K mg base) : BodyOk P w K mg base 0 N__run_end "_run_end" (defScope s__run_end) (defBody s__run_end) B__run_end := by
  intro f cdv A outer s H E hr tk po
  have nd := sc__run_end.nd
  exact (bm_cons (sm_while 1000000000 po (WM.tm (wm_and (tm_cmp op_fLt (em_v 1) (em_callB call_fLen rfl T.n_len PyProof.Rows.Boot.«len» (am_cons (em_v 0) am_nil))) (wm_and1 (tm_cmp op_fIn (em_ix ix_fIx (em_v 0) (em_v 1)) (em_v 2)))))
  (bm_one (sm_aug 1 nd ip_fAdd em_int)))
  (bm_one (sm_ret (em_v 1))))
theorem c__run_end (T : Txt P w K mg base) : Cal P w K mg base 1 "_run_end" M__run_end := cal1 T.d__run_end sc__run_end (fun _ _ _ _ _ _ us hl => match us, hl with | [_, _, _], _ => rfl) (b__run_end T)
abbrev N__token_at : List Str := ["text", "at", "sign", "behind"]
def B__token_at : MS :=
  (sSeq (sSet 2 (m2 fIx (mV 0) (mV 1)))
  (sSeq (sIf (mB (m2 fIn (mV 2) (mC d_LETTERS)))
  (sRet (mTup (mCons (mC (.str "word")) (mCons (mCall M__run_end (mCons (mV 0) (mCons (mV 1) (mCons (mC d_WORD_SIGNS) mNil)))) mNil))))
  sNil)
  (sSeq (sIf (mB (m2 fEq (mV 2) (mC (.str "0"))))
  (sRet (mTup (mCons (mC (.str "number")) (mCons (m2 fAdd (mV 1) (mC (.int 1))) mNil))))
  sNil)
  (sSeq (sIf (mB (m2 fIn (mV 2) (mC d_FIGURES)))
  (sSeq (sSet 3 (mCall M__run_end (mCons (mV 0) (mCons (mV 1) (mCons (mC d_FIGURES) mNil)))))
  (sSeq (sIf (mB (m2 fGt (m2 fSub (mV 3) (mV 1)) (mC d_MOST_FIGURES)))
  (sRaise "BadSign" 1 (fl_BadSign D .non) (mCons (mV 1) mNil))
  sNil)
  (sRet (mTup (mCons (mC (.str "number")) (mCons (mV 3) mNil))))))
  sNil)
  (sSeq (sIf (mB (m2 fIn (mSl (mV 0) (mPart (mV 1)) (mPart (m2 fAdd (mV 1) (mC (.int 2))))) (mC d_LONG_SIGNS)))
  (sRet (mTup (mCons (mC (.str "sign")) (mCons (m2 fAdd (mV 1) (mC (.int 2))) mNil))))
  sNil)
  (sSeq (sIf (mB (m2 fIn (mV 2) (mC d_SHORT_SIGNS)))
  (sRet (mTup (mCons (mC (.str "sign")) (mCons (m2 fAdd (mV 1) (mC (.int 1))) mNil))))
  sNil)
  (sRaise "BadSign" 1 (fl_BadSign D .non) (mCons (mV 1) mNil))))))))
def M__token_at : MFn := mFn 2 4 B__token_at
theorem sc__token_at : FnScope N__token_at ["text", "at"] (defScope s__token_at) := ⟨rfl, rfl, rfl, by decide +kernel, rfl, by decide +kernel, by decide +kernel⟩
theorem b__token_at (T : Txt P w K mg base) : BodyOk P w K mg base 2 N__token_at "_token_at" (defScope s__token_at) (defBody s__token_at) B__token_at := by
  intro f cdv A outer s H E hr tk po
  have nd := sc__token_at.nd
  exact (bm_cons (sm_set 2 nd (em_ix ix_fIx (em_v 0) (em_v 1)))
  (bm_cons (sm_if (tm_cmp op_fIn (em_v 2) (em_gc T.c_LETTERS))
  (bm_one (sm_ret (em_tup (am_cons em_str (am_cons (em_call (c__run_end T) hr tk (am_cons (em_v 0) (am_cons (em_v 1) (am_cons (em_gc T.c_WORD_SIGNS) am_nil)))) am_nil)))))
  bm_nil)
  (bm_cons (sm_if (tm_cmp (op_fEq (uRoom hr)) (em_v 2) em_str)
  (bm_one (sm_ret (em_tup (am_cons em_str (am_cons (em_bin op_fAdd (em_v 1) em_int) am_nil)))))
  bm_nil)
  (bm_cons (sm_if (tm_cmp op_fIn (em_v 2) (em_gc T.c_FIGURES))
  (bm_cons (sm_set 3 nd (em_call (c__run_end T) hr tk (am_cons (em_v 0) (am_cons (em_v 1) (am_cons (em_gc T.c_FIGURES) am_nil)))))
  (bm_cons (sm_if (tm_cmp op_fGt (em_bin op_fSub (em_v 3) (em_v 1)) (em_gc T.c_MOST_FIGURES))
  (bm_one (sm_raise T.x_BadSign flds1 (by decide) hr tk rfl (am_cons (em_v 1) am_nil)))
  bm_nil)
  (bm_one (sm_ret (em_tup (am_cons em_str (am_cons (em_v 3) am_nil)))))))
  bm_nil)
  (bm_cons (sm_if (tm_cmp op_fIn (em_sl (em_v 0) (om_some (em_v 1)) (om_some (em_bin op_fAdd (em_v 1) em_int))) (em_gc T.c_LONG_SIGNS))
  (bm_one (sm_ret (em_tup (am_cons em_str (am_cons (em_bin op_fAdd (em_v 1) em_int) am_nil)))))
  bm_nil)
  (bm_cons (sm_if (tm_cmp op_fIn (em_v 2) (em_gc T.c_SHORT_SIGNS))
  (bm_one (sm_ret (em_tup (am_cons em_str (am_cons (em_bin op_fAdd (em_v 1) em_int) am_nil)))))
  bm_nil)
  (bm_one (sm_raise T.x_BadSign flds1 (by decide) hr tk rfl (am_cons (em_v 1) am_nil)))))))))
theorem c__token_at (T : Txt P w K mg base) : Cal P w K mg base 3 "_token_at" M__token_at := cal1 T.d__token_at sc__token_at (fun _ _ _ _ _ _ us hl => match us, hl with | [_, _], _ => rfl) (b__token_at T)
abbrev N_cut_text : List Str := ["text", "layouts", "tokens", "at", "start", "kind"]
def B_cut_text : MS :=
  (sSeq (sIf (mNotT (mB (m1 (fIsi ["str"]) (mV 0))))
  (sRaise "BadSign" 1 (fl_BadSign D .non) (mCons (m1 fNeg (mC (.int 1))) mNil))
  sNil)
  (sSeq (sSet 1 (mLst mNil))
  (sSeq (sSet 2 (mLst mNil))
  (sSeq (sSet 3 (mC (.int 0)))
  (sSeq (sSet 4 (mCall M__layout_end (mCons (mV 0) (mCons (mV 3) mNil))))
  (sSeq (sWhile 1000000000 (mB (m2 fLt (mV 4) (mB1 (f1L fLen) (mCons (mV 0) mNil))))
  (sSeq (sExpr (mM "list" fAppend (mV 1) (mCons (mSl (mV 0) (mPart (mV 3)) (mPart (mV 4))) mNil)))
  (sSeq (sAsg (mCall M__token_at (mCons (mV 0) (mCons (mV 4) mNil))) (gT 2 (gsCons (gN 5) (gsCons (gN 3) gsNil))))
  (sSeq (sExpr (mM "list" fAppend (mV 2) (mCons (mTup (mCons (mV 5) (mCons (mSl (mV 0) (mPart (mV 4)) (mPart (mV 3))) (mCons (mV 4) mNil)))) mNil)))
  (sSet 4 (mCall M__layout_end (mCons (mV 0) (mCons (mV 3) mNil))))))))
  (sSeq (sExpr (mM "list" fAppend (mV 1) (mCons (mSl (mV 0) (mPart (mV 3)) (mPart (mV 4))) mNil)))
  (sRet (mTup (mCons (mB1 (f1L fTuple) (mCons (mV 1) mNil)) (mCons (mB1 (f1L fTuple) (mCons (mV 2) mNil)) mNil)))))))))))
def M_cut_text : MFn := mFn 1 6 B_cut_text
theorem sc_cut_text : FnScope N_cut_text ["text"] (defScope s_cut_text) := ⟨rfl, rfl, rfl, by decide +kernel, rfl, by decide +kernel, by decide +kernel⟩
theorem b_cut_text (T : Txt P w K mg base) : BodyOk P w K mg base 4 N_cut_text "cut_text" (defScope s_cut_text) (defBody s_cut_text) B_cut_text := by
  intro f cdv A outer s H E hr tk po
  have nd := sc_cut_text.nd
  exact (bm_cons (sm_if (tm_not (tm_val (em_isi (em_v 0) (hm := T.n_isinstance) (hmT := T.n_str) (hvT := PyProof.Rows.Boot.«str»))))
  (bm_one (sm_raise T.x_BadSign flds1 (by decide) hr tk rfl (am_cons (em_neg em_int) am_nil)))
  bm_nil)
  (bm_cons (sm_set 1 nd (em_lst am_nil))
  (bm_cons (sm_set 2 nd (em_lst am_nil))
  (bm_cons (sm_set 3 nd em_int)
  (bm_cons (sm_set 4 nd (em_call (c__layout_end T) hr tk (am_cons (em_v 0) (am_cons (em_v 3) am_nil))))
  (bm_cons (sm_while 1000000000 po (tm_cmp op_fLt (em_v 4) (em_callB call_fLen rfl T.n_len PyProof.Rows.Boot.«len» (am_cons (em_v 0) am_nil)))
  (bm_cons (sm_expr (em_bm PySem.F.plainAttrs_list PySem.F.slot_list_append PySem.F.type_list_append mt_fAppend (em_v 1) (am_cons (em_sl (em_v 0) (om_some (em_v 3)) (om_some (em_v 4))) am_nil)))
  (bm_cons (sm_asg (em_call (c__token_at T) hr tk (am_cons (em_v 0) (am_cons (em_v 4) am_nil))) (gm_tup rfl (gms_cons (gm_n 5 nd) (gms_cons (gm_n 3 nd) gms_nil))))
  (bm_cons (sm_expr (em_bm PySem.F.plainAttrs_list PySem.F.slot_list_append PySem.F.type_list_append mt_fAppend (em_v 2) (am_cons (em_tup (am_cons (em_v 5) (am_cons (em_sl (em_v 0) (om_some (em_v 4)) (om_some (em_v 3))) (am_cons (em_v 4) am_nil)))) am_nil)))
  (bm_one (sm_set 4 nd (em_call (c__layout_end T) hr tk (am_cons (em_v 0) (am_cons (em_v 3) am_nil)))))))))
  (bm_cons (sm_expr (em_bm PySem.F.plainAttrs_list PySem.F.slot_list_append PySem.F.type_list_append mt_fAppend (em_v 1) (am_cons (em_sl (em_v 0) (om_some (em_v 3)) (om_some (em_v 4))) am_nil)))
  (bm_one (sm_ret (em_tup (am_cons (em_callT call_fTuple rfl T.n_tuple PyProof.Rows.Boot.«tuple» (am_cons (em_v 1) am_nil)) (am_cons (em_callT call_fTuple rfl T.n_tuple PyProof.Rows.Boot.«tuple» (am_cons (em_v 2) am_nil)) am_nil))))))))))))
theorem c_cut_text (T : Txt P w K mg base) : Cal P w K mg base 5 "cut_text" M_cut_text := cal1 T.d_cut_text sc_cut_text (fun _ _ _ _ _ _ us hl => match us, hl with | [_], _ => rfl) (b_cut_text T)
abbrev N__law_int : List Str := ["thing"]
def B__law_int : MS :=
  (sRet (mAndV (m1 (fIsi ["int"]) (mV 0)) (mNotV (m1 (fIsi ["bool"]) (mV 0)))))
def M__law_int : MFn := mFn 1 1 B__law_int
theorem sc__law_int : FnScope N__law_int ["thing"] (defScope s__law_int) := ⟨rfl, rfl, rfl, by decide +kernel, rfl, by decide +kernel, by decide +kernel⟩
theorem b__law_int (T : Txt P w K mg base) : BodyOk P w K mg base 0 N__law_int "_law_int" (defScope s__law_int) (defBody s__law_int) B__law_int := by
  intro f cdv A outer s H E hr tk po
  have nd := sc__law_int.nd
  exact (bm_one (sm_ret (em_and (em_isi (em_v 0) (hm := T.n_isinstance) (hmT := T.n_int) (hvT := PyProof.Rows.Boot.«int»)) (em_one (em_not (em_isi (em_v 0) (hm := T.n_isinstance) (hmT := T.n_bool) (hvT := PyProof.Rows.Boot.«bool»)))))))
theorem c__law_int (T : Txt P w K mg base) : Cal P w K mg base 1 "_law_int" M__law_int := cal1 T.d__law_int sc__law_int (fun _ _ _ _ _ _ us hl => match us, hl with | [_], _ => rfl) (b__law_int T)
abbrev N__law_told : List Str := ["text", "told", "bad", "error", "rows", "token", "layout"]
def B__law_told : MS :=
  (sSeq (sSet 1 (mC .non))
  (sSeq (sSet 2 (mC .non))
  (sSeq (sTryAs
  (sSet 1 (mCall M_cut_text (mCons (mV 0) mNil))) 3 sub_BadSign
  (xSet 2 (fun en => if en.cls ∈ xl_offset then en.fs.lookup ("offset" : Str) else none)))
  (sSeq (sIf (mB (m2 fIs (mV 1) (mC .non)))
  (sRet (mLst (mCons (mC (.str "bad")) (mCons (mV 2) mNil))))
  sNil)
  (sSeq (sIf (mOrT (mNotT (mB (m1 (fIsi ["tuple"]) (mV 1)))) (mB (m2 fNe (mB1 (f1L fLen) (mCons (mV 1) mNil)) (mC (.int 2)))))
  (sRet (mLst (mCons (mC (.str "odd")) mNil)))
  sNil)
  (sSeq (sIf (mOrT (mNotT (mB (m1 (fIsi ["tuple"]) (m2 fIx (mV 1) (mC (.int 0)))))) (mNotT (mB (m1 (fIsi ["tuple"]) (m2 fIx (mV 1) (mC (.int 1)))))))
  (sRet (mLst (mCons (mC (.str "odd")) mNil)))
  sNil)
  (sSeq (sSet 4 (mLst mNil))
  (sSeq (sFor (iSeq (m2 fIx (mV 1) (mC (.int 1)))) (gN 5)
  (sSeq (sIf (mOrT (mNotT (mB (m1 (fIsi ["tuple"]) (mV 5)))) (mOrT (mB (m2 fNe (mB1 (f1L fLen) (mCons (mV 5) mNil)) (mC (.int 3)))) (mNotT (mB (mCall M__law_int (mCons (m2 fIx (mV 5) (mC (.int 2))) mNil))))))
  (sRet (mLst (mCons (mC (.str "odd")) mNil)))
  sNil)
  (sSeq (sIf (mOrT (mNotT (mB (m1 (fIsi ["str"]) (m2 fIx (mV 5) (mC (.int 0)))))) (mNotT (mB (m1 (fIsi ["str"]) (m2 fIx (mV 5) (mC (.int 1)))))))
  (sRet (mLst (mCons (mC (.str "odd")) mNil)))
  sNil)
  (sExpr (mM "list" fAppend (mV 4) (mCons (mLst (mCons (m2 fIx (mV 5) (mC (.int 0))) (mCons (m2 fIx (mV 5) (mC (.int 1))) (mCons (m2 fIx (mV 5) (mC (.int 2))) mNil)))) mNil))))))
  (sSeq (sFor (iSeq (m2 fIx (mV 1) (mC (.int 0)))) (gN 6)
  (sIf (mNotT (mB (m1 (fIsi ["str"]) (mV 6))))
  (sRet (mLst (mCons (mC (.str "odd")) mNil)))
  sNil))
  (sRet (mLst (mCons (mC (.str "good")) (mCons (mB1 (f1L fList2) (mCons (m2 fIx (mV 1) (mC (.int 0))) mNil)) (mCons (mV 4) mNil))))))))))))))
def M__law_told : MFn := mFn 1 7 B__law_told
theorem sc__law_told : FnScope N__law_told ["text"] (defScope s__law_told) := ⟨rfl, rfl, rfl, by decide +kernel, rfl, by decide +kernel, by decide +kernel⟩
theorem b__law_told (T : Txt P w K mg base) : BodyOk P w K mg base 5 N__law_told "_law_told" (defScope s__law_told) (defBody s__law_told) B__law_told := by
  intro f cdv A outer s H E hr tk po
  have nd := sc__law_told.nd
  exact (bm_cons (sm_set 1 nd em_non)
  (bm_cons (sm_set 2 nd em_non)
  (bm_cons (sm_try_as 3 T.k_BadSign tk nd (fun W pn xe tk po => (bm_one (sm_set 1 nd (em_call (c_cut_text T) hr tk (am_cons (em_v 0) am_nil)))))
  (fun a oe cls d pn hz hv => (bx_one (sx_set 2 nd (xp_f (X := ctx P w K mg base N__law_told "_law_told" (defScope s__law_told) f cdv A outer s H E) T.f_offset hz hv)))))
  (bm_cons (sm_if (tm_cmp op_fIs (em_v 1) em_non)
  (bm_one (sm_ret (em_lst (am_cons em_str (am_cons (em_v 2) am_nil)))))
  bm_nil)
  (bm_cons (sm_if (WM.tm (wm_or (tm_not (tm_val (em_isi (em_v 1) (hm := T.n_isinstance) (hmT := T.n_tuple) (hvT := PyProof.Rows.Boot.«tuple»)))) (wm_or1 (tm_cmp (op_fNe (uRoom hr)) (em_callB call_fLen rfl T.n_len PyProof.Rows.Boot.«len» (am_cons (em_v 1) am_nil)) em_int))))
  (bm_one (sm_ret (em_lst (am_cons em_str am_nil))))
  bm_nil)
  (bm_cons (sm_if (WM.tm (wm_or (tm_not (tm_val (em_isi (em_ix ix_fIx (em_v 1) em_int) (hm := T.n_isinstance) (hmT := T.n_tuple) (hvT := PyProof.Rows.Boot.«tuple»)))) (wm_or1 (tm_not (tm_val (em_isi (em_ix ix_fIx (em_v 1) em_int) (hm := T.n_isinstance) (hmT := T.n_tuple) (hvT := PyProof.Rows.Boot.«tuple»)))))))
  (bm_one (sm_ret (em_lst (am_cons em_str am_nil))))
  bm_nil)
  (bm_cons (sm_set 4 nd (em_lst am_nil))
  (bm_cons (sm_for po rfl (im_seq (em_ix ix_fIx (em_v 1) em_int)) (gm_n 5 nd)
  (bm_cons (sm_if (WM.tm (wm_or (tm_not (tm_val (em_isi (em_v 5) (hm := T.n_isinstance) (hmT := T.n_tuple) (hvT := PyProof.Rows.Boot.«tuple»)))) (wm_or (tm_cmp (op_fNe (uRoom hr)) (em_callB call_fLen rfl T.n_len PyProof.Rows.Boot.«len» (am_cons (em_v 5) am_nil)) em_int) (wm_or1 (tm_not (tm_val (em_call (c__law_int T) hr tk (am_cons (em_ix ix_fIx (em_v 5) em_int) am_nil))))))))
  (bm_one (sm_ret (em_lst (am_cons em_str am_nil))))
  bm_nil)
  (bm_cons (sm_if (WM.tm (wm_or (tm_not (tm_val (em_isi (em_ix ix_fIx (em_v 5) em_int) (hm := T.n_isinstance) (hmT := T.n_str) (hvT := PyProof.Rows.Boot.«str»)))) (wm_or1 (tm_not (tm_val (em_isi (em_ix ix_fIx (em_v 5) em_int) (hm := T.n_isinstance) (hmT := T.n_str) (hvT := PyProof.Rows.Boot.«str»)))))))
  (bm_one (sm_ret (em_lst (am_cons em_str am_nil))))
  bm_nil)
  (bm_one (sm_expr (em_bm PySem.F.plainAttrs_list PySem.F.slot_list_append PySem.F.type_list_append mt_fAppend (em_v 4) (am_cons (em_lst (am_cons (em_ix ix_fIx (em_v 5) em_int) (am_cons (em_ix ix_fIx (em_v 5) em_int) (am_cons (em_ix ix_fIx (em_v 5) em_int) am_nil)))) am_nil)))))))
  (bm_cons (sm_for po rfl (im_seq (em_ix ix_fIx (em_v 1) em_int)) (gm_n 6 nd)
  (bm_one (sm_if (tm_not (tm_val (em_isi (em_v 6) (hm := T.n_isinstance) (hmT := T.n_str) (hvT := PyProof.Rows.Boot.«str»))))
  (bm_one (sm_ret (em_lst (am_cons em_str am_nil))))
  bm_nil)))
  (bm_one (sm_ret (em_lst (am_cons em_str (am_cons (em_callT (call_fList2 rfl) rfl T.n_list PyProof.Rows.Boot.«list» (am_cons (em_ix ix_fIx (em_v 1) em_int) am_nil)) (am_cons (em_v 4) am_nil)))))))))))))))
theorem c__law_told (T : Txt P w K mg base) : Cal P w K mg base 6 "_law_told" M__law_told := cal1 T.d__law_told sc__law_told (fun _ _ _ _ _ _ us hl => match us, hl with | [_], _ => rfl) (b__law_told T)
abbrev N__law_other_kinds : List Str := ["word", "told"]
def B__law_other_kinds : MS :=
  (sSeq (sSet 1 (mCall M__law_told (mCons (m2 fIx (mLst (mCons (mC (.int 7)) (mCons (mC .non) (mCons (mLst (mCons (mC (.str "a")) mNil)) (mCons (mTup (mCons (mC (.str "a")) (mCons (mC (.str "b")) mNil))) (mCons (mC (.bl true)) mNil)))))) (mV 0)) mNil)))
  (sRet (m2 fEq (mV 1) (mLst (mCons (mC (.str "bad")) (mCons (m1 fNeg (mC (.int 1))) mNil))))))
def M__law_other_kinds : MFn := mFn 1 2 B__law_other_kinds
theorem sc__law_other_kinds : FnScope N__law_other_kinds ["word"] (defScope s__law_other_kinds) := ⟨rfl, rfl, rfl, by decide +kernel, rfl, by decide +kernel, by decide +kernel⟩
theorem b__law_other_kinds (T : Txt P w K mg base) : BodyOk P w K mg base 6 N__law_other_kinds "_law_other_kinds" (defScope s__law_other_kinds) (defBody s__law_other_kinds) B__law_other_kinds := by
  intro f cdv A outer s H E hr tk po
  have nd := sc__law_other_kinds.nd
  exact (bm_cons (sm_set 1 nd (em_call (c__law_told T) hr tk (am_cons (em_ix ix_fIx (em_lst (am_cons em_int (am_cons em_non (am_cons (em_lst (am_cons em_str am_nil)) (am_cons (em_tup (am_cons em_str (am_cons em_str am_nil))) (am_cons em_bl am_nil)))))) (em_v 0)) am_nil)))
  (bm_one (sm_ret (em_cmp (op_fEq (uRoom hr)) (em_v 1) (em_lst (am_cons em_str (am_cons (em_neg em_int) am_nil)))))))
theorem c__law_other_kinds (T : Txt P w K mg base) : Cal P w K mg base 7 "_law_other_kinds" M__law_other_kinds := cal1 T.d__law_other_kinds sc__law_other_kinds (fun _ _ _ _ _ _ us hl => match us, hl with | [_], _ => rfl) (b__law_other_kinds T)
abbrev N_token_texts : List Str := ["text", "token"]
def B_token_texts : MS :=
  (sRet (mB1 (f1L fTuple) (mCons (mLc (iSeq (m2 fIx (mCall M_cut_text (mCons (mV 0) mNil)) (mC (.int 1)))) (gN 1) tAll (m2 fIx (mV 1) (mC (.int 1))) [1]) mNil)))
def M_token_texts : MFn := mFn 1 2 B_token_texts
theorem sc_token_texts : FnScope N_token_texts ["text"] (defScope s_token_texts) := ⟨rfl, rfl, rfl, by decide +kernel, rfl, by decide +kernel, by decide +kernel⟩
theorem b_token_texts (T : Txt P w K mg base) : BodyOk P w K mg base 5 N_token_texts "token_texts" (defScope s_token_texts) (defBody s_token_texts) B_token_texts := by
  intro f cdv A outer s H E hr tk po
  have nd := sc_token_texts.nd
  exact (bm_one (sm_ret (em_callT call_fTuple rfl T.n_tuple PyProof.Rows.Boot.«tuple» (am_cons (em_lc [1] rfl nd (im_seq (em_ix ix_fIx (em_call (c_cut_text T) hr tk (am_cons (em_v 0) am_nil)) em_int)) (blkOk_by (N := N_token_texts) (sc := defScope s_token_texts) (own := [("token", 1)]) (by decide +kernel)) (fun _ _ _ _ _ => (gc_n 1 nd)) (fun _ _ _ _ _ => tms_nil) (fun _ _ _ _ _ => (em_ix ix_fIx (em_v 1) em_int))) am_nil))))
theorem c_token_texts (T : Txt P w K mg base) : Cal P w K mg base 6 "token_texts" M_token_texts := cal1 T.d_token_texts sc_token_texts (fun _ _ _ _ _ _ us hl => match us, hl with | [_], _ => rfl) (b_token_texts T)
abbrev N_same_tokens : List Str := ["one", "other"]
def B_same_tokens : MS :=
  (sRet (m2 fEq (mCall M_token_texts (mCons (mV 0) mNil)) (mCall M_token_texts (mCons (mV 1) mNil))))
def M_same_tokens : MFn := mFn 2 2 B_same_tokens
theorem sc_same_tokens : FnScope N_same_tokens ["one", "other"] (defScope s_same_tokens) := ⟨rfl, rfl, rfl, by decide +kernel, rfl, by decide +kernel, by decide +kernel⟩
theorem b_same_tokens (T : Txt P w K mg base) : BodyOk P w K mg base 6 N_same_tokens "same_tokens" (defScope s_same_tokens) (defBody s_same_tokens) B_same_tokens := by
  intro f cdv A outer s H E hr tk po
  have nd := sc_same_tokens.nd
  exact (bm_one (sm_ret (em_cmp (op_fEq (uRoom hr)) (em_call (c_token_texts T) hr tk (am_cons (em_v 0) am_nil)) (em_call (c_token_texts T) hr tk (am_cons (em_v 1) am_nil)))))
theorem c_same_tokens (T : Txt P w K mg base) : Cal P w K mg base 7 "same_tokens" M_same_tokens := cal1 T.d_same_tokens sc_same_tokens (fun _ _ _ _ _ _ us hl => match us, hl with | [_, _], _ => rfl) (b_same_tokens T)
abbrev N__law_same : List Str := ["one", "other", "told", "bad", "error"]
def B__law_same : MS :=
  (sSeq (sSet 2 (mC .non))
  (sSeq (sSet 3 (mC .non))
  (sSeq (sTryAs
  (sSet 2 (mCall M_same_tokens (mCons (mV 0) (mCons (mV 1) mNil)))) 4 sub_BadSign
  (xSet 3 (fun en => if en.cls ∈ xl_offset then en.fs.lookup ("offset" : Str) else none)))
  (sSeq (sIf (mB (m2 fIs (mV 2) (mC .non)))
  (sRet (mLst (mCons (mC (.str "bad")) (mCons (mV 3) mNil))))
  sNil)
  (sSeq (sIf (mOrT (mB (m2 fIs (mV 2) (mC (.bl true)))) (mB (m2 fIs (mV 2) (mC (.bl false)))))
  (sRet (mLst (mCons (mC (.str "told")) (mCons (mV 2) mNil))))
  sNil)
  (sRet (mLst (mCons (mC (.str "odd")) mNil))))))))
def M__law_same : MFn := mFn 2 5 B__law_same
theorem sc__law_same : FnScope N__law_same ["one", "other"] (defScope s__law_same) := ⟨rfl, rfl, rfl, by decide +kernel, rfl, by decide +kernel, by decide +kernel⟩
theorem b__law_same (T : Txt P w K mg base) : BodyOk P w K mg base 7 N__law_same "_law_same" (defScope s__law_same) (defBody s__law_same) B__law_same := by
  intro f cdv A outer s H E hr tk po
  have nd := sc__law_same.nd
  exact (bm_cons (sm_set 2 nd em_non)
  (bm_cons (sm_set 3 nd em_non)
  (bm_cons (sm_try_as 4 T.k_BadSign tk nd (fun W pn xe tk po => (bm_one (sm_set 2 nd (em_call (c_same_tokens T) hr tk (am_cons (em_v 0) (am_cons (em_v 1) am_nil))))))
  (fun a oe cls d pn hz hv => (bx_one (sx_set 3 nd (xp_f (X := ctx P w K mg base N__law_same "_law_same" (defScope s__law_same) f cdv A outer s H E) T.f_offset hz hv)))))
  (bm_cons (sm_if (tm_cmp op_fIs (em_v 2) em_non)
  (bm_one (sm_ret (em_lst (am_cons em_str (am_cons (em_v 3) am_nil)))))
  bm_nil)
  (bm_cons (sm_if (WM.tm (wm_or (tm_cmp op_fIs (em_v 2) em_bl) (wm_or1 (tm_cmp op_fIs (em_v 2) em_bl))))
  (bm_one (sm_ret (em_lst (am_cons em_str (am_cons (em_v 2) am_nil)))))
  bm_nil)
  (bm_one (sm_ret (em_lst (am_cons em_str am_nil)))))))))
theorem c__law_same (T : Txt P w K mg base) : Cal P w K mg base 8 "_law_same" M__law_same := cal1 T.d__law_same sc__law_same (fun _ _ _ _ _ _ us hl => match us, hl with | [_, _], _ => rfl) (b__law_same T)
abbrev N__law_same_due : List Str := ["one", "other", "token"]
def B__law_same_due : MS :=
  (sSeq (sIf (mB (m2 fEq (m2 fIx (mV 0) (mC (.int 0))) (mC (.str "bad"))))
  (sRet (mV 0))
  sNil)
  (sSeq (sIf (mB (m2 fEq (m2 fIx (mV 1) (mC (.int 0))) (mC (.str "bad"))))
  (sRet (mV 1))
  sNil)
  (sRet (mLst (mCons (mC (.str "told")) (mCons (m2 fEq (mLc (iSeq (m2 fIx (mV 0) (mC (.int 2)))) (gN 2) tAll (m2 fIx (mV 2) (mC (.int 1))) [2]) (mLc (iSeq (m2 fIx (mV 1) (mC (.int 2)))) (gN 2) tAll (m2 fIx (mV 2) (mC (.int 1))) [2])) mNil))))))
def M__law_same_due : MFn := mFn 2 3 B__law_same_due
theorem sc__law_same_due : FnScope N__law_same_due ["one", "other"] (defScope s__law_same_due) := ⟨rfl, rfl, rfl, by decide +kernel, rfl, by decide +kernel, by decide +kernel⟩
theorem b__law_same_due (T : Txt P w K mg base) : BodyOk P w K mg base 0 N__law_same_due "_law_same_due" (defScope s__law_same_due) (defBody s__law_same_due) B__law_same_due := by
  intro f cdv A outer s H E hr tk po
  have nd := sc__law_same_due.nd
  exact (bm_cons (sm_if (tm_cmp (op_fEq (uRoom hr)) (em_ix ix_fIx (em_v 0) em_int) em_str)
  (bm_one (sm_ret (em_v 0)))
  bm_nil)
  (bm_cons (sm_if (tm_cmp (op_fEq (uRoom hr)) (em_ix ix_fIx (em_v 1) em_int) em_str)
  (bm_one (sm_ret (em_v 1)))
  bm_nil)
  (bm_one (sm_ret (em_lst (am_cons em_str (am_cons (em_cmp (op_fEq (uRoom hr)) (em_lc [2] rfl nd (im_seq (em_ix ix_fIx (em_v 0) em_int)) (blkOk_by (N := N__law_same_due) (sc := defScope s__law_same_due) (own := [("token", 2)]) (by decide +kernel)) (fun _ _ _ _ _ => (gc_n 2 nd)) (fun _ _ _ _ _ => tms_nil) (fun _ _ _ _ _ => (em_ix ix_fIx (em_v 2) em_int))) (em_lc [2] rfl nd (im_seq (em_ix ix_fIx (em_v 1) em_int)) (blkOk_by (N := N__law_same_due) (sc := defScope s__law_same_due) (own := [("token", 2)]) (by decide +kernel)) (fun _ _ _ _ _ => (gc_n 2 nd)) (fun _ _ _ _ _ => tms_nil) (fun _ _ _ _ _ => (em_ix ix_fIx (em_v 2) em_int)))) am_nil)))))))
theorem c__law_same_due (T : Txt P w K mg base) : Cal P w K mg base 1 "_law_same_due" M__law_same_due := cal1 T.d__law_same_due sc__law_same_due (fun _ _ _ _ _ _ us hl => match us, hl with | [_, _], _ => rfl) (b__law_same_due T)
abbrev N_Words_is_kept : List Str := ["text"]
def B_Words_is_kept : MS :=
  (sRet (mAndV (m1 (fIsi ["str"]) (mV 0)) (m2 fIn (mV 0) (mC d_Words_KEPT))))
def M_Words_is_kept : MFn := mFn 1 1 B_Words_is_kept
theorem sc_Words_is_kept : FnScope N_Words_is_kept ["text"] (defScope s_Words_is_kept) := ⟨rfl, rfl, rfl, by decide +kernel, rfl, by decide +kernel, by decide +kernel⟩
theorem b_Words_is_kept (T : Txt P w K mg base) : BodyOk P w K mg base 0 N_Words_is_kept "Words.is_kept" (defScope s_Words_is_kept) (defBody s_Words_is_kept) B_Words_is_kept := by
  intro f cdv A outer s H E hr tk po
  have nd := sc_Words_is_kept.nd
  exact (bm_one (sm_ret (em_and (em_isi (em_v 0) (hm := T.n_isinstance) (hmT := T.n_str) (hvT := PyProof.Rows.Boot.«str»)) (em_one (em_cmp op_fIn (em_v 0) (em_cc T.c_Words_KEPT))))))
theorem c_Words_is_kept (T : Txt P w K mg base) : Sta P w K mg base 1 "Words" "is_kept" M_Words_is_kept := sta1 T.s_Words_is_kept sc_Words_is_kept (fun _ _ _ _ _ _ us hl => match us, hl with | [_], _ => rfl) (b_Words_is_kept T)
abbrev N_is_name : List Str := ["text"]
def B_is_name : MS :=
  (sSeq (sIf (mOrT (mNotT (mB (m1 (fIsi ["str"]) (mV 0)))) (mOrT (mB (m2 fEq (mV 0) (mC (.str "")))) (mB (m2 fNotIn (m2 fIx (mV 0) (mC (.int 0))) (mC d_LETTERS)))))
  (sRet (mC (.bl false)))
  sNil)
  (sRet (mAndV (m2 fEq (mCall M__run_end (mCons (mV 0) (mCons (mC (.int 0)) (mCons (mC d_WORD_SIGNS) mNil)))) (mB1 (f1L fLen) (mCons (mV 0) mNil))) (mNotV (mCall M_Words_is_kept (mCons (mV 0) mNil))))))
def M_is_name : MFn := mFn 1 1 B_is_name
theorem sc_is_name : FnScope N_is_name ["text"] (defScope s_is_name) := ⟨rfl, rfl, rfl, by decide +kernel, rfl, by decide +kernel, by decide +kernel⟩
theorem b_is_name (T : Txt P w K mg base) : BodyOk P w K mg base 1 N_is_name "is_name" (defScope s_is_name) (defBody s_is_name) B_is_name := by
  intro f cdv A outer s H E hr tk po
  have nd := sc_is_name.nd
  exact (bm_cons (sm_if (WM.tm (wm_or (tm_not (tm_val (em_isi (em_v 0) (hm := T.n_isinstance) (hmT := T.n_str) (hvT := PyProof.Rows.Boot.«str»)))) (wm_or (tm_cmp (op_fEq (uRoom hr)) (em_v 0) em_str) (wm_or1 (tm_cmp op_fNotIn (em_ix ix_fIx (em_v 0) em_int) (em_gc T.c_LETTERS))))))
  (bm_one (sm_ret em_bl))
  bm_nil)
  (bm_one (sm_ret (em_and (em_cmp (op_fEq (uRoom hr)) (em_call (c__run_end T) hr tk (am_cons (em_v 0) (am_cons em_int (am_cons (em_gc T.c_WORD_SIGNS) am_nil)))) (em_callB call_fLen rfl T.n_len PyProof.Rows.Boot.«len» (am_cons (em_v 0) am_nil))) (em_one (em_not (em_sta (c_Words_is_kept T) hr tk (am_cons (em_v 0) am_nil))))))))
theorem c_is_name (T : Txt P w K mg base) : Cal P w K mg base 2 "is_name" M_is_name := cal1 T.d_is_name sc_is_name (fun _ _ _ _ _ _ us hl => match us, hl with | [_], _ => rfl) (b_is_name T)
abbrev N__law_words_right : List Str := ["tokens", "kept", "token", "named", "known", "sign", "rows"]
def B__law_words_right : MS :=
  (sSeq (sSet 1 (mCall0 M__law_kept_words))
  (sSeq (sIf (mB (m2 fNe (mC d_Words_KEPT) (mB1 (f1L fTuple) (mCons (mV 1) mNil))))
  (sRet (mC (.bl false)))
  sNil)
  (sSeq (sFor (iSeq (mSl (mV 0) mNoPart (mPart (mC (.int 30))))) (gN 2)
  (sSeq (sSet 3 (mCall M_is_name (mCons (m2 fIx (mV 2) (mC (.int 1))) mNil)))
  (sSeq (sSet 4 (mCall M_Words_is_kept (mCons (m2 fIx (mV 2) (mC (.int 1))) mNil)))
  (sSeq (sIf (mOrT (mAndT (mB (m2 fIsN (mV 3) (mC (.bl true)))) (mB (m2 fIsN (mV 3) (mC (.bl false))))) (mAndT (mB (m2 fIsN (mV 4) (mC (.bl true)))) (mB (m2 fIsN (mV 4) (mC (.bl false))))))
  (sRet (mC (.bl false)))
  sNil)
  (sIf (mOrT (mB (m2 fNe (mV 3) (mAndV (m2 fEq (m2 fIx (mV 2) (mC (.int 0))) (mC (.str "word"))) (m2 fNotIn (m2 fIx (mV 2) (mC (.int 1))) (mV 1))))) (mB (m2 fNe (mV 4) (m2 fIn (m2 fIx (mV 2) (mC (.int 1))) (mV 1)))))
  (sRet (mC (.bl false)))
  sNil)))))
  (sSeq (sFor (iSeq (m2 fAdd (mCall0 M__law_strange) (mLst (mCons (mC (.str "\n")) (mCons (mC (.str " ")) (mCons (mC (.str "#")) (mCons (mC (.str "-")) mNil))))))) (gN 5)
  (sSeq (sSet 6 (mLst (mCons (mCall M_is_name (mCons (mV 5) mNil)) (mCons (mCall M_is_name (mCons (m2 fAdd (m2 fAdd (mC (.str "a")) (mV 5)) (mC (.str "1"))) mNil)) (mCons (mCall M_is_name (mCons (m2 fAdd (mV 5) (mC (.str "a"))) mNil)) (mCons (mCall M_Words_is_kept (mCons (m2 fAdd (mC (.str "end")) (mV 5)) mNil)) mNil))))))
  (sIf (mOrT (mB (m2 fNe (mV 6) (mLst (mCons (mC (.bl false)) (mCons (m2 fEq (mV 5) (mC (.str "_"))) (mCons (mC (.bl false)) (mCons (mC (.bl false)) mNil))))))) (mB (m2 fNe (mCall M_is_name (mCons (m2 fAdd (mC (.str "x")) (mV 5)) mNil)) (m2 fEq (mV 5) (mC (.str "_"))))))
  (sRet (mC (.bl false)))
  sNil)))
  (sRet (mAndV (m2 fIs (mCall M_is_name (mCons (mC (.str "")) mNil)) (mC (.bl false))) (mAndV (m2 fIs (mCall M_is_name (mCons (mC (.str "a b")) mNil)) (mC (.bl false))) (mAndV (m2 fIs (mCall M_is_name (mCons (mC (.int 7)) mNil)) (mC (.bl false))) (m2 fIs (mCall M_Words_is_kept (mCons (mC (.int 7)) mNil)) (mC (.bl false)))))))))))
def M__law_words_right : MFn := mFn 1 7 B__law_words_right
theorem sc__law_words_right : FnScope N__law_words_right ["tokens"] (defScope s__law_words_right) := ⟨rfl, rfl, rfl, by decide +kernel, rfl, by decide +kernel, by decide +kernel⟩
theorem b__law_words_right (T : Txt P w K mg base) : BodyOk P w K mg base 2 N__law_words_right "_law_words_right" (defScope s__law_words_right) (defBody s__law_words_right) B__law_words_right := by
  intro f cdv A outer s H E hr tk po
  have nd := sc__law_words_right.nd
  exact (bm_cons (sm_set 1 nd (em_call0 (c__law_kept_words T) hr))
  (bm_cons (sm_if (tm_cmp (op_fNe (uRoom hr)) (em_cc T.c_Words_KEPT) (em_callT call_fTuple rfl T.n_tuple PyProof.Rows.Boot.«tuple» (am_cons (em_v 1) am_nil)))
  (bm_one (sm_ret em_bl))
  bm_nil)
  (bm_cons (sm_for po rfl (im_seq (em_sl (em_v 0) om_none (om_some em_int))) (gm_n 2 nd)
  (bm_cons (sm_set 3 nd (em_call (c_is_name T) hr tk (am_cons (em_ix ix_fIx (em_v 2) em_int) am_nil)))
  (bm_cons (sm_set 4 nd (em_sta (c_Words_is_kept T) hr tk (am_cons (em_ix ix_fIx (em_v 2) em_int) am_nil)))
  (bm_cons (sm_if (WM.tm (wm_or (WM.tm (wm_and (tm_cmp op_fIsN (em_v 3) em_bl) (wm_and1 (tm_cmp op_fIsN (em_v 3) em_bl)))) (wm_or1 (WM.tm (wm_and (tm_cmp op_fIsN (em_v 4) em_bl) (wm_and1 (tm_cmp op_fIsN (em_v 4) em_bl)))))))
  (bm_one (sm_ret em_bl))
  bm_nil)
  (bm_one (sm_if (WM.tm (wm_or (tm_cmp (op_fNe (uRoom hr)) (em_v 3) (em_and (em_cmp (op_fEq (uRoom hr)) (em_ix ix_fIx (em_v 2) em_int) em_str) (em_one (em_cmp op_fNotIn (em_ix ix_fIx (em_v 2) em_int) (em_v 1))))) (wm_or1 (tm_cmp (op_fNe (uRoom hr)) (em_v 4) (em_cmp op_fIn (em_ix ix_fIx (em_v 2) em_int) (em_v 1))))))
  (bm_one (sm_ret em_bl))
  bm_nil))))))
  (bm_cons (sm_for po rfl (im_seq (em_bin op_fAdd (em_call0 (c__law_strange T) hr) (em_lst (am_cons em_str (am_cons em_str (am_cons em_str (am_cons em_str am_nil))))))) (gm_n 5 nd)
  (bm_cons (sm_set 6 nd (em_lst (am_cons (em_call (c_is_name T) hr tk (am_cons (em_v 5) am_nil)) (am_cons (em_call (c_is_name T) hr tk (am_cons (em_bin op_fAdd (em_bin op_fAdd em_str (em_v 5)) em_str) am_nil)) (am_cons (em_call (c_is_name T) hr tk (am_cons (em_bin op_fAdd (em_v 5) em_str) am_nil)) (am_cons (em_sta (c_Words_is_kept T) hr tk (am_cons (em_bin op_fAdd em_str (em_v 5)) am_nil)) am_nil))))))
  (bm_one (sm_if (WM.tm (wm_or (tm_cmp (op_fNe (uRoom hr)) (em_v 6) (em_lst (am_cons em_bl (am_cons (em_cmp (op_fEq (uRoom hr)) (em_v 5) em_str) (am_cons em_bl (am_cons em_bl am_nil)))))) (wm_or1 (tm_cmp (op_fNe (uRoom hr)) (em_call (c_is_name T) hr tk (am_cons (em_bin op_fAdd em_str (em_v 5)) am_nil)) (em_cmp (op_fEq (uRoom hr)) (em_v 5) em_str)))))
  (bm_one (sm_ret em_bl))
  bm_nil))))
  (bm_one (sm_ret (em_and (em_cmp op_fIs (em_call (c_is_name T) hr tk (am_cons em_str am_nil)) em_bl) (em_and (em_cmp op_fIs (em_call (c_is_name T) hr tk (am_cons em_str am_nil)) em_bl) (em_and (em_cmp op_fIs (em_call (c_is_name T) hr tk (am_cons em_int am_nil)) em_bl) (em_one (em_cmp op_fIs (em_sta (c_Words_is_kept T) hr tk (am_cons em_int am_nil)) em_bl)))))))))))
theorem c__law_words_right (T : Txt P w K mg base) : Cal P w K mg base 3 "_law_words_right" M__law_words_right := cal1 T.d__law_words_right sc__law_words_right (fun _ _ _ _ _ _ us hl => match us, hl with | [_], _ => rfl) (b__law_words_right T)
abbrev N__law_joined : List Str := ["layouts", "tokens", "text", "place"]
def B__law_joined : MS :=
  (sSeq (sSet 2 (m2 fIx (mV 0) (mC (.int 0))))
  (sSeq (sFor (iRng (mCons (mB1 (f1L fLen) (mCons (mV 1) mNil)) mNil)) (gN 3)
  (sSet 2 (m2 fAdd (m2 fAdd (mV 2) (m2 fIx (m2 fIx (mV 1) (mV 3)) (mC (.int 1)))) (m2 fIx (mV 0) (m2 fAdd (mV 3) (mC (.int 1)))))))
  (sRet (mV 2))))
def M__law_joined : MFn := mFn 2 4 B__law_joined
theorem sc__law_joined : FnScope N__law_joined ["layouts", "tokens"] (defScope s__law_joined) := ⟨rfl, rfl, rfl, by decide +kernel, rfl, by decide +kernel, by decide +kernel⟩
theorem b__law_joined (T : Txt P w K mg base) : BodyOk P w K mg base 0 N__law_joined "_law_joined" (defScope s__law_joined) (defBody s__law_joined) B__law_joined := by
  intro f cdv A outer s H E hr tk po
  have nd := sc__law_joined.nd
  exact (bm_cons (sm_set 2 nd (em_ix ix_fIx (em_v 0) em_int))
  (bm_cons (sm_for po rfl (im_rng1 T.n_range (em_callB call_fLen rfl T.n_len PyProof.Rows.Boot.«len» (am_cons (em_v 1) am_nil))) (gm_n 3 nd)
  (bm_one (sm_set 2 nd (em_bin op_fAdd (em_bin op_fAdd (em_v 2) (em_ix ix_fIx (em_ix ix_fIx (em_v 1) (em_v 3)) em_int)) (em_ix ix_fIx (em_v 0) (em_bin op_fAdd (em_v 3) em_int))))))
  (bm_one (sm_ret (em_v 2)))))
theorem c__law_joined (T : Txt P w K mg base) : Cal P w K mg base 1 "_law_joined" M__law_joined := cal1 T.d__law_joined sc__law_joined (fun _ _ _ _ _ _ us hl => match us, hl with | [_, _], _ => rfl) (b__law_joined T)
abbrev N__is_token : List Str := ["token"]
def B__is_token : MS :=
  (sRet (mAndV (m1 (fIsi ["list", "tuple"]) (mV 0)) (mAndV (m2 fEq (mB1 (f1L fLen) (mCons (mV 0) mNil)) (mC (.int 3))) (m1 (fIsi ["str"]) (m2 fIx (mV 0) (mC (.int 1)))))))
def M__is_token : MFn := mFn 1 1 B__is_token
theorem sc__is_token : FnScope N__is_token ["token"] (defScope s__is_token) := ⟨rfl, rfl, rfl, by decide +kernel, rfl, by decide +kernel, by decide +kernel⟩
theorem b__is_token (T : Txt P w K mg base) : BodyOk P w K mg base 0 N__is_token "_is_token" (defScope s__is_token) (defBody s__is_token) B__is_token := by
  intro f cdv A outer s H E hr tk po
  have nd := sc__is_token.nd
  exact (bm_one (sm_ret (em_and (em_isiT2 (em_v 0) (hm := T.n_isinstance) (hm1 := T.n_list) (hv1 := PyProof.Rows.Boot.«list») (hm2 := T.n_tuple) (hv2 := PyProof.Rows.Boot.«tuple»)) (em_and (em_cmp (op_fEq (uRoom hr)) (em_callB call_fLen rfl T.n_len PyProof.Rows.Boot.«len» (am_cons (em_v 0) am_nil)) em_int) (em_one (em_isi (em_ix ix_fIx (em_v 0) em_int) (hm := T.n_isinstance) (hmT := T.n_str) (hvT := PyProof.Rows.Boot.«str»)))))))
theorem c__is_token (T : Txt P w K mg base) : Cal P w K mg base 1 "_is_token" M__is_token := cal1 T.d__is_token sc__is_token (fun _ _ _ _ _ _ us hl => match us, hl with | [_], _ => rfl) (b__is_token T)
abbrev N_joined_text : List Str := ["layouts", "tokens", "pieces", "number", "token"]
def B_joined_text : MS :=
  (sSeq (sIf (mOrT (mNotT (mB (m1 (fIsi ["list", "tuple"]) (mV 0)))) (mNotT (mB (m1 (fIsi ["list", "tuple"]) (mV 1)))))
  (sRaise "BadText" 1 (fl_BadText D .non) (mCons (m1 fNeg (mC (.int 1))) mNil))
  sNil)
  (sSeq (sIf (mB (m2 fNe (mB1 (f1L fLen) (mCons (mV 0) mNil)) (m2 fAdd (mB1 (f1L fLen) (mCons (mV 1) mNil)) (mC (.int 1)))))
  (sRaise "BadText" 1 (fl_BadText D .non) (mCons (m1 fNeg (mC (.int 1))) mNil))
  sNil)
  (sSeq (sSet 2 (mLst mNil))
  (sSeq (sFor (iEnumL (mCons (mV 1) mNil)) (gT 2 (gsCons (gN 3) (gsCons (gN 4) gsNil)))
  (sSeq (sIf (mOrT (mNotT (mB (m1 (fIsi ["str"]) (m2 fIx (mV 0) (mV 3))))) (mNotT (mB (mCall M__is_token (mCons (mV 4) mNil)))))
  (sRaise "BadText" 1 (fl_BadText D .non) (mCons (m1 fNeg (mC (.int 1))) mNil))
  sNil)
  (sSeq (sExpr (mM "list" fAppend (mV 2) (mCons (m2 fIx (mV 0) (mV 3)) mNil)))
  (sExpr (mM "list" fAppend (mV 2) (mCons (m2 fIx (mV 4) (mC (.int 1))) mNil))))))
  (sSeq (sIf (mNotT (mB (m1 (fIsi ["str"]) (m2 fIx (mV 0) (m1 fNeg (mC (.int 1)))))))
  (sRaise "BadText" 1 (fl_BadText D .non) (mCons (m1 fNeg (mC (.int 1))) mNil))
  sNil)
  (sSeq (sExpr (mM "list" fAppend (mV 2) (mCons (m2 fIx (mV 0) (m1 fNeg (mC (.int 1)))) mNil)))
  (sRet (mM "str" fJoin (mC (.str "")) (mCons (mV 2) mNil)))))))))
def M_joined_text : MFn := mFn 2 5 B_joined_text
theorem sc_joined_text : FnScope N_joined_text ["layouts", "tokens"] (defScope s_joined_text) := ⟨rfl, rfl, rfl, by decide +kernel, rfl, by decide +kernel, by decide +kernel⟩
theorem b_joined_text (T : Txt P w K mg base) : BodyOk P w K mg base 2 N_joined_text "joined_text" (defScope s_joined_text) (defBody s_joined_text) B_joined_text := by
  intro f cdv A outer s H E hr tk po
  have nd := sc_joined_text.nd
  exact (bm_cons (sm_if (WM.tm (wm_or (tm_not (tm_val (em_isiT2 (em_v 0) (hm := T.n_isinstance) (hm1 := T.n_list) (hv1 := PyProof.Rows.Boot.«list») (hm2 := T.n_tuple) (hv2 := PyProof.Rows.Boot.«tuple»)))) (wm_or1 (tm_not (tm_val (em_isiT2 (em_v 1) (hm := T.n_isinstance) (hm1 := T.n_list) (hv1 := PyProof.Rows.Boot.«list») (hm2 := T.n_tuple) (hv2 := PyProof.Rows.Boot.«tuple»)))))))
  (bm_one (sm_raise T.x_BadText flds1 (by decide) hr tk rfl (am_cons (em_neg em_int) am_nil)))
  bm_nil)
  (bm_cons (sm_if (tm_cmp (op_fNe (uRoom hr)) (em_callB call_fLen rfl T.n_len PyProof.Rows.Boot.«len» (am_cons (em_v 0) am_nil)) (em_bin op_fAdd (em_callB call_fLen rfl T.n_len PyProof.Rows.Boot.«len» (am_cons (em_v 1) am_nil)) em_int))
  (bm_one (sm_raise T.x_BadText flds1 (by decide) hr tk rfl (am_cons (em_neg em_int) am_nil)))
  bm_nil)
  (bm_cons (sm_set 2 nd (em_lst am_nil))
  (bm_cons (sm_for po rfl (im_enumL T.n_enumerate (em_v 1)) (gm_tup rfl (gms_cons (gm_n 3 nd) (gms_cons (gm_n 4 nd) gms_nil)))
  (bm_cons (sm_if (WM.tm (wm_or (tm_not (tm_val (em_isi (em_ix ix_fIx (em_v 0) (em_v 3)) (hm := T.n_isinstance) (hmT := T.n_str) (hvT := PyProof.Rows.Boot.«str»)))) (wm_or1 (tm_not (tm_val (em_call (c__is_token T) hr tk (am_cons (em_v 4) am_nil)))))))
  (bm_one (sm_raise T.x_BadText flds1 (by decide) hr tk rfl (am_cons (em_neg em_int) am_nil)))
  bm_nil)
  (bm_cons (sm_expr (em_bm PySem.F.plainAttrs_list PySem.F.slot_list_append PySem.F.type_list_append mt_fAppend (em_v 2) (am_cons (em_ix ix_fIx (em_v 0) (em_v 3)) am_nil)))
  (bm_one (sm_expr (em_bm PySem.F.plainAttrs_list PySem.F.slot_list_append PySem.F.type_list_append mt_fAppend (em_v 2) (am_cons (em_ix ix_fIx (em_v 4) em_int) am_nil)))))))
  (bm_cons (sm_if (tm_not (tm_val (em_isi (em_ix ix_fIx (em_v 0) (em_neg em_int)) (hm := T.n_isinstance) (hmT := T.n_str) (hvT := PyProof.Rows.Boot.«str»))))
  (bm_one (sm_raise T.x_BadText flds1 (by decide) hr tk rfl (am_cons (em_neg em_int) am_nil)))
  bm_nil)
  (bm_cons (sm_expr (em_bm PySem.F.plainAttrs_list PySem.F.slot_list_append PySem.F.type_list_append mt_fAppend (em_v 2) (am_cons (em_ix ix_fIx (em_v 0) (em_neg em_int)) am_nil)))
  (bm_one (sm_ret (em_bm PySem.F.plainAttrs_str PySem.F.slot_str_join PySem.F.type_str_join mt_fJoin em_str (am_cons (em_v 2) am_nil))))))))))
theorem c_joined_text (T : Txt P w K mg base) : Cal P w K mg base 3 "joined_text" M_joined_text := cal1 T.d_joined_text sc_joined_text (fun _ _ _ _ _ _ us hl => match us, hl with | [_, _], _ => rfl) (b_joined_text T)
abbrev N__law_join_refused : List Str := ["layouts", "tokens", "bad", "error"]
def B__law_join_refused : MS :=
  (sSeq (sSet 2 (mC .non))
  (sSeq (sTryAs
  (sSet 2 (mCall M_joined_text (mCons (mV 0) (mCons (mV 1) mNil)))) 3 sub_BadText
  (xSetL 2 (fun en => ((fun _ => some (.str "refused")) en).bind fun d => ((fun en => ((fun en => if en.cls ∈ xl_offset then en.fs.lookup ("offset" : Str) else none) en).bind fun d => ((fun _ => some []) en).map fun ds => d :: ds) en).map fun ds => d :: ds)))
  (sRet (m2 fEq (mV 2) (mLst (mCons (mC (.str "refused")) (mCons (m1 fNeg (mC (.int 1))) mNil)))))))
def M__law_join_refused : MFn := mFn 2 4 B__law_join_refused
theorem sc__law_join_refused : FnScope N__law_join_refused ["layouts", "tokens"] (defScope s__law_join_refused) := ⟨rfl, rfl, rfl, by decide +kernel, rfl, by decide +kernel, by decide +kernel⟩
theorem b__law_join_refused (T : Txt P w K mg base) : BodyOk P w K mg base 3 N__law_join_refused "_law_join_refused" (defScope s__law_join_refused) (defBody s__law_join_refused) B__law_join_refused := by
  intro f cdv A outer s H E hr tk po
  have nd := sc__law_join_refused.nd
  exact (bm_cons (sm_set 2 nd em_non)
  (bm_cons (sm_try_as 3 T.k_BadText tk nd (fun W pn xe tk po => (bm_one (sm_set 2 nd (em_call (c_joined_text T) hr tk (am_cons (em_v 0) (am_cons (em_v 1) am_nil))))))
  (fun a oe cls d pn hz hv => (bx_one (sx_setL 2 nd (xps_cons xp_str (xps_cons (xp_f (X := ctx P w K mg base N__law_join_refused "_law_join_refused" (defScope s__law_join_refused) f cdv A outer s H E) T.f_offset hz hv) xps_nil))))))
  (bm_one (sm_ret (em_cmp (op_fEq (uRoom hr)) (em_v 2) (em_lst (am_cons em_str (am_cons (em_neg em_int) am_nil))))))))
theorem c__law_join_refused (T : Txt P w K mg base) : Cal P w K mg base 4 "_law_join_refused" M__law_join_refused := cal1 T.d__law_join_refused sc__law_join_refused (fun _ _ _ _ _ _ us hl => match us, hl with | [_, _], _ => rfl) (b__law_join_refused T)
abbrev N_law : List Str := ["script", "pool", "text", "turn", "due", "second", "second_due", "texts", "place", "fresh", "layouts", "other", "rows", "other_due", "token"]
def B_law : MS :=
  (sSeq (sSet 1 (mCall M__law_pool (mCons (mV 0) mNil)))
  (sSeq (sSet 2 (mC (.str "")))
  (sSeq (sFor (iRng (mCons (m2 fAdd (mC (.int 2)) (mCall M__law_pick (mCons (mV 1) (mCons (mC (.int 12)) mNil)))) mNil)) (gN 3)
  (sSet 2 (m2 fAdd (mV 2) (mCall M__law_piece (mCons (mV 1) mNil)))))
  (sSeq (sIf (mB (m2 fEq (mCall M__law_pick (mCons (mV 1) (mCons (mC (.int 24)) mNil))) (mC (.int 23))))
  (sSet 2 (m2 fAdd (m2 fAdd (m2 fAdd (mV 2) (m2 fMulA (mC (.str " x1")) (mC (.int 700)))) (mC (.str " "))) (m2 fMulA (mC (.str "7")) (m2 fAdd (mC (.int 999)) (mCall M__law_pick (mCons (mV 1) (mCons (mC (.int 3)) mNil)))))))
  sNil)
  (sSeq (sSet 4 (mCall M__law_cut (mCons (mV 2) mNil)))
  (sSeq (sIf (mOrT (mB (m2 fNe (mCall M__law_told (mCons (mV 2) mNil)) (mV 4))) (mNotT (mB (mCall M__law_other_kinds (mCons (mCall M__law_pick (mCons (mV 1) (mCons (mC (.int 5)) mNil))) mNil)))))
  (sRet (mC (.bl false)))
  sNil)
  (sSeq (sSet 5 (mM "str" fJoin (mC (.str "")) (mCons (mLc (iRng (mCons (m2 fAdd (mC (.int 1)) (mCall M__law_pick (mCons (mV 1) (mCons (mC (.int 4)) mNil)))) mNil)) (gN 3) tAll (mCall M__law_piece (mCons (mV 1) mNil)) [3]) mNil)))
  (sSeq (sSet 6 (mCall M__law_cut (mCons (mV 5) mNil)))
  (sSeq (sIf (mOrT (mB (m2 fNe (mCall M__law_told (mCons (mV 5) mNil)) (mV 6))) (mB (m2 fNe (mCall M__law_same (mCons (mV 2) (mCons (mV 5) mNil))) (mCall M__law_same_due (mCons (mV 4) (mCons (mV 6) mNil))))))
  (sRet (mC (.bl false)))
  sNil)
  (sSeq (sIf (mB (m2 fEq (m2 fIx (mV 4) (mC (.int 0))) (mC (.str "bad"))))
  (sRet (m2 fEq (mCall M__law_same (mCons (mV 5) (mCons (mV 2) mNil))) (mCall M__law_same_due (mCons (mV 6) (mCons (mV 4) mNil)))))
  sNil)
  (sSeq (sSet 7 (mB1 (f1L fTuple) (mCons (mLc (iSeq (m2 fIx (mV 4) (mC (.int 2)))) (gN 14) tAll (m2 fIx (mV 14) (mC (.int 1))) [14]) mNil)))
  (sSeq (sIf (mOrT (mB (m2 fNe (mCall M_token_texts (mCons (mV 2) mNil)) (mV 7))) (mNotT (mB (mCall M__law_words_right (mCons (m2 fIx (mV 4) (mC (.int 2))) mNil)))))
  (sRet (mC (.bl false)))
  sNil)
  (sSeq (sSet 8 (mCall M__law_pick (mCons (mV 1) (mCons (mB1 (f1L fLen) (mCons (m2 fIx (mV 4) (mC (.int 1))) mNil)) mNil))))
  (sSeq (sSet 9 (mCall M__law_layout (mCons (mV 1) mNil)))
  (sSeq (sSet 10 (mB1 (f1L fList2) (mCons (m2 fIx (mV 4) (mC (.int 1))) mNil)))
  (sSeq (sPut (mV 10) (mV 8) (mV 9))
  (sSeq (sSet 11 (mCall M__law_joined (mCons (mV 10) (mCons (m2 fIx (mV 4) (mC (.int 2))) mNil))))
  (sSeq (sSet 12 (mLc (iSeq (m2 fIx (mV 4) (mC (.int 2)))) (gN 14) tAll (mLst (mCons (mC (.str "")) (mCons (m2 fIx (mV 14) (mC (.int 1))) (mCons (mC (.int 0)) mNil)))) [14]))
  (sSeq (sIf (mOrT (mB (m2 fNe (mCall M_joined_text (mCons (mB1 (f1L fTuple) (mCons (m2 fIx (mV 4) (mC (.int 1))) mNil)) (mCons (mLc (iSeq (m2 fIx (mV 4) (mC (.int 2)))) (gN 14) tAll (mB1 (f1L fList2) (mCons (mV 14) mNil)) [14]) mNil))) (mV 2))) (mB (m2 fNe (mCall M_joined_text (mCons (mB1 (f1L fList2) (mCons (mV 10) mNil)) (mCons (mV 12) mNil))) (mV 11))))
  (sRet (mC (.bl false)))
  sNil)
  (sSeq (sSet 13 (mCall M__law_cut (mCons (mV 11) mNil)))
  (sSeq (sIf (mOrT (mB (m2 fNe (mCall M__law_told (mCons (mV 11) mNil)) (mV 13))) (mB (m2 fNe (mCall M__law_same (mCons (mV 2) (mCons (mV 11) mNil))) (mCall M__law_same_due (mCons (mV 4) (mCons (mV 13) mNil))))))
  (sRet (mC (.bl false)))
  sNil)
  (sSeq (sIf (mAndT (mB (m2 fNe (mV 9) (mC (.str "")))) (mOrT (mB (m2 fEq (m2 fIx (mV 13) (mC (.int 0))) (mC (.str "bad")))) (mB (m2 fNe (mCall M_token_texts (mCons (mV 11) mNil)) (mV 7)))))
  (sRet (mC (.bl false)))
  sNil)
  (sRet (mAndV (mCall M__law_join_refused (mCons (m2 fAdd (mV 10) (mLst (mCons (mC (.str "")) mNil))) (mCons (mV 12) mNil))) (mCall M__law_join_refused (mCons (mB1 (f1L fTuple) (mCons (mSl (mV 10) (mPart (mC (.int 1))) mNoPart) mNil)) (mCons (mV 12) mNil)))))))))))))))))))))))))))
def M_law : MFn := mFn 1 15 B_law
theorem sc_law : FnScope N_law ["script"] (defScope s_law) := ⟨rfl, rfl, rfl, by decide +kernel, rfl, by decide +kernel, by decide +kernel⟩
theorem b_law (T : Txt P w K mg base) : BodyOk P w K mg base 8 N_law "law" (defScope s_law) (defBody s_law) B_law := by
  intro f cdv A outer s H E hr tk po
  have nd := sc_law.nd
  exact (bm_cons (sm_set 1 nd (em_call (c__law_pool T) hr tk (am_cons (em_v 0) am_nil)))
  (bm_cons (sm_set 2 nd em_str)
  (bm_cons (sm_for po rfl (im_rng1 T.n_range (em_bin op_fAdd em_int (em_call (c__law_pick T) hr tk (am_cons (em_v 1) (am_cons em_int am_nil))))) (gm_n 3 nd)
  (bm_one (sm_set 2 nd (em_bin op_fAdd (em_v 2) (em_call (c__law_piece T) hr tk (am_cons (em_v 1) am_nil))))))
  (bm_cons (sm_if (tm_cmp (op_fEq (uRoom hr)) (em_call (c__law_pick T) hr tk (am_cons (em_v 1) (am_cons em_int am_nil))) em_int)
  (bm_one (sm_set 2 nd (em_bin op_fAdd (em_bin op_fAdd (em_bin op_fAdd (em_v 2) (em_bin op_fMulA em_str em_int)) em_str) (em_bin op_fMulA em_str (em_bin op_fAdd em_int (em_call (c__law_pick T) hr tk (am_cons (em_v 1) (am_cons em_int am_nil))))))))
  bm_nil)
  (bm_cons (sm_set 4 nd (em_call (c__law_cut T) hr tk (am_cons (em_v 2) am_nil)))
  (bm_cons (sm_if (WM.tm (wm_or (tm_cmp (op_fNe (uRoom hr)) (em_call (c__law_told T) hr tk (am_cons (em_v 2) am_nil)) (em_v 4)) (wm_or1 (tm_not (tm_val (em_call (c__law_other_kinds T) hr tk (am_cons (em_call (c__law_pick T) hr tk (am_cons (em_v 1) (am_cons em_int am_nil))) am_nil)))))))
  (bm_one (sm_ret em_bl))
  bm_nil)
  (bm_cons (sm_set 5 nd (em_bm PySem.F.plainAttrs_str PySem.F.slot_str_join PySem.F.type_str_join mt_fJoin em_str (am_cons (em_lc [3] rfl nd (im_rng1 T.n_range (em_bin op_fAdd em_int (em_call (c__law_pick T) hr tk (am_cons (em_v 1) (am_cons em_int am_nil))))) (blkOk_by (N := N_law) (sc := defScope s_law) (own := [("turn", 3)]) (by decide +kernel)) (fun _ _ _ _ _ => (gc_n 3 nd)) (fun _ _ _ _ _ => tms_nil) (fun _ _ _ _ _ => (em_call (c__law_piece T) hr takes0 (am_cons (em_v 1) am_nil)))) am_nil)))
  (bm_cons (sm_set 6 nd (em_call (c__law_cut T) hr tk (am_cons (em_v 5) am_nil)))
  (bm_cons (sm_if (WM.tm (wm_or (tm_cmp (op_fNe (uRoom hr)) (em_call (c__law_told T) hr tk (am_cons (em_v 5) am_nil)) (em_v 6)) (wm_or1 (tm_cmp (op_fNe (uRoom hr)) (em_call (c__law_same T) hr tk (am_cons (em_v 2) (am_cons (em_v 5) am_nil))) (em_call (c__law_same_due T) hr tk (am_cons (em_v 4) (am_cons (em_v 6) am_nil)))))))
  (bm_one (sm_ret em_bl))
  bm_nil)
  (bm_cons (sm_if (tm_cmp (op_fEq (uRoom hr)) (em_ix ix_fIx (em_v 4) em_int) em_str)
  (bm_one (sm_ret (em_cmp (op_fEq (uRoom hr)) (em_call (c__law_same T) hr tk (am_cons (em_v 5) (am_cons (em_v 2) am_nil))) (em_call (c__law_same_due T) hr tk (am_cons (em_v 6) (am_cons (em_v 4) am_nil))))))
  bm_nil)
  (bm_cons (sm_set 7 nd (em_callT call_fTuple rfl T.n_tuple PyProof.Rows.Boot.«tuple» (am_cons (em_lc [14] rfl nd (im_seq (em_ix ix_fIx (em_v 4) em_int)) (blkOk_by (N := N_law) (sc := defScope s_law) (own := [("token", 14)]) (by decide +kernel)) (fun _ _ _ _ _ => (gc_n 14 nd)) (fun _ _ _ _ _ => tms_nil) (fun _ _ _ _ _ => (em_ix ix_fIx (em_v 14) em_int))) am_nil)))
  (bm_cons (sm_if (WM.tm (wm_or (tm_cmp (op_fNe (uRoom hr)) (em_call (c_token_texts T) hr tk (am_cons (em_v 2) am_nil)) (em_v 7)) (wm_or1 (tm_not (tm_val (em_call (c__law_words_right T) hr tk (am_cons (em_ix ix_fIx (em_v 4) em_int) am_nil)))))))
  (bm_one (sm_ret em_bl))
  bm_nil)
  (bm_cons (sm_set 8 nd (em_call (c__law_pick T) hr tk (am_cons (em_v 1) (am_cons (em_callB call_fLen rfl T.n_len PyProof.Rows.Boot.«len» (am_cons (em_ix ix_fIx (em_v 4) em_int) am_nil)) am_nil))))
  (bm_cons (sm_set 9 nd (em_call (c__law_layout T) hr tk (am_cons (em_v 1) am_nil)))
  (bm_cons (sm_set 10 nd (em_callT (call_fList2 rfl) rfl T.n_list PyProof.Rows.Boot.«list» (am_cons (em_ix ix_fIx (em_v 4) em_int) am_nil)))
  (bm_cons (sm_put (em_v 10) (em_v 8) (em_v 9))
  (bm_cons (sm_set 11 nd (em_call (c__law_joined T) hr tk (am_cons (em_v 10) (am_cons (em_ix ix_fIx (em_v 4) em_int) am_nil))))
  (bm_cons (sm_setLc 12 [14] rfl nd (im_seq (em_ix ix_fIx (em_v 4) em_int)) (blkOk_by (N := N_law) (sc := defScope s_law) (own := [("token", 14)]) (by decide +kernel)) (fun _ _ _ _ _ => (gc_n 14 nd)) (fun _ _ _ _ _ => tms_nil) (fun _ _ _ _ _ => (em_lst (am_cons em_str (am_cons (em_ix ix_fIx (em_v 14) em_int) (am_cons em_int am_nil))))))
  (bm_cons (sm_if (WM.tm (wm_or (tm_cmp (op_fNe (uRoom hr)) (em_call (c_joined_text T) hr tk (am_cons (em_callT call_fTuple rfl T.n_tuple PyProof.Rows.Boot.«tuple» (am_cons (em_ix ix_fIx (em_v 4) em_int) am_nil)) (am_cons (em_lc [14] rfl nd (im_seq (em_ix ix_fIx (em_v 4) em_int)) (blkOk_by (N := N_law) (sc := defScope s_law) (own := [("token", 14)]) (by decide +kernel)) (fun _ _ _ _ _ => (gc_n 14 nd)) (fun _ _ _ _ _ => tms_nil) (fun _ _ _ _ _ => (em_callT (call_fList2 rfl) rfl T.n_list PyProof.Rows.Boot.«list» (am_cons (em_v 14) am_nil)))) am_nil))) (em_v 2)) (wm_or1 (tm_cmp (op_fNe (uRoom hr)) (em_call (c_joined_text T) hr tk (am_cons (em_callT (call_fList2 rfl) rfl T.n_list PyProof.Rows.Boot.«list» (am_cons (em_v 10) am_nil)) (am_cons (em_v 12) am_nil))) (em_v 11)))))
  (bm_one (sm_ret em_bl))
  bm_nil)
  (bm_cons (sm_set 13 nd (em_call (c__law_cut T) hr tk (am_cons (em_v 11) am_nil)))
  (bm_cons (sm_if (WM.tm (wm_or (tm_cmp (op_fNe (uRoom hr)) (em_call (c__law_told T) hr tk (am_cons (em_v 11) am_nil)) (em_v 13)) (wm_or1 (tm_cmp (op_fNe (uRoom hr)) (em_call (c__law_same T) hr tk (am_cons (em_v 2) (am_cons (em_v 11) am_nil))) (em_call (c__law_same_due T) hr tk (am_cons (em_v 4) (am_cons (em_v 13) am_nil)))))))
  (bm_one (sm_ret em_bl))
  bm_nil)
  (bm_cons (sm_if (WM.tm (wm_and (tm_cmp (op_fNe (uRoom hr)) (em_v 9) em_str) (wm_and1 (WM.tm (wm_or (tm_cmp (op_fEq (uRoom hr)) (em_ix ix_fIx (em_v 13) em_int) em_str) (wm_or1 (tm_cmp (op_fNe (uRoom hr)) (em_call (c_token_texts T) hr tk (am_cons (em_v 11) am_nil)) (em_v 7))))))))
  (bm_one (sm_ret em_bl))
  bm_nil)
  (bm_one (sm_ret (em_and (em_call (c__law_join_refused T) hr tk (am_cons (em_bin op_fAdd (em_v 10) (em_lst (am_cons em_str am_nil))) (am_cons (em_v 12) am_nil))) (em_one (em_call (c__law_join_refused T) hr tk (am_cons (em_callT call_fTuple rfl T.n_tuple PyProof.Rows.Boot.«tuple» (am_cons (em_sl (em_v 10) (om_some em_int) om_none) am_nil)) (am_cons (em_v 12) am_nil)))))))))))))))))))))))))))))
theorem c_law (T : Txt P w K mg base) : Cal P w K mg base 9 "law" M_law := cal1 T.d_law sc_law (fun _ _ _ _ _ _ us hl => match us, hl with | [_], _ => rfl) (b_law T)
end
abbrev s_ini_BadSign : Stmt := inCls (top 2) 0
abbrev s_ini_BadText : Stmt := inCls (top 3) 0
def fa : List (PySem.W.Frag → Bool) := [freeB "bool",
  freeB "enumerate",
  freeB "int",
  freeB "isinstance",
  freeB "len",
  freeB "list",
  freeB "min",
  freeB "range",
  freeB "str",
  freeB "super",
  freeB "tuple",
  gcB "LETTERS" d_LETTERS,
  gcB "FIGURES" d_FIGURES,
  gcB "WORD_SIGNS" d_WORD_SIGNS,
  gcB "LONG_SIGNS" d_LONG_SIGNS,
  gcB "SHORT_SIGNS" d_SHORT_SIGNS,
  gcB "MOST_FIGURES" d_MOST_FIGURES,
  ccB "Words" "KEPT" d_Words_KEPT,
  funB "law",
  funB "_law_pool",
  funB "_law_pick",
  funB "_law_piece",
  funB "_law_layout",
  funB "_law_kept_words",
  funB "_law_strange",
  funB "_law_cut",
  funB "_law_layout_end",
  funB "_law_token",
  funB "_law_run_end",
  funB "_law_told",
  funB "cut_text",
  funB "_layout_end",
  funB "_remark_end",
  funB "_token_at",
  funB "_run_end",
  funB "_law_int",
  funB "_law_other_kinds",
  funB "_law_same",
  funB "same_tokens",
  funB "token_texts",
  funB "_law_same_due",
  funB "_law_words_right",
  funB "is_name",
  funB "_law_joined",
  funB "joined_text",
  funB "_is_token",
  funB "_law_join_refused",
  staB "Words" "is_kept",
  excB RW.prog.main.file "BadSign" ["offset"],
  excB RW.prog.main.file "BadText" ["offset"],
  (fun K => gloB "BadSign" K && sl_BadSign.all fun p => exmB p.1 "BadSign" p.2 K),
  (fun K => gloB "BadText" K && sl_BadText.all fun p => exmB p.1 "BadText" p.2 K),
  (fun K => xl_offset.all fun y => xfkB y "offset" K)]
def fn : List FnM := [⟨fun K => ga K "law", "law", "law", defArgs s_law, defBody s_law, defScope s_law, []⟩,
  ⟨fun K => ga K "_law_pool", "_law_pool", "_law_pool", defArgs s__law_pool, defBody s__law_pool, defScope s__law_pool, []⟩,
  ⟨fun K => ga K "_law_pick", "_law_pick", "_law_pick", defArgs s__law_pick, defBody s__law_pick, defScope s__law_pick, []⟩,
  ⟨fun K => ga K "_law_piece", "_law_piece", "_law_piece", defArgs s__law_piece, defBody s__law_piece, defScope s__law_piece, []⟩,
  ⟨fun K => ga K "_law_layout", "_law_layout", "_law_layout", defArgs s__law_layout, defBody s__law_layout, defScope s__law_layout, []⟩,
  ⟨fun K => ga K "_law_kept_words", "_law_kept_words", "_law_kept_words", defArgs s__law_kept_words, defBody s__law_kept_words, defScope s__law_kept_words, []⟩,
  ⟨fun K => ga K "_law_strange", "_law_strange", "_law_strange", defArgs s__law_strange, defBody s__law_strange, defScope s__law_strange, []⟩,
  ⟨fun K => ga K "_law_cut", "_law_cut", "_law_cut", defArgs s__law_cut, defBody s__law_cut, defScope s__law_cut, []⟩,
  ⟨fun K => ga K "_law_layout_end", "_law_layout_end", "_law_layout_end", defArgs s__law_layout_end, defBody s__law_layout_end, defScope s__law_layout_end, []⟩,
  ⟨fun K => ga K "_law_token", "_law_token", "_law_token", defArgs s__law_token, defBody s__law_token, defScope s__law_token, []⟩,
  ⟨fun K => ga K "_law_run_end", "_law_run_end", "_law_run_end", defArgs s__law_run_end, defBody s__law_run_end, defScope s__law_run_end, []⟩,
  ⟨fun K => ga K "_law_told", "_law_told", "_law_told", defArgs s__law_told, defBody s__law_told, defScope s__law_told, []⟩,
  ⟨fun K => ga K "cut_text", "cut_text", "cut_text", defArgs s_cut_text, defBody s_cut_text, defScope s_cut_text, []⟩,
  ⟨fun K => ga K "_layout_end", "_layout_end", "_layout_end", defArgs s__layout_end, defBody s__layout_end, defScope s__layout_end, []⟩,
  ⟨fun K => ga K "_remark_end", "_remark_end", "_remark_end", defArgs s__remark_end, defBody s__remark_end, defScope s__remark_end, []⟩,
  ⟨fun K => ga K "_token_at", "_token_at", "_token_at", defArgs s__token_at, defBody s__token_at, defScope s__token_at, []⟩,
  ⟨fun K => ga K "_run_end", "_run_end", "_run_end", defArgs s__run_end, defBody s__run_end, defScope s__run_end, []⟩,
  ⟨fun K => ga K "_law_int", "_law_int", "_law_int", defArgs s__law_int, defBody s__law_int, defScope s__law_int, []⟩,
  ⟨fun K => ga K "_law_other_kinds", "_law_other_kinds", "_law_other_kinds", defArgs s__law_other_kinds, defBody s__law_other_kinds, defScope s__law_other_kinds, []⟩,
  ⟨fun K => ga K "_law_same", "_law_same", "_law_same", defArgs s__law_same, defBody s__law_same, defScope s__law_same, []⟩,
  ⟨fun K => ga K "same_tokens", "same_tokens", "same_tokens", defArgs s_same_tokens, defBody s_same_tokens, defScope s_same_tokens, []⟩,
  ⟨fun K => ga K "token_texts", "token_texts", "token_texts", defArgs s_token_texts, defBody s_token_texts, defScope s_token_texts, []⟩,
  ⟨fun K => ga K "_law_same_due", "_law_same_due", "_law_same_due", defArgs s__law_same_due, defBody s__law_same_due, defScope s__law_same_due, []⟩,
  ⟨fun K => ga K "_law_words_right", "_law_words_right", "_law_words_right", defArgs s__law_words_right, defBody s__law_words_right, defScope s__law_words_right, []⟩,
  ⟨fun K => ga K "is_name", "is_name", "is_name", defArgs s_is_name, defBody s_is_name, defScope s_is_name, []⟩,
  ⟨fun K => ga K "_law_joined", "_law_joined", "_law_joined", defArgs s__law_joined, defBody s__law_joined, defScope s__law_joined, []⟩,
  ⟨fun K => ga K "joined_text", "joined_text", "joined_text", defArgs s_joined_text, defBody s_joined_text, defScope s_joined_text, []⟩,
  ⟨fun K => ga K "_is_token", "_is_token", "_is_token", defArgs s__is_token, defBody s__is_token, defScope s__is_token, []⟩,
  ⟨fun K => ga K "_law_join_refused", "_law_join_refused", "_law_join_refused", defArgs s__law_join_refused, defBody s__law_join_refused, defScope s__law_join_refused, []⟩,
  ⟨staA "Words" "is_kept", "is_kept", "Words.is_kept", defArgs s_Words_is_kept, defBody s_Words_is_kept, defScope s_Words_is_kept, []⟩,
  ⟨iniA "BadSign", "__init__", "BadSign.__init__", defArgs s_ini_BadSign, defBody s_ini_BadSign, defScope s_ini_BadSign, ["__class__"]⟩,
  ⟨iniA "BadText", "__init__", "BadText.__init__", defArgs s_ini_BadText, defBody s_ini_BadText, defScope s_ini_BadText, ["__class__"]⟩]
abbrev hk : PySem.W.Hook := hookM 6 fa fn
def ob (s : PySem.W.SharedT) : AlM := obsMG 6 fa fn (HandSHeadRun.getT s)
theorem ob_eq (s : PySem.W.SharedT) : ob s = hk.obs s.abs := obsMG_eq (HandSHeadRun.getT_eq s)
def names0 : List PySem.Str := ["ProvedError", "BadSign", "BadText", "LETTERS", "FIGURES", "WORD_SIGNS", "LONG_SIGNS", "SHORT_SIGNS", "MOST_FIGURES", "Words", "_run_end", "_remark_end"]
def names1 : List PySem.Str := ["_layout_end", "_token_at", "cut_text", "_is_token", "joined_text", "token_texts", "same_tokens", "is_name", "_law_pool", "_law_pick", "_law_int", "_law_kept_words"]
def names2 : List PySem.Str := ["_law_strange", "_law_layout", "_law_piece", "_law_layout_end", "_law_run_end", "_law_token", "_law_cut", "_law_told", "_law_same", "_law_same_due", "_law_joined", "_law_join_refused"]
def names3 : List PySem.Str := ["_law_words_right", "_law_other_kinds"]
def names : List PySem.Str := names0 ++ names1 ++ names2 ++ names3
theorem run (w : World) : HandSHeadRun.RunEq (PySem.W.OpenLaw.row RW) (PySem.W.view (PySem.W.OpenLaw.row RW).prog [41]) hk ob 6000 names w := by
  intro os
  kernel_rfl
theorem txt {w : World} {K : PySem.W.Frag} {h : Heap} {mg : Str → Option Value} {base : Heap} (X : K.In h) (G : h.Ns mainGlobals mg) (c : SaysM fa fn K) : Txt RW.prog w K mg base :=
  ⟨free_ok X G (c.fact 0),
   free_ok X G (c.fact 1),
   free_ok X G (c.fact 2),
   free_ok X G (c.fact 3),
   free_ok X G (c.fact 4),
   free_ok X G (c.fact 5),
   free_ok X G (c.fact 6),
   free_ok X G (c.fact 7),
   free_ok X G (c.fact 8),
   free_ok X G (c.fact 10),
   gc_ok X G (c.fact 11),
   gc_ok X G (c.fact 12),
   gc_ok X G (c.fact 13),
   gc_ok X G (c.fact 14),
   gc_ok X G (c.fact 15),
   gc_ok X G (c.fact 16),
   cc_ok X G (c.fact 17),
   fun_ok X G (c.fact 18) (c.fn_ 0) rfl,
   fun_ok X G (c.fact 19) (c.fn_ 1) rfl,
   fun_ok X G (c.fact 20) (c.fn_ 2) rfl,
   fun_ok X G (c.fact 21) (c.fn_ 3) rfl,
   fun_ok X G (c.fact 22) (c.fn_ 4) rfl,
   fun_ok X G (c.fact 23) (c.fn_ 5) rfl,
   fun_ok X G (c.fact 24) (c.fn_ 6) rfl,
   fun_ok X G (c.fact 25) (c.fn_ 7) rfl,
   fun_ok X G (c.fact 26) (c.fn_ 8) rfl,
   fun_ok X G (c.fact 27) (c.fn_ 9) rfl,
   fun_ok X G (c.fact 28) (c.fn_ 10) rfl,
   fun_ok X G (c.fact 29) (c.fn_ 11) rfl,
   fun_ok X G (c.fact 30) (c.fn_ 12) rfl,
   fun_ok X G (c.fact 31) (c.fn_ 13) rfl,
   fun_ok X G (c.fact 32) (c.fn_ 14) rfl,
   fun_ok X G (c.fact 33) (c.fn_ 15) rfl,
   fun_ok X G (c.fact 34) (c.fn_ 16) rfl,
   fun_ok X G (c.fact 35) (c.fn_ 17) rfl,
   fun_ok X G (c.fact 36) (c.fn_ 18) rfl,
   fun_ok X G (c.fact 37) (c.fn_ 19) rfl,
   fun_ok X G (c.fact 38) (c.fn_ 20) rfl,
   fun_ok X G (c.fact 39) (c.fn_ 21) rfl,
   fun_ok X G (c.fact 40) (c.fn_ 22) rfl,
   fun_ok X G (c.fact 41) (c.fn_ 23) rfl,
   fun_ok X G (c.fact 42) (c.fn_ 24) rfl,
   fun_ok X G (c.fact 43) (c.fn_ 25) rfl,
   fun_ok X G (c.fact 44) (c.fn_ 26) rfl,
   fun_ok X G (c.fact 45) (c.fn_ 27) rfl,
   fun_ok X G (c.fact 46) (c.fn_ 28) rfl,
   sta_ok X G (c.fact 47) (c.fn_ 29) rfl,
   rsb1 (self := "self") (p := "offset") X G (c.fact 48) (c.fn_ 30) rfl (c.fact 9) (by kernel_rfl) rfl (fun _ => rfl) (NdefX.nscope_by (by decide +kernel)) rfl ⟨_, rfl, rfl⟩ (by decide) (by decide) (by decide) (by decide) (fun _ _ _ _ _ _ _ us hl => match us, hl with | [_, _], _ => rfl),
   rsb1 (self := "self") (p := "offset") X G (c.fact 49) (c.fn_ 31) rfl (c.fact 9) (by kernel_rfl) rfl (fun _ => rfl) (NdefX.nscope_by (by decide +kernel)) rfl ⟨_, rfl, rfl⟩ (by decide) (by decide) (by decide) (by decide) (fun _ _ _ _ _ _ _ us hl => match us, hl with | [_, _], _ => rfl),
   exkB_ok X G (c.fact 50),
   exkB_ok X G (c.fact 51),
   xfkB_ok X G (c.fact 52)⟩
theorem facts {w : World} {K : PySem.W.Frag} {h : Heap} {mg : Str → Option Value} {f : Addr} (X : K.In h) (G : h.Ns mainGlobals mg) (hfa : mg ("law" : Str) = some (.ref f)) (c : SaysM fa fn K) :
    ∃ fd : FuncData, (∀ (s : Shared) (v : Value), BindsTo s fd ⟨[v], []⟩ [(("script" : Str), v)]) ∧ ∀ base : Heap, FnOk RW.prog w K mg base (L2.CX RW.prog w) 9 f fd ["script"] (spM K mg M_law) := by
  obtain ⟨f0, fd, F, hm⟩ := (txt (w := w) (base := h) X G c).d_law.ex
  rw [hfa] at hm
  cases hm
  have b := FunD.bindsA (ps := ["script"]) F fun _ _ _ _ _ _ us hl => match us, hl with | [_], _ => rfl
  exact ⟨fd, fun s v => b s [v] rfl, fun base => Mi.fn_ok F sc_law (b_law (txt X G c))⟩

end K00

namespace K00
open PySem PySem.Spec L2 Mi

/-! ### the plain cutting -/
def LET : List Nat := (List.range 26).map (· + 97)
def FIG : List Nat := (List.range 10).map (· + 48)
def WSG : List Nat := LET ++ FIG ++ [95]
def SHO : List Nat := [60, 62, 61, 43, 45, 42, 40, 41, 91, 93, 44, 58, 46]
def LON : List (List Nat) := [[61, 61], [33, 61], [60, 61], [62, 61], [47, 47]]
theorem kLET : ("abcdefghijklmnopqrstuvwxyz" : Str) = st LET := by decide +kernel
theorem kFIG : ("0123456789" : Str) = st FIG := by decide +kernel
theorem kWSG : ("abcdefghijklmnopqrstuvwxyz0123456789_" : Str) = st WSG := by decide +kernel
theorem kSHO : ("<>=+-*()[],:." : Str) = st SHO := by decide +kernel
theorem kNL : ("\n" : Str) = st [10] := by decide +kernel
theorem kSP : (" " : Str) = st [32] := by decide +kernel
theorem kTI : ("~" : Str) = st [126] := by decide +kernel
theorem kHA : ("#" : Str) = st [35] := by decide +kernel
theorem kZE : ("0" : Str) = st [48] := by decide +kernel
def rn (g : List Nat) (l : List Nat) : Nat := (l.takeWhile fun c => decide (c ∈ g)).length
theorem rn_le (g l : List Nat) : rn g l ≤ l.length := by
  unfold rn
  exact (List.takeWhile_prefix _).length_le

theorem run_loop (g : List Nat) (S : Sto) : ∀ (suf pre : List Nat) (n : Nat), (pre ++ suf).length ≤ sizeLine → suf.length < n →
    whileM (mAndT (mB (m2 fLt (mV 1) (mB1 (f1L fLen) (mCons (mV 0) mNil)))) (mB (m2 fIn (m2 fIx (mV 0) (mV 1)) (mV 2)))) (sAug 1 fIAdd (mC (.int 1))) n [some (sD (pre ++ suf)), some (.int (pre.length : Int)), some (sD g)] S =
      .nx [some (sD (pre ++ suf)), some (.int ((pre.length + rn g suf : Nat) : Int)), some (sD g)] S
  | [], pre, 0, _, hn => absurd hn (Nat.not_lt_zero _)
  | _ :: _, pre, 0, _, hn => absurd hn (Nat.not_lt_zero _)
  | [], pre, n + 1, hl, hn => by
    refine (wh_stop (S1 := S) ?_).trans ?_
    · simp only [bind_ok, bind_ex, of_some, rs_ok, rs_ex, then_nx, then_rt, then_ex, then_bk, then_ct, mV0, mVs, mC_, m2_, m1_, mB_, kB_bl, mB1_, mNil_, mCons_, f1L_, f2L_, mTup_, mLst_, mCall_, mNotT_, mAndT_, mOrT_, mIf_, mAndV_, mOrV_, mNotV_, kAndV_bl, kOrV_bl, kNotV_bl, mSl_, mPart_, kPart_, mNoPart_, sSeq_, sSet_, sRet_, sIf_, sExpr_, sNil_, sBreak_, sCont_, e_lt, e_le, e_gt, e_ge, e_eqI, e_neI, e_eqS, e_neS, e_add, e_sub, List.set_cons_zero, List.set_cons_succ, kTu1, kTu2, kTu3, kTu4, kTu5, kLs0, kLs1, kLs2, kLs3, kLs4, kLs5, mM_, mM0_, sAsg_, sFor_, iRng_, iSeq_, e_len hl]
      simp
    · simp [rn]
  | c :: suf, pre, n + 1, hl, hn => by
    by_cases hc : c ∈ g
    · refine (wh_next (S1 := S) (env2 := [some (sD (pre ++ c :: suf)), some (.int (pre.length + 1)), some (sD g)]) (S2 := S) ?_ ?_).trans ?_
      · simp only [bind_ok, bind_ex, of_some, rs_ok, rs_ex, then_nx, then_rt, then_ex, then_bk, then_ct, mV0, mVs, mC_, m2_, m1_, mB_, kB_bl, mB1_, mNil_, mCons_, f1L_, f2L_, mTup_, mLst_, mCall_, mNotT_, mAndT_, mOrT_, mIf_, mAndV_, mOrV_, mNotV_, kAndV_bl, kOrV_bl, kNotV_bl, mSl_, mPart_, kPart_, mNoPart_, sSeq_, sSet_, sRet_, sIf_, sExpr_, sNil_, sBreak_, sCont_, e_lt, e_le, e_gt, e_ge, e_eqI, e_neI, e_eqS, e_neS, e_add, e_sub, List.set_cons_zero, List.set_cons_succ, kTu1, kTu2, kTu3, kTu4, kTu5, kLs0, kLs1, kLs2, kLs3, kLs4, kLs5, mM_, mM0_, sAsg_, sFor_, iRng_, iSeq_, e_len hl, e_at hl, e_inS]
        simp [hc]
        omega
      · rw [aug_int rfl]; rfl
      · have e : pre ++ c :: suf = (pre ++ [c]) ++ suf := by simp
        have := run_loop g S suf (pre ++ [c]) n (by rw [← e]; exact hl) (by simpa using hn)
        rw [← e] at this
        simp only [List.length_append, List.length_singleton] at this
        rw [show ((pre.length : Int) + 1) = ((pre.length + 1 : Nat) : Int) by omega, this]
        simp [rn, hc]
        omega
    · refine (wh_stop (S1 := S) ?_).trans ?_
      · simp only [bind_ok, bind_ex, of_some, rs_ok, rs_ex, then_nx, then_rt, then_ex, then_bk, then_ct, mV0, mVs, mC_, m2_, m1_, mB_, kB_bl, mB1_, mNil_, mCons_, f1L_, f2L_, mTup_, mLst_, mCall_, mNotT_, mAndT_, mOrT_, mIf_, mAndV_, mOrV_, mNotV_, kAndV_bl, kOrV_bl, kNotV_bl, mSl_, mPart_, kPart_, mNoPart_, sSeq_, sSet_, sRet_, sIf_, sExpr_, sNil_, sBreak_, sCont_, e_lt, e_le, e_gt, e_ge, e_eqI, e_neI, e_eqS, e_neS, e_add, e_sub, List.set_cons_zero, List.set_cons_succ, kTu1, kTu2, kTu3, kTu4, kTu5, kLs0, kLs1, kLs2, kLs3, kLs4, kLs5, mM_, mM0_, sAsg_, sFor_, iRng_, iSeq_, e_len hl, e_at hl, e_inS]
        simp [hc]
      · simp [rn, hc]
theorem run_end (pre suf g : List Nat) (S : Sto) (hl : (pre ++ suf).length ≤ sizeLine) : M__run_end [sD (pre ++ suf), .int (pre.length : Int), sD g] S = .ok (nD (pre.length + rn g suf)) S := by
  have hs : suf.length < 1000000000 := by have := hl; rw [sizeLine_eq, List.length_append] at this; omega
  unfold M__run_end mFn B__run_end
  simp only [List.length_cons, List.length_nil, Nat.reduceAdd, if_true, List.map, Nat.sub_self, List.replicate, List.append_nil, sSeq_, sWhile]
  rw [run_loop g S suf pre _ hl hs]
  rfl

/-- a remark's signs: how many, and whether a bad one stands behind them -/
def rem : List Nat → Nat × Bool
  | [] => (0, false)
  | c :: s => if c = 10 then (0, false) else if 32 ≤ c ∧ c ≤ 126 then ((rem s).1 + 1, (rem s).2) else (0, true)
def exBS (p : Nat) : Xn := ⟨"BadSign", [("offset", .int (p : Int))]⟩
theorem rem_loop (S : Sto) : ∀ (suf pre : List Nat) (n : Nat), (pre ++ suf).length ≤ sizeLine → suf.length < n →
    whileM (mAndT (mB (m2 fLt (mV 1) (mB1 (f1L fLen) (mCons (mV 0) mNil)))) (mB (m2 fNe (m2 fIx (mV 0) (mV 1)) (mC (.str "\n")))))
      (sSeq (sIf (mNotT (mB (mCh fLe fLe (mC (.str " ")) (m2 fIx (mV 0) (mV 1)) (mC (.str "~"))))) (sRaise "BadSign" 1 (fl_BadSign D .non) (mCons (mV 1) mNil)) sNil) (sAug 1 fIAdd (mC (.int 1)))) n
      [some (sD (pre ++ suf)), some (.int (pre.length : Int))] S =
      (if (rem suf).2 = true then RS.ex (exBS (pre.length + (rem suf).1)) [some (sD (pre ++ suf)), some (nD (pre.length + (rem suf).1))] S else .nx [some (sD (pre ++ suf)), some (nD (pre.length + (rem suf).1))] S)
  | [], pre, 0, _, hn => absurd hn (Nat.not_lt_zero _)
  | _ :: _, pre, 0, _, hn => absurd hn (Nat.not_lt_zero _)
  | [], pre, n + 1, hl, hn => by
    refine (wh_stop (S1 := S) ?_).trans ?_
    · simp only [bind_ok, bind_ex, of_some, rs_ok, rs_ex, then_nx, then_rt, then_ex, then_bk, then_ct, mV0, mVs, mC_, m2_, m1_, mB_, kB_bl, mB1_, mNil_, mCons_, f1L_, f2L_, mTup_, mLst_, mCall_, mNotT_, mAndT_, mOrT_, mIf_, mAndV_, mOrV_, mNotV_, kAndV_bl, kOrV_bl, kNotV_bl, mSl_, mPart_, kPart_, mNoPart_, sSeq_, sSet_, sRet_, sIf_, sExpr_, sNil_, sBreak_, sCont_, e_lt, e_le, e_gt, e_ge, e_eqI, e_neI, e_eqS, e_neS, e_add, e_sub, List.set_cons_zero, List.set_cons_succ, kTu1, kTu2, kTu3, kTu4, kTu5, kLs0, kLs1, kLs2, kLs3, kLs4, kLs5, mM_, mM0_, sAsg_, sFor_, iRng_, iSeq_, e_len hl]
      simp
    · simp [rem]
  | c :: suf, pre, n + 1, hl, hn => by
    by_cases hc : c = 10
    · refine (wh_stop (S1 := S) ?_).trans ?_
      · simp only [bind_ok, bind_ex, of_some, rs_ok, rs_ex, then_nx, then_rt, then_ex, then_bk, then_ct, mV0, mVs, mC_, m2_, m1_, mB_, kB_bl, mB1_, mNil_, mCons_, f1L_, f2L_, mTup_, mLst_, mCall_, mNotT_, mAndT_, mOrT_, mIf_, mAndV_, mOrV_, mNotV_, kAndV_bl, kOrV_bl, kNotV_bl, mSl_, mPart_, kPart_, mNoPart_, sSeq_, sSet_, sRet_, sIf_, sExpr_, sNil_, sBreak_, sCont_, e_lt, e_le, e_gt, e_ge, e_eqI, e_neI, e_eqS, e_neS, e_add, e_sub, List.set_cons_zero, List.set_cons_succ, kTu1, kTu2, kTu3, kTu4, kTu5, kLs0, kLs1, kLs2, kLs3, kLs4, kLs5, mM_, mM0_, sAsg_, sFor_, iRng_, iSeq_, e_len hl, e_at hl, kNL, st_eq]
        simp [hc]
      · simp [rem, hc]
    · have ht : mAndT (mB (m2 fLt (mV 1) (mB1 (f1L fLen) (mCons (mV 0) mNil)))) (mB (m2 fNe (m2 fIx (mV 0) (mV 1)) (mC (.str "\n")))) [some (sD (pre ++ c :: suf)), some (.int (pre.length : Int))] S = .ok true S := by
        simp only [bind_ok, bind_ex, of_some, rs_ok, rs_ex, then_nx, then_rt, then_ex, then_bk, then_ct, mV0, mVs, mC_, m2_, m1_, mB_, kB_bl, mB1_, mNil_, mCons_, f1L_, f2L_, mTup_, mLst_, mCall_, mNotT_, mAndT_, mOrT_, mIf_, mAndV_, mOrV_, mNotV_, kAndV_bl, kOrV_bl, kNotV_bl, mSl_, mPart_, kPart_, mNoPart_, sSeq_, sSet_, sRet_, sIf_, sExpr_, sNil_, sBreak_, sCont_, e_lt, e_le, e_gt, e_ge, e_eqI, e_neI, e_eqS, e_neS, e_add, e_sub, List.set_cons_zero, List.set_cons_succ, kTu1, kTu2, kTu3, kTu4, kTu5, kLs0, kLs1, kLs2, kLs3, kLs4, kLs5, mM_, mM0_, sAsg_, sFor_, iRng_, iSeq_, e_len hl, e_at hl, kNL, st_eq]
        simp [hc]
        omega
      have hch : mCh fLe fLe (mC (.str " ")) (m2 fIx (mV 0) (mV 1)) (mC (.str "~")) [some (sD (pre ++ c :: suf)), some (.int (pre.length : Int))] S = .ok (.bl (decide (32 ≤ c ∧ c ≤ 126))) S := by
        unfold mCh
        simp only [bind_ok, bind_ex, of_some, rs_ok, rs_ex, then_nx, then_rt, then_ex, then_bk, then_ct, mV0, mVs, mC_, m2_, m1_, mB_, kB_bl, mB1_, mNil_, mCons_, f1L_, f2L_, mTup_, mLst_, mCall_, mNotT_, mAndT_, mOrT_, mIf_, mAndV_, mOrV_, mNotV_, kAndV_bl, kOrV_bl, kNotV_bl, mSl_, mPart_, kPart_, mNoPart_, sSeq_, sSet_, sRet_, sIf_, sExpr_, sNil_, sBreak_, sCont_, e_lt, e_le, e_gt, e_ge, e_eqI, e_neI, e_eqS, e_neS, e_add, e_sub, List.set_cons_zero, List.set_cons_succ, kTu1, kTu2, kTu3, kTu4, kTu5, kLs0, kLs1, kLs2, kLs3, kLs4, kLs5, mM_, mM0_, sAsg_, sFor_, iRng_, iSeq_, e_at hl, kSP, kTI, e_leS]
        by_cases h1 : 32 ≤ c <;> simp [h1]
      by_cases hb : 32 ≤ c ∧ c ≤ 126
      · refine (wh_next (S1 := S) (env2 := [some (sD (pre ++ c :: suf)), some (.int (pre.length + 1))]) (S2 := S) ht ?_).trans ?_
        · simp only [bind_ok, bind_ex, of_some, rs_ok, rs_ex, then_nx, then_rt, then_ex, then_bk, then_ct, mV0, mVs, mC_, m2_, m1_, mB_, kB_bl, mB1_, mNil_, mCons_, f1L_, f2L_, mTup_, mLst_, mCall_, mNotT_, mAndT_, mOrT_, mIf_, mAndV_, mOrV_, mNotV_, kAndV_bl, kOrV_bl, kNotV_bl, mSl_, mPart_, kPart_, mNoPart_, sSeq_, sSet_, sRet_, sIf_, sExpr_, sNil_, sBreak_, sCont_, e_lt, e_le, e_gt, e_ge, e_eqI, e_neI, e_eqS, e_neS, e_add, e_sub, List.set_cons_zero, List.set_cons_succ, kTu1, kTu2, kTu3, kTu4, kTu5, kLs0, kLs1, kLs2, kLs3, kLs4, kLs5, mM_, mM0_, sAsg_, sFor_, iRng_, iSeq_, hch]
          simp only [hb, and_self, decide_true, Bool.not_true, Bool.false_eq_true, if_false, then_nx]
          rw [aug_int rfl]; rfl
        · have e : pre ++ c :: suf = (pre ++ [c]) ++ suf := by simp
          have := rem_loop S suf (pre ++ [c]) n (by rw [← e]; exact hl) (by simpa using hn)
          rw [← e] at this
          simp only [List.length_append, List.length_singleton] at this
          rw [show ((pre.length : Int) + 1) = ((pre.length + 1 : Nat) : Int) by omega, this]
          have e2 : rem (c :: suf) = ((rem suf).1 + 1, (rem suf).2) := by rw [rem, if_neg hc, if_pos hb]
          rw [e2]
          simp only [show pre.length + ((rem suf).1 + 1) = pre.length + 1 + (rem suf).1 by omega]
      · refine (wh_ex (S1 := S) (e := exBS pre.length) (env2 := [some (sD (pre ++ c :: suf)), some (nD pre.length)]) (S2 := S) ht ?_).trans ?_
        · simp only [bind_ok, bind_ex, of_some, rs_ok, rs_ex, then_nx, then_rt, then_ex, then_bk, then_ct, mV0, mVs, mC_, m2_, m1_, mB_, kB_bl, mB1_, mNil_, mCons_, f1L_, f2L_, mTup_, mLst_, mCall_, mNotT_, mAndT_, mOrT_, mIf_, mAndV_, mOrV_, mNotV_, kAndV_bl, kOrV_bl, kNotV_bl, mSl_, mPart_, kPart_, mNoPart_, sSeq_, sSet_, sRet_, sIf_, sExpr_, sNil_, sBreak_, sCont_, e_lt, e_le, e_gt, e_ge, e_eqI, e_neI, e_eqS, e_neS, e_add, e_sub, List.set_cons_zero, List.set_cons_succ, kTu1, kTu2, kTu3, kTu4, kTu5, kLs0, kLs1, kLs2, kLs3, kLs4, kLs5, mM_, mM0_, sAsg_, sFor_, iRng_, iSeq_, hch]
          simp only [hb, decide_false, Bool.not_false, if_true]
          rfl
        · have e2 : rem (c :: suf) = (0, true) := by rw [rem, if_neg hc, if_neg hb]
          rw [e2]
          simp
theorem remark_end (pre suf : List Nat) (S : Sto) (hl : (pre ++ suf).length ≤ sizeLine) : M__remark_end [sD (pre ++ suf), .int (pre.length : Int)] S = if (rem suf).2 = true then .ex (exBS (pre.length + (rem suf).1)) S else .ok (nD (pre.length + (rem suf).1)) S := by
  have hs : suf.length < 1000000000 := by have := hl; rw [sizeLine_eq, List.length_append] at this; omega
  unfold M__remark_end mFn B__remark_end
  simp only [List.length_cons, List.length_nil, Nat.reduceAdd, if_true, List.map, Nat.sub_self, List.replicate, List.append_nil, sSeq_, sWhile]
  have q := rem_loop S suf pre _ hl hs
  rw [q]
  by_cases h : (rem suf).2 = true
  · rw [if_pos h, if_pos h]; rfl
  · rw [if_neg h, if_neg h]; rfl

/-! layouts -/
/-- how many signs of layout; 1: a bad sign behind them, 2: the same within a remark -/
def lay : Bool → List Nat → Nat × Nat
  | _, [] => (0, 0)
  | r, c :: s => if c = 10 then ((lay false s).1 + 1, (lay false s).2) else if c < 32 ∨ 126 < c then (0, if r = true then 2 else 1) else
      if c = 35 then ((lay true s).1 + 1, (lay true s).2) else if c ≠ 32 ∧ r = false then (0, 0) else ((lay r s).1 + 1, (lay r s).2)
theorem lay_rem : ∀ s : List Nat, (rem s).2 = false → lay true s = ((lay false (s.drop (rem s).1)).1 + (rem s).1, (lay false (s.drop (rem s).1)).2)
  | [], _ => by simp [rem, lay]
  | c :: s, h => by
    by_cases h1 : c = 10
    · subst h1
      simp [rem, lay]
    · by_cases h2 : 32 ≤ c ∧ c ≤ 126
      · have e : rem (c :: s) = ((rem s).1 + 1, (rem s).2) := by rw [rem, if_neg h1, if_pos h2]
        rw [e] at h ⊢
        have ih := lay_rem s h
        have e3 : lay true (c :: s) = ((lay true s).1 + 1, (lay true s).2) := by
          rw [lay, if_neg h1, if_neg (by omega)]
          by_cases h3 : c = 35
          · rw [if_pos h3]
          · rw [if_neg h3, if_neg (by simp)]
        rw [e3, ih]
        simp only [List.drop_succ_cons]
        rfl
      · rw [rem, if_neg h1, if_neg h2] at h
        cases h
theorem lay_bad : ∀ s : List Nat, (rem s).2 = true → lay true s = ((rem s).1, 2)
  | [], h => by simp [rem] at h
  | c :: s, h => by
    by_cases h1 : c = 10
    · subst h1
      simp [rem] at h
    · by_cases h2 : 32 ≤ c ∧ c ≤ 126
      · have e : rem (c :: s) = ((rem s).1 + 1, (rem s).2) := by rw [rem, if_neg h1, if_pos h2]
        rw [e] at h ⊢
        have ih := lay_bad s h
        have e3 : lay true (c :: s) = ((lay true s).1 + 1, (lay true s).2) := by
          rw [lay, if_neg h1, if_neg (by omega)]
          by_cases h3 : c = 35
          · rw [if_pos h3]
          · rw [if_neg h3, if_neg (by simp)]
        rw [e3, ih]
      · rw [lay, if_neg h1, if_pos (by omega), rem, if_neg h1, if_neg h2]
        rfl
theorem rem_le : ∀ s : List Nat, (rem s).1 ≤ s.length
  | [] => by simp [rem]
  | c :: s => by
    rw [rem]
    split
    · simp
    · split
      · simpa using rem_le s
      · simp
theorem lay_le : ∀ (r : Bool) (s : List Nat), (lay r s).1 ≤ s.length
  | _, [] => by simp [lay]
  | r, c :: s => by
    rw [lay]
    split
    · simpa using lay_le false s
    · split
      · simp
      · split
        · simpa using lay_le true s
        · split
          · simp
          · simpa using lay_le r s
theorem layout_loop (S : Sto) : ∀ (k : Nat) (suf pre : List Nat) (n : Nat) (z : Option D), suf.length ≤ k → (pre ++ suf).length ≤ sizeLine → suf.length < n → ∃ (env' : Mi.Env) (z' : Option D),
    whileM (mB (m2 fLt (mV 1) (mB1 (f1L fLen) (mCons (mV 0) mNil)))) (sSeq (sSet 2 (m2 fIx (mV 0) (mV 1)))
      (sIf (mB (m2 fEq (mV 2) (mC (.str "#")))) (sSet 1 (mCall M__remark_end (mCons (mV 0) (mCons (mV 1) mNil))))
      (sIf (mOrT (mB (m2 fEq (mV 2) (mC (.str " ")))) (mB (m2 fEq (mV 2) (mC (.str "\n"))))) (sAug 1 fIAdd (mC (.int 1))) sBreak))) n [some (sD (pre ++ suf)), some (.int (pre.length : Int)), z] S =
      (if (lay false suf).2 = 2 then RS.ex (exBS (pre.length + (lay false suf).1)) env' S else .nx [some (sD (pre ++ suf)), some (nD (pre.length + (lay false suf).1)), z'] S) := by
  intro k
  induction k with
  | zero =>
    intro suf pre n z hk hl hn
    have : suf = [] := List.length_eq_zero_iff.mp (Nat.le_zero.mp hk)
    subst this
    cases n with
    | zero => exact absurd hn (Nat.not_lt_zero _)
    | succ n =>
      refine ⟨[], z, (wh_stop (S1 := S) ?_).trans ?_⟩
      · simp only [bind_ok, bind_ex, of_some, rs_ok, rs_ex, then_nx, then_rt, then_ex, then_bk, then_ct, mV0, mVs, mC_, m2_, m1_, mB_, kB_bl, mB1_, mNil_, mCons_, f1L_, f2L_, mTup_, mLst_, mCall_, mNotT_, mAndT_, mOrT_, mIf_, mAndV_, mOrV_, mNotV_, kAndV_bl, kOrV_bl, kNotV_bl, mSl_, mPart_, kPart_, mNoPart_, sSeq_, sSet_, sRet_, sIf_, sExpr_, sNil_, sBreak_, sCont_, e_lt, e_le, e_gt, e_ge, e_eqI, e_neI, e_eqS, e_neS, e_add, e_sub, List.set_cons_zero, List.set_cons_succ, kTu1, kTu2, kTu3, kTu4, kTu5, kLs0, kLs1, kLs2, kLs3, kLs4, kLs5, mM_, mM0_, sAsg_, sFor_, iRng_, iSeq_, e_len hl]
        simp
      · simp [lay]
  | succ k ih =>
    intro suf pre n z hk hl hn
    cases n with
    | zero => exact absurd hn (Nat.not_lt_zero _)
    | succ n =>
      cases suf with
      | nil =>
        refine ⟨[], z, (wh_stop (S1 := S) ?_).trans ?_⟩
        · simp only [bind_ok, bind_ex, of_some, rs_ok, rs_ex, then_nx, then_rt, then_ex, then_bk, then_ct, mV0, mVs, mC_, m2_, m1_, mB_, kB_bl, mB1_, mNil_, mCons_, f1L_, f2L_, mTup_, mLst_, mCall_, mNotT_, mAndT_, mOrT_, mIf_, mAndV_, mOrV_, mNotV_, kAndV_bl, kOrV_bl, kNotV_bl, mSl_, mPart_, kPart_, mNoPart_, sSeq_, sSet_, sRet_, sIf_, sExpr_, sNil_, sBreak_, sCont_, e_lt, e_le, e_gt, e_ge, e_eqI, e_neI, e_eqS, e_neS, e_add, e_sub, List.set_cons_zero, List.set_cons_succ, kTu1, kTu2, kTu3, kTu4, kTu5, kLs0, kLs1, kLs2, kLs3, kLs4, kLs5, mM_, mM0_, sAsg_, sFor_, iRng_, iSeq_, e_len hl]
          simp
        · simp [lay]
      | cons c suf =>
        have ht : mB (m2 fLt (mV 1) (mB1 (f1L fLen) (mCons (mV 0) mNil))) [some (sD (pre ++ c :: suf)), some (.int (pre.length : Int)), z] S = .ok true S := by
          simp only [bind_ok, bind_ex, of_some, rs_ok, rs_ex, then_nx, then_rt, then_ex, then_bk, then_ct, mV0, mVs, mC_, m2_, m1_, mB_, kB_bl, mB1_, mNil_, mCons_, f1L_, f2L_, mTup_, mLst_, mCall_, mNotT_, mAndT_, mOrT_, mIf_, mAndV_, mOrV_, mNotV_, kAndV_bl, kOrV_bl, kNotV_bl, mSl_, mPart_, kPart_, mNoPart_, sSeq_, sSet_, sRet_, sIf_, sExpr_, sNil_, sBreak_, sCont_, e_lt, e_le, e_gt, e_ge, e_eqI, e_neI, e_eqS, e_neS, e_add, e_sub, List.set_cons_zero, List.set_cons_succ, kTu1, kTu2, kTu3, kTu4, kTu5, kLs0, kLs1, kLs2, kLs3, kLs4, kLs5, mM_, mM0_, sAsg_, sFor_, iRng_, iSeq_, e_len hl]
          simp
          omega
        have hk' : suf.length ≤ k := by simpa using hk
        have hn' : suf.length < n := by simpa using hn
        by_cases h35 : c = 35
        · subst h35
          have er : rem (35 :: suf) = ((rem suf).1 + 1, (rem suf).2) := by rw [rem, if_neg (by decide), if_pos (by decide)]
          have el : lay false (35 :: suf) = ((lay true suf).1 + 1, (lay true suf).2) := by rw [lay, if_neg (by decide), if_neg (by decide), if_pos rfl]
          have hre := remark_end pre (35 :: suf) S hl
          rw [er] at hre
          by_cases hb : (rem suf).2 = true
          · have elb := lay_bad suf hb
            refine ⟨[some (sD (pre ++ 35 :: suf)), some (.int (pre.length : Int)), some (sD [35])], z, ?_⟩
            rw [el, elb]
            refine (wh_ex (S1 := S) (e := exBS (pre.length + ((rem suf).1 + 1))) (env2 := [some (sD (pre ++ 35 :: suf)), some (.int (pre.length : Int)), some (sD [35])]) (S2 := S) ht ?_).trans ?_
            · rw [if_pos hb] at hre
              simp only [bind_ok, bind_ex, of_some, rs_ok, rs_ex, then_nx, then_rt, then_ex, then_bk, then_ct, mV0, mVs, mC_, m2_, m1_, mB_, kB_bl, mB1_, mNil_, mCons_, f1L_, f2L_, mTup_, mLst_, mCall_, mNotT_, mAndT_, mOrT_, mIf_, mAndV_, mOrV_, mNotV_, kAndV_bl, kOrV_bl, kNotV_bl, mSl_, mPart_, kPart_, mNoPart_, sSeq_, sSet_, sRet_, sIf_, sExpr_, sNil_, sBreak_, sCont_, e_lt, e_le, e_gt, e_ge, e_eqI, e_neI, e_eqS, e_neS, e_add, e_sub, List.set_cons_zero, List.set_cons_succ, kTu1, kTu2, kTu3, kTu4, kTu5, kLs0, kLs1, kLs2, kLs3, kLs4, kLs5, mM_, mM0_, sAsg_, sFor_, iRng_, iSeq_, e_at hl, kHA, st_eq, decide_true, if_true, hre]
            · rfl
          · have hb' : (rem suf).2 = false := by simpa using hb
            have elr := lay_rem suf hb'
            have hle := rem_le suf
            obtain ⟨env', z', q⟩ := ih (suf.drop (rem suf).1) (pre ++ 35 :: suf.take (rem suf).1) n (some (sD [35])) (by simp; omega) (by have := hl; simp at this ⊢; omega) (by simp; omega)
            have ec : (pre ++ 35 :: suf.take (rem suf).1) ++ suf.drop (rem suf).1 = pre ++ 35 :: suf := by simp
            have elen : (pre ++ 35 :: suf.take (rem suf).1).length = pre.length + ((rem suf).1 + 1) := by simp; omega
            rw [ec, elen] at q
            refine ⟨env', z', ?_⟩
            refine (wh_next (S1 := S) (env2 := [some (sD (pre ++ 35 :: suf)), some (nD (pre.length + ((rem suf).1 + 1))), some (sD [35])]) (S2 := S) ht ?_).trans (q.trans ?_)
            · rw [if_neg hb] at hre
              simp only [bind_ok, bind_ex, of_some, rs_ok, rs_ex, then_nx, then_rt, then_ex, then_bk, then_ct, mV0, mVs, mC_, m2_, m1_, mB_, kB_bl, mB1_, mNil_, mCons_, f1L_, f2L_, mTup_, mLst_, mCall_, mNotT_, mAndT_, mOrT_, mIf_, mAndV_, mOrV_, mNotV_, kAndV_bl, kOrV_bl, kNotV_bl, mSl_, mPart_, kPart_, mNoPart_, sSeq_, sSet_, sRet_, sIf_, sExpr_, sNil_, sBreak_, sCont_, e_lt, e_le, e_gt, e_ge, e_eqI, e_neI, e_eqS, e_neS, e_add, e_sub, List.set_cons_zero, List.set_cons_succ, kTu1, kTu2, kTu3, kTu4, kTu5, kLs0, kLs1, kLs2, kLs3, kLs4, kLs5, mM_, mM0_, sAsg_, sFor_, iRng_, iSeq_, e_at hl, kHA, st_eq, decide_true, if_true, hre]
            · rw [el, elr]
              simp only [show pre.length + ((lay false (List.drop (rem suf).1 suf)).1 + (rem suf).1 + 1) = pre.length + ((rem suf).1 + 1) + (lay false (List.drop (rem suf).1 suf)).1 by omega]
        · by_cases hsp : c = 32 ∨ c = 10
          · have el : lay false (c :: suf) = ((lay false suf).1 + 1, (lay false suf).2) := by
              rw [lay]
              rcases hsp with h | h
              · subst h; simp
              · subst h; simp
            obtain ⟨env', z', q⟩ := ih suf (pre ++ [c]) n (some (sD [c])) hk' (by simpa using hl) hn'
            have ec : (pre ++ [c]) ++ suf = pre ++ c :: suf := by simp
            have elen : (pre ++ [c]).length = pre.length + 1 := by simp
            rw [ec, elen] at q
            refine ⟨env', z', ?_⟩
            refine (wh_next (S1 := S) (env2 := [some (sD (pre ++ c :: suf)), some (nD (pre.length + 1)), some (sD [c])]) (S2 := S) ht ?_).trans (q.trans ?_)
            · have ho : mOrT (mB (m2 fEq (mV 2) (mC (.str " ")))) (mB (m2 fEq (mV 2) (mC (.str "\n")))) [some (sD (pre ++ c :: suf)), some (.int (pre.length : Int)), some (sD [c])] S = .ok true S := by
                simp only [bind_ok, bind_ex, of_some, rs_ok, rs_ex, then_nx, then_rt, then_ex, then_bk, then_ct, mV0, mVs, mC_, m2_, m1_, mB_, kB_bl, mB1_, mNil_, mCons_, f1L_, f2L_, mTup_, mLst_, mCall_, mNotT_, mAndT_, mOrT_, mIf_, mAndV_, mOrV_, mNotV_, kAndV_bl, kOrV_bl, kNotV_bl, mSl_, mPart_, kPart_, mNoPart_, sSeq_, sSet_, sRet_, sIf_, sExpr_, sNil_, sBreak_, sCont_, e_lt, e_le, e_gt, e_ge, e_eqI, e_neI, e_eqS, e_neS, e_add, e_sub, List.set_cons_zero, List.set_cons_succ, kTu1, kTu2, kTu3, kTu4, kTu5, kLs0, kLs1, kLs2, kLs3, kLs4, kLs5, mM_, mM0_, sAsg_, sFor_, iRng_, iSeq_, kSP, kNL, st_eq]
                rcases hsp with h | h
                · subst h; simp
                · subst h; simp
              simp only [bind_ok, bind_ex, of_some, rs_ok, rs_ex, then_nx, then_rt, then_ex, then_bk, then_ct, mV0, mVs, mC_, m2_, m1_, mB_, kB_bl, mB1_, mNil_, mCons_, f1L_, f2L_, mTup_, mLst_, mCall_, mNotT_, mAndT_, mOrT_, mIf_, mAndV_, mOrV_, mNotV_, kAndV_bl, kOrV_bl, kNotV_bl, mSl_, mPart_, kPart_, mNoPart_, sSeq_, sSet_, sRet_, sIf_, sExpr_, sNil_, sBreak_, sCont_, e_lt, e_le, e_gt, e_ge, e_eqI, e_neI, e_eqS, e_neS, e_add, e_sub, List.set_cons_zero, List.set_cons_succ, kTu1, kTu2, kTu3, kTu4, kTu5, kLs0, kLs1, kLs2, kLs3, kLs4, kLs5, mM_, mM0_, sAsg_, sFor_, iRng_, iSeq_, e_at hl, kHA, st_eq]
              simp only [bind_ok, bind_ex, of_some, rs_ok, rs_ex, then_nx, then_rt, then_ex, then_bk, then_ct, mV0, mVs, mC_, m2_, m1_, mB_, kB_bl, mB1_, mNil_, mCons_, f1L_, f2L_, mTup_, mLst_, mCall_, mNotT_, mAndT_, mOrT_, mIf_, mAndV_, mOrV_, mNotV_, kAndV_bl, kOrV_bl, kNotV_bl, mSl_, mPart_, kPart_, mNoPart_, sSeq_, sSet_, sRet_, sIf_, sExpr_, sNil_, sBreak_, sCont_, e_lt, e_le, e_gt, e_ge, e_eqI, e_neI, e_eqS, e_neS, e_add, e_sub, List.set_cons_zero, List.set_cons_succ, kTu1, kTu2, kTu3, kTu4, kTu5, kLs0, kLs1, kLs2, kLs3, kLs4, kLs5, mM_, mM0_, sAsg_, sFor_, iRng_, iSeq_] at ho
              simp only [show ¬ ([c] = [35]) by simpa using h35, decide_false, Bool.false_eq_true, if_false, ho, rs_ok, if_true]
              rw [aug_int rfl]; rfl
            · rw [el]
              simp only [show pre.length + ((lay false suf).1 + 1) = pre.length + 1 + (lay false suf).1 by omega]
          · have e2 : (lay false (c :: suf)).1 = 0 ∧ (lay false (c :: suf)).2 ≠ 2 := by
              rw [lay, if_neg (fun h => hsp (.inr h))]
              split
              · simp
              · rw [if_pos ⟨fun h => hsp (.inl h), rfl⟩]
                simp
            refine ⟨[], some (sD [c]), ?_⟩
            rw [if_neg e2.2, e2.1]
            refine (wh_brk (S1 := S) (env2 := [some (sD (pre ++ c :: suf)), some (.int (pre.length : Int)), some (sD [c])]) (S2 := S) ht ?_).trans rfl
            simp only [bind_ok, bind_ex, of_some, rs_ok, rs_ex, then_nx, then_rt, then_ex, then_bk, then_ct, mV0, mVs, mC_, m2_, m1_, mB_, kB_bl, mB1_, mNil_, mCons_, f1L_, f2L_, mTup_, mLst_, mCall_, mNotT_, mAndT_, mOrT_, mIf_, mAndV_, mOrV_, mNotV_, kAndV_bl, kOrV_bl, kNotV_bl, mSl_, mPart_, kPart_, mNoPart_, sSeq_, sSet_, sRet_, sIf_, sExpr_, sNil_, sBreak_, sCont_, e_lt, e_le, e_gt, e_ge, e_eqI, e_neI, e_eqS, e_neS, e_add, e_sub, List.set_cons_zero, List.set_cons_succ, kTu1, kTu2, kTu3, kTu4, kTu5, kLs0, kLs1, kLs2, kLs3, kLs4, kLs5, mM_, mM0_, sAsg_, sFor_, iRng_, iSeq_, e_at hl, kHA, kSP, kNL, st_eq]
            simp only [show ¬ ([c] = [35]) by simpa using h35, show ¬ ([c] = [32]) by intro h; exact hsp (.inl (by simpa using h)), show ¬ ([c] = [10]) by intro h; exact hsp (.inr (by simpa using h)), decide_false, Bool.false_eq_true, if_false, rs_ok]
theorem layout_end (pre suf : List Nat) (S : Sto) (hl : (pre ++ suf).length ≤ sizeLine) : M__layout_end [sD (pre ++ suf), .int (pre.length : Int)] S = if (lay false suf).2 = 2 then .ex (exBS (pre.length + (lay false suf).1)) S else .ok (nD (pre.length + (lay false suf).1)) S := by
  have hs : suf.length < 1000000000 := by have := hl; rw [sizeLine_eq, List.length_append] at this; omega
  obtain ⟨env', z', q⟩ := layout_loop S suf.length suf pre 1000000000 none (Nat.le_refl _) hl hs
  unfold M__layout_end mFn B__layout_end
  simp only [List.length_cons, List.length_nil, Nat.reduceAdd, if_true, List.map, List.replicate, sSeq_, sWhile, List.cons_append, List.nil_append, Nat.reduceSub]
  rw [q]
  by_cases h : (lay false suf).2 = 2
  · rw [if_pos h, if_pos h]; rfl
  · rw [if_neg h, if_neg h]; rfl
end K00

namespace K00
open PySem PySem.Spec L2 Mi
theorem kE2 : ("==" : Str) = st [61, 61] := by decide +kernel
theorem kN2 : ("!=" : Str) = st [33, 61] := by decide +kernel
theorem kL2 : ("<=" : Str) = st [60, 61] := by decide +kernel
theorem kG2 : (">=" : Str) = st [62, 61] := by decide +kernel
theorem kD2 : ("//" : Str) = st [47, 47] := by decide +kernel
theorem dLET : d_LETTERS = sD LET := by unfold d_LETTERS; rw [kLET]
theorem dFIG : d_FIGURES = sD FIG := by unfold d_FIGURES; rw [kFIG]
theorem dWSG : d_WORD_SIGNS = sD WSG := by unfold d_WORD_SIGNS; rw [kWSG]
theorem dSHO : d_SHORT_SIGNS = sD SHO := by unfold d_SHORT_SIGNS; rw [kSHO]
theorem dLON : d_LONG_SIGNS = .tup (LON.map sD) := by unfold d_LONG_SIGNS; rw [kE2, kN2, kL2, kG2, kD2]; rfl
/-- the token at the head: its kind, how many signs -/
def tok (l : List Nat) : Option (Str × Nat) := match l with
  | [] => none
  | c :: s => if c ∈ LET then some ("word", rn WSG (c :: s)) else if c = 48 then some ("number", 1) else if c ∈ FIG then (if 1000 < rn FIG (c :: s) then none else some ("number", rn FIG (c :: s))) else
      if (c :: s).take 2 ∈ LON then some ("sign", 2) else if c ∈ SHO then some ("sign", 1) else none
theorem token_at (pre s : List Nat) (c : Nat) (S : Sto) (hl : (pre ++ c :: s).length ≤ sizeLine) : M__token_at [sD (pre ++ c :: s), .int (pre.length : Int)] S =
    (match tok (c :: s) with
      | some (k, m) => .ok (.tup [.str k, nD (pre.length + m)]) S
      | none => .ex (exBS pre.length) S) := by
  unfold M__token_at mFn B__token_at tok
  simp only [List.length_cons, List.length_nil, Nat.reduceAdd, if_true, List.map, List.replicate, List.cons_append, List.nil_append, Nat.reduceSub]
  have e2 : ((pre.length : Int) + 2) = ((pre.length + 2 : Nat) : Int) := by omega
  by_cases h1 : c ∈ LET
  · simp only [bind_ok, bind_ex, of_some, rs_ok, rs_ex, then_nx, then_rt, then_ex, then_bk, then_ct, mV0, mVs, mC_, m2_, m1_, mB_, kB_bl, mB1_, mNil_, mCons_, f1L_, f2L_, mTup_, mLst_, mCall_, mNotT_, mAndT_, mOrT_, mIf_, mAndV_, mOrV_, mNotV_, kAndV_bl, kOrV_bl, kNotV_bl, mSl_, mPart_, kPart_, mNoPart_, sSeq_, sSet_, sRet_, sIf_, sExpr_, sNil_, sBreak_, sCont_, e_lt, e_le, e_gt, e_ge, e_eqI, e_neI, e_eqS, e_neS, e_add, e_sub, List.set_cons_zero, List.set_cons_succ, kTu1, kTu2, kTu3, kTu4, kTu5, kLs0, kLs1, kLs2, kLs3, kLs4, kLs5, mM_, mM0_, sAsg_, sFor_, iRng_, iSeq_, e_at hl, dLET, e_inS, h1, decide_true, if_true, dWSG, run_end pre (c :: s) WSG S hl]
    rfl
  · by_cases h2 : c = 48
    · subst h2
      simp only [bind_ok, bind_ex, of_some, rs_ok, rs_ex, then_nx, then_rt, then_ex, then_bk, then_ct, mV0, mVs, mC_, m2_, m1_, mB_, kB_bl, mB1_, mNil_, mCons_, f1L_, f2L_, mTup_, mLst_, mCall_, mNotT_, mAndT_, mOrT_, mIf_, mAndV_, mOrV_, mNotV_, kAndV_bl, kOrV_bl, kNotV_bl, mSl_, mPart_, kPart_, mNoPart_, sSeq_, sSet_, sRet_, sIf_, sExpr_, sNil_, sBreak_, sCont_, e_lt, e_le, e_gt, e_ge, e_eqI, e_neI, e_eqS, e_neS, e_add, e_sub, List.set_cons_zero, List.set_cons_succ, kTu1, kTu2, kTu3, kTu4, kTu5, kLs0, kLs1, kLs2, kLs3, kLs4, kLs5, mM_, mM0_, sAsg_, sFor_, iRng_, iSeq_, e_at hl, dLET, e_inS, h1, decide_false, Bool.false_eq_true, if_false, kZE, st_eq, decide_true, if_true]
      rfl
    · have h2' : ¬ ([c] = [48]) := by simpa using h2
      by_cases h3 : c ∈ FIG
      · have hr : ((pre.length + rn FIG (c :: s) : Nat) : Int) - (pre.length : Int) = (rn FIG (c :: s) : Int) := by omega
        by_cases h4 : 1000 < rn FIG (c :: s)
        · have h4' : (1000 : Int) < (rn FIG (c :: s) : Int) := by omega
          simp only [bind_ok, bind_ex, of_some, rs_ok, rs_ex, then_nx, then_rt, then_ex, then_bk, then_ct, mV0, mVs, mC_, m2_, m1_, mB_, kB_bl, mB1_, mNil_, mCons_, f1L_, f2L_, mTup_, mLst_, mCall_, mNotT_, mAndT_, mOrT_, mIf_, mAndV_, mOrV_, mNotV_, kAndV_bl, kOrV_bl, kNotV_bl, mSl_, mPart_, kPart_, mNoPart_, sSeq_, sSet_, sRet_, sIf_, sExpr_, sNil_, sBreak_, sCont_, e_lt, e_le, e_gt, e_ge, e_eqI, e_neI, e_eqS, e_neS, e_add, e_sub, List.set_cons_zero, List.set_cons_succ, kTu1, kTu2, kTu3, kTu4, kTu5, kLs0, kLs1, kLs2, kLs3, kLs4, kLs5, mM_, mM0_, sAsg_, sFor_, iRng_, iSeq_, e_at hl, dLET, e_inS, h1, h2', h2, h3, decide_false, Bool.false_eq_true, if_false, kZE, st_eq, dFIG, decide_true, if_true, run_end pre (c :: s) FIG S hl, d_MOST_FIGURES, hr, h4', h4]
          rfl
        · have h4' : ¬ (1000 : Int) < (rn FIG (c :: s) : Int) := by omega
          simp only [bind_ok, bind_ex, of_some, rs_ok, rs_ex, then_nx, then_rt, then_ex, then_bk, then_ct, mV0, mVs, mC_, m2_, m1_, mB_, kB_bl, mB1_, mNil_, mCons_, f1L_, f2L_, mTup_, mLst_, mCall_, mNotT_, mAndT_, mOrT_, mIf_, mAndV_, mOrV_, mNotV_, kAndV_bl, kOrV_bl, kNotV_bl, mSl_, mPart_, kPart_, mNoPart_, sSeq_, sSet_, sRet_, sIf_, sExpr_, sNil_, sBreak_, sCont_, e_lt, e_le, e_gt, e_ge, e_eqI, e_neI, e_eqS, e_neS, e_add, e_sub, List.set_cons_zero, List.set_cons_succ, kTu1, kTu2, kTu3, kTu4, kTu5, kLs0, kLs1, kLs2, kLs3, kLs4, kLs5, mM_, mM0_, sAsg_, sFor_, iRng_, iSeq_, e_at hl, dLET, e_inS, h1, h2', h2, h3, decide_false, Bool.false_eq_true, if_false, kZE, st_eq, dFIG, decide_true, if_true, run_end pre (c :: s) FIG S hl, d_MOST_FIGURES, hr, h4', h4]
          rfl
      · by_cases h5 : (c :: s).take 2 ∈ LON
        · simp only [bind_ok, bind_ex, of_some, rs_ok, rs_ex, then_nx, then_rt, then_ex, then_bk, then_ct, mV0, mVs, mC_, m2_, m1_, mB_, kB_bl, mB1_, mNil_, mCons_, f1L_, f2L_, mTup_, mLst_, mCall_, mNotT_, mAndT_, mOrT_, mIf_, mAndV_, mOrV_, mNotV_, kAndV_bl, kOrV_bl, kNotV_bl, mSl_, mPart_, kPart_, mNoPart_, sSeq_, sSet_, sRet_, sIf_, sExpr_, sNil_, sBreak_, sCont_, e_lt, e_le, e_gt, e_ge, e_eqI, e_neI, e_eqS, e_neS, e_add, e_sub, List.set_cons_zero, List.set_cons_succ, kTu1, kTu2, kTu3, kTu4, kTu5, kLs0, kLs1, kLs2, kLs3, kLs4, kLs5, mM_, mM0_, sAsg_, sFor_, iRng_, iSeq_, e_at hl, dLET, e_inS, h1, h2', h2, h3, decide_false, Bool.false_eq_true, if_false, kZE, st_eq, dFIG, decide_true, if_true, e2, e_cutK hl, dLON, e_inT, h5]
          rfl
        · by_cases h6 : c ∈ SHO
          · simp only [bind_ok, bind_ex, of_some, rs_ok, rs_ex, then_nx, then_rt, then_ex, then_bk, then_ct, mV0, mVs, mC_, m2_, m1_, mB_, kB_bl, mB1_, mNil_, mCons_, f1L_, f2L_, mTup_, mLst_, mCall_, mNotT_, mAndT_, mOrT_, mIf_, mAndV_, mOrV_, mNotV_, kAndV_bl, kOrV_bl, kNotV_bl, mSl_, mPart_, kPart_, mNoPart_, sSeq_, sSet_, sRet_, sIf_, sExpr_, sNil_, sBreak_, sCont_, e_lt, e_le, e_gt, e_ge, e_eqI, e_neI, e_eqS, e_neS, e_add, e_sub, List.set_cons_zero, List.set_cons_succ, kTu1, kTu2, kTu3, kTu4, kTu5, kLs0, kLs1, kLs2, kLs3, kLs4, kLs5, mM_, mM0_, sAsg_, sFor_, iRng_, iSeq_, e_at hl, dLET, e_inS, h1, h2', h2, h3, decide_false, Bool.false_eq_true, if_false, kZE, st_eq, dFIG, decide_true, if_true, e2, e_cutK hl, dLON, e_inT, h5, dSHO, h6]
            rfl
          · simp only [bind_ok, bind_ex, of_some, rs_ok, rs_ex, then_nx, then_rt, then_ex, then_bk, then_ct, mV0, mVs, mC_, m2_, m1_, mB_, kB_bl, mB1_, mNil_, mCons_, f1L_, f2L_, mTup_, mLst_, mCall_, mNotT_, mAndT_, mOrT_, mIf_, mAndV_, mOrV_, mNotV_, kAndV_bl, kOrV_bl, kNotV_bl, mSl_, mPart_, kPart_, mNoPart_, sSeq_, sSet_, sRet_, sIf_, sExpr_, sNil_, sBreak_, sCont_, e_lt, e_le, e_gt, e_ge, e_eqI, e_neI, e_eqS, e_neS, e_add, e_sub, List.set_cons_zero, List.set_cons_succ, kTu1, kTu2, kTu3, kTu4, kTu5, kLs0, kLs1, kLs2, kLs3, kLs4, kLs5, mM_, mM0_, sAsg_, sFor_, iRng_, iSeq_, e_at hl, dLET, e_inS, h1, h2', h2, h3, decide_false, Bool.false_eq_true, if_false, kZE, st_eq, dFIG, decide_true, if_true, e2, e_cutK hl, dLON, e_inT, h5, dSHO, h6]
            rfl
end K00

namespace K00
open PySem PySem.Spec L2 Mi
abbrev Tk := Str × List Nat × Nat
abbrev tkD (t : Tk) : D := .tup [.str t.1, sD t.2.1, nD t.2.2]
inductive Cut where
  | bad (p : Nat) | good (ls : List (List Nat)) (ts : List Tk)
/-- l cut, o signs being ahead of it -/
def cutG : Nat → Nat → List Nat → Cut
  | 0, _, _ => .bad 0
  | f + 1, o, l => if (lay false l).2 ≠ 0 then .bad (o + (lay false l).1) else if l.drop (lay false l).1 = [] then .good [l.take (lay false l).1] [] else
      match tok (l.drop (lay false l).1) with
      | none => .bad (o + (lay false l).1)
      | some (k, m) => match cutG f (o + (lay false l).1 + m) ((l.drop (lay false l).1).drop m) with
        | .bad p => .bad p
        | .good ls ts => .good (l.take (lay false l).1 :: ls) ((k, (l.drop (lay false l).1).take m, o + (lay false l).1) :: ts)
theorem rn_cons {g : List Nat} {c : Nat} {s : List Nat} (h : c ∈ g) : 1 ≤ rn g (c :: s) := by simp [rn, h]
theorem tok_pos {l : List Nat} {k : Str} {m : Nat} (h : tok l = some (k, m)) : 1 ≤ m ∧ m ≤ l.length := by
  cases l with
  | nil => cases h
  | cons c s =>
    unfold tok at h
    dsimp only at h
    split at h
    · rename_i h1
      cases h
      exact ⟨rn_cons (List.mem_append_left _ (List.mem_append_left _ h1)), rn_le _ _⟩
    · split at h
      · cases h; simp
      · split at h
        · rename_i h3
          split at h
          · cases h
          · cases h; exact ⟨rn_cons h3, rn_le _ _⟩
        · split at h
          · rename_i h5
            cases h
            have : ((c :: s).take 2).length = 2 := by
              have hall : ∀ x ∈ LON, x.length = 2 := by decide
              exact hall _ h5
            rw [List.length_take] at this
            omega
          · split at h
            · cases h; simp
            · cases h
theorem bad_none {c : Nat} {s : List Nat} (h : c < 32 ∨ 126 < c) : tok (c :: s) = none := by
  have hL : ∀ x ∈ LET, 32 ≤ x ∧ x ≤ 126 := by decide
  have hF : ∀ x ∈ FIG, 32 ≤ x ∧ x ≤ 126 := by decide
  have hS : ∀ x ∈ SHO, 32 ≤ x ∧ x ≤ 126 := by decide
  have hN : ∀ x ∈ LON, ∀ y ∈ x, 32 ≤ y ∧ y ≤ 126 := by decide
  unfold tok
  dsimp only
  rw [if_neg (fun z => by have := hL _ z; omega), if_neg (by omega), if_neg (fun z => by have := hF _ z; omega), if_neg (fun z => ?_), if_neg (fun z => by have := hS _ z; omega)]
  have : c ∈ (c :: s).take 2 := by cases s <;> simp
  have := hN _ z _ this
  omega
theorem lay_stopN : ∀ (r : Bool) (l : List Nat), (lay r l).2 ≠ 0 → ∃ c s, l.drop (lay r l).1 = c :: s ∧ (c < 32 ∨ 126 < c)
  | _, [], h => by simp [lay] at h
  | r, c :: s, h => by
    rw [lay] at h ⊢
    split at h
    · rename_i h1
      rw [if_pos h1]
      exact lay_stopN false s h
    · rename_i h1
      rw [if_neg h1]
      split at h
      · rename_i h2
        rw [if_pos h2]
        exact ⟨c, s, rfl, h2⟩
      · rename_i h2
        rw [if_neg h2]
        split at h
        · rename_i h3
          rw [if_pos h3]
          exact lay_stopN true s h
        · rename_i h3
          rw [if_neg h3]
          split at h
          · simp at h
          · rename_i h4
            rw [if_neg h4]
            exact lay_stopN r s h
theorem lay_stop (r : Bool) (l : List Nat) (h : (lay r l).2 = 1) : ∃ c s, l.drop (lay r l).1 = c :: s ∧ (c < 32 ∨ 126 < c) := lay_stopN r l (by rw [h]; decide)
theorem lay_code : ∀ (r : Bool) (l : List Nat), (lay r l).2 = 0 ∨ (lay r l).2 = 1 ∨ (lay r l).2 = 2
  | _, [] => by simp [lay]
  | r, c :: s => by
    rw [lay]
    split
    · exact lay_code false s
    · split
      · cases r <;> simp
      · split
        · exact lay_code true s
        · split
          · simp
          · exact lay_code r s
end K00

namespace K00
open PySem PySem.Spec L2 Mi
def cutT : MT := mB (m2 fLt (mV 4) (mB1 (f1L fLen) (mCons (mV 0) mNil)))
def cutB : MS := (sSeq (sExpr (mM "list" fAppend (mV 1) (mCons (mSl (mV 0) (mPart (mV 3)) (mPart (mV 4))) mNil)))
  (sSeq (sAsg (mCall M__token_at (mCons (mV 0) (mCons (mV 4) mNil))) (gT 2 (gsCons (gN 5) (gsCons (gN 3) gsNil))))
  (sSeq (sExpr (mM "list" fAppend (mV 2) (mCons (mTup (mCons (mV 5) (mCons (mSl (mV 0) (mPart (mV 4)) (mPart (mV 3))) (mCons (mV 4) mNil)))) mNil)))
  (sSet 4 (mCall M__layout_end (mCons (mV 0) (mCons (mV 3) mNil)))))))
theorem g2_ {env : Mi.Env} {S : Sto} {a b : D} {i j : Nat} : kAsg (gT 2 (gsCons (gN i) (gsCons (gN j) gsNil))) env (.tup [a, b]) S = .nx ((env.set i (some a)).set j (some b)) S := rfl
/-- the store of the cutting: its layouts, its tokens -/
abbrev cS (S : Sto) (ls : List (List Nat)) (ts : List Tk) : Sto := S ++ [.lst (ls.map sD), .lst (ts.map tkD)]
abbrev cE (S : Sto) (t : List Nat) (a b : Nat) (k : Option D) : Mi.Env := [some (sD t), some (.obj S.length), some (.obj (S.length + 1)), some (nD a), some (nD b), k]
theorem cut_step (S : Sto) (pre l : List Nat) (ls : List (List Nat)) (ts : List Tk) (z : Option D) (hl : (pre ++ l).length < sizeLine) (h1 : ls.length ≤ pre.length) (h2 : ts.length ≤ pre.length) (hs : (lay false l).2 ≠ 2) (hn : l.drop (lay false l).1 ≠ []) :
    cutB (cE S (pre ++ l) pre.length (pre.length + (lay false l).1) z) (cS S ls ts) =
      (match tok (l.drop (lay false l).1) with
        | none => .ex (exBS (pre.length + (lay false l).1)) (cE S (pre ++ l) pre.length (pre.length + (lay false l).1) z) (cS S (ls ++ [l.take (lay false l).1]) ts)
        | some (k, m) => (if (lay false ((l.drop (lay false l).1).drop m)).2 = 2 then
            .ex (exBS (pre.length + (lay false l).1 + m + (lay false ((l.drop (lay false l).1).drop m)).1)) (cE S (pre ++ l) (pre.length + (lay false l).1 + m) (pre.length + (lay false l).1) (some (.str k))) (cS S (ls ++ [l.take (lay false l).1]) (ts ++ [(k, (l.drop (lay false l).1).take m, pre.length + (lay false l).1)]))
          else .nx (cE S (pre ++ l) (pre.length + (lay false l).1 + m) (pre.length + (lay false l).1 + m + (lay false ((l.drop (lay false l).1).drop m)).1) (some (.str k))) (cS S (ls ++ [l.take (lay false l).1]) (ts ++ [(k, (l.drop (lay false l).1).take m, pre.length + (lay false l).1)])))) := by
  generalize hN : (lay false l).1 = n at *
  have hnl : n ≤ l.length := by rw [← hN]; exact lay_le _ _
  obtain ⟨c, s, hcs⟩ : ∃ c s, l.drop n = c :: s := by
    cases h : l.drop n with
    | nil => exact absurd h hn
    | cons c s => exact ⟨c, s, rfl⟩
  have hnl2 : n < l.length := by
    rcases Nat.lt_or_ge n l.length with h | h
    · exact h
    · rw [List.drop_eq_nil_of_le h] at hcs; cases hcs
  have hlen : (pre ++ l).length = pre.length + l.length := List.length_append
  have el : pre ++ l = pre ++ l.take n ++ c :: s := by rw [← hcs]; simp
  have elen : (pre ++ l.take n).length = pre.length + n := by simp; omega
  have hls : (ls.map sD).length < sizeLine := by rw [List.length_map]; omega
  have hts : (ts.map tkD).length < sizeLine := by rw [List.length_map]; omega
  have hcut1 : ∀ S' : Sto, fSl (sD (pre ++ l)) (some (pre.length : Int)) (some ((pre.length + n : Nat) : Int)) S' = some (sD (l.take n), S') := fun S' => e_cutK (Nat.le_of_lt hl)
  have htok := fun S' : Sto => token_at (pre ++ l.take n) s c S' (by rw [← el]; exact Nat.le_of_lt hl)
  rw [← el, elen] at htok
  rw [hcs]
  unfold cutB
  simp only [bind_ok, bind_ex, of_some, rs_ok, rs_ex, then_nx, then_rt, then_ex, then_bk, then_ct, mV0, mVs, mC_, m2_, m1_, mB_, kB_bl, mB1_, mNil_, mCons_, f1L_, f2L_, mTup_, mLst_, mCall_, mNotT_, mAndT_, mOrT_, mIf_, mAndV_, mOrV_, mNotV_, kAndV_bl, kOrV_bl, kNotV_bl, mSl_, mPart_, kPart_, mNoPart_, sSeq_, sSet_, sRet_, sIf_, sExpr_, sNil_, sBreak_, sCont_, e_lt, e_le, e_gt, e_ge, e_eqI, e_neI, e_eqS, e_neS, e_add, e_sub, List.set_cons_zero, List.set_cons_succ, kTu1, kTu2, kTu3, kTu4, kTu5, kLs0, kLs1, kLs2, kLs3, kLs4, kLs5, mM_, mM0_, sAsg_, sFor_, iRng_, iSeq_, tyL ga0, if_true, hcut1, e_append ga0 hls, sa0]
  rw [show (ls.map sD ++ [sD (l.take n)]) = (ls ++ [l.take n]).map sD by simp]
  rw [htok]
  cases ht : tok (c :: s) with
  | none => rfl
  | some km =>
    obtain ⟨k, m⟩ := km
    have hm := tok_pos ht
    have hcut2 : ∀ S' : Sto, fSl (sD (pre ++ l)) (some ((pre.length + n : Nat) : Int)) (some ((pre.length + n + m : Nat) : Int)) S' = some (sD ((c :: s).take m), S') := fun S' => by
      have := e_cutK (pre := pre ++ l.take n) (suf := c :: s) (k := m) (S := S') (by rw [← el]; exact Nat.le_of_lt hl)
      rw [← el, elen] at this
      exact this
    have el2 : pre ++ l = (pre ++ l.take n ++ (c :: s).take m) ++ (c :: s).drop m := by rw [List.append_assoc, List.take_append_drop, ← el]
    have elen2 : (pre ++ l.take n ++ (c :: s).take m).length = pre.length + n + m := by rw [List.length_append, elen, List.length_take]; omega
    have hlay := fun S' : Sto => layout_end (pre ++ l.take n ++ (c :: s).take m) ((c :: s).drop m) S' (by rw [← el2]; exact Nat.le_of_lt hl)
    rw [← el2, elen2] at hlay
    dsimp only
    simp only [bind_ok, bind_ex, of_some, rs_ok, rs_ex, then_nx, then_rt, then_ex, then_bk, then_ct, mV0, mVs, mC_, m2_, m1_, mB_, kB_bl, mB1_, mNil_, mCons_, f1L_, f2L_, mTup_, mLst_, mCall_, mNotT_, mAndT_, mOrT_, mIf_, mAndV_, mOrV_, mNotV_, kAndV_bl, kOrV_bl, kNotV_bl, mSl_, mPart_, kPart_, mNoPart_, sSeq_, sSet_, sRet_, sIf_, sExpr_, sNil_, sBreak_, sCont_, e_lt, e_le, e_gt, e_ge, e_eqI, e_neI, e_eqS, e_neS, e_add, e_sub, List.set_cons_zero, List.set_cons_succ, kTu1, kTu2, kTu3, kTu4, kTu5, kLs0, kLs1, kLs2, kLs3, kLs4, kLs5, mM_, mM0_, sAsg_, sFor_, iRng_, iSeq_, g2_, tyL ga1, if_true, hcut2, e_append ga1 hts, sa1, hlay]
    rw [show (ts.map tkD ++ [D.tup [D.str k, sD ((c :: s).take m), .int ((pre.length + n : Nat) : Int)]]) = (ts ++ [(k, (c :: s).take m, pre.length + n)]).map tkD by simp]
    by_cases h3 : (lay false ((c :: s).drop m)).2 = 2
    · rw [if_pos h3, if_pos h3]; rfl
    · rw [if_neg h3, if_neg h3]; rfl
end K00

namespace K00
open PySem PySem.Spec L2 Mi
theorem cutG_s (f o : Nat) (l : List Nat) : cutG (f + 1) o l = if (lay false l).2 ≠ 0 then .bad (o + (lay false l).1) else if l.drop (lay false l).1 = [] then .good [l.take (lay false l).1] [] else
      match tok (l.drop (lay false l).1) with
      | none => .bad (o + (lay false l).1)
      | some (k, m) => match cutG f (o + (lay false l).1 + m) ((l.drop (lay false l).1).drop m) with
        | .bad p => .bad p
        | .good ls ts => .good (l.take (lay false l).1 :: ls) ((k, (l.drop (lay false l).1).take m, o + (lay false l).1) :: ts) := rfl
theorem cut_go {S : Sto} {t : List Nat} {a b : Nat} {z : Option D} {ls : List (List Nat)} {ts : List Tk} (hl : t.length ≤ sizeLine) : cutT (cE S t a b z) (cS S ls ts) = .ok (decide (b < t.length)) (cS S ls ts) := by
  unfold cutT
  simp only [bind_ok, bind_ex, of_some, rs_ok, rs_ex, then_nx, then_rt, then_ex, then_bk, then_ct, mV0, mVs, mC_, m2_, m1_, mB_, kB_bl, mB1_, mNil_, mCons_, f1L_, f2L_, mTup_, mLst_, mCall_, mNotT_, mAndT_, mOrT_, mIf_, mAndV_, mOrV_, mNotV_, kAndV_bl, kOrV_bl, kNotV_bl, mSl_, mPart_, kPart_, mNoPart_, sSeq_, sSet_, sRet_, sIf_, sExpr_, sNil_, sBreak_, sCont_, e_lt, e_le, e_gt, e_ge, e_eqI, e_neI, e_eqS, e_neS, e_add, e_sub, List.set_cons_zero, List.set_cons_succ, kTu1, kTu2, kTu3, kTu4, kTu5, kLs0, kLs1, kLs2, kLs3, kLs4, kLs5, mM_, mM0_, sAsg_, sFor_, iRng_, iSeq_, e_len hl]
  congr 1
  simp
def cutRes (S : Sto) (t : List Nat) (ls : List (List Nat)) (ts : List Tk) (r : RS) : Cut → Prop
  | .bad p => ∃ (env' : Mi.Env) (ls' : List (List Nat)) (ts' : List Tk), r = .ex (exBS p) env' (cS S ls' ts')
  | .good ls' ts' => ∃ (pre' l' : List Nat) (lsx : List (List Nat)) (z' : Option D), t = pre' ++ l' ∧ ls' = lsx ++ [l'] ∧ (ls ++ lsx).length ≤ pre'.length ∧ r = .nx (cE S t pre'.length t.length z') (cS S (ls ++ lsx) (ts ++ ts'))
theorem cut_loop (S : Sto) : ∀ (f : Nat) (pre l : List Nat) (ls : List (List Nat)) (ts : List Tk) (z : Option D) (n : Nat), (pre ++ l).length < sizeLine → l.length < f → l.length < n → ls.length ≤ pre.length → ts.length ≤ pre.length → (lay false l).2 ≠ 2 →
    cutRes S (pre ++ l) ls ts (whileM cutT cutB n (cE S (pre ++ l) pre.length (pre.length + (lay false l).1) z) (cS S ls ts)) (cutG f pre.length l) := by
  intro f
  induction f with
  | zero => intro pre l ls ts z n _ h; exact absurd h (Nat.not_lt_zero _)
  | succ f ih =>
    intro pre l ls ts z n hl hf hn h1 h2 hs
    cases n with
    | zero => exact absurd hn (Nat.not_lt_zero _)
    | succ n =>
      have hle := lay_le false l
      have hlen : (pre ++ l).length = pre.length + l.length := List.length_append
      rw [cutG_s]
      by_cases hd : l.drop (lay false l).1 = []
      · have hn1 : (lay false l).1 = l.length := by
          have := List.drop_eq_nil_iff.mp hd
          omega
        have hst : (lay false l).2 = 0 := by
          rcases lay_code false l with h | h | h
          · exact h
          · obtain ⟨c, s, e, _⟩ := lay_stop false l h
            rw [hd] at e; cases e
          · exact absurd h hs
        rw [if_neg (by rw [hst]; simp), if_pos hd, wh_stop (S1 := cS S ls ts) (by rw [cut_go (Nat.le_of_lt hl), decide_eq_false (by omega)])]
        exact ⟨pre, l, [], z, rfl, by rw [hn1]; simp, by simpa using h1, by rw [hn1, hlen]; simp⟩
      · have hlt : pre.length + (lay false l).1 < (pre ++ l).length := by
          have : (lay false l).1 < l.length := by
            rcases Nat.lt_or_ge (lay false l).1 l.length with h | h
            · exact h
            · exact absurd (List.drop_eq_nil_of_le h) hd
          omega
        have hgo : cutT (cE S (pre ++ l) pre.length (pre.length + (lay false l).1) z) (cS S ls ts) = .ok true (cS S ls ts) := by rw [cut_go (Nat.le_of_lt hl), decide_eq_true hlt]
        have hstep := cut_step S pre l ls ts z hl h1 h2 hs hd
        cases ht : tok (l.drop (lay false l).1) with
        | none =>
          rw [ht] at hstep
          have e : (if (lay false l).2 ≠ 0 then Cut.bad (pre.length + (lay false l).1) else if l.drop (lay false l).1 = [] then .good [l.take (lay false l).1] [] else .bad (pre.length + (lay false l).1)) = .bad (pre.length + (lay false l).1) := by
            split
            · rfl
            · rfl
          dsimp only
          rw [e, wh_ex hgo hstep]
          exact ⟨_, _, _, rfl⟩
        | some km =>
          obtain ⟨k, m⟩ := km
          have hm := tok_pos ht
          rw [ht] at hstep
          dsimp only at hstep ⊢
          have hst : (lay false l).2 = 0 := by
            rcases lay_code false l with h | h | h
            · exact h
            · obtain ⟨c, s, e, hb⟩ := lay_stop false l h
              rw [e, bad_none hb] at ht; cases ht
            · exact absurd h hs
          rw [if_neg (by rw [hst]; simp), if_neg hd]
          rw [List.length_drop] at hm
          generalize hl2 : (l.drop (lay false l).1).drop m = l2 at *
          have el2 : pre ++ l = (pre ++ l.take (lay false l).1 ++ (l.drop (lay false l).1).take m) ++ l2 := by rw [← hl2, List.append_assoc, List.take_append_drop, List.append_assoc, List.take_append_drop]
          have elen2 : (pre ++ l.take (lay false l).1 ++ (l.drop (lay false l).1).take m).length = pre.length + (lay false l).1 + m := by simp; omega
          have hl2len : l2.length + m + (lay false l).1 = l.length := by rw [← hl2]; simp; omega
          by_cases h3 : (lay false l2).2 = 2
          · rw [if_pos h3] at hstep
            rw [wh_ex hgo hstep]
            have : cutG f (pre.length + (lay false l).1 + m) l2 = .bad (pre.length + (lay false l).1 + m + (lay false l2).1) := by
              cases f with
              | zero => omega
              | succ f => rw [cutG_s, if_pos (by rw [h3]; decide)]
            rw [this]
            exact ⟨_, _, _, rfl⟩
          · rw [if_neg h3] at hstep
            rw [wh_next hgo hstep]
            have q := ih (pre ++ l.take (lay false l).1 ++ (l.drop (lay false l).1).take m) l2 (ls ++ [l.take (lay false l).1]) (ts ++ [(k, (l.drop (lay false l).1).take m, pre.length + (lay false l).1)]) (some (.str k)) n
              (by rw [← el2]; exact hl) (by omega) (by omega) (by rw [elen2]; simp; omega) (by rw [elen2]; simp; omega) h3
            rw [← el2, elen2] at q
            cases hc : cutG f (pre.length + (lay false l).1 + m) l2 with
            | bad p => rw [hc] at q; exact q
            | good ls' ts' =>
              rw [hc] at q
              obtain ⟨pre', l', lsx, z', e1, e2, e3, e4⟩ := q
              refine ⟨pre', l', l.take (lay false l).1 :: lsx, z', e1, by rw [e2]; simp, by simpa using e3, ?_⟩
              rw [e4]
              simp
theorem cut_text (S : Sto) (t : List Nat) (hl : t.length < sizeLine) : ∃ T : Sto, M_cut_text [sD t] S = (match cutG (t.length + 1) 0 t with
      | .bad p => .ex (exBS p) (S ++ T)
      | .good ls ts => .ok (.tup [.tup (ls.map sD), .tup (ts.map tkD)]) (S ++ T)) := by
  have hs : t.length < 1000000000 := by rw [sizeLine_eq] at hl; omega
  have hisi : ∀ S' : Sto, fIsi ["str"] (sD t) S' = some (.bl true, S') := fun _ => rfl
  have hlay : ∀ S' : Sto, M__layout_end [sD t, .int 0] S' = if (lay false t).2 = 2 then .ex (exBS (lay false t).1) S' else .ok (nD (lay false t).1) S' := fun S' => by
    have q := layout_end [] t S' (Nat.le_of_lt hl)
    simp only [List.nil_append, List.length_nil, Nat.zero_add] at q
    exact q
  unfold M_cut_text mFn B_cut_text
  simp only [List.length_cons, List.length_nil, Nat.reduceAdd, if_true, List.map, List.replicate, List.cons_append, List.nil_append, Nat.reduceSub]
  have e1 : (S ++ [MO.lst []]).length = S.length + 1 := by simp
  by_cases h2 : (lay false t).2 = 2
  · refine ⟨[.lst [], .lst []], ?_⟩
    have e : cutG (t.length + 1) 0 t = .bad (lay false t).1 := by rw [cutG_s, if_pos (by rw [h2]; decide), Nat.zero_add]
    rw [e]
    simp only [bind_ok, bind_ex, of_some, rs_ok, rs_ex, then_nx, then_rt, then_ex, then_bk, then_ct, mV0, mVs, mC_, m2_, m1_, mB_, kB_bl, mB1_, mNil_, mCons_, f1L_, f2L_, mTup_, mLst_, mCall_, mNotT_, mAndT_, mOrT_, mIf_, mAndV_, mOrV_, mNotV_, kAndV_bl, kOrV_bl, kNotV_bl, mSl_, mPart_, kPart_, mNoPart_, sSeq_, sSet_, sRet_, sIf_, sExpr_, sNil_, sBreak_, sCont_, e_lt, e_le, e_gt, e_ge, e_eqI, e_neI, e_eqS, e_neS, e_add, e_sub, List.set_cons_zero, List.set_cons_succ, kTu1, kTu2, kTu3, kTu4, kTu5, kLs0, kLs1, kLs2, kLs3, kLs4, kLs5, mM_, mM0_, sAsg_, sFor_, iRng_, iSeq_, hisi, Bool.not_true, Bool.false_eq_true, if_false, List.append_assoc, List.cons_append, List.nil_append, hlay, if_pos h2]
    rfl
  · have q := cut_loop S (t.length + 1) [] t [] [] none 1000000000 (by simpa using hl) (by omega) hs (by simp) (by simp) h2
    simp only [List.nil_append, List.length_nil, Nat.zero_add] at q
    simp only [bind_ok, bind_ex, of_some, rs_ok, rs_ex, then_nx, then_rt, then_ex, then_bk, then_ct, mV0, mVs, mC_, m2_, m1_, mB_, kB_bl, mB1_, mNil_, mCons_, f1L_, f2L_, mTup_, mLst_, mCall_, mNotT_, mAndT_, mOrT_, mIf_, mAndV_, mOrV_, mNotV_, kAndV_bl, kOrV_bl, kNotV_bl, mSl_, mPart_, kPart_, mNoPart_, sSeq_, sSet_, sRet_, sIf_, sExpr_, sNil_, sBreak_, sCont_, e_lt, e_le, e_gt, e_ge, e_eqI, e_neI, e_eqS, e_neS, e_add, e_sub, List.set_cons_zero, List.set_cons_succ, kTu1, kTu2, kTu3, kTu4, kTu5, kLs0, kLs1, kLs2, kLs3, kLs4, kLs5, mM_, mM0_, sAsg_, sFor_, iRng_, iSeq_, hisi, Bool.not_true, Bool.false_eq_true, if_false, List.append_assoc, List.cons_append, List.nil_append, hlay, if_neg h2, e1, sWhile]
    have eW : whileM (mB (m2 fLt (mV 4) (mB1 (f1L fLen) (mCons (mV 0) mNil)))) (sSeq (sExpr (mM "list" fAppend (mV 1) (mCons (mSl (mV 0) (mPart (mV 3)) (mPart (mV 4))) mNil)))
      (sSeq (sAsg (mCall M__token_at (mCons (mV 0) (mCons (mV 4) mNil))) (gT 2 (gsCons (gN 5) (gsCons (gN 3) gsNil))))
      (sSeq (sExpr (mM "list" fAppend (mV 2) (mCons (mTup (mCons (mV 5) (mCons (mSl (mV 0) (mPart (mV 4)) (mPart (mV 3))) (mCons (mV 4) mNil)))) mNil)))
      (sSet 4 (mCall M__layout_end (mCons (mV 0) (mCons (mV 3) mNil))))))) 1000000000 [some (sD t), some (.obj S.length), some (.obj (S.length + 1)), some (.int 0), some (nD (lay false t).1), none] (S ++ [.lst [], .lst []]) = whileM cutT cutB 1000000000 (cE S t 0 (lay false t).1 none) (cS S [] []) := rfl
    rw [eW]
    cases hc : cutG (t.length + 1) 0 t with
    | bad p =>
      rw [hc] at q
      obtain ⟨env', ls', ts', q⟩ := q
      rw [q]
      exact ⟨[.lst (ls'.map sD), .lst (ts'.map tkD)], rfl⟩
    | good ls ts =>
      rw [hc] at q
      obtain ⟨pre', l', lsx, z', e2, e3, e4, q⟩ := q
      rw [q]
      simp only [List.nil_append] at e4 ⊢
      refine ⟨[.lst (ls.map sD), .lst (ts.map tkD)], ?_⟩
      have hcut : ∀ S' : Sto, fSl (sD t) (some (pre'.length : Int)) (some (t.length : Int)) S' = some (sD l', S') := fun S' => by
        have := e_cutK (pre := pre') (suf := l') (k := l'.length) (S := S') (by rw [← e2]; exact Nat.le_of_lt hl)
        rw [← e2, List.take_length] at this
        rw [← this, e2, List.length_append]
      have hls : (lsx.map sD).length < sizeLine := by
        rw [List.length_map]
        have : t.length = pre'.length + l'.length := by rw [e2, List.length_append]
        omega
      simp only [bind_ok, bind_ex, of_some, rs_ok, rs_ex, then_nx, then_rt, then_ex, then_bk, then_ct, mV0, mVs, mC_, m2_, m1_, mB_, kB_bl, mB1_, mNil_, mCons_, f1L_, f2L_, mTup_, mLst_, mCall_, mNotT_, mAndT_, mOrT_, mIf_, mAndV_, mOrV_, mNotV_, kAndV_bl, kOrV_bl, kNotV_bl, mSl_, mPart_, kPart_, mNoPart_, sSeq_, sSet_, sRet_, sIf_, sExpr_, sNil_, sBreak_, sCont_, e_lt, e_le, e_gt, e_ge, e_eqI, e_neI, e_eqS, e_neS, e_add, e_sub, List.set_cons_zero, List.set_cons_succ, kTu1, kTu2, kTu3, kTu4, kTu5, kLs0, kLs1, kLs2, kLs3, kLs4, kLs5, mM_, mM0_, sAsg_, sFor_, iRng_, iSeq_, tyL ga0, if_true, hcut, e_append ga0 hls, sa0]
      rw [show (lsx.map sD ++ [sD l']) = ls.map sD by rw [e3]; simp]
      have t0 : ∀ (xs ys : List D), fTuple (.obj S.length) (S ++ [.lst xs, .lst ys]) = some (.tup xs, S ++ [.lst xs, .lst ys]) := fun xs ys => by
        unfold fTuple lstAt
        simp only [ga0]
        rfl
      have t1 : ∀ (xs ys : List D), fTuple (.obj (S.length + 1)) (S ++ [.lst xs, .lst ys]) = some (.tup ys, S ++ [.lst xs, .lst ys]) := fun xs ys => by
        unfold fTuple lstAt
        simp only [ga1]
        rfl
      simp only [bind_ok, bind_ex, of_some, rs_ok, rs_ex, then_nx, then_rt, then_ex, then_bk, then_ct, mV0, mVs, mC_, m2_, m1_, mB_, kB_bl, mB1_, mNil_, mCons_, f1L_, f2L_, mTup_, mLst_, mCall_, mNotT_, mAndT_, mOrT_, mIf_, mAndV_, mOrV_, mNotV_, kAndV_bl, kOrV_bl, kNotV_bl, mSl_, mPart_, kPart_, mNoPart_, sSeq_, sSet_, sRet_, sIf_, sExpr_, sNil_, sBreak_, sCont_, e_lt, e_le, e_gt, e_ge, e_eqI, e_neI, e_eqS, e_neS, e_add, e_sub, List.set_cons_zero, List.set_cons_succ, kTu1, kTu2, kTu3, kTu4, kTu5, kLs0, kLs1, kLs2, kLs3, kLs4, kLs5, mM_, mM0_, sAsg_, sFor_, iRng_, iSeq_, t0, t1]
      rfl
end K00

namespace K00
open PySem PySem.Spec L2 Mi
theorem lrun_loop (g : List Nat) (S : Sto) (a : Option D) (lo : Int) : ∀ (suf pre : List Nat) (i n : Nat) (z : Option D), (pre ++ suf).length ≤ sizeLine → lo + (i : Int) = (pre.length : Int) → n = i + suf.length → ∃ z' : Option D,
    forI (itRng lo n) (gN 3) (sIf (mB (m2 fNotIn (m2 fIx (mV 0) (mV 3)) (mV 2))) (sRet (mV 3)) sNil) suf.length i [some (sD (pre ++ suf)), a, some (sD g), z] S =
      (if rn g suf < suf.length then RS.rt (nD (pre.length + rn g suf)) S else .nx [some (sD (pre ++ suf)), a, some (sD g), z'] S)
  | [], pre, i, n, z, hl, hi, hn => by
    have : n = i := by simpa using hn
    subst this
    exact ⟨z, by rw [fr_end]; simp⟩
  | c :: suf, pre, i, n, z, hl, hi, hn => by
    have hlt : i < n := by rw [hn]; simp
    by_cases hc : c ∈ g
    · have e : pre ++ c :: suf = (pre ++ [c]) ++ suf := by simp
      obtain ⟨z', q⟩ := lrun_loop g S a lo suf (pre ++ [c]) (i + 1) n (some (.int (lo + (i : Int)))) (by rw [← e]; exact hl) (by simp; omega) (by rw [hn]; simp; omega)
      rw [← e] at q
      refine ⟨z', ?_⟩
      have er : rn g (c :: suf) = rn g suf + 1 := by simp [rn, hc]
      rw [show (c :: suf).length = suf.length + 1 from rfl, fr_nx (S2 := S) (env2 := [some (sD (pre ++ c :: suf)), a, some (sD g), some (.int (lo + (i : Int)))]) hlt ?_, q, er]
      · simp only [List.length_append, List.length_singleton, Nat.add_lt_add_iff_right, show pre.length + 1 + rn g suf = pre.length + (rn g suf + 1) by omega]
      · simp only [bind_ok, bind_ex, of_some, rs_ok, rs_ex, then_nx, then_rt, then_ex, then_bk, then_ct, mV0, mVs, mC_, m2_, m1_, mB_, kB_bl, mB1_, mNil_, mCons_, f1L_, f2L_, mTup_, mLst_, mCall_, mNotT_, mAndT_, mOrT_, mIf_, mAndV_, mOrV_, mNotV_, kAndV_bl, kOrV_bl, kNotV_bl, mSl_, mPart_, kPart_, mNoPart_, sSeq_, sSet_, sRet_, sIf_, sExpr_, sNil_, sBreak_, sCont_, e_lt, e_le, e_gt, e_ge, e_eqI, e_neI, e_eqS, e_neS, e_add, e_sub, List.set_cons_zero, List.set_cons_succ, kTu1, kTu2, kTu3, kTu4, kTu5, kLs0, kLs1, kLs2, kLs3, kLs4, kLs5, mM_, mM0_, sAsg_, sFor_, iRng_, iSeq_, hi, e_at hl, e_notinS]
        simp [hc]
    · refine ⟨z, ?_⟩
      have er : rn g (c :: suf) = 0 := by simp [rn, hc]
      rw [show (c :: suf).length = suf.length + 1 from rfl, fr_rt (S2 := S) (d := nD pre.length) hlt ?_, er]
      · simp
      · simp only [bind_ok, bind_ex, of_some, rs_ok, rs_ex, then_nx, then_rt, then_ex, then_bk, then_ct, mV0, mVs, mC_, m2_, m1_, mB_, kB_bl, mB1_, mNil_, mCons_, f1L_, f2L_, mTup_, mLst_, mCall_, mNotT_, mAndT_, mOrT_, mIf_, mAndV_, mOrV_, mNotV_, kAndV_bl, kOrV_bl, kNotV_bl, mSl_, mPart_, kPart_, mNoPart_, sSeq_, sSet_, sRet_, sIf_, sExpr_, sNil_, sBreak_, sCont_, e_lt, e_le, e_gt, e_ge, e_eqI, e_neI, e_eqS, e_neS, e_add, e_sub, List.set_cons_zero, List.set_cons_succ, kTu1, kTu2, kTu3, kTu4, kTu5, kLs0, kLs1, kLs2, kLs3, kLs4, kLs5, mM_, mM0_, sAsg_, sFor_, iRng_, iSeq_, hi, e_at hl, e_notinS]
        simp [hc]
theorem small {n : Nat} (h : n ≤ sizeLine) : -(2 ^ 62) ≤ (n : Int) ∧ (n : Int) < 2 ^ 62 := by
  rw [sizeLine_eq] at h
  omega
theorem lrun_end (pre suf g : List Nat) (S : Sto) (hl : (pre ++ suf).length ≤ sizeLine) : M__law_run_end [sD (pre ++ suf), .int (pre.length : Int), sD g] S = .ok (nD (pre.length + rn g suf)) S := by
  have hlen : (pre ++ suf).length = pre.length + suf.length := List.length_append
  have b1 := small hl
  have b2 : -(2 ^ 62) ≤ (pre.length : Int) ∧ (pre.length : Int) < 2 ^ 62 := small (by omega)
  obtain ⟨z', q⟩ := lrun_loop g S (some (.int (pre.length : Int))) (pre.length : Int) suf pre 0 suf.length none hl (by simp) (by simp)
  unfold M__law_run_end mFn B__law_run_end
  simp only [List.length_cons, List.length_nil, Nat.reduceAdd, if_true, List.map, List.replicate, List.cons_append, List.nil_append, Nat.reduceSub]
  have er : (((pre ++ suf).length : Int) - (pre.length : Int)).toNat = suf.length := by rw [hlen]; omega
  have en : (itRng (pre.length : Int) suf.length).n = suf.length := (rfl)
  simp only [bind_ok, bind_ex, of_some, rs_ok, rs_ex, then_nx, then_rt, then_ex, then_bk, then_ct, mV0, mVs, mC_, m2_, m1_, mB_, kB_bl, mB1_, mNil_, mCons_, f1L_, f2L_, mTup_, mLst_, mCall_, mNotT_, mAndT_, mOrT_, mIf_, mAndV_, mOrV_, mNotV_, kAndV_bl, kOrV_bl, kNotV_bl, mSl_, mPart_, kPart_, mNoPart_, sSeq_, sSet_, sRet_, sIf_, sExpr_, sNil_, sBreak_, sCont_, e_lt, e_le, e_gt, e_ge, e_eqI, e_neI, e_eqS, e_neS, e_add, e_sub, List.set_cons_zero, List.set_cons_succ, kTu1, kTu2, kTu3, kTu4, kTu5, kLs0, kLs1, kLs2, kLs3, kLs4, kLs5, mM_, mM0_, sAsg_, sFor_, iRng_, iSeq_, e_len hl, kRng2 ⟨b2.1, b2.2, b1.1, b1.2⟩, er, en, q]
  have hr := rn_le g suf
  by_cases h : rn g suf < suf.length
  · simp only [h, if_true, then_rt]; rfl
  · simp only [h, if_false, then_nx, bind_ok, bind_ex, of_some, rs_ok, rs_ex, then_nx, then_rt, then_ex, then_bk, then_ct, mV0, mVs, mC_, m2_, m1_, mB_, kB_bl, mB1_, mNil_, mCons_, f1L_, f2L_, mTup_, mLst_, mCall_, mNotT_, mAndT_, mOrT_, mIf_, mAndV_, mOrV_, mNotV_, kAndV_bl, kOrV_bl, kNotV_bl, mSl_, mPart_, kPart_, mNoPart_, sSeq_, sSet_, sRet_, sIf_, sExpr_, sNil_, sBreak_, sCont_, e_lt, e_le, e_gt, e_ge, e_eqI, e_neI, e_eqS, e_neS, e_add, e_sub, List.set_cons_zero, List.set_cons_succ, kTu1, kTu2, kTu3, kTu4, kTu5, kLs0, kLs1, kLs2, kLs3, kLs4, kLs5, mM_, mM0_, sAsg_, sFor_, iRng_, iSeq_, e_len hl]
    have : rn g suf = suf.length := by omega
    rw [this, hlen]
    rfl
def lB : MS := (sSeq (sSet 4 (m2 fIx (mV 0) (mV 3)))
  (sIf (mB (m2 fEq (mV 4) (mC (.str "\n"))))
  (sSet 2 (mC (.bl false)))
  (sIf (mOrT (mB (m2 fLt (mV 4) (mC (.str " ")))) (mB (m2 fGt (mV 4) (mC (.str "~")))))
  (sRet (mLst (mCons (mV 3) (mCons (mC (.bl true)) mNil))))
  (sIf (mB (m2 fEq (mV 4) (mC (.str "#"))))
  (sSet 2 (mC (.bl true)))
  (sIf (mAndT (mB (m2 fNe (mV 4) (mC (.str " ")))) (mNotT (mB (mV 2))))
  (sRet (mLst (mCons (mV 3) (mCons (mC (.bl false)) mNil))))
  sNil)))))
theorem llay_loop (S : Sto) (a : Option D) (lo : Int) : ∀ (suf pre : List Nat) (r : Bool) (i n : Nat) (z z2 : Option D), (pre ++ suf).length ≤ sizeLine → lo + (i : Int) = (pre.length : Int) → n = i + suf.length → ∃ r' z' z2' : Option D,
    forI (itRng lo n) (gN 3) lB suf.length i [some (sD (pre ++ suf)), a, some (.bl r), z, z2] S =
      (if (lay r suf).1 < suf.length then RS.rt (.obj S.length) (S ++ [.lst [nD (pre.length + (lay r suf).1), .bl (decide ((lay r suf).2 ≠ 0))]]) else .nx [some (sD (pre ++ suf)), a, r', z', z2'] S)
  | [], pre, r, i, n, z, z2, hl, hi, hn => by
    have : n = i := by simpa using hn
    subst this
    exact ⟨some (.bl r), z, z2, by rw [fr_end]; simp [lay]⟩
  | c :: suf, pre, r, i, n, z, z2, hl, hi, hn => by
    have hlt : i < n := by rw [hn]; simp
    have e : pre ++ c :: suf = (pre ++ [c]) ++ suf := by simp
    have step : ∀ r2 : Bool, lay r (c :: suf) = ((lay r2 suf).1 + 1, (lay r2 suf).2) → lB [some (sD (pre ++ c :: suf)), a, some (.bl r), some (.int (lo + (i : Int))), z2] S = .nx [some (sD (pre ++ c :: suf)), a, some (.bl r2), some (.int (lo + (i : Int))), some (sD [c])] S →
        ∃ r' z' z2' : Option D, forI (itRng lo n) (gN 3) lB (c :: suf).length i [some (sD (pre ++ c :: suf)), a, some (.bl r), z, z2] S =
      (if (lay r (c :: suf)).1 < (c :: suf).length then RS.rt (.obj S.length) (S ++ [.lst [nD (pre.length + (lay r (c :: suf)).1), .bl (decide ((lay r (c :: suf)).2 ≠ 0))]]) else .nx [some (sD (pre ++ c :: suf)), a, r', z', z2'] S) := fun r2 hL hB => by
      obtain ⟨r', z', z2', q⟩ := llay_loop S a lo suf (pre ++ [c]) r2 (i + 1) n (some (.int (lo + (i : Int)))) (some (sD [c])) (by rw [← e]; exact hl) (by simp; omega) (by rw [hn]; simp; omega)
      rw [← e] at q
      refine ⟨r', z', z2', ?_⟩
      rw [show (c :: suf).length = suf.length + 1 from rfl, fr_nx hlt hB, q, hL]
      simp only [List.length_append, List.length_singleton, Nat.add_lt_add_iff_right, show pre.length + 1 + (lay r2 suf).1 = pre.length + ((lay r2 suf).1 + 1) by omega]
    have stop : ∀ b : Bool, (lay r (c :: suf)).1 = 0 → decide ((lay r (c :: suf)).2 ≠ 0) = b → lB [some (sD (pre ++ c :: suf)), a, some (.bl r), some (.int (lo + (i : Int))), z2] S = .rt (.obj S.length) (S ++ [.lst [.int (lo + (i : Int)), .bl b]]) →
        ∃ r' z' z2' : Option D, forI (itRng lo n) (gN 3) lB (c :: suf).length i [some (sD (pre ++ c :: suf)), a, some (.bl r), z, z2] S =
      (if (lay r (c :: suf)).1 < (c :: suf).length then RS.rt (.obj S.length) (S ++ [.lst [nD (pre.length + (lay r (c :: suf)).1), .bl (decide ((lay r (c :: suf)).2 ≠ 0))]]) else .nx [some (sD (pre ++ c :: suf)), a, r', z', z2'] S) := fun b h1 h2 hB => by
      refine ⟨none, none, none, ?_⟩
      rw [show (c :: suf).length = suf.length + 1 from rfl, fr_rt hlt hB, h1, h2, if_pos (Nat.succ_pos _), hi]
      rfl
    by_cases h1 : c = 10
    · subst h1
      refine step false (by rw [lay, if_pos rfl]) ?_
      unfold lB
      simp only [bind_ok, bind_ex, of_some, rs_ok, rs_ex, then_nx, then_rt, then_ex, then_bk, then_ct, mV0, mVs, mC_, m2_, m1_, mB_, kB_bl, mB1_, mNil_, mCons_, f1L_, f2L_, mTup_, mLst_, mCall_, mNotT_, mAndT_, mOrT_, mIf_, mAndV_, mOrV_, mNotV_, kAndV_bl, kOrV_bl, kNotV_bl, mSl_, mPart_, kPart_, mNoPart_, sSeq_, sSet_, sRet_, sIf_, sExpr_, sNil_, sBreak_, sCont_, e_lt, e_le, e_gt, e_ge, e_eqI, e_neI, e_eqS, e_neS, e_add, e_sub, List.set_cons_zero, List.set_cons_succ, kTu1, kTu2, kTu3, kTu4, kTu5, kLs0, kLs1, kLs2, kLs3, kLs4, kLs5, mM_, mM0_, sAsg_, sFor_, iRng_, iSeq_, hi, e_at hl, kNL, st_eq, decide_true, if_true]
    · have h1' : ¬ ([c] = [10]) := by simpa using h1
      by_cases h2 : c < 32 ∨ 126 < c
      · have eL : lay r (c :: suf) = (0, if r = true then 2 else 1) := by rw [lay, if_neg h1, if_pos h2]
        refine stop true (by rw [eL]) (by rw [eL]; cases r <;> rfl) ?_
        unfold lB
        simp only [bind_ok, bind_ex, of_some, rs_ok, rs_ex, then_nx, then_rt, then_ex, then_bk, then_ct, mV0, mVs, mC_, m2_, m1_, mB_, kB_bl, mB1_, mNil_, mCons_, f1L_, f2L_, mTup_, mLst_, mCall_, mNotT_, mAndT_, mOrT_, mIf_, mAndV_, mOrV_, mNotV_, kAndV_bl, kOrV_bl, kNotV_bl, mSl_, mPart_, kPart_, mNoPart_, sSeq_, sSet_, sRet_, sIf_, sExpr_, sNil_, sBreak_, sCont_, e_lt, e_le, e_gt, e_ge, e_eqI, e_neI, e_eqS, e_neS, e_add, e_sub, List.set_cons_zero, List.set_cons_succ, kTu1, kTu2, kTu3, kTu4, kTu5, kLs0, kLs1, kLs2, kLs3, kLs4, kLs5, mM_, mM0_, sAsg_, sFor_, iRng_, iSeq_, hi, e_at hl, kNL, kSP, kTI, st_eq, h1', decide_false, Bool.false_eq_true, if_false, e_ltS, e_gtS]
        by_cases h3 : c < 32
        · simp only [h3, decide_true, if_true, rs_ok, bind_ok, bind_ex, of_some, rs_ok, rs_ex, then_nx, then_rt, then_ex, then_bk, then_ct, mV0, mVs, mC_, m2_, m1_, mB_, kB_bl, mB1_, mNil_, mCons_, f1L_, f2L_, mTup_, mLst_, mCall_, mNotT_, mAndT_, mOrT_, mIf_, mAndV_, mOrV_, mNotV_, kAndV_bl, kOrV_bl, kNotV_bl, mSl_, mPart_, kPart_, mNoPart_, sSeq_, sSet_, sRet_, sIf_, sExpr_, sNil_, sBreak_, sCont_, e_lt, e_le, e_gt, e_ge, e_eqI, e_neI, e_eqS, e_neS, e_add, e_sub, List.set_cons_zero, List.set_cons_succ, kTu1, kTu2, kTu3, kTu4, kTu5, kLs0, kLs1, kLs2, kLs3, kLs4, kLs5, mM_, mM0_, sAsg_, sFor_, iRng_, iSeq_]
        · have h4 : 126 < c := by omega
          simp only [h3, decide_false, Bool.false_eq_true, if_false, h4, decide_true, if_true, rs_ok, bind_ok, bind_ex, of_some, rs_ok, rs_ex, then_nx, then_rt, then_ex, then_bk, then_ct, mV0, mVs, mC_, m2_, m1_, mB_, kB_bl, mB1_, mNil_, mCons_, f1L_, f2L_, mTup_, mLst_, mCall_, mNotT_, mAndT_, mOrT_, mIf_, mAndV_, mOrV_, mNotV_, kAndV_bl, kOrV_bl, kNotV_bl, mSl_, mPart_, kPart_, mNoPart_, sSeq_, sSet_, sRet_, sIf_, sExpr_, sNil_, sBreak_, sCont_, e_lt, e_le, e_gt, e_ge, e_eqI, e_neI, e_eqS, e_neS, e_add, e_sub, List.set_cons_zero, List.set_cons_succ, kTu1, kTu2, kTu3, kTu4, kTu5, kLs0, kLs1, kLs2, kLs3, kLs4, kLs5, mM_, mM0_, sAsg_, sFor_, iRng_, iSeq_]
      · have h3 : ¬ c < 32 := fun z => h2 (.inl z)
        have h4 : ¬ 126 < c := fun z => h2 (.inr z)
        by_cases h5 : c = 35
        · subst h5
          refine step true (by rw [lay, if_neg h1, if_neg h2, if_pos rfl]) ?_
          unfold lB
          simp only [bind_ok, bind_ex, of_some, rs_ok, rs_ex, then_nx, then_rt, then_ex, then_bk, then_ct, mV0, mVs, mC_, m2_, m1_, mB_, kB_bl, mB1_, mNil_, mCons_, f1L_, f2L_, mTup_, mLst_, mCall_, mNotT_, mAndT_, mOrT_, mIf_, mAndV_, mOrV_, mNotV_, kAndV_bl, kOrV_bl, kNotV_bl, mSl_, mPart_, kPart_, mNoPart_, sSeq_, sSet_, sRet_, sIf_, sExpr_, sNil_, sBreak_, sCont_, e_lt, e_le, e_gt, e_ge, e_eqI, e_neI, e_eqS, e_neS, e_add, e_sub, List.set_cons_zero, List.set_cons_succ, kTu1, kTu2, kTu3, kTu4, kTu5, kLs0, kLs1, kLs2, kLs3, kLs4, kLs5, mM_, mM0_, sAsg_, sFor_, iRng_, iSeq_, hi, e_at hl, kNL, kSP, kTI, kHA, st_eq, h1', h3, h4, decide_false, Bool.false_eq_true, if_false, e_ltS, e_gtS, decide_true, if_true]
        · have h5' : ¬ ([c] = [35]) := by simpa using h5
          by_cases h6 : c ≠ 32 ∧ r = false
          · have eL : lay r (c :: suf) = (0, 0) := by rw [lay, if_neg h1, if_neg h2, if_neg h5, if_pos h6]
            refine stop false (by rw [eL]) (by rw [eL]; rfl) ?_
            have h7 : ¬ ([c] = [32]) := by simpa using h6.1
            unfold lB
            simp only [bind_ok, bind_ex, of_some, rs_ok, rs_ex, then_nx, then_rt, then_ex, then_bk, then_ct, mV0, mVs, mC_, m2_, m1_, mB_, kB_bl, mB1_, mNil_, mCons_, f1L_, f2L_, mTup_, mLst_, mCall_, mNotT_, mAndT_, mOrT_, mIf_, mAndV_, mOrV_, mNotV_, kAndV_bl, kOrV_bl, kNotV_bl, mSl_, mPart_, kPart_, mNoPart_, sSeq_, sSet_, sRet_, sIf_, sExpr_, sNil_, sBreak_, sCont_, e_lt, e_le, e_gt, e_ge, e_eqI, e_neI, e_eqS, e_neS, e_add, e_sub, List.set_cons_zero, List.set_cons_succ, kTu1, kTu2, kTu3, kTu4, kTu5, kLs0, kLs1, kLs2, kLs3, kLs4, kLs5, mM_, mM0_, sAsg_, sFor_, iRng_, iSeq_, hi, e_at hl, kNL, kSP, kTI, kHA, st_eq, h1', h3, h4, h5', h7, h6.2, decide_false, Bool.false_eq_true, if_false, e_ltS, e_gtS, Bool.not_false, if_true]
          · refine step r (by rw [lay, if_neg h1, if_neg h2, if_neg h5, if_neg h6]) ?_
            unfold lB
            simp only [bind_ok, bind_ex, of_some, rs_ok, rs_ex, then_nx, then_rt, then_ex, then_bk, then_ct, mV0, mVs, mC_, m2_, m1_, mB_, kB_bl, mB1_, mNil_, mCons_, f1L_, f2L_, mTup_, mLst_, mCall_, mNotT_, mAndT_, mOrT_, mIf_, mAndV_, mOrV_, mNotV_, kAndV_bl, kOrV_bl, kNotV_bl, mSl_, mPart_, kPart_, mNoPart_, sSeq_, sSet_, sRet_, sIf_, sExpr_, sNil_, sBreak_, sCont_, e_lt, e_le, e_gt, e_ge, e_eqI, e_neI, e_eqS, e_neS, e_add, e_sub, List.set_cons_zero, List.set_cons_succ, kTu1, kTu2, kTu3, kTu4, kTu5, kLs0, kLs1, kLs2, kLs3, kLs4, kLs5, mM_, mM0_, sAsg_, sFor_, iRng_, iSeq_, hi, e_at hl, kNL, kSP, kTI, kHA, st_eq, h1', h3, h4, h5', decide_false, Bool.false_eq_true, if_false, e_ltS, e_gtS]
            by_cases h7 : c = 32
            · subst h7
              simp only [decide_true, Bool.not_true, Bool.false_eq_true, if_false, rs_ok]
            · have h8 : r = true := by
                cases r with
                | true => rfl
                | false => exact absurd ⟨h7, rfl⟩ h6
              subst h8
              have h7' : ¬ ([c] = [32]) := by simpa using h7
              simp only [h7', decide_false, Bool.not_false, if_true, Bool.not_true, Bool.false_eq_true, if_false, rs_ok]
theorem llay_end (pre suf : List Nat) (S : Sto) (hl : (pre ++ suf).length ≤ sizeLine) : M__law_layout_end [sD (pre ++ suf), .int (pre.length : Int)] S = .ok (.obj S.length) (S ++ [.lst [nD (pre.length + (lay false suf).1), .bl (decide ((lay false suf).2 ≠ 0))]]) := by
  have hlen : (pre ++ suf).length = pre.length + suf.length := List.length_append
  have b1 := small hl
  have b2 : -(2 ^ 62) ≤ (pre.length : Int) ∧ (pre.length : Int) < 2 ^ 62 := small (by omega)
  obtain ⟨r', z', z2', q⟩ := llay_loop S (some (.int (pre.length : Int))) (pre.length : Int) suf pre false 0 suf.length none none hl (by simp) (by simp)
  unfold M__law_layout_end mFn B__law_layout_end
  simp only [List.length_cons, List.length_nil, Nat.reduceAdd, if_true, List.map, List.replicate, List.cons_append, List.nil_append, Nat.reduceSub]
  have er : (((pre ++ suf).length : Int) - (pre.length : Int)).toNat = suf.length := by rw [hlen]; omega
  have en : (itRng (pre.length : Int) suf.length).n = suf.length := (rfl)
  have hr := lay_le false suf
  unfold lB at q
  simp only [bind_ok, bind_ex, of_some, rs_ok, rs_ex, then_nx, then_rt, then_ex, then_bk, then_ct, mV0, mVs, mC_, m2_, m1_, mB_, kB_bl, mB1_, mNil_, mCons_, f1L_, f2L_, mTup_, mLst_, mCall_, mNotT_, mAndT_, mOrT_, mIf_, mAndV_, mOrV_, mNotV_, kAndV_bl, kOrV_bl, kNotV_bl, mSl_, mPart_, kPart_, mNoPart_, sSeq_, sSet_, sRet_, sIf_, sExpr_, sNil_, sBreak_, sCont_, e_lt, e_le, e_gt, e_ge, e_eqI, e_neI, e_eqS, e_neS, e_add, e_sub, List.set_cons_zero, List.set_cons_succ, kTu1, kTu2, kTu3, kTu4, kTu5, kLs0, kLs1, kLs2, kLs3, kLs4, kLs5, mM_, mM0_, sAsg_, sFor_, iRng_, iSeq_, e_len hl, kRng2 ⟨b2.1, b2.2, b1.1, b1.2⟩, er, en, q]
  by_cases h : (lay false suf).1 < suf.length
  · simp only [h, if_true, then_rt]; rfl
  · simp only [h, if_false, then_nx, bind_ok, bind_ex, of_some, rs_ok, rs_ex, then_nx, then_rt, then_ex, then_bk, then_ct, mV0, mVs, mC_, m2_, m1_, mB_, kB_bl, mB1_, mNil_, mCons_, f1L_, f2L_, mTup_, mLst_, mCall_, mNotT_, mAndT_, mOrT_, mIf_, mAndV_, mOrV_, mNotV_, kAndV_bl, kOrV_bl, kNotV_bl, mSl_, mPart_, kPart_, mNoPart_, sSeq_, sSet_, sRet_, sIf_, sExpr_, sNil_, sBreak_, sCont_, e_lt, e_le, e_gt, e_ge, e_eqI, e_neI, e_eqS, e_neS, e_add, e_sub, List.set_cons_zero, List.set_cons_succ, kTu1, kTu2, kTu3, kTu4, kTu5, kLs0, kLs1, kLs2, kLs3, kLs4, kLs5, mM_, mM0_, sAsg_, sFor_, iRng_, iSeq_, e_len hl]
    have h1 : (lay false suf).1 = suf.length := by omega
    have h2 : (lay false suf).2 = 0 := by
      rcases Nat.eq_zero_or_pos (lay false suf).2 with z | z
      · exact z
      · obtain ⟨c, s, e, _⟩ := lay_stopN false suf (by omega)
        rw [List.drop_eq_nil_of_le (by omega)] at e; cases e
    rw [h1, h2, hlen]
    rfl
end K00

namespace K00
open PySem PySem.Spec L2 Mi
theorem kF9 : ("123456789" : Str) = st (FIG.drop 1) := by decide +kernel
theorem kFU : ("0123456789_" : Str) = st (FIG ++ [95]) := by decide +kernel
theorem f9 {c : Nat} (h : c ≠ 48) : (c ∈ FIG.drop 1) = (c ∈ FIG) := by
  have e : FIG = 48 :: FIG.drop 1 := by decide
  refine propext ⟨fun z => List.mem_of_mem_drop z, fun z => ?_⟩
  rw [e] at z
  rcases List.mem_cons.mp z with z | z
  · exact absurd z h
  · exact z
def tkR (p : Nat) : Option (Str × Nat) → List D
  | some (k, m) => [.str k, nD (p + m)]
  | none => [.str "bad", nD p]
theorem eWSG : LET ++ (FIG ++ [95]) = WSG := by decide
theorem last0 {S : Sto} {x : MO} : (S ++ [x])[S.length]? = some x := by simp
theorem ltoken (pre s : List Nat) (c : Nat) (S : Sto) (hl : (pre ++ c :: s).length ≤ sizeLine) : ∃ (T : Sto) (j : Nat), M__law_token [sD (pre ++ c :: s), .int (pre.length : Int)] S = .ok (.obj j) (S ++ T) ∧ (S ++ T)[j]? = some (.lst (tkR pre.length (tok (c :: s)))) ∧ S.length ≤ j := by
  have e2 : ((pre.length : Int) + 2) = ((pre.length + 2 : Nat) : Int) := by omega
  have hsz : LET.length + (FIG ++ [95]).length ≤ sizeLine := by rw [sizeLine_eq]; decide
  unfold M__law_token mFn B__law_token tok
  simp only [List.length_cons, List.length_nil, Nat.reduceAdd, if_true, List.map, List.replicate, List.cons_append, List.nil_append, Nat.reduceSub]
  by_cases h1 : c ∈ LET
  · refine ⟨[.lst [.str "word", nD (pre.length + rn WSG (c :: s))]], S.length, ?_, ?_, Nat.le_refl _⟩
    · simp only [bind_ok, bind_ex, of_some, rs_ok, rs_ex, then_nx, then_rt, then_ex, then_bk, then_ct, mV0, mVs, mC_, m2_, m1_, mB_, kB_bl, mB1_, mNil_, mCons_, f1L_, f2L_, mTup_, mLst_, mCall_, mNotT_, mAndT_, mOrT_, mIf_, mAndV_, mOrV_, mNotV_, kAndV_bl, kOrV_bl, kNotV_bl, mSl_, mPart_, kPart_, mNoPart_, sSeq_, sSet_, sRet_, sIf_, sExpr_, sNil_, sBreak_, sCont_, e_lt, e_le, e_gt, e_ge, e_eqI, e_neI, e_eqS, e_neS, e_add, e_sub, List.set_cons_zero, List.set_cons_succ, kTu1, kTu2, kTu3, kTu4, kTu5, kLs0, kLs1, kLs2, kLs3, kLs4, kLs5, mM_, mM0_, sAsg_, sFor_, iRng_, iSeq_, kLET, e_at hl, e_inS, h1, decide_true, if_true, kFU, e_addS hsz, eWSG, lrun_end pre (c :: s) WSG S hl]
      rfl
    · rw [if_pos h1, last0]; rfl
  · by_cases h2 : c = 48
    · subst h2
      refine ⟨[.lst [.str "number", nD (pre.length + 1)]], S.length, ?_, ?_, Nat.le_refl _⟩
      · simp only [bind_ok, bind_ex, of_some, rs_ok, rs_ex, then_nx, then_rt, then_ex, then_bk, then_ct, mV0, mVs, mC_, m2_, m1_, mB_, kB_bl, mB1_, mNil_, mCons_, f1L_, f2L_, mTup_, mLst_, mCall_, mNotT_, mAndT_, mOrT_, mIf_, mAndV_, mOrV_, mNotV_, kAndV_bl, kOrV_bl, kNotV_bl, mSl_, mPart_, kPart_, mNoPart_, sSeq_, sSet_, sRet_, sIf_, sExpr_, sNil_, sBreak_, sCont_, e_lt, e_le, e_gt, e_ge, e_eqI, e_neI, e_eqS, e_neS, e_add, e_sub, List.set_cons_zero, List.set_cons_succ, kTu1, kTu2, kTu3, kTu4, kTu5, kLs0, kLs1, kLs2, kLs3, kLs4, kLs5, mM_, mM0_, sAsg_, sFor_, iRng_, iSeq_, kLET, e_at hl, e_inS, h1, decide_false, Bool.false_eq_true, if_false, kZE, st_eq, decide_true, if_true]
        rfl
      · rw [if_neg h1, if_pos rfl, last0]; rfl
    · have h2' : ¬ ([c] = [48]) := by simpa using h2
      by_cases h3 : c ∈ FIG
      · have h3' : c ∈ FIG.drop 1 := by rw [f9 h2]; exact h3
        have hr : ((pre.length + rn FIG (c :: s) : Nat) : Int) - (pre.length : Int) = (rn FIG (c :: s) : Int) := by omega
        by_cases h4 : 1000 < rn FIG (c :: s)
        · have h4' : (1000 : Int) < (rn FIG (c :: s) : Int) := by omega
          refine ⟨[.lst [.str "bad", nD pre.length]], S.length, ?_, ?_, Nat.le_refl _⟩
          · simp only [bind_ok, bind_ex, of_some, rs_ok, rs_ex, then_nx, then_rt, then_ex, then_bk, then_ct, mV0, mVs, mC_, m2_, m1_, mB_, kB_bl, mB1_, mNil_, mCons_, f1L_, f2L_, mTup_, mLst_, mCall_, mNotT_, mAndT_, mOrT_, mIf_, mAndV_, mOrV_, mNotV_, kAndV_bl, kOrV_bl, kNotV_bl, mSl_, mPart_, kPart_, mNoPart_, sSeq_, sSet_, sRet_, sIf_, sExpr_, sNil_, sBreak_, sCont_, e_lt, e_le, e_gt, e_ge, e_eqI, e_neI, e_eqS, e_neS, e_add, e_sub, List.set_cons_zero, List.set_cons_succ, kTu1, kTu2, kTu3, kTu4, kTu5, kLs0, kLs1, kLs2, kLs3, kLs4, kLs5, mM_, mM0_, sAsg_, sFor_, iRng_, iSeq_, kLET, e_at hl, e_inS, h1, h2', h3', decide_false, Bool.false_eq_true, if_false, kZE, st_eq, kF9, kFIG, decide_true, if_true, lrun_end pre (c :: s) FIG S hl, hr, h4']
            rfl
          · rw [if_neg h1, if_neg h2, if_pos h3, if_pos h4, last0]; rfl
        · have h4' : ¬ (1000 : Int) < (rn FIG (c :: s) : Int) := by omega
          refine ⟨[.lst [.str "number", nD (pre.length + rn FIG (c :: s))]], S.length, ?_, ?_, Nat.le_refl _⟩
          · simp only [bind_ok, bind_ex, of_some, rs_ok, rs_ex, then_nx, then_rt, then_ex, then_bk, then_ct, mV0, mVs, mC_, m2_, m1_, mB_, kB_bl, mB1_, mNil_, mCons_, f1L_, f2L_, mTup_, mLst_, mCall_, mNotT_, mAndT_, mOrT_, mIf_, mAndV_, mOrV_, mNotV_, kAndV_bl, kOrV_bl, kNotV_bl, mSl_, mPart_, kPart_, mNoPart_, sSeq_, sSet_, sRet_, sIf_, sExpr_, sNil_, sBreak_, sCont_, e_lt, e_le, e_gt, e_ge, e_eqI, e_neI, e_eqS, e_neS, e_add, e_sub, List.set_cons_zero, List.set_cons_succ, kTu1, kTu2, kTu3, kTu4, kTu5, kLs0, kLs1, kLs2, kLs3, kLs4, kLs5, mM_, mM0_, sAsg_, sFor_, iRng_, iSeq_, kLET, e_at hl, e_inS, h1, h2', h3', decide_false, Bool.false_eq_true, if_false, kZE, st_eq, kF9, kFIG, decide_true, if_true, lrun_end pre (c :: s) FIG S hl, hr, h4']
            rfl
          · rw [if_neg h1, if_neg h2, if_pos h3, if_neg h4, last0]; rfl
      · have h3' : ¬ c ∈ FIG.drop 1 := by rw [f9 h2]; exact h3
        have eL : [D.str (st [61, 61]), .str (st [33, 61]), .str (st [60, 61]), .str (st [62, 61]), .str (st [47, 47])] = LON.map sD := rfl
        have hk : kLst (LON.map sD) S = .ok (.obj S.length) (S ++ [.lst (LON.map sD)]) := kLst_ (by rw [sizeLine_eq]; decide)
        have hin : ∀ x : List Nat, fIn (sD x) (.obj S.length) (S ++ [.lst (LON.map sD)]) = some (.bl (decide (x ∈ LON)), S ++ [.lst (LON.map sD)]) := fun x => e_inL last0
        have la : ∀ x : MO, (S ++ [.lst (LON.map sD), x])[S.length + 1]? = some x := fun x => ga1
        by_cases h5 : (c :: s).take 2 ∈ LON
        · refine ⟨[.lst (LON.map sD), .lst [.str "sign", nD (pre.length + 2)]], S.length + 1, ?_, ?_, Nat.le_succ _⟩
          · simp only [bind_ok, bind_ex, of_some, rs_ok, rs_ex, then_nx, then_rt, then_ex, then_bk, then_ct, mV0, mVs, mC_, m2_, m1_, mB_, kB_bl, mB1_, mNil_, mCons_, f1L_, f2L_, mTup_, mLst_, mCall_, mNotT_, mAndT_, mOrT_, mIf_, mAndV_, mOrV_, mNotV_, kAndV_bl, kOrV_bl, kNotV_bl, mSl_, mPart_, kPart_, mNoPart_, sSeq_, sSet_, sRet_, sIf_, sExpr_, sNil_, sBreak_, sCont_, e_lt, e_le, e_gt, e_ge, e_eqI, e_neI, e_eqS, e_neS, e_add, e_sub, List.set_cons_zero, List.set_cons_succ, kTu1, kTu2, kTu3, kTu4, kTu5, kLs0, kLs1, kLs2, kLs3, kLs4, kLs5, mM_, mM0_, sAsg_, sFor_, iRng_, iSeq_, kLET, e_at hl, e_inS, h1, h2', h3', decide_false, Bool.false_eq_true, if_false, kZE, st_eq, kF9, decide_true, if_true, e2, e_cutK hl, kE2, kN2, K00.kL2, kG2, kD2, eL, hk, hin, h5, List.length_append, List.length_singleton, List.append_assoc, List.cons_append, List.nil_append]
            rfl
          · rw [if_neg h1, if_neg h2, if_neg h3, if_pos h5, la]; rfl
        · by_cases h6 : c ∈ SHO
          · refine ⟨[.lst (LON.map sD), .lst [.str "sign", nD (pre.length + 1)]], S.length + 1, ?_, ?_, Nat.le_succ _⟩
            · simp only [bind_ok, bind_ex, of_some, rs_ok, rs_ex, then_nx, then_rt, then_ex, then_bk, then_ct, mV0, mVs, mC_, m2_, m1_, mB_, kB_bl, mB1_, mNil_, mCons_, f1L_, f2L_, mTup_, mLst_, mCall_, mNotT_, mAndT_, mOrT_, mIf_, mAndV_, mOrV_, mNotV_, kAndV_bl, kOrV_bl, kNotV_bl, mSl_, mPart_, kPart_, mNoPart_, sSeq_, sSet_, sRet_, sIf_, sExpr_, sNil_, sBreak_, sCont_, e_lt, e_le, e_gt, e_ge, e_eqI, e_neI, e_eqS, e_neS, e_add, e_sub, List.set_cons_zero, List.set_cons_succ, kTu1, kTu2, kTu3, kTu4, kTu5, kLs0, kLs1, kLs2, kLs3, kLs4, kLs5, mM_, mM0_, sAsg_, sFor_, iRng_, iSeq_, kLET, e_at hl, e_inS, h1, h2', h3', decide_false, Bool.false_eq_true, if_false, kZE, st_eq, kF9, decide_true, if_true, e2, e_cutK hl, kE2, kN2, K00.kL2, kG2, kD2, eL, hk, hin, h5, List.length_append, List.length_singleton, List.append_assoc, List.cons_append, List.nil_append, kSHO, h6]
              rfl
            · rw [if_neg h1, if_neg h2, if_neg h3, if_neg h5, if_pos h6, la]; rfl
          · refine ⟨[.lst (LON.map sD), .lst [.str "bad", nD pre.length]], S.length + 1, ?_, ?_, Nat.le_succ _⟩
            · simp only [bind_ok, bind_ex, of_some, rs_ok, rs_ex, then_nx, then_rt, then_ex, then_bk, then_ct, mV0, mVs, mC_, m2_, m1_, mB_, kB_bl, mB1_, mNil_, mCons_, f1L_, f2L_, mTup_, mLst_, mCall_, mNotT_, mAndT_, mOrT_, mIf_, mAndV_, mOrV_, mNotV_, kAndV_bl, kOrV_bl, kNotV_bl, mSl_, mPart_, kPart_, mNoPart_, sSeq_, sSet_, sRet_, sIf_, sExpr_, sNil_, sBreak_, sCont_, e_lt, e_le, e_gt, e_ge, e_eqI, e_neI, e_eqS, e_neS, e_add, e_sub, List.set_cons_zero, List.set_cons_succ, kTu1, kTu2, kTu3, kTu4, kTu5, kLs0, kLs1, kLs2, kLs3, kLs4, kLs5, mM_, mM0_, sAsg_, sFor_, iRng_, iSeq_, kLET, e_at hl, e_inS, h1, h2', h3', decide_false, Bool.false_eq_true, if_false, kZE, st_eq, kF9, decide_true, if_true, e2, e_cutK hl, kE2, kN2, K00.kL2, kG2, kD2, eL, hk, hin, h5, List.length_append, List.length_singleton, List.append_assoc, List.cons_append, List.nil_append, kSHO, h6]
              rfl
            · rw [if_neg h1, if_neg h2, if_neg h3, if_neg h5, if_neg h6, la]; rfl
end K00

namespace K00
open PySem PySem.Spec L2 Mi
/-! the law's own cutting -/
def lSt (S : Sto) (ls : List (List Nat)) (qs : List Nat) (T : Sto) : Sto := S ++ .lst (ls.map sD) :: .lst (qs.map fun q => D.obj (S.length + 2 + q)) :: T
section
variable {S T X : Sto} {ls : List (List Nat)} {qs : List Nat}
theorem l_len : (lSt S ls qs T).length = S.length + 2 + T.length := by simp [lSt]; omega
theorem l_app : lSt S ls qs T ++ X = lSt S ls qs (T ++ X) := by simp [lSt]
theorem l_a : (lSt S ls qs T)[S.length]? = some (.lst (ls.map sD)) := ga0
theorem l_b : (lSt S ls qs T)[S.length + 1]? = some (.lst (qs.map fun q => D.obj (S.length + 2 + q))) := ga1
theorem l_T {q : Nat} : (lSt S ls qs T)[S.length + 2 + q]? = T[q]? := by
  unfold lSt
  rw [List.getElem?_append_right (by omega)]
  have : S.length + 2 + q - S.length = q + 1 + 1 := by omega
  rw [this]; rfl
theorem l_setA {x : List Nat} : (lSt S ls qs T).set S.length (.lst (ls.map sD ++ [sD x])) = lSt S (ls ++ [x]) qs T := by
  unfold lSt; rw [sa0]; simp
theorem l_setB {q : Nat} : (lSt S ls qs T).set (S.length + 1) (.lst ((qs.map fun q => D.obj (S.length + 2 + q)) ++ [.obj (S.length + 2 + q)])) = lSt S ls (qs ++ [q]) T := by
  unfold lSt; rw [sa1]; simp
end
theorem e_ix0 {S : Sto} {i : Nat} {d : D} {r : List D} (h : S[i]? = some (.lst (d :: r))) : fIx (.obj i) (.int 0) S = some (d, S) := e_ixL (k := 0) h rfl
theorem e_ix1 {S : Sto} {i : Nat} {d0 d : D} {r : List D} (h : S[i]? = some (.lst (d0 :: d :: r))) : fIx (.obj i) (.int 1) S = some (d, S) := e_ixL (k := 1) h rfl
theorem e_ix2 {S : Sto} {i : Nat} {d0 d1 d : D} {r : List D} (h : S[i]? = some (.lst (d0 :: d1 :: d :: r))) : fIx (.obj i) (.int 2) S = some (d, S) := e_ixL (k := 2) h rfl
def LB : MS := (sSeq (sSet 5 (mCall M__law_layout_end (mCons (mV 0) (mCons (mV 3) mNil))))
  (sSeq (sIf (mB (m2 fIx (mV 5) (mC (.int 1))))
  (sRet (mLst (mCons (mC (.str "bad")) (mCons (m2 fIx (mV 5) (mC (.int 0))) mNil))))
  sNil)
  (sSeq (sExpr (mM "list" fAppend (mV 1) (mCons (mSl (mV 0) (mPart (mV 3)) (mPart (m2 fIx (mV 5) (mC (.int 0))))) mNil)))
  (sSeq (sIf (mB (m2 fEq (m2 fIx (mV 5) (mC (.int 0))) (mB1 (f1L fLen) (mCons (mV 0) mNil))))
  (sRet (mLst (mCons (mC (.str "good")) (mCons (mV 1) (mCons (mV 2) mNil)))))
  sNil)
  (sSeq (sSet 6 (mCall M__law_token (mCons (mV 0) (mCons (m2 fIx (mV 5) (mC (.int 0))) mNil))))
  (sSeq (sIf (mB (m2 fEq (m2 fIx (mV 6) (mC (.int 0))) (mC (.str "bad"))))
  (sRet (mV 6))
  sNil)
  (sSeq (sExpr (mM "list" fAppend (mV 2) (mCons (mLst (mCons (m2 fIx (mV 6) (mC (.int 0))) (mCons (mSl (mV 0) (mPart (m2 fIx (mV 5) (mC (.int 0)))) (mPart (m2 fIx (mV 6) (mC (.int 1))))) (mCons (m2 fIx (mV 5) (mC (.int 0))) mNil)))) mNil)))
  (sSet 3 (m2 fIx (mV 6) (mC (.int 1)))))))))))
abbrev LE (S : Sto) (t : List Nat) (a : Nat) (x y z : Option D) : Mi.Env := [some (sD t), some (.obj S.length), some (.obj (S.length + 1)), some (nD a), x, y, z]
theorem lb_bad (S T : Sto) (ls : List (List Nat)) (qs : List Nat) (pre l : List Nat) (x y z : Option D) (hl : (pre ++ l).length < sizeLine) (hs : (lay false l).2 ≠ 0) :
    LB (LE S (pre ++ l) pre.length x y z) (lSt S ls qs T) = .rt (.obj (S.length + 2 + (T.length + 1))) (lSt S ls qs (T ++ [.lst [nD (pre.length + (lay false l).1), .bl true], .lst [.str "bad", nD (pre.length + (lay false l).1)]])) := by
  have hlay := fun S' : Sto => llay_end pre l S' (Nat.le_of_lt hl)
  simp only [decide_eq_true hs] at hlay
  have i1 : ∀ X : Sto, (lSt S ls qs (T ++ .lst [nD (pre.length + (lay false l).1), .bl true] :: X))[S.length + 2 + T.length]? = some (.lst [nD (pre.length + (lay false l).1), .bl true]) := fun X => by rw [l_T, ga0]
  unfold LB
  simp only [bind_ok, bind_ex, of_some, rs_ok, rs_ex, then_nx, then_rt, then_ex, then_bk, then_ct, mV0, mVs, mC_, m2_, m1_, mB_, kB_bl, mB1_, mNil_, mCons_, f1L_, f2L_, mTup_, mLst_, mCall_, mNotT_, mAndT_, mOrT_, mIf_, mAndV_, mOrV_, mNotV_, kAndV_bl, kOrV_bl, kNotV_bl, mSl_, mPart_, kPart_, mNoPart_, sSeq_, sSet_, sRet_, sIf_, sExpr_, sNil_, sBreak_, sCont_, e_lt, e_le, e_gt, e_ge, e_eqI, e_neI, e_eqS, e_neS, e_add, e_sub, List.set_cons_zero, List.set_cons_succ, kTu1, kTu2, kTu3, kTu4, kTu5, kLs0, kLs1, kLs2, kLs3, kLs4, kLs5, mM_, mM0_, sAsg_, sFor_, iRng_, iSeq_, hlay, l_len, l_app, List.length_append, List.length_singleton, e_ix1 (i1 []), e_ix0 (i1 []), if_true, List.append_assoc, List.cons_append, List.nil_append]
theorem tok_kind {l : List Nat} {k : Str} {m : Nat} (h : tok l = some (k, m)) : k ≠ "bad" := by
  have h1 : ("word" : Str) ≠ "bad" := by decide +kernel
  have h2 : ("number" : Str) ≠ "bad" := by decide +kernel
  have h3 : ("sign" : Str) ≠ "bad" := by decide +kernel
  cases l with
  | nil => cases h
  | cons c s =>
    unfold tok at h
    dsimp only at h
    split at h
    · cases h; exact h1
    · split at h
      · cases h; exact h2
      · split at h
        · split at h
          · cases h
          · cases h; exact h2
        · split at h
          · cases h; exact h3
          · split at h
            · cases h; exact h3
            · cases h
theorem lb_next (S T : Sto) (ls : List (List Nat)) (qs : List Nat) (pre l : List Nat) (x y z : Option D) (hl : (pre ++ l).length < sizeLine) (hs : (lay false l).2 = 0) (hls : ls.length < sizeLine) (hqs : qs.length < sizeLine) :
    (l.drop (lay false l).1 = [] → ∃ T' : Sto, LB (LE S (pre ++ l) pre.length x y z) (lSt S ls qs T) = .rt (.obj (S.length + 2 + (T.length + 1))) (lSt S (ls ++ [l.take (lay false l).1]) qs (T ++ T')) ∧ T'[1]? = some (.lst [.str "good", .obj S.length, .obj (S.length + 1)])) ∧
    (l.drop (lay false l).1 ≠ [] → tok (l.drop (lay false l).1) = none → ∃ (T' : Sto) (q : Nat), LB (LE S (pre ++ l) pre.length x y z) (lSt S ls qs T) = .rt (.obj (S.length + 2 + q)) (lSt S (ls ++ [l.take (lay false l).1]) qs (T ++ T')) ∧ (T ++ T')[q]? = some (.lst [.str "bad", nD (pre.length + (lay false l).1)])) ∧
    (∀ k m, tok (l.drop (lay false l).1) = some (k, m) → ∃ (T' : Sto) (q : Nat) (y' z' : Option D), LB (LE S (pre ++ l) pre.length x y z) (lSt S ls qs T) = .nx (LE S (pre ++ l) (pre.length + (lay false l).1 + m) x y' z') (lSt S (ls ++ [l.take (lay false l).1]) (qs ++ [q]) (T ++ T')) ∧
      (T ++ T')[q]? = some (.lst [.str k, sD ((l.drop (lay false l).1).take m), nD (pre.length + (lay false l).1)])) := by
  have hlay := fun S' : Sto => llay_end pre l S' (Nat.le_of_lt hl)
  simp only [hs, ne_eq, not_true_eq_false, decide_false] at hlay
  have hlen : (pre ++ l).length = pre.length + l.length := List.length_append
  have hle := lay_le false l
  generalize hN : (lay false l).1 = n at *
  have i1 : ∀ (ls : List (List Nat)) (qs : List Nat) (X : Sto), (lSt S ls qs (T ++ .lst [nD (pre.length + n), .bl false] :: X))[S.length + 2 + T.length]? = some (.lst [nD (pre.length + n), .bl false]) := fun ls qs X => by rw [l_T, ga0]
  have hcut1 : ∀ S' : Sto, fSl (sD (pre ++ l)) (some (pre.length : Int)) (some ((pre.length + n : Nat) : Int)) S' = some (sD (l.take n), S') := fun S' => e_cutK (Nat.le_of_lt hl)
  have hls' : (ls.map sD).length < sizeLine := by rw [List.length_map]; exact hls
  have hqs' : (qs.map fun q => D.obj (S.length + 2 + q)).length < sizeLine := by rw [List.length_map]; exact hqs
  refine ⟨fun hd => ?_, fun hd ht => ?_, fun k m ht => ?_⟩
  · have hn : n = l.length := by
      have := List.drop_eq_nil_iff.mp hd
      omega
    have he : ((pre.length + n : Nat) : Int) = ((pre ++ l).length : Int) := by rw [hlen, hn]
    refine ⟨[.lst [nD (pre.length + n), .bl false], .lst [.str "good", .obj S.length, .obj (S.length + 1)]], ?_, rfl⟩
    unfold LB
    simp only [bind_ok, bind_ex, of_some, rs_ok, rs_ex, then_nx, then_rt, then_ex, then_bk, then_ct, mV0, mVs, mC_, m2_, m1_, mB_, kB_bl, mB1_, mNil_, mCons_, f1L_, f2L_, mTup_, mLst_, mCall_, mNotT_, mAndT_, mOrT_, mIf_, mAndV_, mOrV_, mNotV_, kAndV_bl, kOrV_bl, kNotV_bl, mSl_, mPart_, kPart_, mNoPart_, sSeq_, sSet_, sRet_, sIf_, sExpr_, sNil_, sBreak_, sCont_, e_lt, e_le, e_gt, e_ge, e_eqI, e_neI, e_eqS, e_neS, e_add, e_sub, List.set_cons_zero, List.set_cons_succ, kTu1, kTu2, kTu3, kTu4, kTu5, kLs0, kLs1, kLs2, kLs3, kLs4, kLs5, mM_, mM0_, sAsg_, sFor_, iRng_, iSeq_, hlay, l_len, l_app, List.length_append, List.length_singleton, e_ix1 (i1 _ _ []), e_ix0 (i1 _ _ []), Bool.false_eq_true, if_false, tyL l_a, if_true, hcut1, e_append l_a hls', l_setA, e_len (Nat.le_of_lt hl), List.append_assoc, List.cons_append, List.nil_append]
    simp only [show decide (((pre.length + n : Nat) : Int) = ((pre.length + l.length : Nat) : Int)) = true by rw [hn]; simp, if_true, then_rt]
  · obtain ⟨c, s, hcs⟩ : ∃ c s, l.drop n = c :: s := by
      cases h : l.drop n with
      | nil => exact absurd h hd
      | cons c s => exact ⟨c, s, rfl⟩
    have hnl : n < l.length := by
      rcases Nat.lt_or_ge n l.length with h | h
      · exact h
      · rw [List.drop_eq_nil_of_le h] at hcs; cases hcs
    have el : pre ++ l = pre ++ l.take n ++ c :: s := by rw [← hcs]; simp
    have elen : (pre ++ l.take n).length = pre.length + n := by simp; omega
    have hne : decide (((pre.length + n : Nat) : Int) = ((pre.length + l.length : Nat) : Int)) = false := decide_eq_false (by omega)
    obtain ⟨T2, j, t1, t2, t3⟩ := ltoken (pre ++ l.take n) s c (lSt S (ls ++ [l.take n]) qs (T ++ [.lst [nD (pre.length + n), .bl false]])) (by rw [← el]; exact Nat.le_of_lt hl)
    rw [← el, elen] at t1
    rw [← hcs, ht, elen] at t2
    rw [l_len] at t3
    obtain ⟨q, rfl⟩ : ∃ q, j = S.length + 2 + q := ⟨j - (S.length + 2), by omega⟩
    rw [l_app, l_T] at t2
    rw [l_app] at t1
    refine ⟨.lst [nD (pre.length + n), .bl false] :: T2, q, ?_, by rw [show T ++ MO.lst [nD (pre.length + n), .bl false] :: T2 = T ++ [.lst [nD (pre.length + n), .bl false]] ++ T2 by simp]; exact t2⟩
    have i2 : (lSt S (ls ++ [l.take n]) qs (T ++ [.lst [nD (pre.length + n), .bl false]] ++ T2))[S.length + 2 + q]? = some (.lst [.str "bad", nD (pre.length + n)]) := by rw [l_T]; exact t2
    simp only [List.append_assoc, List.cons_append, List.nil_append] at t1 i2
    unfold LB
    simp only [bind_ok, bind_ex, of_some, rs_ok, rs_ex, then_nx, then_rt, then_ex, then_bk, then_ct, mV0, mVs, mC_, m2_, m1_, mB_, kB_bl, mB1_, mNil_, mCons_, f1L_, f2L_, mTup_, mLst_, mCall_, mNotT_, mAndT_, mOrT_, mIf_, mAndV_, mOrV_, mNotV_, kAndV_bl, kOrV_bl, kNotV_bl, mSl_, mPart_, kPart_, mNoPart_, sSeq_, sSet_, sRet_, sIf_, sExpr_, sNil_, sBreak_, sCont_, e_lt, e_le, e_gt, e_ge, e_eqI, e_neI, e_eqS, e_neS, e_add, e_sub, List.set_cons_zero, List.set_cons_succ, kTu1, kTu2, kTu3, kTu4, kTu5, kLs0, kLs1, kLs2, kLs3, kLs4, kLs5, mM_, mM0_, sAsg_, sFor_, iRng_, iSeq_, hlay, l_len, l_app, List.length_append, List.length_singleton, e_ix1 (i1 _ _ []), e_ix0 (i1 _ _ []), Bool.false_eq_true, if_false, tyL l_a, if_true, hcut1, e_append l_a hls', l_setA, e_len (Nat.le_of_lt hl), hne, t1, e_ix0 i2, List.append_assoc, List.cons_append, List.nil_append, decide_true]
  · obtain ⟨c, s, hcs⟩ : ∃ c s, l.drop n = c :: s := by
      cases h : l.drop n with
      | nil => rw [h] at ht; cases ht
      | cons c s => exact ⟨c, s, rfl⟩
    have hnl : n < l.length := by
      rcases Nat.lt_or_ge n l.length with h | h
      · exact h
      · rw [List.drop_eq_nil_of_le h] at hcs; cases hcs
    have el : pre ++ l = pre ++ l.take n ++ c :: s := by rw [← hcs]; simp
    have elen : (pre ++ l.take n).length = pre.length + n := by simp; omega
    have hne : decide (((pre.length + n : Nat) : Int) = ((pre.length + l.length : Nat) : Int)) = false := decide_eq_false (by omega)
    obtain ⟨T2, j, t1, t2, t3⟩ := ltoken (pre ++ l.take n) s c (lSt S (ls ++ [l.take n]) qs (T ++ [.lst [nD (pre.length + n), .bl false]])) (by rw [← el]; exact Nat.le_of_lt hl)
    rw [← el, elen] at t1
    rw [← hcs, ht, elen] at t2
    rw [l_len] at t3
    obtain ⟨q, rfl⟩ : ∃ q, j = S.length + 2 + q := ⟨j - (S.length + 2), by omega⟩
    rw [l_app, l_T] at t2
    rw [l_app] at t1
    have t2' : ∀ X : Sto, (T ++ .lst [nD (pre.length + n), .bl false] :: (T2 ++ X))[q]? = some (.lst [.str k, nD (pre.length + n + m)]) := fun X => by
      have e1 : T ++ MO.lst [nD (pre.length + n), .bl false] :: (T2 ++ X) = (T ++ [.lst [nD (pre.length + n), .bl false]] ++ T2) ++ X := by simp
      have hq : q < (T ++ [MO.lst [nD (pre.length + n), .bl false]] ++ T2).length := by
        rcases Nat.lt_or_ge q (T ++ [MO.lst [nD (pre.length + n), .bl false]] ++ T2).length with h | h
        · exact h
        · rw [List.getElem?_eq_none h] at t2; cases t2
      rw [e1, List.getElem?_append_left hq]
      exact t2
    have i2 : ∀ (ls : List (List Nat)) (qs : List Nat) (X : Sto), (lSt S ls qs (T ++ .lst [nD (pre.length + n), .bl false] :: (T2 ++ X)))[S.length + 2 + q]? = some (.lst [.str k, nD (pre.length + n + m)]) := fun ls qs X => by rw [l_T]; exact t2' X
    have i2' := i2 (ls ++ [l.take n]) qs []
    rw [List.append_nil] at i2'
    have hk : decide (k = ("bad" : Str)) = false := decide_eq_false (tok_kind ht)
    have hcut2 : ∀ S' : Sto, fSl (sD (pre ++ l)) (some ((pre.length + n : Nat) : Int)) (some ((pre.length + n + m : Nat) : Int)) S' = some (sD ((c :: s).take m), S') := fun S' => by
      have := e_cutK (pre := pre ++ l.take n) (suf := c :: s) (k := m) (S := S') (by rw [← el]; exact Nat.le_of_lt hl)
      rw [← el, elen] at this
      exact this
    refine ⟨.lst [nD (pre.length + n), .bl false] :: (T2 ++ [.lst [.str k, sD ((c :: s).take m), nD (pre.length + n)]]), T.length + (MO.lst [nD (pre.length + n), .bl false] :: T2).length, some (.obj (S.length + 2 + T.length)), some (.obj (S.length + 2 + q)), ?_, ?_⟩
    · simp only [List.append_assoc, List.cons_append, List.nil_append] at t1
      have hb2 : ∀ X : Sto, (lSt S (ls ++ [l.take n]) qs X)[S.length + 1]? = some (.lst (qs.map fun q => D.obj (S.length + 2 + q))) := fun X => l_b
      unfold LB
      simp only [bind_ok, bind_ex, of_some, rs_ok, rs_ex, then_nx, then_rt, then_ex, then_bk, then_ct, mV0, mVs, mC_, m2_, m1_, mB_, kB_bl, mB1_, mNil_, mCons_, f1L_, f2L_, mTup_, mLst_, mCall_, mNotT_, mAndT_, mOrT_, mIf_, mAndV_, mOrV_, mNotV_, kAndV_bl, kOrV_bl, kNotV_bl, mSl_, mPart_, kPart_, mNoPart_, sSeq_, sSet_, sRet_, sIf_, sExpr_, sNil_, sBreak_, sCont_, e_lt, e_le, e_gt, e_ge, e_eqI, e_neI, e_eqS, e_neS, e_add, e_sub, List.set_cons_zero, List.set_cons_succ, kTu1, kTu2, kTu3, kTu4, kTu5, kLs0, kLs1, kLs2, kLs3, kLs4, kLs5, mM_, mM0_, sAsg_, sFor_, iRng_, iSeq_, hlay, l_len, l_app, List.length_append, List.length_singleton, e_ix1 (i1 _ _ []), e_ix0 (i1 _ _ []), e_ix0 (i1 _ _ T2), e_ix0 (i1 _ _ (T2 ++ _)), Bool.false_eq_true, if_false, tyL l_a, if_true, hcut1, e_append l_a hls', l_setA, e_len (Nat.le_of_lt hl), hne, t1, e_ix0 i2', e_ix1 i2', hk, hcut2, tyL l_b, List.append_assoc, List.cons_append, List.nil_append]
      simp only [bind_ok, bind_ex, of_some, rs_ok, rs_ex, then_nx, then_rt, then_ex, then_bk, then_ct, mV0, mVs, mC_, m2_, m1_, mB_, kB_bl, mB1_, mNil_, mCons_, f1L_, f2L_, mTup_, mLst_, mCall_, mNotT_, mAndT_, mOrT_, mIf_, mAndV_, mOrV_, mNotV_, kAndV_bl, kOrV_bl, kNotV_bl, mSl_, mPart_, kPart_, mNoPart_, sSeq_, sSet_, sRet_, sIf_, sExpr_, sNil_, sBreak_, sCont_, e_lt, e_le, e_gt, e_ge, e_eqI, e_neI, e_eqS, e_neS, e_add, e_sub, List.set_cons_zero, List.set_cons_succ, kTu1, kTu2, kTu3, kTu4, kTu5, kLs0, kLs1, kLs2, kLs3, kLs4, kLs5, mM_, mM0_, sAsg_, sFor_, iRng_, iSeq_, e_append l_b hqs', l_setB, e_ix1 (i2 _ _ _)]
    · rw [hcs]
      have e1 : T ++ MO.lst [nD (pre.length + n), .bl false] :: (T2 ++ [.lst [.str k, sD ((c :: s).take m), nD (pre.length + n)]]) = (T ++ MO.lst [nD (pre.length + n), .bl false] :: T2) ++ [.lst [.str k, sD ((c :: s).take m), nD (pre.length + n)]] := by simp
      rw [e1, ← List.length_append, last0]
end K00

namespace K00
open PySem PySem.Spec L2 Mi
inductive Al {α β : Type} (R : α → β → Prop) : List α → List β → Prop where
  | nil : Al R [] []
  | cons {a : α} {b : β} {as : List α} {bs : List β} : R a b → Al R as bs → Al R (a :: as) (b :: bs)
theorem Al.snoc {α β : Type} {R : α → β → Prop} {a : α} {b : β} (h : R a b) : ∀ {as : List α} {bs : List β}, Al R as bs → Al R (as ++ [a]) (bs ++ [b])
  | _, _, .nil => .cons h .nil
  | _, _, .cons h1 t => .cons h1 (Al.snoc h t)
theorem Al.mono {α β : Type} {R R' : α → β → Prop} (i : ∀ a b, R a b → R' a b) : ∀ {as : List α} {bs : List β}, Al R as bs → Al R' as bs
  | _, _, .nil => .nil
  | _, _, .cons h t => .cons (i _ _ h) (Al.mono i t)
theorem Al.map {α β γ : Type} {R : α → β → Prop} {R' : γ → β → Prop} {f : α → γ} (i : ∀ a b, R a b → R' (f a) b) : ∀ {as : List α} {bs : List β}, Al R as bs → Al R' (as.map f) bs
  | _, _, .nil => .nil
  | _, _, .cons h t => .cons (i _ _ h) (Al.map i t)
theorem Al.len {α β : Type} {R : α → β → Prop} : ∀ {as : List α} {bs : List β}, Al R as bs → as.length = bs.length
  | _, _, .nil => rfl
  | _, _, .cons _ t => by simp [Al.len t]
def rowD (t : Tk) : List D := [.str t.1, sD t.2.1, nD t.2.2]
/-- the object j is what the law's own cutting says -/
def DueAt (S' : Sto) (n0 j : Nat) : Cut → Prop
  | .bad p => n0 ≤ j ∧ S'[j]? = some (.lst [.str "bad", nD p])
  | .good ls ts => ∃ (a b : Nat) (rs : List Nat), n0 ≤ j ∧ n0 ≤ a ∧ n0 ≤ b ∧ S'[j]? = some (.lst [.str "good", .obj a, .obj b]) ∧ S'[a]? = some (.lst (ls.map sD)) ∧ S'[b]? = some (.lst (rs.map D.obj)) ∧ Al (fun r t => n0 ≤ r ∧ S'[r]? = some (.lst (rowD t))) rs ts
def Cut.pre (ls : List (List Nat)) (ts : List Tk) : Cut → Cut
  | .bad p => .bad p
  | .good ls' ts' => .good (ls ++ ls') (ts ++ ts')
theorem get_app {T X : Sto} {q : Nat} {o : MO} (h : T[q]? = some o) : (T ++ X)[q]? = some o := by
  have : q < T.length := by
    rcases Nat.lt_or_ge q T.length with z | z
    · exact z
    · rw [List.getElem?_eq_none z] at h; cases h
  rw [List.getElem?_append_left this]; exact h
theorem lcut_loop (S : Sto) : ∀ (f : Nat) (pre l : List Nat) (ls : List (List Nat)) (qs : List Nat) (ts : List Tk) (T : Sto) (i k n : Nat) (x y z : Option D), (pre ++ l).length < sizeLine → l.length < f → i + k = n → l.length < k → ls.length ≤ pre.length → qs.length ≤ pre.length →
    Al (fun q t => T[q]? = some (.lst (rowD t))) qs ts →
    ∃ (j : Nat) (X : Sto), forI (itRng 0 n) (gN 4) LB k i (LE S (pre ++ l) pre.length x y z) (lSt S ls qs T) = .rt (.obj j) (S ++ X) ∧ DueAt (S ++ X) S.length j ((cutG f pre.length l).pre ls ts) := by
  intro f
  induction f with
  | zero => intro pre l ls qs ts T i k n x y z _ h; exact absurd h (Nat.not_lt_zero _)
  | succ f ih =>
    intro pre l ls qs ts T i k n x y z hl hf hk hlk h1 h2 ha
    cases k with
    | zero => exact absurd hlk (Nat.not_lt_zero _)
    | succ k =>
      have hin : i < n := by omega
      have hle := lay_le false l
      have hlen : (pre ++ l).length = pre.length + l.length := List.length_append
      rw [cutG_s]
      by_cases hs : (lay false l).2 = 0
      · obtain ⟨B, C, Dn⟩ := lb_next S T ls qs pre l (some (.int (0 + (i : Int)))) y z hl hs (by omega) (by omega)
        rw [if_neg (by rw [hs]; simp)]
        by_cases hd : l.drop (lay false l).1 = []
        · obtain ⟨T', hB, hT'⟩ := B hd
          rw [if_pos hd, fr_rt hin hB]
          have hn1 : (lay false l).1 = l.length := by
            have := List.drop_eq_nil_iff.mp hd
            omega
          refine ⟨_, _, rfl, S.length, S.length + 1, qs.map (S.length + 2 + ·), by omega, Nat.le_refl _, by omega, ?_, ?_, ?_, ?_⟩
          · show (lSt S _ qs (T ++ T'))[_]? = _
            rw [l_T, List.getElem?_append_right (by omega), show T.length + 1 - T.length = 1 by omega]
            exact hT'
          · show (lSt S _ qs (T ++ T'))[_]? = _
            rw [l_a]
          · show (lSt S _ qs (T ++ T'))[_]? = _
            rw [l_b, List.map_map]; rfl
          · simp only [List.append_nil]
            refine ha.map fun q t hq => ⟨by omega, ?_⟩
            show (lSt S _ qs (T ++ T'))[_]? = _
            rw [l_T]
            exact get_app hq
        · rw [if_neg hd]
          cases ht : tok (l.drop (lay false l).1) with
          | none =>
            obtain ⟨T', q, hB, hq⟩ := C hd ht
            rw [fr_rt hin hB]
            refine ⟨_, _, rfl, by omega, ?_⟩
            show (lSt S _ qs (T ++ T'))[_]? = _
            rw [l_T]
            exact hq
          | some km =>
            obtain ⟨kk, m⟩ := km
            obtain ⟨T', q, y', z', hB, hq⟩ := Dn kk m ht
            have hm := tok_pos ht
            rw [List.length_drop] at hm
            rw [fr_nx hin hB]
            dsimp only
            generalize hl2 : (l.drop (lay false l).1).drop m = l2 at *
            have el2 : pre ++ l = (pre ++ l.take (lay false l).1 ++ (l.drop (lay false l).1).take m) ++ l2 := by rw [← hl2, List.append_assoc, List.take_append_drop, List.append_assoc, List.take_append_drop]
            have elen2 : (pre ++ l.take (lay false l).1 ++ (l.drop (lay false l).1).take m).length = pre.length + (lay false l).1 + m := by simp; omega
            have hl2len : l2.length + m + (lay false l).1 = l.length := by rw [← hl2]; simp; omega
            obtain ⟨j, X, q1, q2⟩ := ih (pre ++ l.take (lay false l).1 ++ (l.drop (lay false l).1).take m) l2 (ls ++ [l.take (lay false l).1]) (qs ++ [q]) (ts ++ [(kk, (l.drop (lay false l).1).take m, pre.length + (lay false l).1)]) (T ++ T') (i + 1) k n (some (.int (0 + (i : Int)))) y' z'
              (by rw [← el2]; exact hl) (by omega) (by omega) (by omega) (by rw [elen2]; simp; omega) (by rw [elen2]; simp; omega) (Al.snoc (R := fun q t => (T ++ T')[q]? = some (MO.lst (rowD t))) hq (ha.mono fun q t hq => get_app hq))
            rw [← el2, elen2] at q1
            rw [elen2] at q2
            refine ⟨j, X, q1, ?_⟩
            cases hc : cutG f (pre.length + (lay false l).1 + m) l2 with
            | bad p => rw [hc] at q2; exact q2
            | good ls' ts' =>
              rw [hc] at q2
              have e : (Cut.good (l.take (lay false l).1 :: ls') ((kk, (l.drop (lay false l).1).take m, pre.length + (lay false l).1) :: ts')).pre ls ts = (Cut.good ls' ts').pre (ls ++ [l.take (lay false l).1]) (ts ++ [(kk, (l.drop (lay false l).1).take m, pre.length + (lay false l).1)]) := by simp [Cut.pre]
              rw [e]
              exact q2
      · rw [if_pos hs, fr_rt hin (lb_bad S T ls qs pre l (some (.int (0 + (i : Int)))) y z hl hs)]
        refine ⟨_, _, rfl, by omega, ?_⟩
        show (lSt S ls qs (T ++ [_, _]))[_]? = _
        rw [l_T, List.getElem?_append_right (by omega), show T.length + 1 - T.length = 1 by omega]
        rfl
end K00

namespace K00
open PySem PySem.Spec L2 Mi
theorem lcut (S : Sto) (t : List Nat) (hl : t.length < sizeLine) : ∃ (j : Nat) (X : Sto), M__law_cut [sD t] S = .ok (.obj j) (S ++ X) ∧ DueAt (S ++ X) S.length j (cutG (t.length + 1) 0 t) := by
  obtain ⟨j, X, q1, q2⟩ := lcut_loop S (t.length + 1) [] t [] [] [] [] 0 (t.length + 1) (t.length + 1) none none none (by simpa using hl) (by omega) (by omega) (by omega) (by simp) (by simp) .nil
  simp only [List.nil_append, List.length_nil] at q1 q2
  have e : (cutG (t.length + 1) 0 t).pre [] [] = cutG (t.length + 1) 0 t := by cases cutG (t.length + 1) 0 t <;> rfl
  rw [e] at q2
  refine ⟨j, X, ?_, q2⟩
  have hb : -(2 ^ 62) ≤ ((t.length : Int) + 1) ∧ ((t.length : Int) + 1) < 2 ^ 62 := by rw [sizeLine_eq] at hl; omega
  have en : (itRng 0 (t.length + 1)).n = t.length + 1 := (rfl)
  have et : ((t.length : Int) + 1).toNat = t.length + 1 := by omega
  have e1 : (S ++ [MO.lst []]).length = S.length + 1 := by simp
  unfold M__law_cut mFn B__law_cut
  simp only [List.length_cons, List.length_nil, Nat.reduceAdd, if_true, List.map, List.replicate, List.cons_append, List.nil_append, Nat.reduceSub]
  have eS : lSt S [] [] [] = S ++ [.lst [], .lst []] := rfl
  rw [eS] at q1
  unfold LB at q1
  delta LE at q1
  dsimp only [nD] at q1
  rw [Int.natCast_zero] at q1
  simp only [bind_ok, bind_ex, of_some, rs_ok, rs_ex, then_nx, then_rt, then_ex, then_bk, then_ct, mV0, mVs, mC_, m2_, m1_, mB_, kB_bl, mB1_, mNil_, mCons_, f1L_, f2L_, mTup_, mLst_, mCall_, mNotT_, mAndT_, mOrT_, mIf_, mAndV_, mOrV_, mNotV_, kAndV_bl, kOrV_bl, kNotV_bl, mSl_, mPart_, kPart_, mNoPart_, sSeq_, sSet_, sRet_, sIf_, sExpr_, sNil_, sBreak_, sCont_, e_lt, e_le, e_gt, e_ge, e_eqI, e_neI, e_eqS, e_neS, e_add, e_sub, List.set_cons_zero, List.set_cons_succ, kTu1, kTu2, kTu3, kTu4, kTu5, kLs0, kLs1, kLs2, kLs3, kLs4, kLs5, mM_, mM0_, sAsg_, sFor_, iRng_, iSeq_, e1, e_len (Nat.le_of_lt hl), kRng1 hb, en, et, List.append_assoc, List.cons_append, List.nil_append]
  rw [q1, then_rt]
  rfl
end K00

namespace K00
open PySem PySem.Spec L2 Mi
theorem e_t0 {S : Sto} {a : D} {r : List D} : fIx (.tup (a :: r)) (.int 0) S = some (a, S) := e_ixT (k := 0) rfl
theorem e_t1 {S : Sto} {a b : D} {r : List D} : fIx (.tup (a :: b :: r)) (.int 1) S = some (b, S) := e_ixT (k := 1) rfl
theorem e_t2 {S : Sto} {a b c : D} {r : List D} : fIx (.tup (a :: b :: c :: r)) (.int 2) S = some (c, S) := e_ixT (k := 2) rfl
theorem is_tt {S : Sto} {ds : List D} : fIsi ["tuple"] (.tup ds) S = some (.bl true, S) := (rfl)
theorem is_ss {S : Sto} {z : Str} : fIsi ["str"] (.str z) S = some (.bl true, S) := (rfl)
theorem e_lenT {S : Sto} {ds : List D} : fLen (.tup ds) S = some (.int (ds.length : Int), S) := (rfl)
theorem dec3 : decide (((0 + 1 + 1 + 1 : Nat) : Int) = 3) = true := (rfl)
theorem dec2 : decide (((0 + 1 + 1 : Nat) : Int) = 2) = true := (rfl)
theorem law_int {S : Sto} {i : Int} : M__law_int [.int i] S = .ok (.bl true) S := (rfl)
abbrev toldTry : MS := sTryAs (sSet 1 (mCall M_cut_text (mCons (mV 0) mNil))) 3 sub_BadSign (xSet 2 (fun en => if en.cls ∈ xl_offset then en.fs.lookup ("offset" : Str) else none))
theorem try_ok {S S' : Sto} {d r : D} (h : M_cut_text [d] S = .ok r S') : toldTry [some d, some .non, some .non, none, none, none, none] S = .nx [some d, some r, some .non, none, none, none, none] S' := by
  unfold toldTry sTryAs
  simp only [bind_ok, bind_ex, of_some, rs_ok, rs_ex, then_nx, then_rt, then_ex, then_bk, then_ct, mV0, mVs, mC_, m2_, m1_, mB_, kB_bl, mB1_, mNil_, mCons_, f1L_, f2L_, mTup_, mLst_, mCall_, mNotT_, mAndT_, mOrT_, mIf_, mAndV_, mOrV_, mNotV_, kAndV_bl, kOrV_bl, kNotV_bl, mSl_, mPart_, kPart_, mNoPart_, sSeq_, sSet_, sRet_, sIf_, sExpr_, sNil_, sBreak_, sCont_, e_lt, e_le, e_gt, e_ge, e_eqI, e_neI, e_eqS, e_neS, e_add, e_sub, List.set_cons_zero, List.set_cons_succ, kTu1, kTu2, kTu3, kTu4, kTu5, kLs0, kLs1, kLs2, kLs3, kLs4, kLs5, mM_, mM0_, sAsg_, sFor_, iRng_, iSeq_, h]
theorem try_ex {S S' : Sto} {d o : D} (h : M_cut_text [d] S = .ex ⟨"BadSign", [("offset", o)]⟩ S') : toldTry [some d, some .non, some .non, none, none, none, none] S = .nx [some d, some .non, some o, none, none, none, none] S' := by
  have h1 : sub_BadSign "BadSign" = some true := by decide +kernel
  have h2 : ("BadSign" : Str) ∈ xl_offset := by unfold xl_offset; simp
  unfold toldTry sTryAs
  simp only [bind_ok, bind_ex, of_some, rs_ok, rs_ex, then_nx, then_rt, then_ex, then_bk, then_ct, mV0, mVs, mC_, m2_, m1_, mB_, kB_bl, mB1_, mNil_, mCons_, f1L_, f2L_, mTup_, mLst_, mCall_, mNotT_, mAndT_, mOrT_, mIf_, mAndV_, mOrV_, mNotV_, kAndV_bl, kOrV_bl, kNotV_bl, mSl_, mPart_, kPart_, mNoPart_, sSeq_, sSet_, sRet_, sIf_, sExpr_, sNil_, sBreak_, sCont_, e_lt, e_le, e_gt, e_ge, e_eqI, e_neI, e_eqS, e_neS, e_add, e_sub, List.set_cons_zero, List.set_cons_succ, kTu1, kTu2, kTu3, kTu4, kTu5, kLs0, kLs1, kLs2, kLs3, kLs4, kLs5, mM_, mM0_, sAsg_, sFor_, iRng_, iSeq_, h, h1]
  simp only [h2, if_true, xSet, List.lookup, beq_self_eq_true, List.length_cons, List.length_nil, unsetEnd, List.set_cons_zero, List.set_cons_succ]
  rfl
/-- the store of the told rows -/
def rSt (S : Sto) (qs : List Nat) (T : Sto) : Sto := S ++ .lst (qs.map fun q => D.obj (S.length + 1 + q)) :: T
section
variable {S T X : Sto} {qs : List Nat}
theorem r_len : (rSt S qs T).length = S.length + 1 + T.length := by simp [rSt]; omega
theorem r_app : rSt S qs T ++ X = rSt S qs (T ++ X) := by simp [rSt]
theorem r_a : (rSt S qs T)[S.length]? = some (.lst (qs.map fun q => D.obj (S.length + 1 + q))) := ga0
theorem r_T {q : Nat} : (rSt S qs T)[S.length + 1 + q]? = T[q]? := by
  unfold rSt
  rw [List.getElem?_append_right (by omega)]
  have : S.length + 1 + q - S.length = q + 1 := by omega
  rw [this]; rfl
theorem r_set {q : Nat} : (rSt S qs T).set S.length (.lst ((qs.map fun q => D.obj (S.length + 1 + q)) ++ [.obj (S.length + 1 + q)])) = rSt S (qs ++ [q]) T := by
  unfold rSt; rw [sa0]; simp
end
def tB : MS := (sSeq (sIf (mOrT (mNotT (mB (m1 (fIsi ["tuple"]) (mV 5)))) (mOrT (mB (m2 fNe (mB1 (f1L fLen) (mCons (mV 5) mNil)) (mC (.int 3)))) (mNotT (mB (mCall M__law_int (mCons (m2 fIx (mV 5) (mC (.int 2))) mNil))))))
  (sRet (mLst (mCons (mC (.str "odd")) mNil)))
  sNil)
  (sSeq (sIf (mOrT (mNotT (mB (m1 (fIsi ["str"]) (m2 fIx (mV 5) (mC (.int 0)))))) (mNotT (mB (m1 (fIsi ["str"]) (m2 fIx (mV 5) (mC (.int 1)))))))
  (sRet (mLst (mCons (mC (.str "odd")) mNil)))
  sNil)
  (sExpr (mM "list" fAppend (mV 4) (mCons (mLst (mCons (m2 fIx (mV 5) (mC (.int 0))) (mCons (m2 fIx (mV 5) (mC (.int 1))) (mCons (m2 fIx (mV 5) (mC (.int 2))) mNil)))) mNil)))))
theorem told_rows (S : Sto) (x0 x1 x2 x6 : Option D) (all : List Tk) (hall : all.length < sizeLine) : ∀ (suf pre : List Tk) (qs : List Nat) (T : Sto) (z : Option D), all = pre ++ suf → qs.length = pre.length → Al (fun q t => T[q]? = some (MO.lst (rowD t))) qs pre →
    ∃ (qs' : List Nat) (T' : Sto) (z' : Option D), forI (itFix (all.map tkD)) (gN 5) tB suf.length pre.length [x0, x1, x2, none, some (.obj S.length), z, x6] (rSt S qs T) = .nx [x0, x1, x2, none, some (.obj S.length), z', x6] (rSt S qs' T') ∧ Al (fun q t => T'[q]? = some (MO.lst (rowD t))) qs' all
  | [], pre, qs, T, z, he, hq, ha => by
    rw [List.append_nil] at he
    subst he
    refine ⟨qs, T, z, ?_, ha⟩
    have := fx_end (ds := all.map tkD) (k := ([] : List Tk).length) (g := gN 5) (b := tB) (env := [x0, x1, x2, none, some (.obj S.length), z, x6]) (S := rSt S qs T)
    rw [List.length_map] at this
    exact this
  | t :: suf, pre, qs, T, z, he, hq, ha => by
    have hlen : all.length = pre.length + (suf.length + 1) := by rw [he]; simp
    have hget : (all.map tkD)[pre.length]? = some (tkD t) := by rw [he]; simp
    obtain ⟨qs', T', z', q1, q2⟩ := told_rows S x0 x1 x2 x6 all hall suf (pre ++ [t]) (qs ++ [T.length]) (T ++ [.lst (rowD t)]) (some (tkD t)) (by rw [he]; simp) (by simp [hq]) (Al.snoc (R := fun q t => (T ++ [MO.lst _])[q]? = some (MO.lst (rowD t))) last0 (ha.mono fun q t hq => get_app hq))
    refine ⟨qs', T', z', ?_, q2⟩
    have hqs : (qs.map fun q => D.obj (S.length + 1 + q)).length < sizeLine := by rw [List.length_map]; omega
    rw [show (t :: suf).length = suf.length + 1 from rfl, fx_nx hget rfl (env2 := [x0, x1, x2, none, some (.obj S.length), some (tkD t), x6]) (S2 := rSt S (qs ++ [T.length]) (T ++ [.lst (rowD t)])) ?_]
    · rw [List.length_append] at q1
      exact q1
    · unfold tB
      simp only [bind_ok, bind_ex, of_some, rs_ok, rs_ex, then_nx, then_rt, then_ex, then_bk, then_ct, mV0, mVs, mC_, m2_, m1_, mB_, kB_bl, mB1_, mNil_, mCons_, f1L_, f2L_, mTup_, mLst_, mCall_, mNotT_, mAndT_, mOrT_, mIf_, mAndV_, mOrV_, mNotV_, kAndV_bl, kOrV_bl, kNotV_bl, mSl_, mPart_, kPart_, mNoPart_, sSeq_, sSet_, sRet_, sIf_, sExpr_, sNil_, sBreak_, sCont_, e_lt, e_le, e_gt, e_ge, e_eqI, e_neI, e_eqS, e_neS, e_add, e_sub, List.set_cons_zero, List.set_cons_succ, kTu1, kTu2, kTu3, kTu4, kTu5, kLs0, kLs1, kLs2, kLs3, kLs4, kLs5, mM_, mM0_, sAsg_, sFor_, iRng_, iSeq_, is_tt, is_ss, e_lenT, e_t0, e_t1, e_t2, law_int, dec3, Bool.not_true, Bool.false_eq_true, if_false, List.length_cons, List.length_nil, r_len, r_app, tyL r_a, if_true, e_append r_a hqs, r_set]
      rfl
theorem told_lays (S : Sto) (x0 x1 x2 x3 x4 x5 : Option D) (all : List (List Nat)) : ∀ (suf pre : List (List Nat)) (z : Option D), all = pre ++ suf → ∃ z' : Option D, forI (itFix (all.map sD)) (gN 6) (sIf (mNotT (mB (m1 (fIsi ["str"]) (mV 6)))) (sRet (mLst (mCons (mC (.str "odd")) mNil))) sNil) suf.length pre.length [x0, x1, x2, x3, x4, x5, z] S = .nx [x0, x1, x2, x3, x4, x5, z'] S
  | [], pre, z, he => by
    rw [List.append_nil] at he
    subst he
    refine ⟨z, ?_⟩
    have := fx_end (ds := all.map sD) (k := ([] : List (List Nat)).length) (g := gN 6) (b := (sIf (mNotT (mB (m1 (fIsi ["str"]) (mV 6)))) (sRet (mLst (mCons (mC (.str "odd")) mNil))) sNil)) (env := [x0, x1, x2, x3, x4, x5, z]) (S := S)
    rw [List.length_map] at this
    exact this
  | t :: suf, pre, z, he => by
    have hget : (all.map sD)[pre.length]? = some (sD t) := by rw [he]; simp
    obtain ⟨z', q1⟩ := told_lays S x0 x1 x2 x3 x4 x5 all suf (pre ++ [t]) (some (sD t)) (by rw [he]; simp)
    refine ⟨z', ?_⟩
    rw [show (t :: suf).length = suf.length + 1 from rfl, fx_nx hget rfl (env2 := [x0, x1, x2, x3, x4, x5, some (sD t)]) (S2 := S) ?_]
    · rw [List.length_append] at q1
      exact q1
    · simp only [bind_ok, bind_ex, of_some, rs_ok, rs_ex, then_nx, then_rt, then_ex, then_bk, then_ct, mV0, mVs, mC_, m2_, m1_, mB_, kB_bl, mB1_, mNil_, mCons_, f1L_, f2L_, mTup_, mLst_, mCall_, mNotT_, mAndT_, mOrT_, mIf_, mAndV_, mOrV_, mNotV_, kAndV_bl, kOrV_bl, kNotV_bl, mSl_, mPart_, kPart_, mNoPart_, sSeq_, sSet_, sRet_, sIf_, sExpr_, sNil_, sBreak_, sCont_, e_lt, e_le, e_gt, e_ge, e_eqI, e_neI, e_eqS, e_neS, e_add, e_sub, List.set_cons_zero, List.set_cons_succ, kTu1, kTu2, kTu3, kTu4, kTu5, kLs0, kLs1, kLs2, kLs3, kLs4, kLs5, mM_, mM0_, sAsg_, sFor_, iRng_, iSeq_, List.set_cons_succ, List.set_cons_zero, is_ss, Bool.not_true, Bool.false_eq_true, if_false]
theorem told_bad {S S' : Sto} {d o : D} (h : M_cut_text [d] S = .ex ⟨"BadSign", [("offset", o)]⟩ S') : M__law_told [d] S = .ok (.obj S'.length) (S' ++ [.lst [.str "bad", o]]) := by
  have ht := try_ex h
  unfold M__law_told mFn B__law_told
  simp only [List.length_cons, List.length_nil, Nat.reduceAdd, if_true, List.map, List.replicate, List.cons_append, List.nil_append, Nat.reduceSub]
  have hn : ∀ S : Sto, fIs .non .non S = some (.bl true, S) := fun _ => rfl
  simp only [bind_ok, bind_ex, of_some, rs_ok, rs_ex, then_nx, then_rt, then_ex, then_bk, then_ct, mV0, mVs, mC_, m2_, m1_, mB_, kB_bl, mB1_, mNil_, mCons_, f1L_, f2L_, mTup_, mLst_, mCall_, mNotT_, mAndT_, mOrT_, mIf_, mAndV_, mOrV_, mNotV_, kAndV_bl, kOrV_bl, kNotV_bl, mSl_, mPart_, kPart_, mNoPart_, sSeq_, sSet_, sRet_, sIf_, sExpr_, sNil_, sBreak_, sCont_, e_lt, e_le, e_gt, e_ge, e_eqI, e_neI, e_eqS, e_neS, e_add, e_sub, List.set_cons_zero, List.set_cons_succ, kTu1, kTu2, kTu3, kTu4, kTu5, kLs0, kLs1, kLs2, kLs3, kLs4, kLs5, mM_, mM0_, sAsg_, sFor_, iRng_, iSeq_, ht, hn, if_true]
  rfl
theorem told_good {S S' : Sto} {t : List Nat} {ls : List (List Nat)} {ts : List Tk} (hl1 : ls.length < sizeLine) (hl2 : ts.length < sizeLine) (h : M_cut_text [sD t] S = .ok (.tup [.tup (ls.map sD), .tup (ts.map tkD)]) S') :
    ∃ (j : Nat) (X : Sto), M__law_told [sD t] S = .ok (.obj j) (S' ++ X) ∧ DueAt (S' ++ X) S'.length j (.good ls ts) := by
  have ht := try_ok h
  have hn : ∀ (ds : List D) (S : Sto), fIs (.tup ds) .non S = some (.bl false, S) := fun _ _ => rfl
  have hfl : ∀ (ds : List D) (S : Sto), fList2 (.tup ds) S = some (.obj S.length, S ++ [.lst ds]) := fun _ _ => rfl
  have en : ∀ ds : List D, (itFix ds).n = ds.length := fun _ => (rfl)
  obtain ⟨qs, T, z5, q1, q2⟩ := told_rows S' (some (sD t)) (some (.tup [.tup (ls.map sD), .tup (ts.map tkD)])) (some .non) none ts hl2 ts [] [] [] none rfl rfl .nil
  obtain ⟨z6, q3⟩ := told_lays (rSt S' qs T) (some (sD t)) (some (.tup [.tup (ls.map sD), .tup (ts.map tkD)])) (some .non) none (some (.obj S'.length)) z5 ls ls [] none rfl
  have e0 : rSt S' [] [] = S' ++ [.lst []] := rfl
  rw [e0] at q1
  unfold tB at q1
  simp only [List.length_nil] at q1 q3
  refine ⟨S'.length + 1 + (T.length + 1), .lst (qs.map fun q => D.obj (S'.length + 1 + q)) :: (T ++ [.lst (ls.map sD), .lst [.str "good", .obj (S'.length + 1 + T.length), .obj S'.length]]), ?_, ?_⟩
  · unfold M__law_told mFn B__law_told
    simp only [List.length_cons, List.length_nil, Nat.reduceAdd, if_true, List.map, List.replicate, List.cons_append, List.nil_append, Nat.reduceSub]
    simp only [bind_ok, bind_ex, of_some, rs_ok, rs_ex, then_nx, then_rt, then_ex, then_bk, then_ct, mV0, mVs, mC_, m2_, m1_, mB_, kB_bl, mB1_, mNil_, mCons_, f1L_, f2L_, mTup_, mLst_, mCall_, mNotT_, mAndT_, mOrT_, mIf_, mAndV_, mOrV_, mNotV_, kAndV_bl, kOrV_bl, kNotV_bl, mSl_, mPart_, kPart_, mNoPart_, sSeq_, sSet_, sRet_, sIf_, sExpr_, sNil_, sBreak_, sCont_, e_lt, e_le, e_gt, e_ge, e_eqI, e_neI, e_eqS, e_neS, e_add, e_sub, List.set_cons_zero, List.set_cons_succ, kTu1, kTu2, kTu3, kTu4, kTu5, kLs0, kLs1, kLs2, kLs3, kLs4, kLs5, mM_, mM0_, sAsg_, sFor_, iRng_, iSeq_, ht, hn, is_tt, e_lenT, List.length_cons, List.length_nil, dec2, Bool.not_true, Bool.false_eq_true, if_false, e_t0, e_t1, kSeqT, en, List.length_map, q1, q3, hfl, r_len, r_app, List.append_assoc, List.cons_append, List.nil_append, List.length_append, List.length_singleton]
    rfl
  · refine ⟨S'.length + 1 + T.length, S'.length, qs.map (S'.length + 1 + ·), by omega, by omega, Nat.le_refl _, ?_, ?_, ?_, ?_⟩
    · show (rSt S' qs (T ++ [_, _]))[_]? = _
      rw [r_T, List.getElem?_append_right (by omega), show T.length + 1 - T.length = 1 by omega]
      rfl
    · show (rSt S' qs (T ++ [_, _]))[_]? = _
      rw [r_T, List.getElem?_append_right (Nat.le_refl _), Nat.sub_self]
      rfl
    · show (rSt S' qs (T ++ [_, _]))[_]? = _
      rw [r_a, List.map_map]; rfl
    · refine q2.map fun q t hq => ⟨by omega, ?_⟩
      show (rSt S' qs (T ++ [_, _]))[_]? = _
      rw [r_T]
      exact get_app hq
end K00

namespace K00
open PySem PySem.Spec L2 Mi
/-! ### equality of cuttings -/
abbrev strP (l : List Nat) : PyData := .str (st l)
abbrev rowP (t : Tk) : PyData := .list [.str t.1, strP t.2.1, .int (t.2.2 : Int)]
def cutP : Cut → PyData
  | .bad p => .list [.str "bad", .int (p : Int)]
  | .good ls ts => .list [.str "good", .list (ls.map strP), .list (ts.map rowP)]
theorem toPs_strs {S : Sto} : ∀ (ls : List (List Nat)) (n : Nat), ls.length < n → toPs S n (ls.map sD) = some (ls.map strP)
  | _, 0, h => absurd h (Nat.not_lt_zero _)
  | [], n + 1, _ => rfl
  | l :: ls, n + 1, h => by
    have h' : ls.length < n := by simpa using h
    obtain ⟨m, rfl⟩ : ∃ m, n = m + 1 := ⟨n - 1, by omega⟩
    show (match toP S (m + 1) (sD l), toPs S (m + 1) (ls.map sD) with | some p, some ps => some (p :: ps) | _, _ => none) = _
    rw [toPs_strs ls (m + 1) h']
    rfl
theorem toPs_ints {S : Sto} : ∀ (ls : List Int) (n : Nat), ls.length < n → toPs S n (ls.map D.int) = some (ls.map PyData.int)
  | _, 0, h => absurd h (Nat.not_lt_zero _)
  | [], n + 1, _ => rfl
  | l :: ls, n + 1, h => by
    have h' : ls.length < n := by simpa using h
    obtain ⟨m, rfl⟩ : ∃ m, n = m + 1 := ⟨n - 1, by omega⟩
    show (match toP S (m + 1) (.int l), toPs S (m + 1) (ls.map D.int) with | some p, some ps => some (p :: ps) | _, _ => none) = _
    rw [toPs_ints ls (m + 1) h']
    rfl
theorem toP_lst {S : Sto} {j n : Nat} {ds : List D} {ps : List PyData} (h : S[j]? = some (.lst ds)) (h2 : toPs S n ds = some ps) : toP S (n + 1) (.obj j) = some (.list ps) := by
  have e0 : lstAt S j = some ds := by unfold lstAt; rw [h]
  show (match lstAt S j with | some ds => (toPs S n ds).map PyData.list | none => none) = _
  rw [e0]
  show (toPs S n ds).map PyData.list = _
  rw [h2]; rfl
theorem toP_row {S : Sto} {r n : Nat} {t : Tk} (h : S[r]? = some (.lst (rowD t))) : toP S (n + 5) (.obj r) = some (rowP t) := toP_lst h rfl
theorem toPs_rows {S : Sto} {n0 : Nat} : ∀ {rs : List Nat} {ts : List Tk} (n : Nat), ts.length + 5 < n → Al (fun r t => n0 ≤ r ∧ S[r]? = some (MO.lst (rowD t))) rs ts → toPs S n (rs.map D.obj) = some (ts.map rowP)
  | _, _, 0, h, _ => absurd h (Nat.not_lt_zero _)
  | _, _, n + 1, _, .nil => rfl
  | r :: rs, t :: ts, n + 1, h, .cons h1 h2 => by
    have h' : ts.length + 5 < n := by simp at h; omega
    obtain ⟨m, rfl⟩ : ∃ m, n = m + 5 := ⟨n - 5, by omega⟩
    show (match toP S (m + 5) (.obj r), toPs S (m + 5) (rs.map D.obj) with | some p, some ps => some (p :: ps) | _, _ => none) = _
    rw [toP_row h1.2, toPs_rows (m + 5) h' h2]
    rfl
theorem toP_due {S : Sto} {n0 j : Nat} {c : Cut} (h : DueAt S n0 j c) (hz : ∀ ls ts, c = .good ls ts → ls.length < 400000 ∧ ts.length < 400000) : toP S 1000000 (.obj j) = some (cutP c) := by
  cases c with
  | bad p => exact toP_lst (n := 999999) h.2 rfl
  | good ls ts =>
    obtain ⟨a, b, rs, _, _, _, h1, h2, h3, h4⟩ := h
    obtain ⟨z1, z2⟩ := hz ls ts rfl
    have e1 : toP S 999997 (.obj a) = some (.list (ls.map strP)) := toP_lst (n := 999996) h2 (toPs_strs ls _ (by omega))
    have e2 : toP S 999996 (.obj b) = some (.list (ts.map rowP)) := toP_lst (n := 999995) h3 (toPs_rows _ (by omega) h4)
    refine toP_lst (n := 999999) h1 ?_
    show (match toP S 999998 (.str "good"), (match toP S 999997 (.obj a), (match toP S 999996 (.obj b), toPs S 999996 [] with | some p, some ps => some (p :: ps) | _, _ => none) with | some p, some ps => some (p :: ps) | _, _ => none) with | some p, some ps => some (p :: ps) | _, _ => none) = _
    rw [e1, e2]
    rfl
mutual
theorem eqv_refl : ∀ p : PyData, p.canLay0 = true → PyData.eqv p p = true
  | .none, _ => by simp [PyData.eqv]
  | .bool b, _ => by simp [PyData.eqv]
  | .int i, _ => by simp [PyData.eqv]
  | .str x, _ => by simp [PyData.eqv]
  | .list xs, h => by
    unfold PyData.eqv
    exact eqvs_refl xs (by unfold PyData.canLay0 at h; exact h)
  | .tuple xs, h => by
    unfold PyData.eqv
    exact eqvs_refl xs (by unfold PyData.canLay0 at h; exact h)
  | .dict _, h => by unfold PyData.canLay0 at h; cases h
theorem eqvs_refl : ∀ ps : List PyData, PyData.canLayAll0 ps = true → PyData.eqvAll ps ps = true
  | [], _ => by simp [PyData.eqvAll]
  | p :: ps, h => by
    unfold PyData.canLayAll0 at h
    rw [Bool.and_eq_true] at h
    unfold PyData.eqvAll
    rw [eqv_refl p h.1, eqvs_refl ps h.2]; rfl
end
theorem eq_same {S : Sto} {d e : D} {p : PyData} (h1 : toP S 1000000 d = some p) (h2 : toP S 1000000 e = some p) (hs : SeqAt.shaped p = true) : eqD S d e = some true := by
  unfold eqD
  rw [h1, h2]
  show (if SeqAt.shaped p = true ∧ SeqAt.shaped p = true then some (PyData.eqv p p) else none) = _
  rw [if_pos ⟨hs, hs⟩, eqv_refl p (SeqAt.canLay_of_shaped hs)]
theorem eq_objs {S : Sto} {i j : Nat} {p : PyData} (h1 : toP S 1000000 (.obj i) = some p) (h2 : toP S 1000000 (.obj j) = some p) (hs : SeqAt.shaped p = true) : fEq (.obj i) (.obj j) S = some (.bl true, S) ∧ fNe (.obj i) (.obj j) S = some (.bl false, S) := by
  have h := eq_same h1 h2 hs
  unfold fEq fNe
  constructor
  · show (eqD S (.obj i) (.obj j)).map _ = _
    rw [h]; rfl
  · show (eqD S (.obj i) (.obj j)).map _ = _
    rw [h]; rfl
/-! shapes -/
def okL (l : List Nat) : Prop := ∀ c ∈ l, c < 1114112
theorem okS {l : List Nat} (h : okL l) : (strP l).canLay0 = true := by
  unfold PyData.canLay0 PyData.strOk
  rw [Array.all_eq_true]
  intro i hi
  have : (st l).cps[i] ∈ l := by simp
  exact decide_eq_true (h _ this)
theorem canAll : ∀ {ps : List PyData}, (∀ p ∈ ps, p.canLay0 = true) → PyData.canLayAll0 ps = true
  | [], _ => by simp [PyData.canLayAll0]
  | p :: ps, h => by
    unfold PyData.canLayAll0
    rw [h p (List.mem_cons_self ..), canAll fun q hq => h q (List.mem_cons_of_mem _ hq)]; rfl
theorem depAll {k : Nat} : ∀ {ps : List PyData}, (∀ p ∈ ps, p.depth ≤ k) → PyData.depthAll ps ≤ k
  | [], _ => by simp [PyData.depthAll]
  | p :: ps, h => by
    unfold PyData.depthAll
    exact Nat.max_le.mpr ⟨h p (List.mem_cons_self ..), depAll fun q hq => h q (List.mem_cons_of_mem _ hq)⟩
def CutOk : Cut → Prop
  | .bad _ => True
  | .good ls ts => ls.length < 400000 ∧ ts.length < 400000 ∧ (∀ l ∈ ls, okL l) ∧ ∀ t ∈ ts, okL t.2.1 ∧ (PyData.str t.1).canLay0 = true
theorem shaped_of {p : PyData} (h1 : p.canLay0 = true) (h2 : p.depth ≤ 64) : SeqAt.shaped p = true := by
  unfold SeqAt.shaped
  rw [h1, decide_eq_true h2]; rfl
theorem shaped_list {ps : List PyData} (h1 : ∀ p ∈ ps, p.canLay0 = true) (h2 : ∀ p ∈ ps, p.depth ≤ 60) : (PyData.list ps).canLay0 = true ∧ (PyData.list ps).depth ≤ 61 := by
  constructor
  · unfold PyData.canLay0; exact canAll h1
  · unfold PyData.depth; have := depAll h2; omega
theorem kBAD : (PyData.str "bad").canLay0 = true := by decide +kernel
theorem kGOOD : (PyData.str "good").canLay0 = true := by decide +kernel
theorem d0 {x : Str} : (PyData.str x).depth = 0 := by simp [PyData.depth]
theorem d0i {x : Int} : (PyData.int x).depth = 0 := by simp [PyData.depth]
theorem ci {x : Int} : (PyData.int x).canLay0 = true := by simp [PyData.canLay0]
theorem lays_ok {ls : List (List Nat)} (h : ∀ l ∈ ls, okL l) : (PyData.list (ls.map strP)).canLay0 = true ∧ (PyData.list (ls.map strP)).depth ≤ 1 := by
  constructor
  · unfold PyData.canLay0
    refine canAll fun p hp => ?_
    obtain ⟨l, hl, rfl⟩ := List.mem_map.mp hp
    exact okS (h l hl)
  · unfold PyData.depth
    have : PyData.depthAll (ls.map strP) ≤ 0 := depAll fun p hp => by
      obtain ⟨l, hl, rfl⟩ := List.mem_map.mp hp
      rw [d0]; exact Nat.le_refl _
    omega
theorem row_ok {t : Tk} (h1 : okL t.2.1) (h2 : (PyData.str t.1).canLay0 = true) : (rowP t).canLay0 = true ∧ (rowP t).depth ≤ 1 := by
  constructor
  · unfold PyData.canLay0
    refine canAll fun p hp => ?_
    simp only [List.mem_cons, List.not_mem_nil, or_false] at hp
    rcases hp with rfl | rfl | rfl
    · exact h2
    · exact okS h1
    · exact ci
  · unfold PyData.depth
    have : PyData.depthAll [.str t.1, strP t.2.1, .int (t.2.2 : Int)] ≤ 0 := depAll fun p hp => by
      simp only [List.mem_cons, List.not_mem_nil, or_false] at hp
      rcases hp with rfl | rfl | rfl
      · rw [d0]; exact Nat.le_refl _
      · rw [d0]; exact Nat.le_refl _
      · rw [d0i]; exact Nat.le_refl _
    omega
theorem cut_shaped {c : Cut} (h : CutOk c) : SeqAt.shaped (cutP c) = true := by
  cases c with
  | bad p =>
    refine shaped_of ?_ ?_
    · unfold cutP PyData.canLay0
      refine canAll fun q hq => ?_
      simp only [List.mem_cons, List.not_mem_nil, or_false] at hq
      rcases hq with rfl | rfl
      · exact kBAD
      · exact ci
    · unfold cutP PyData.depth
      have : PyData.depthAll [.str "bad", .int (p : Int)] ≤ 0 := depAll fun q hq => by
        simp only [List.mem_cons, List.not_mem_nil, or_false] at hq
        rcases hq with rfl | rfl
        · rw [d0]; exact Nat.le_refl _
        · rw [d0i]; exact Nat.le_refl _
      omega
  | good ls ts =>
    obtain ⟨_, _, h3, h4⟩ := h
    have hl := lays_ok h3
    have ht : (PyData.list (ts.map rowP)).canLay0 = true ∧ (PyData.list (ts.map rowP)).depth ≤ 2 := by
      constructor
      · unfold PyData.canLay0
        refine canAll fun p hp => ?_
        obtain ⟨t, htm, rfl⟩ := List.mem_map.mp hp
        exact (row_ok (h4 t htm).1 (h4 t htm).2).1
      · unfold PyData.depth
        have : PyData.depthAll (ts.map rowP) ≤ 1 := depAll fun p hp => by
          obtain ⟨t, htm, rfl⟩ := List.mem_map.mp hp
          exact (row_ok (h4 t htm).1 (h4 t htm).2).2
        omega
    refine shaped_of ?_ ?_
    · unfold cutP PyData.canLay0
      refine canAll fun q hq => ?_
      simp only [List.mem_cons, List.not_mem_nil, or_false] at hq
      rcases hq with rfl | rfl | rfl
      · exact kGOOD
      · exact hl.1
      · exact ht.1
    · unfold cutP PyData.depth
      have : PyData.depthAll [.str "good", .list (ls.map strP), .list (ts.map rowP)] ≤ 2 := depAll fun q hq => by
        simp only [List.mem_cons, List.not_mem_nil, or_false] at hq
        rcases hq with rfl | rfl | rfl
        · rw [d0]; omega
        · have := hl.2; omega
        · exact ht.2
      omega
theorem due_same {S : Sto} {n0 n1 i j : Nat} {c : Cut} (h : CutOk c) (h1 : DueAt S n0 i c) (h2 : DueAt S n1 j c) : fEq (.obj i) (.obj j) S = some (.bl true, S) ∧ fNe (.obj i) (.obj j) S = some (.bl false, S) := by
  have hz : ∀ ls ts, c = .good ls ts → ls.length < 400000 ∧ ts.length < 400000 := fun ls ts e => by
    subst e; exact ⟨h.1, h.2.1⟩
  exact eq_objs (toP_due h1 hz) (toP_due h2 hz) (cut_shaped h)
/-! what the cutting yields of a good text -/
theorem kWO : (PyData.str "word").canLay0 = true := by decide +kernel
theorem kNU : (PyData.str "number").canLay0 = true := by decide +kernel
theorem kSI : (PyData.str "sign").canLay0 = true := by decide +kernel
theorem tok_lay {l : List Nat} {k : Str} {m : Nat} (h : tok l = some (k, m)) : (PyData.str k).canLay0 = true := by
  cases l with
  | nil => cases h
  | cons c s =>
    unfold tok at h
    dsimp only at h
    split at h
    · cases h; exact kWO
    · split at h
      · cases h; exact kNU
      · split at h
        · split at h
          · cases h
          · cases h; exact kNU
        · split at h
          · cases h; exact kSI
          · split at h
            · cases h; exact kSI
            · cases h
theorem cutG_ok : ∀ (f o : Nat) (l : List Nat) (ls : List (List Nat)) (ts : List Tk), okL l → cutG f o l = .good ls ts → ls.length ≤ l.length + 1 ∧ ts.length ≤ l.length ∧ (∀ x ∈ ls, okL x) ∧ ∀ t ∈ ts, okL t.2.1 ∧ (PyData.str t.1).canLay0 = true
  | 0, o, l, ls, ts, hl, h => by cases h
  | f + 1, o, l, ls, ts, hl, h => by
    rw [cutG_s] at h
    have hd : okL (l.drop (lay false l).1) := fun c hc => hl c (List.mem_of_mem_drop hc)
    have ht0 : okL (l.take (lay false l).1) := fun c hc => hl c (List.mem_of_mem_take hc)
    split at h
    · cases h
    · split at h
      · cases h
        refine ⟨by simp, by simp, fun x hx => ?_, fun t ht => by simp at ht⟩
        rw [List.mem_singleton.mp hx]; exact ht0
      · cases ht : tok (l.drop (lay false l).1) with
        | none => rw [ht] at h; cases h
        | some km =>
          obtain ⟨k, m⟩ := km
          rw [ht] at h
          dsimp only at h
          have hm := tok_pos ht
          have hl2 : okL ((l.drop (lay false l).1).drop m) := fun c hc => hd c (List.mem_of_mem_drop hc)
          cases hc : cutG f (o + (lay false l).1 + m) ((l.drop (lay false l).1).drop m) with
          | bad p => rw [hc] at h; cases h
          | good ls' ts' =>
            rw [hc] at h
            cases h
            obtain ⟨i1, i2, i3, i4⟩ := cutG_ok f _ _ ls' ts' hl2 hc
            rw [List.length_drop] at hm i1 i2
            rw [List.length_drop] at i1 i2
            refine ⟨by simp; omega, by simp; omega, fun x hx => ?_, fun t htm => ?_⟩
            · rcases List.mem_cons.mp hx with z | z
              · rw [z]; exact ht0
              · exact i3 x z
            · rcases List.mem_cons.mp htm with z | z
              · rw [z]; exact ⟨fun c hc => hd c (List.mem_of_mem_take hc), tok_lay ht⟩
              · exact i4 t z
/-- a text that may be cut -/
def TextOk (t : List Nat) : Prop := t.length < 100000 ∧ okL t
abbrev cutOf (t : List Nat) : Cut := cutG (t.length + 1) 0 t
theorem cut_ok {t : List Nat} (h : TextOk t) : CutOk (cutOf t) := by
  cases hc : cutOf t with
  | bad p => exact True.intro
  | good ls ts =>
    obtain ⟨h1, h2, h3, h4⟩ := cutG_ok _ _ _ ls ts h.2 hc
    have := h.1
    exact ⟨by omega, by omega, h3, h4⟩
theorem TextOk.lt {t : List Nat} (h : TextOk t) : t.length < sizeLine := by rw [sizeLine_eq]; have := h.1; omega
theorem told (S : Sto) {t : List Nat} (h : TextOk t) : ∃ (j : Nat) (X : Sto), M__law_told [sD t] S = .ok (.obj j) (S ++ X) ∧ DueAt (S ++ X) S.length j (cutOf t) := by
  obtain ⟨T, hT⟩ := cut_text S t h.lt
  have ok := cut_ok h
  cases hc : cutOf t with
  | bad p =>
    rw [show cutG (t.length + 1) 0 t = cutOf t from rfl, hc] at hT
    refine ⟨(S ++ T).length, T ++ [.lst [.str "bad", nD p]], ?_, ?_, ?_⟩
    · rw [told_bad hT, List.append_assoc]
    · rw [List.length_append]; omega
    · rw [← List.append_assoc, last0]
  | good ls ts =>
    rw [show cutG (t.length + 1) 0 t = cutOf t from rfl, hc] at hT
    rw [hc] at ok
    obtain ⟨j, X, h1, h2⟩ := told_good (by rw [sizeLine_eq]; have := ok.1; omega) (by rw [sizeLine_eq]; have := ok.2.1; omega) hT
    refine ⟨j, T ++ X, by rw [h1, List.append_assoc], ?_⟩
    rw [List.append_assoc] at h2
    obtain ⟨a, b, rs, g1, g2, g3, g4, g5, g6, g7⟩ := h2
    rw [List.length_append] at g1 g2 g3 g7
    exact ⟨a, b, rs, by omega, by omega, by omega, g4, g5, g6, g7.mono fun r t q => ⟨by omega, q.2⟩⟩
end K00

namespace K00
open PySem PySem.Spec L2 Mi
/-! ### the pool -/
def PoolOk (S : Sto) (j : Nat) : Prop := ∃ ps : List Int, S[j]? = some (.lst (ps.map D.int)) ∧ ∀ p ∈ ps, 0 ≤ p
/-- S' behind S: all but the pool stands -/
structure Stp (j : Nat) (S S' : Sto) : Prop where
  len : S.length ≤ S'.length
  old : ∀ i, i ≠ j → i < S.length → S'[i]? = S[i]?
  pool : PoolOk S' j
theorem Stp.trans {j : Nat} {S S1 S2 : Sto} (a : Stp j S S1) (b : Stp j S1 S2) : Stp j S S2 := ⟨Nat.le_trans a.len b.len, fun i h1 h2 => (b.old i h1 (Nat.lt_of_lt_of_le h2 a.len)).trans (a.old i h1 h2), b.pool⟩
theorem get_lt {S : Sto} {i : Nat} {o : MO} (h : S[i]? = some o) : i < S.length := by
  rcases Nat.lt_or_ge i S.length with z | z
  · exact z
  · rw [List.getElem?_eq_none z] at h; cases h
theorem PoolOk.lt {S : Sto} {j : Nat} (h : PoolOk S j) : j < S.length := by obtain ⟨ps, h1, _⟩ := h; exact get_lt h1
theorem Stp.app {j : Nat} {S X : Sto} (h : PoolOk S j) : Stp j S (S ++ X) := by
  refine ⟨by simp, fun i _ hi => List.getElem?_append_left hi, ?_⟩
  obtain ⟨ps, h1, h2⟩ := h
  exact ⟨ps, get_app h1, h2⟩
theorem Stp.get {j i : Nat} {S S' : Sto} {o : MO} (a : Stp j S S') (h : S[i]? = some o) (hi : i ≠ j) : S'[i]? = some o := by rw [a.old i hi (get_lt h)]; exact h
theorem pick {S : Sto} {j m : Nat} (h : PoolOk S j) (hm : 0 < m) : ∃ (w : Nat) (S' : Sto), M__law_pick [.obj j, .int (m : Int)] S = .ok (nD w) S' ∧ w < m ∧ Stp j S S' ∧ S'.length = S.length := by
  obtain ⟨ps, h1, h2⟩ := h
  unfold M__law_pick mFn B__law_pick
  simp only [List.length_cons, List.length_nil, Nat.reduceAdd, if_true, List.map, List.replicate, List.cons_append, List.nil_append, Nat.reduceSub]
  rcases List.eq_nil_or_concat ps with rfl | ⟨qs, p, rfl⟩
  · refine ⟨0, S, ?_, hm, ⟨Nat.le_refl _, fun _ _ _ => rfl, [], h1, h2⟩, rfl⟩
    have hl : fLen (.obj j) S = some (.int (([] : List D).length : Int), S) := e_lenL h1
    simp only [bind_ok, bind_ex, of_some, rs_ok, rs_ex, then_nx, then_rt, then_ex, then_bk, then_ct, mV0, mVs, mC_, m2_, m1_, mB_, kB_bl, mB1_, mNil_, mCons_, f1L_, f2L_, mTup_, mLst_, mCall_, mNotT_, mAndT_, mOrT_, mIf_, mAndV_, mOrV_, mNotV_, kAndV_bl, kOrV_bl, kNotV_bl, mSl_, mPart_, kPart_, mNoPart_, sSeq_, sSet_, sRet_, sIf_, sExpr_, sNil_, sBreak_, sCont_, e_lt, e_le, e_gt, e_ge, e_eqI, e_neI, e_eqS, e_neS, e_add, e_sub, List.set_cons_zero, List.set_cons_succ, kTu1, kTu2, kTu3, kTu4, kTu5, kLs0, kLs1, kLs2, kLs3, kLs4, kLs5, mM_, mM0_, sAsg_, sFor_, iRng_, iSeq_, hl]
    rfl
  · rw [List.concat_eq_append] at h1 h2
    have hp : 0 ≤ p := h2 p (by simp)
    have hl : fLen (.obj j) S = some (.int (((qs ++ [p]).map D.int).length : Int), S) := e_lenL h1
    have hne : decide ((((qs ++ [p]).map D.int).length : Int) = 0) = false := decide_eq_false (by simp; omega)
    have hpop : fPop (.obj j) [] S = some (.int p, S.set j (.lst (qs.map D.int))) := by
      unfold fPop
      simp only [h1]
      simp
    have hlt := get_lt h1
    have hmod : ∀ S : Sto, fMod (.int p) (.int (m : Int)) S = some (nD (p.toNat % m), S) := fun S => by
      unfold fMod
      dsimp only
      rw [if_pos (by omega)]
      have : p % (m : Int) = ((p.toNat % m : Nat) : Int) := by
        have e : p = (p.toNat : Int) := by omega
        rw [e]; simp
      rw [this]
    have hint : ∀ S : Sto, fInt (.int p) S = some (.int p, S) := fun _ => rfl
    refine ⟨p.toNat % m, S.set j (.lst (qs.map D.int)), ?_, Nat.mod_lt _ hm, ⟨by simp, fun i hi _ => List.getElem?_set_ne (Ne.symm hi), qs, List.getElem?_set_self hlt, fun q hq => h2 q (by simp [hq])⟩, by simp⟩
    simp only [bind_ok, bind_ex, of_some, rs_ok, rs_ex, then_nx, then_rt, then_ex, then_bk, then_ct, mV0, mVs, mC_, m2_, m1_, mB_, kB_bl, mB1_, mNil_, mCons_, f1L_, f2L_, mTup_, mLst_, mCall_, mNotT_, mAndT_, mOrT_, mIf_, mAndV_, mOrV_, mNotV_, kAndV_bl, kOrV_bl, kNotV_bl, mSl_, mPart_, kPart_, mNoPart_, sSeq_, sSet_, sRet_, sIf_, sExpr_, sNil_, sBreak_, sCont_, e_lt, e_le, e_gt, e_ge, e_eqI, e_neI, e_eqS, e_neS, e_add, e_sub, List.set_cons_zero, List.set_cons_succ, kTu1, kTu2, kTu3, kTu4, kTu5, kLs0, kLs1, kLs2, kLs3, kLs4, kLs5, mM_, mM0_, sAsg_, sFor_, iRng_, iSeq_, hl, hne, Bool.false_eq_true, if_false, tyL h1, if_true, hpop, hint, hmod]
    rfl
def LAYS : List (List Nat) := [[], [32], [10], [32, 32], [35, 32, 97, 33, 66, 47, 10], [32, 35, 10], [10, 10, 32], [35, 95, 120, 35, 10, 35, 32, 10]]
theorem kE : ("" : Str) = st [] := by decide +kernel
theorem kY3 : ("  " : Str) = st [32, 32] := by decide +kernel
theorem kY4 : ("# a!B/\n" : Str) = st [35, 32, 97, 33, 66, 47, 10] := by decide +kernel
theorem kY5 : (" #\n" : Str) = st [32, 35, 10] := by decide +kernel
theorem kY6 : ("\n\n " : Str) = st [10, 10, 32] := by decide +kernel
theorem kY7 : ("#_x#\n# \n" : Str) = st [35, 95, 120, 35, 10, 35, 32, 10] := by decide +kernel
/-- one of a row of texts by a pick -/
theorem e_ixN {S : Sto} {i w : Nat} {ds : List D} {d : D} (h : S[i]? = some (.lst ds)) (h2 : ds[w]? = some d) : fIx (.obj i) (nD w) S = some (d, S) := e_ixL h h2
theorem layout {S : Sto} {j : Nat} (h : PoolOk S j) : ∃ (l : List Nat) (S' : Sto), M__law_layout [.obj j] S = .ok (sD l) S' ∧ l ∈ LAYS ∧ Stp j S S' := by
  have eL : [D.str (st []), .str (st [32]), .str (st [10]), .str (st [32, 32]), .str (st [35, 32, 97, 33, 66, 47, 10]), .str (st [32, 35, 10]), .str (st [10, 10, 32]), .str (st [35, 95, 120, 35, 10, 35, 32, 10])] = LAYS.map sD := rfl
  have hk : kLst (LAYS.map sD) S = .ok (.obj S.length) (S ++ [.lst (LAYS.map sD)]) := kLst_ (by rw [sizeLine_eq]; decide)
  obtain ⟨w, S', p1, p2, p3, p4⟩ := pick (Stp.app (X := [.lst (LAYS.map sD)]) h).pool (m := 8) (by omega)
  have hg : S'[S.length]? = some (.lst (LAYS.map sD)) := p3.get last0 (by have := h.lt; omega)
  have hw : w < LAYS.length := p2
  refine ⟨LAYS[w], S', ?_, List.getElem_mem hw, (Stp.app h).trans p3⟩
  have hd : (LAYS.map sD)[w]? = some (sD LAYS[w]) := by rw [List.getElem?_map, List.getElem?_eq_getElem hw]; rfl
  have p1' : M__law_pick [.obj j, .int 8] (S ++ [.lst (LAYS.map sD)]) = .ok (nD w) S' := p1
  unfold M__law_layout mFn B__law_layout
  simp only [List.length_cons, List.length_nil, Nat.reduceAdd, if_true, List.map, List.replicate, List.cons_append, List.nil_append, Nat.reduceSub]
  simp only [bind_ok, bind_ex, of_some, rs_ok, rs_ex, then_nx, then_rt, then_ex, then_bk, then_ct, mV0, mVs, mC_, m2_, m1_, mB_, kB_bl, mB1_, mNil_, mCons_, f1L_, f2L_, mTup_, mLst_, mCall_, mNotT_, mAndT_, mOrT_, mIf_, mAndV_, mOrV_, mNotV_, kAndV_bl, kOrV_bl, kNotV_bl, mSl_, mPart_, kPart_, mNoPart_, sSeq_, sSet_, sRet_, sIf_, sExpr_, sNil_, sBreak_, sCont_, e_lt, e_le, e_gt, e_ge, e_eqI, e_neI, e_eqS, e_neS, e_add, e_sub, List.set_cons_zero, List.set_cons_succ, kTu1, kTu2, kTu3, kTu4, kTu5, kLs0, kLs1, kLs2, kLs3, kLs4, kLs5, mM_, mM0_, sAsg_, sFor_, iRng_, iSeq_, kE, kSP, kNL, kY3, kY4, kY5, kY6, kY7, eL, hk, p1', e_ixN hg hd]
  rfl
end K00

namespace K00
open PySem PySem.Spec L2 Mi
theorem e_addL {S : Sto} {i j : Nat} {xs ys : List D} (h1 : S[i]? = some (.lst xs)) (h2 : S[j]? = some (.lst ys)) (hl : xs.length + ys.length ≤ sizeLine) : fAdd (.obj i) (.obj j) S = some (.obj S.length, S ++ [.lst (xs ++ ys)]) := by
  unfold fAdd
  simp only [h1, h2, if_pos hl]
theorem e_ixS {S : Sto} {l : List Nat} {w : Nat} (h : l.length ≤ sizeLine) (hw : w < l.length) : fIx (sD l) (nD w) S = some (sD [l[w]], S) := by
  have e : l = l.take w ++ l[w] :: l.drop (w + 1) := by simp
  have hlen : (l.take w).length = w := by simp; omega
  have := e_at (S := S) (pre := l.take w) (c := l[w]) (suf := l.drop (w + 1)) (by rw [← e]; exact h)
  rw [← e, hlen] at this
  exact this
theorem st_self (z : Str) : st z.cps.toList = z := by cases z; simp
theorem str_sD (z : Str) : (.str z : D) = sD z.cps.toList := by show D.str z = D.str (st z.cps.toList); rw [st_self]
theorem e_ixZ {S : Sto} {z : Str} {w : Nat} (h : z.length ≤ sizeLine) (hw : w < z.length) : ∃ c ∈ z.cps.toList, fIx (.str z) (nD w) S = some (sD [c], S) := by
  have hw' : w < z.cps.toList.length := by rw [Array.length_toList]; exact hw
  exact ⟨z.cps.toList[w], List.getElem_mem hw', by rw [str_sD]; exact e_ixS (by rw [Array.length_toList]; exact h) hw'⟩
/-- text constants whose signs are all small -/
def okZ (z : Str) : Bool := z.cps.toList.all fun c => decide (c < 1114112)
theorem okZ_ok {z : Str} (h : okZ z = true) : okL z.cps.toList := fun c hc => of_decide_eq_true (List.all_eq_true.mp h c hc)
def STR : Str := "!/_AZ@$&';?^`{|}~"
def STRL : List D := signsD STR ++ [.str "\t", .str "\\", .str "\""]
theorem strange (S : Sto) : ∃ (X : Sto) (i : Nat), M__law_strange [] S = .ok (.obj i) (S ++ X) ∧ S.length ≤ i ∧ (S ++ X)[i]? = some (.lst STRL) := by
  have hs : STR.length ≤ sizeLine := by rw [sizeLine_eq]; decide +kernel
  have hsl : (signsD STR).length = 17 := by unfold signsD; rw [List.length_map]; decide +kernel
  have h1 : ∀ S : Sto, fList2 (.str STR) S = some (.obj S.length, S ++ [.lst (signsD STR)]) := fun S => by
    unfold fList2
    exact if_pos hs
  have g0 : (S ++ [.lst (signsD STR), .lst [.str "\t", .str "\\", .str "\""]])[S.length]? = some (.lst (signsD STR)) := ga0
  have g1 : (S ++ [.lst (signsD STR), .lst [.str "\t", .str "\\", .str "\""]])[S.length + 1]? = some (.lst [.str "\t", .str "\\", .str "\""]) := ga1
  have ha := e_addL g0 g1 (by rw [sizeLine_eq, hsl]; decide)
  refine ⟨[.lst (signsD STR), .lst [.str "\t", .str "\\", .str "\""], .lst STRL], S.length + 2, ?_, by omega, ?_⟩
  · unfold M__law_strange mFn B__law_strange
    rw [show ("!/_AZ@$&';?^`{|}~" : Str) = STR from rfl]
    simp only [List.length_cons, List.length_nil, Nat.reduceAdd, if_true, List.map, List.replicate, List.cons_append, List.nil_append, Nat.reduceSub]
    simp only [bind_ok, bind_ex, of_some, rs_ok, rs_ex, then_nx, then_rt, then_ex, then_bk, then_ct, mV0, mVs, mC_, m2_, m1_, mB_, kB_bl, mB1_, mNil_, mCons_, f1L_, f2L_, mTup_, mLst_, mCall_, mNotT_, mAndT_, mOrT_, mIf_, mAndV_, mOrV_, mNotV_, kAndV_bl, kOrV_bl, kNotV_bl, mSl_, mPart_, kPart_, mNoPart_, sSeq_, sSet_, sRet_, sIf_, sExpr_, sNil_, sBreak_, sCont_, e_lt, e_le, e_gt, e_ge, e_eqI, e_neI, e_eqS, e_neS, e_add, e_sub, List.set_cons_zero, List.set_cons_succ, kTu1, kTu2, kTu3, kTu4, kTu5, kLs0, kLs1, kLs2, kLs3, kLs4, kLs5, mM_, mM0_, sAsg_, sFor_, iRng_, iSeq_, h1, List.length_append, List.length_singleton, List.append_assoc, List.cons_append, List.nil_append, ha]
    rfl
  · show (S ++ .lst _ :: .lst _ :: [.lst STRL])[_]? = _
    rw [List.getElem?_append_right (by omega), show S.length + 2 - S.length = 2 by omega]
    rfl
theorem strl_len : STRL.length = 20 := by unfold STRL signsD; rw [List.length_append, List.length_map]; decide +kernel
theorem strl_ok {w : Nat} (h : w < 20) : ∃ c, STRL[w]? = some (sD [c]) ∧ c < 1114112 := by
  have hall : ∀ d ∈ STRL, ∃ c, d = sD [c] ∧ c < 1114112 := by
    intro d hd
    rcases List.mem_append.mp hd with hd | hd
    · obtain ⟨c, hc, rfl⟩ := List.mem_map.mp hd
      exact ⟨c, rfl, okZ_ok (z := STR) (by decide +kernel) c hc⟩
    · simp only [List.mem_cons, List.not_mem_nil, or_false] at hd
      have k1 : ("\t" : Str) = st [9] := by decide +kernel
      have k2 : ("\\" : Str) = st [92] := by decide +kernel
      have k3 : ("\"" : Str) = st [34] := by decide +kernel
      rcases hd with rfl | rfl | rfl
      · exact ⟨9, by rw [k1], by decide⟩
      · exact ⟨92, by rw [k2], by decide⟩
      · exact ⟨34, by rw [k3], by decide⟩
  have hw : w < STRL.length := by rw [strl_len]; exact h
  obtain ⟨c, h1, h2⟩ := hall STRL[w] (List.getElem_mem hw)
  exact ⟨c, by rw [List.getElem?_eq_getElem hw, h1], h2⟩
def KW1 : List Str := ["record", "end", "procedure", "results", "asks", "gives", "falls", "as", "var", "do", "call", "if"]
def KW2 : List Str := ["then", "else", "while", "keep", "assert", "hold", "return", "and", "or", "not", "for", "all"]
def KW3 : List Str := ["some", "upto", "from", "to", "yes", "no", "int", "bool", "ints", "len", "new", "same"]
def KW : List Str := (KW1 ++ KW2) ++ KW3
theorem kept (S : Sto) : ∃ (X : Sto) (i : Nat), M__law_kept_words [] S = .ok (.obj i) (S ++ X) ∧ S.length ≤ i ∧ (S ++ X)[i]? = some (.lst (KW.map D.str)) := by
  have sz : ∀ l : List D, l.length ≤ 36 → l.length ≤ sizeLine := fun l h => by rw [sizeLine_eq]; omega
  have c1 : ∀ S : Sto, kLst (KW1.map D.str) S = .ok (.obj S.length) (S ++ [.lst (KW1.map D.str)]) := fun S => kLst_ (sz _ (by decide))
  have c2 : ∀ S : Sto, kLst (KW2.map D.str) S = .ok (.obj S.length) (S ++ [.lst (KW2.map D.str)]) := fun S => kLst_ (sz _ (by decide))
  have c3 : ∀ S : Sto, kLst (KW3.map D.str) S = .ok (.obj S.length) (S ++ [.lst (KW3.map D.str)]) := fun S => kLst_ (sz _ (by decide))
  have e1 : [D.str "record", .str "end", .str "procedure", .str "results", .str "asks", .str "gives", .str "falls", .str "as", .str "var", .str "do", .str "call", .str "if"] = KW1.map D.str := rfl
  have e2 : [D.str "then", .str "else", .str "while", .str "keep", .str "assert", .str "hold", .str "return", .str "and", .str "or", .str "not", .str "for", .str "all"] = KW2.map D.str := rfl
  have e3 : [D.str "some", .str "upto", .str "from", .str "to", .str "yes", .str "no", .str "int", .str "bool", .str "ints", .str "len", .str "new", .str "same"] = KW3.map D.str := rfl
  have a1 := e_addL (S := S ++ [.lst (KW1.map D.str), .lst (KW2.map D.str)]) ga0 ga1 (by rw [sizeLine_eq]; decide)
  have g0 : (S ++ [.lst (KW1.map D.str), .lst (KW2.map D.str), .lst (KW1.map D.str ++ KW2.map D.str), .lst (KW3.map D.str)])[S.length + 2]? = some (.lst (KW1.map D.str ++ KW2.map D.str)) := by
    rw [List.getElem?_append_right (by omega), show S.length + 2 - S.length = 2 by omega]; rfl
  have g1 : (S ++ [.lst (KW1.map D.str), .lst (KW2.map D.str), .lst (KW1.map D.str ++ KW2.map D.str), .lst (KW3.map D.str)])[S.length + 3]? = some (.lst (KW3.map D.str)) := by
    rw [List.getElem?_append_right (by omega), show S.length + 3 - S.length = 3 by omega]; rfl
  have a2 := e_addL g0 g1 (by rw [sizeLine_eq]; decide)
  have eKW : KW1.map D.str ++ KW2.map D.str ++ KW3.map D.str = KW.map D.str := by unfold KW; simp
  rw [eKW] at a2
  refine ⟨[.lst (KW1.map D.str), .lst (KW2.map D.str), .lst (KW1.map D.str ++ KW2.map D.str), .lst (KW3.map D.str), .lst (KW.map D.str)], S.length + 4, ?_, by omega, ?_⟩
  · have l1 : S.length + 1 + 1 = S.length + 2 := rfl
    simp only [List.length_append, List.length_cons, List.length_nil, Nat.zero_add, l1] at a1 a2
    unfold M__law_kept_words mFn B__law_kept_words
    simp only [List.length_cons, List.length_nil, Nat.reduceAdd, if_true, List.map_nil, List.replicate, List.cons_append, List.nil_append, Nat.reduceSub]
    simp only [bind_ok, bind_ex, of_some, rs_ok, rs_ex, then_nx, then_rt, then_ex, then_bk, then_ct, mV0, mVs, mC_, m2_, m1_, mB_, kB_bl, mB1_, mNil_, mCons_, f1L_, f2L_, mTup_, mLst_, mCall_, mNotT_, mAndT_, mOrT_, mIf_, mAndV_, mOrV_, mNotV_, kAndV_bl, kOrV_bl, kNotV_bl, mSl_, mPart_, kPart_, mNoPart_, sSeq_, sSet_, sRet_, sIf_, sExpr_, sNil_, sBreak_, sCont_, e_lt, e_le, e_gt, e_ge, e_eqI, e_neI, e_eqS, e_neS, e_add, e_sub, List.set_cons_zero, List.set_cons_succ, kTu1, kTu2, kTu3, kTu4, kTu5, kLs0, kLs1, kLs2, kLs3, kLs4, kLs5, mM_, mM0_, sAsg_, sFor_, iRng_, iSeq_, e1, e2, e3, c1, c2, c3, List.length_append, List.length_singleton, List.length_cons, List.length_nil, Nat.zero_add, List.append_assoc, List.cons_append, List.nil_append, a1, a2]
    rfl
  · show (S ++ _)[_]? = _
    rw [List.getElem?_append_right (by omega), show S.length + 4 - S.length = 4 by omega]
    rfl
end K00

namespace K00
open PySem PySem.Spec L2 Mi
def ABY : List Nat := [97, 98, 121, 122, 48, 49, 56, 57, 95]
theorem kABY : ("abyz0189_" : Str) = st ABY := by decide +kernel
theorem ok1 {c : Nat} (h : c < 1114112) : okL [c] := fun d hd => by rw [List.mem_singleton.mp hd]; exact h
theorem okapp {a b : List Nat} (h1 : okL a) (h2 : okL b) : okL (a ++ b) := fun c hc => (List.mem_append.mp hc).elim (h1 c) (h2 c)
theorem okget {l : List Nat} {w : Nat} (h : ∀ c ∈ l, c < 1114112) (hw : w < l.length) : l[w] < 1114112 := h _ (List.getElem_mem hw)
theorem aby_loop {j : Nat} (x1 x4 x5 : Option D) : ∀ (k i n : Nat) (txt : List Nat) (S : Sto) (z : Option D), n = i + k → txt.length + k ≤ 1000 → okL txt → PoolOk S j → ∃ (txt' : List Nat) (S' : Sto) (z' : Option D),
    forI (itRng 0 n) (gN 3) (sSet 2 (m2 fAdd (mV 2) (m2 fIx (mC (.str "abyz0189_")) (mCall M__law_pick (mCons (mV 0) (mCons (mC (.int 9)) mNil)))))) k i [some (.obj j), x1, some (sD txt), z, x4, x5] S = .nx [some (.obj j), x1, some (sD txt'), z', x4, x5] S' ∧ txt'.length = txt.length + k ∧ okL txt' ∧ Stp j S S'
  | 0, i, n, txt, S, z, hn, hl, ht, hp => by
    have : n = i := by omega
    subst this
    exact ⟨txt, S, z, by rw [fr_end], by simp, ht, ⟨Nat.le_refl _, fun _ _ _ => rfl, hp⟩⟩
  | k + 1, i, n, txt, S, z, hn, hl, ht, hp => by
    obtain ⟨w, S1, p1, p2, p3, _⟩ := pick hp (m := 9) (by omega)
    have p1' : M__law_pick [.obj j, .int 9] S = .ok (nD w) S1 := p1
    have hw : w < ABY.length := p2
    have hix : fIx (sD ABY) (nD w) S1 = some (sD [ABY[w]], S1) := e_ixS (by rw [sizeLine_eq]; decide) hw
    have hadd : fAdd (sD txt) (sD [ABY[w]]) S1 = some (sD (txt ++ [ABY[w]]), S1) := e_addS (by rw [sizeLine_eq]; simp; omega)
    obtain ⟨txt', S', z', q1, q2, q3, q4⟩ := aby_loop x1 x4 x5 k (i + 1) n (txt ++ [ABY[w]]) S1 (some (.int (0 + (i : Int)))) (by omega) (by simp; omega) (okapp ht (ok1 (okget (by decide) hw))) p3.pool
    refine ⟨txt', S', z', ?_, by rw [q2]; simp; omega, q3, p3.trans q4⟩
    rw [fr_nx (by omega) (env2 := [some (.obj j), x1, some (sD (txt ++ [ABY[w]])), some (.int (0 + (i : Int))), x4, x5]) (S2 := S1) ?_, q1]
    simp only [bind_ok, bind_ex, of_some, rs_ok, rs_ex, then_nx, then_rt, then_ex, then_bk, then_ct, mV0, mVs, mC_, m2_, m1_, mB_, kB_bl, mB1_, mNil_, mCons_, f1L_, f2L_, mTup_, mLst_, mCall_, mNotT_, mAndT_, mOrT_, mIf_, mAndV_, mOrV_, mNotV_, kAndV_bl, kOrV_bl, kNotV_bl, mSl_, mPart_, kPart_, mNoPart_, sSeq_, sSet_, sRet_, sIf_, sExpr_, sNil_, sBreak_, sCont_, e_lt, e_le, e_gt, e_ge, e_eqI, e_neI, e_eqS, e_neS, e_add, e_sub, List.set_cons_zero, List.set_cons_succ, kTu1, kTu2, kTu3, kTu4, kTu5, kLs0, kLs1, kLs2, kLs3, kLs4, kLs5, mM_, mM0_, sAsg_, sFor_, iRng_, iSeq_, kABY, p1', hix, hadd]
theorem piece {S : Sto} {j : Nat} (h : PoolOk S j) : ∃ (l : List Nat) (S' : Sto), M__law_piece [.obj j] S = .ok (sD l) S' ∧ l.length ≤ 20 ∧ okL l ∧ Stp j S S' := by
  have okLET : ∀ c ∈ LET, c < 1114112 := by decide
  have okFIG : ∀ c ∈ FIG, c < 1114112 := by decide
  have okSHO : ∀ c ∈ SHO, c < 1114112 := by decide
  obtain ⟨w, S1, p1, p2, p3, _⟩ := pick h (m := 15) (by omega)
  have p1' : M__law_pick [.obj j, .int 15] S = .ok (nD w) S1 := p1
  have hS1 := p3.pool
  unfold M__law_piece mFn B__law_piece
  simp only [List.length_cons, List.length_nil, Nat.reduceAdd, if_true, List.map, List.replicate, List.cons_append, List.nil_append, Nat.reduceSub]
  by_cases h4 : w < 4
  · have d4 : decide ((w : Int) < 4) = true := decide_eq_true (by omega)
    obtain ⟨c, S2, a1, a2, a3, _⟩ := pick hS1 (m := 26) (by omega)
    have a1' : M__law_pick [.obj j, .int 26] S1 = .ok (nD c) S2 := a1
    have hc : c < LET.length := a2
    have hix : fIx (sD LET) (nD c) S2 = some (sD [LET[c]], S2) := e_ixS (by rw [sizeLine_eq]; decide) hc
    obtain ⟨n, S3, b1, b2, b3, _⟩ := pick a3.pool (m := 4) (by omega)
    have b1' : M__law_pick [.obj j, .int 4] S2 = .ok (nD n) S3 := b1
    obtain ⟨txt, S4, z', q1, q2, q3, q4⟩ := aby_loop (j := j) (some (nD w)) none none n 0 n [LET[c]] S3 none (by omega) (by simp; omega) (ok1 (okget okLET hc)) b3.pool
    refine ⟨txt, S4, ?_, by rw [q2]; simp; omega, q3, ((p3.trans a3).trans b3).trans q4⟩
    have hr : kRngI [nD n] S3 = .ok (itRng 0 n) S3 := by
      rw [kRng1 (by omega), Int.toNat_natCast]
    have en : (itRng 0 n).n = n := (rfl)
    simp only [bind_ok, bind_ex, of_some, rs_ok, rs_ex, then_nx, then_rt, then_ex, then_bk, then_ct, mV0, mVs, mC_, m2_, m1_, mB_, kB_bl, mB1_, mNil_, mCons_, f1L_, f2L_, mTup_, mLst_, mCall_, mNotT_, mAndT_, mOrT_, mIf_, mAndV_, mOrV_, mNotV_, kAndV_bl, kOrV_bl, kNotV_bl, mSl_, mPart_, kPart_, mNoPart_, sSeq_, sSet_, sRet_, sIf_, sExpr_, sNil_, sBreak_, sCont_, e_lt, e_le, e_gt, e_ge, e_eqI, e_neI, e_eqS, e_neS, e_add, e_sub, List.set_cons_zero, List.set_cons_succ, kTu1, kTu2, kTu3, kTu4, kTu5, kLs0, kLs1, kLs2, kLs3, kLs4, kLs5, mM_, mM0_, sAsg_, sFor_, iRng_, iSeq_, p1', d4, if_true, kLET, a1', hix, b1', hr, en, q1]
    rfl
  · have d4 : decide ((w : Int) < 4) = false := decide_eq_false (by omega)
    by_cases h6 : w < 6
    · have d6 : decide ((w : Int) < 6) = true := decide_eq_true (by omega)
      obtain ⟨c, S2, a1, a2, a3, _⟩ := pick hS1 (m := 10) (by omega)
      have a1' : M__law_pick [.obj j, .int 10] S1 = .ok (nD c) S2 := a1
      have hc : c < FIG.length := a2
      have hix : fIx (sD FIG) (nD c) S2 = some (sD [FIG[c]], S2) := e_ixS (by rw [sizeLine_eq]; decide) hc
      refine ⟨[FIG[c]], S2, ?_, by simp, ok1 (okget okFIG hc), p3.trans a3⟩
      simp only [bind_ok, bind_ex, of_some, rs_ok, rs_ex, then_nx, then_rt, then_ex, then_bk, then_ct, mV0, mVs, mC_, m2_, m1_, mB_, kB_bl, mB1_, mNil_, mCons_, f1L_, f2L_, mTup_, mLst_, mCall_, mNotT_, mAndT_, mOrT_, mIf_, mAndV_, mOrV_, mNotV_, kAndV_bl, kOrV_bl, kNotV_bl, mSl_, mPart_, kPart_, mNoPart_, sSeq_, sSet_, sRet_, sIf_, sExpr_, sNil_, sBreak_, sCont_, e_lt, e_le, e_gt, e_ge, e_eqI, e_neI, e_eqS, e_neS, e_add, e_sub, List.set_cons_zero, List.set_cons_succ, kTu1, kTu2, kTu3, kTu4, kTu5, kLs0, kLs1, kLs2, kLs3, kLs4, kLs5, mM_, mM0_, sAsg_, sFor_, iRng_, iSeq_, p1', d4, d6, Bool.false_eq_true, if_false, if_true, kFIG, a1', hix]
      rfl
    · have d6 : decide ((w : Int) < 6) = false := decide_eq_false (by omega)
      by_cases h9 : w < 9
      · have d9 : decide ((w : Int) < 9) = true := decide_eq_true (by omega)
        obtain ⟨c, S2, a1, a2, a3, _⟩ := pick hS1 (m := 13) (by omega)
        have a1' : M__law_pick [.obj j, .int 13] S1 = .ok (nD c) S2 := a1
        have hc : c < SHO.length := a2
        have hix : fIx (sD SHO) (nD c) S2 = some (sD [SHO[c]], S2) := e_ixS (by rw [sizeLine_eq]; decide) hc
        refine ⟨[SHO[c]], S2, ?_, by simp, ok1 (okget okSHO hc), p3.trans a3⟩
        simp only [bind_ok, bind_ex, of_some, rs_ok, rs_ex, then_nx, then_rt, then_ex, then_bk, then_ct, mV0, mVs, mC_, m2_, m1_, mB_, kB_bl, mB1_, mNil_, mCons_, f1L_, f2L_, mTup_, mLst_, mCall_, mNotT_, mAndT_, mOrT_, mIf_, mAndV_, mOrV_, mNotV_, kAndV_bl, kOrV_bl, kNotV_bl, mSl_, mPart_, kPart_, mNoPart_, sSeq_, sSet_, sRet_, sIf_, sExpr_, sNil_, sBreak_, sCont_, e_lt, e_le, e_gt, e_ge, e_eqI, e_neI, e_eqS, e_neS, e_add, e_sub, List.set_cons_zero, List.set_cons_succ, kTu1, kTu2, kTu3, kTu4, kTu5, kLs0, kLs1, kLs2, kLs3, kLs4, kLs5, mM_, mM0_, sAsg_, sFor_, iRng_, iSeq_, p1', d4, d6, d9, Bool.false_eq_true, if_false, if_true, kSHO, a1', hix]
        rfl
      · have d9 : decide ((w : Int) < 9) = false := decide_eq_false (by omega)
        by_cases h10 : w = 9
        · have d10 : decide ((w : Int) = 9) = true := decide_eq_true (by omega)
          have eL : [D.str (st [61, 61]), .str (st [33, 61]), .str (st [60, 61]), .str (st [62, 61]), .str (st [47, 47])] = LON.map sD := rfl
          have hk : kLst (LON.map sD) S1 = .ok (.obj S1.length) (S1 ++ [.lst (LON.map sD)]) := kLst_ (by rw [sizeLine_eq]; decide)
          obtain ⟨c, S2, a1, a2, a3, _⟩ := pick (Stp.app (X := [.lst (LON.map sD)]) hS1).pool (m := 5) (by omega)
          have a1' : M__law_pick [.obj j, .int 5] (S1 ++ [.lst (LON.map sD)]) = .ok (nD c) S2 := a1
          have hc : c < LON.length := a2
          have hg : S2[S1.length]? = some (.lst (LON.map sD)) := a3.get last0 (by have := hS1.lt; omega)
          have hd : (LON.map sD)[c]? = some (sD LON[c]) := by rw [List.getElem?_map, List.getElem?_eq_getElem hc]; rfl
          have hall : ∀ x ∈ LON, x.length ≤ 20 ∧ ∀ y ∈ x, y < 1114112 := by decide
          refine ⟨LON[c], S2, ?_, (hall _ (List.getElem_mem hc)).1, (hall _ (List.getElem_mem hc)).2, (p3.trans (Stp.app hS1)).trans a3⟩
          simp only [bind_ok, bind_ex, of_some, rs_ok, rs_ex, then_nx, then_rt, then_ex, then_bk, then_ct, mV0, mVs, mC_, m2_, m1_, mB_, kB_bl, mB1_, mNil_, mCons_, f1L_, f2L_, mTup_, mLst_, mCall_, mNotT_, mAndT_, mOrT_, mIf_, mAndV_, mOrV_, mNotV_, kAndV_bl, kOrV_bl, kNotV_bl, mSl_, mPart_, kPart_, mNoPart_, sSeq_, sSet_, sRet_, sIf_, sExpr_, sNil_, sBreak_, sCont_, e_lt, e_le, e_gt, e_ge, e_eqI, e_neI, e_eqS, e_neS, e_add, e_sub, List.set_cons_zero, List.set_cons_succ, kTu1, kTu2, kTu3, kTu4, kTu5, kLs0, kLs1, kLs2, kLs3, kLs4, kLs5, mM_, mM0_, sAsg_, sFor_, iRng_, iSeq_, p1', d4, d6, d9, d10, Bool.false_eq_true, if_false, if_true, kE2, kN2, K00.kL2, kG2, kD2, eL, hk, a1', e_ixN hg hd]
          rfl
        · have d10 : decide ((w : Int) = 9) = false := decide_eq_false (by omega)
          by_cases h12 : w < 12
          · have d12 : decide ((w : Int) < 12) = true := decide_eq_true (by omega)
            obtain ⟨l, S2, a1, a2, a3⟩ := layout hS1
            have hall : ∀ x ∈ LAYS, x.length ≤ 20 ∧ ∀ y ∈ x, y < 1114112 := by decide
            refine ⟨l, S2, ?_, (hall _ a2).1, (hall _ a2).2, p3.trans a3⟩
            simp only [bind_ok, bind_ex, of_some, rs_ok, rs_ex, then_nx, then_rt, then_ex, then_bk, then_ct, mV0, mVs, mC_, m2_, m1_, mB_, kB_bl, mB1_, mNil_, mCons_, f1L_, f2L_, mTup_, mLst_, mCall_, mNotT_, mAndT_, mOrT_, mIf_, mAndV_, mOrV_, mNotV_, kAndV_bl, kOrV_bl, kNotV_bl, mSl_, mPart_, kPart_, mNoPart_, sSeq_, sSet_, sRet_, sIf_, sExpr_, sNil_, sBreak_, sCont_, e_lt, e_le, e_gt, e_ge, e_eqI, e_neI, e_eqS, e_neS, e_add, e_sub, List.set_cons_zero, List.set_cons_succ, kTu1, kTu2, kTu3, kTu4, kTu5, kLs0, kLs1, kLs2, kLs3, kLs4, kLs5, mM_, mM0_, sAsg_, sFor_, iRng_, iSeq_, p1', d4, d6, d9, d10, d12, Bool.false_eq_true, if_false, if_true, a1]
            rfl
          · have d12 : decide ((w : Int) < 12) = false := decide_eq_false (by omega)
            by_cases e12 : w = 12
            · have d0 : decide ((w : Int) = 12) = true := decide_eq_true (by omega)
              obtain ⟨X, i, k1, k2, k3⟩ := kept S1
              have hlen : fLen (.obj i) (S1 ++ X) = some (.int (((KW.map D.str).length : Nat) : Int), S1 ++ X) := e_lenL k3
              have hkl : (KW.map D.str).length = 36 := by decide
              rw [hkl] at hlen
              obtain ⟨c, S2, a1, a2, a3, _⟩ := pick (Stp.app (X := X) hS1).pool (m := 36) (by omega)
              have hc : c < KW.length := a2
              have hg : S2[i]? = some (.lst (KW.map D.str)) := a3.get k3 (by have := hS1.lt; omega)
              have hd : (KW.map D.str)[c]? = some (sD KW[c].cps.toList) := by rw [List.getElem?_map, List.getElem?_eq_getElem hc, ← str_sD]; rfl
              have hall : ∀ x ∈ KW, x.cps.toList.length ≤ 20 ∧ okZ x = true := by decide +kernel
              refine ⟨KW[c].cps.toList, S2, ?_, (hall _ (List.getElem_mem hc)).1, okZ_ok (hall _ (List.getElem_mem hc)).2, (p3.trans (Stp.app hS1)).trans a3⟩
              have k1' : mCall0 M__law_kept_words [some (.obj j), some (nD w), none, none, none, none] S1 = .ok (.obj i) (S1 ++ X) := by unfold mCall0 noEx; rw [k1]
              simp only [bind_ok, bind_ex, of_some, rs_ok, rs_ex, then_nx, then_rt, then_ex, then_bk, then_ct, mV0, mVs, mC_, m2_, m1_, mB_, kB_bl, mB1_, mNil_, mCons_, f1L_, f2L_, mTup_, mLst_, mCall_, mNotT_, mAndT_, mOrT_, mIf_, mAndV_, mOrV_, mNotV_, kAndV_bl, kOrV_bl, kNotV_bl, mSl_, mPart_, kPart_, mNoPart_, sSeq_, sSet_, sRet_, sIf_, sExpr_, sNil_, sBreak_, sCont_, e_lt, e_le, e_gt, e_ge, e_eqI, e_neI, e_eqS, e_neS, e_add, e_sub, List.set_cons_zero, List.set_cons_succ, kTu1, kTu2, kTu3, kTu4, kTu5, kLs0, kLs1, kLs2, kLs3, kLs4, kLs5, mM_, mM0_, sAsg_, sFor_, iRng_, iSeq_, p1', d4, d6, d9, d10, d12, d0, Bool.false_eq_true, if_false, if_true, k1', hlen, a1, e_ixN hg hd]
              rfl
            · have d0 : decide ((w : Int) = 12) = false := decide_eq_false (by omega)
              by_cases e13 : w = 13
              · have d1 : decide ((w : Int) = 13) = true := decide_eq_true (by omega)
                have d14 : decide ((w : Int) = 14) = false := decide_eq_false (by omega)
                obtain ⟨c, S2, a1, a2, a3, _⟩ := pick hS1 (m := 2) (by omega)
                have a1' : M__law_pick [.obj j, .int 2] S1 = .ok (nD c) S2 := a1
                by_cases hc : c = 1
                · have dc : decide ((c : Int) = 1) = true := decide_eq_true (by omega)
                  obtain ⟨X, i, k1, k2, k3⟩ := strange S2
                  obtain ⟨v, S3, b1, b2, b3, _⟩ := pick (Stp.app (X := X) a3.pool).pool (m := 20) (by omega)
                  have b1' : M__law_pick [.obj j, .int 20] (S2 ++ X) = .ok (nD v) S3 := b1
                  obtain ⟨ch, g1, g2⟩ := strl_ok b2
                  have hg : S3[i]? = some (.lst STRL) := b3.get k3 (by have := a3.pool.lt; omega)
                  have k1' : mCall0 M__law_strange [some (.obj j), some (nD w), none, none, none, none] S2 = .ok (.obj i) (S2 ++ X) := by unfold mCall0 noEx; rw [k1]
                  refine ⟨[ch], S3, ?_, by simp, ok1 g2, ((p3.trans a3).trans (Stp.app a3.pool)).trans b3⟩
                  simp only [bind_ok, bind_ex, of_some, rs_ok, rs_ex, then_nx, then_rt, then_ex, then_bk, then_ct, mV0, mVs, mC_, m2_, m1_, mB_, kB_bl, mB1_, mNil_, mCons_, f1L_, f2L_, mTup_, mLst_, mCall_, mNotT_, mAndT_, mOrT_, mIf_, mAndV_, mOrV_, mNotV_, kAndV_bl, kOrV_bl, kNotV_bl, mSl_, mPart_, kPart_, mNoPart_, sSeq_, sSet_, sRet_, sIf_, sExpr_, sNil_, sBreak_, sCont_, e_lt, e_le, e_gt, e_ge, e_eqI, e_neI, e_eqS, e_neS, e_add, e_sub, List.set_cons_zero, List.set_cons_succ, kTu1, kTu2, kTu3, kTu4, kTu5, kLs0, kLs1, kLs2, kLs3, kLs4, kLs5, mM_, mM0_, sAsg_, sFor_, iRng_, iSeq_, p1', d4, d6, d9, d10, d12, d0, d1, Bool.false_eq_true, if_false, if_true, a1', dc, k1', b1', e_ixN hg g1]
                  rfl
                · have dc : decide ((c : Int) = 1) = false := decide_eq_false (by omega)
                  refine ⟨[32], S2, ?_, by simp, ok1 (by decide), p3.trans a3⟩
                  simp only [bind_ok, bind_ex, of_some, rs_ok, rs_ex, then_nx, then_rt, then_ex, then_bk, then_ct, mV0, mVs, mC_, m2_, m1_, mB_, kB_bl, mB1_, mNil_, mCons_, f1L_, f2L_, mTup_, mLst_, mCall_, mNotT_, mAndT_, mOrT_, mIf_, mAndV_, mOrV_, mNotV_, kAndV_bl, kOrV_bl, kNotV_bl, mSl_, mPart_, kPart_, mNoPart_, sSeq_, sSet_, sRet_, sIf_, sExpr_, sNil_, sBreak_, sCont_, e_lt, e_le, e_gt, e_ge, e_eqI, e_neI, e_eqS, e_neS, e_add, e_sub, List.set_cons_zero, List.set_cons_succ, kTu1, kTu2, kTu3, kTu4, kTu5, kLs0, kLs1, kLs2, kLs3, kLs4, kLs5, mM_, mM0_, sAsg_, sFor_, iRng_, iSeq_, p1', d4, d6, d9, d10, d12, d0, d1, d14, Bool.false_eq_true, if_false, if_true, a1', dc, kSP]
                  rfl
              · have d1 : decide ((w : Int) = 13) = false := decide_eq_false (by omega)
                have d14 : decide ((w : Int) = 14) = true := decide_eq_true (by omega)
                obtain ⟨c, S2, a1, a2, a3, _⟩ := pick hS1 (m := 3) (by omega)
                have a1' : M__law_pick [.obj j, .int 3] S1 = .ok (nD c) S2 := a1
                by_cases hc : c = 2
                · have dc : decide ((c : Int) = 2) = true := decide_eq_true (by omega)
                  obtain ⟨X, i, k1, k2, k3⟩ := strange S2
                  obtain ⟨v, S3, b1, b2, b3, _⟩ := pick (Stp.app (X := X) a3.pool).pool (m := 20) (by omega)
                  have b1' : M__law_pick [.obj j, .int 20] (S2 ++ X) = .ok (nD v) S3 := b1
                  obtain ⟨ch, g1, g2⟩ := strl_ok b2
                  have hg : S3[i]? = some (.lst STRL) := b3.get k3 (by have := a3.pool.lt; omega)
                  have k1' : mCall0 M__law_strange [some (.obj j), some (nD w), none, none, none, none] S2 = .ok (.obj i) (S2 ++ X) := by unfold mCall0 noEx; rw [k1]
                  have kT : ("\t" : Str) = st [9] := by decide +kernel
                  have kA : ("A! x" : Str) = st [65, 33, 32, 120] := by decide +kernel
                  have hadd : fAdd (sD [32]) (sD [ch]) S3 = some (sD ([32] ++ [ch]), S3) := e_addS (by rw [sizeLine_eq]; simp)
                  obtain ⟨r, S4, r1, r2, r3, _⟩ := pick (Stp.app (X := [.lst [sD [], sD [9], sD [65, 33, 32, 120], sD ([32] ++ [ch])]]) b3.pool).pool (m := 4) (by omega)
                  have r1' : M__law_pick [.obj j, .int 4] (S3 ++ [.lst [sD [], sD [9], sD [65, 33, 32, 120], sD ([32] ++ [ch])]]) = .ok (nD r) S4 := r1
                  have hr : S4[S3.length]? = some (.lst ([[], [9], [65, 33, 32, 120], [32] ++ [ch]].map sD)) := r3.get last0 (by have := b3.pool.lt; omega)
                  have hrl : r < ([[], [9], [65, 33, 32, 120], [32] ++ [ch]] : List (List Nat)).length := r2
                  have hrd : ([[], [9], [65, 33, 32, 120], [32] ++ [ch]].map sD)[r]? = some (sD ([[], [9], [65, 33, 32, 120], [32] ++ [ch]] : List (List Nat))[r]) := by rw [List.getElem?_map, List.getElem?_eq_getElem hrl]; rfl
                  have hmem := List.getElem_mem hrl
                  generalize ([[], [9], [65, 33, 32, 120], [32] ++ [ch]] : List (List Nat))[r] = rm at *
                  have hrm : rm.length ≤ 4 ∧ okL rm := by
                    simp only [List.mem_cons, List.not_mem_nil, or_false] at hmem
                    rcases hmem with rfl | rfl | rfl | rfl
                    · exact ⟨by simp, fun c hc => by cases hc⟩
                    · exact ⟨by simp, ok1 (by decide)⟩
                    · exact ⟨by simp, by unfold okL; decide⟩
                    · exact ⟨by simp, okapp (ok1 (by decide)) (ok1 g2)⟩
                  have hadd2 : fAdd (sD [35]) (sD rm) S4 = some (sD ([35] ++ rm), S4) := e_addS (by rw [sizeLine_eq]; simp; omega)
                  obtain ⟨u, S5, u1, u2, u3, _⟩ := pick (Stp.app (X := [.lst [sD [], sD [10]]]) r3.pool).pool (m := 2) (by omega)
                  have u1' : M__law_pick [.obj j, .int 2] (S4 ++ [.lst [sD [], sD [10]]]) = .ok (nD u) S5 := u1
                  have hu : S5[S4.length]? = some (.lst ([[], [10]].map sD)) := u3.get last0 (by have := r3.pool.lt; omega)
                  have hul : u < ([[], [10]] : List (List Nat)).length := u2
                  have hud : ([[], [10]].map sD)[u]? = some (sD ([[], [10]] : List (List Nat))[u]) := by rw [List.getElem?_map, List.getElem?_eq_getElem hul]; rfl
                  have hmem2 := List.getElem_mem hul
                  generalize ([[], [10]] : List (List Nat))[u] = en at *
                  have hen : en.length ≤ 1 ∧ okL en := by
                    simp only [List.mem_cons, List.not_mem_nil, or_false] at hmem2
                    rcases hmem2 with rfl | rfl
                    · exact ⟨by simp, fun c hc => by cases hc⟩
                    · exact ⟨by simp, ok1 (by decide)⟩
                  have hadd3 : fAdd (sD ([35] ++ rm)) (sD en) S5 = some (sD (([35] ++ rm) ++ en), S5) := e_addS (by rw [sizeLine_eq]; simp; omega)
                  refine ⟨([35] ++ rm) ++ en, S5, ?_, by simp; omega, okapp (okapp (ok1 (by decide)) hrm.2) hen.2, (((((p3.trans a3).trans (Stp.app a3.pool)).trans b3).trans (Stp.app b3.pool)).trans r3).trans ((Stp.app r3.pool).trans u3)⟩
                  simp only [bind_ok, bind_ex, of_some, rs_ok, rs_ex, then_nx, then_rt, then_ex, then_bk, then_ct, mV0, mVs, mC_, m2_, m1_, mB_, kB_bl, mB1_, mNil_, mCons_, f1L_, f2L_, mTup_, mLst_, mCall_, mNotT_, mAndT_, mOrT_, mIf_, mAndV_, mOrV_, mNotV_, kAndV_bl, kOrV_bl, kNotV_bl, mSl_, mPart_, kPart_, mNoPart_, sSeq_, sSet_, sRet_, sIf_, sExpr_, sNil_, sBreak_, sCont_, e_lt, e_le, e_gt, e_ge, e_eqI, e_neI, e_eqS, e_neS, e_add, e_sub, List.set_cons_zero, List.set_cons_succ, kTu1, kTu2, kTu3, kTu4, kTu5, kLs0, kLs1, kLs2, kLs3, kLs4, kLs5, mM_, mM0_, sAsg_, sFor_, iRng_, iSeq_, p1', d4, d6, d9, d10, d12, d0, d1, d14, Bool.false_eq_true, if_false, if_true, a1', dc, k1', b1', e_ixN hg g1, kE, kT, kA, kSP, kHA, kNL, hadd, r1', e_ixN hr hrd, hadd2, u1', e_ixN hu hud, hadd3]
                  rfl
                · have dc : decide ((c : Int) = 2) = false := decide_eq_false (by omega)
                  refine ⟨[32], S2, ?_, by simp, ok1 (by decide), p3.trans a3⟩
                  simp only [bind_ok, bind_ex, of_some, rs_ok, rs_ex, then_nx, then_rt, then_ex, then_bk, then_ct, mV0, mVs, mC_, m2_, m1_, mB_, kB_bl, mB1_, mNil_, mCons_, f1L_, f2L_, mTup_, mLst_, mCall_, mNotT_, mAndT_, mOrT_, mIf_, mAndV_, mOrV_, mNotV_, kAndV_bl, kOrV_bl, kNotV_bl, mSl_, mPart_, kPart_, mNoPart_, sSeq_, sSet_, sRet_, sIf_, sExpr_, sNil_, sBreak_, sCont_, e_lt, e_le, e_gt, e_ge, e_eqI, e_neI, e_eqS, e_neS, e_add, e_sub, List.set_cons_zero, List.set_cons_succ, kTu1, kTu2, kTu3, kTu4, kTu5, kLs0, kLs1, kLs2, kLs3, kLs4, kLs5, mM_, mM0_, sAsg_, sFor_, iRng_, iSeq_, p1', d4, d6, d9, d10, d12, d0, d1, d14, Bool.false_eq_true, if_false, if_true, a1', dc, kSP]
                  rfl
end K00

namespace K00
open PySem PySem.Spec L2 Mi
theorem log_small {a : Int} (h : a.natAbs < 2 ^ 100) : a.natAbs.log2 < 400 := by
  by_cases h0 : a.natAbs = 0
  · rw [h0]; decide
  · have := (Nat.log2_lt h0 (k := 100)).mpr h
    omega
theorem e_mul {S : Sto} {a b : Int} (ha : a.natAbs < 2 ^ 100) (hb : b.natAbs < 2 ^ 100) : fMulA (.int a) (.int b) S = some (.int (a * b), S) := by
  show fMul (.int a) (.int b) S = _
  unfold fMul
  dsimp only
  rw [if_pos (by have := log_small ha; have := log_small hb; omega)]
theorem e_mod {S : Sto} {a b : Int} (hb : 0 < b) : fMod (.int a) (.int b) S = some (.int (a % b), S) := by
  unfold fMod; dsimp only; rw [if_pos hb]
theorem e_div {S : Sto} {a b : Int} (hb : 0 < b ∧ b.natAbs.log2 < 9000) : fDiv (.int a) (.int b) S = some (.int (a / b), S) := by
  unfold fDiv; dsimp only; rw [if_pos hb]
theorem e_int {S : Sto} {a : Int} : fInt (.int a) S = some (.int a, S) := (rfl)
def pS (ns : List Int) (ps : List Int) : Sto := [.fix (ns.map D.int), .lst (ps.map D.int)]
theorem pS1 {ns ps : List Int} : (pS ns ps)[1]? = some (.lst (ps.map D.int)) := rfl
theorem pS_app {ns ps : List Int} {p : Int} (h : ps.length < 100000) : fAppend (.obj 1) [.int p] (pS ns ps) = some (.non, pS ns (ps ++ [p])) := by
  rw [e_append pS1 (by rw [List.length_map, sizeLine_eq]; omega)]
  simp [pS]
def B1 : MS := (sIf (mB (m2 fGt (mV 3) (mC (.int 0))))
  (sSeq (sExpr (mM "list" fAppend (mV 1) (mCons (m2 fMod (mB1 (f1L fInt) (mCons (mV 3) mNil)) (mC (.int 30))) mNil)))
  (sSet 3 (m2 fDiv (mV 3) (mC (.int 30)))))
  sNil)
theorem pl1 (ns : List Int) (x0 x2 x5 : Option D) : ∀ (k i n : Nat) (cell : Int) (ps : List Int) (z : Option D), n = i + k → 0 ≤ cell → ps.length + k ≤ 50000 → (∀ p ∈ ps, 0 ≤ p) → ∃ (ps' : List Int) (cell' : Int) (z' : Option D),
    forI (itRng 0 n) (gN 4) B1 k i [x0, some (.obj 1), x2, some (.int cell), z, x5] (pS ns ps) = .nx [x0, some (.obj 1), x2, some (.int cell'), z', x5] (pS ns ps') ∧ (∀ p ∈ ps', 0 ≤ p) ∧ ps'.length ≤ ps.length + k
  | 0, i, n, cell, ps, z, hn, hc, hl, hp => by
    have : n = i := by omega
    subst this
    exact ⟨ps, cell, z, by rw [fr_end], hp, by omega⟩
  | k + 1, i, n, cell, ps, z, hn, hc, hl, hp => by
    by_cases h : 0 < cell
    · have d : decide (0 < cell) = true := decide_eq_true h
      obtain ⟨ps', cell', z', q1, q2, q3⟩ := pl1 ns x0 x2 x5 k (i + 1) n (cell / 30) (ps ++ [cell % 30]) (some (.int (0 + (i : Int)))) (by omega) (by omega) (by simp; omega) (fun p hpm => by
        rcases List.mem_append.mp hpm with hpm | hpm
        · exact hp p hpm
        · rw [List.mem_singleton.mp hpm]; omega)
      refine ⟨ps', cell', z', ?_, q2, by simp at q3; omega⟩
      rw [fr_nx (by omega) (env2 := [x0, some (.obj 1), x2, some (.int (cell / 30)), some (.int (0 + (i : Int))), x5]) (S2 := pS ns (ps ++ [cell % 30])) ?_, q1]
      unfold B1
      simp only [bind_ok, bind_ex, of_some, rs_ok, rs_ex, then_nx, then_rt, then_ex, then_bk, then_ct, mV0, mVs, mC_, m2_, m1_, mB_, kB_bl, mB1_, mNil_, mCons_, f1L_, f2L_, mTup_, mLst_, mCall_, mNotT_, mAndT_, mOrT_, mIf_, mAndV_, mOrV_, mNotV_, kAndV_bl, kOrV_bl, kNotV_bl, mSl_, mPart_, kPart_, mNoPart_, sSeq_, sSet_, sRet_, sIf_, sExpr_, sNil_, sBreak_, sCont_, e_lt, e_le, e_gt, e_ge, e_eqI, e_neI, e_eqS, e_neS, e_add, e_sub, List.set_cons_zero, List.set_cons_succ, kTu1, kTu2, kTu3, kTu4, kTu5, kLs0, kLs1, kLs2, kLs3, kLs4, kLs5, mM_, mM0_, sAsg_, sFor_, iRng_, iSeq_, d, if_true, tyL pS1, e_int, e_mod (show (0 : Int) < 30 by decide), pS_app (show ps.length < 100000 by omega), e_div (show (0 : Int) < 30 ∧ (30 : Int).natAbs.log2 < 9000 by decide)]
    · have d : decide (0 < cell) = false := decide_eq_false h
      obtain ⟨ps', cell', z', q1, q2, q3⟩ := pl1 ns x0 x2 x5 k (i + 1) n cell ps (some (.int (0 + (i : Int)))) (by omega) hc (by omega) hp
      refine ⟨ps', cell', z', ?_, q2, by omega⟩
      rw [fr_nx (by omega) (env2 := [x0, some (.obj 1), x2, some (.int cell), some (.int (0 + (i : Int))), x5]) (S2 := pS ns ps) ?_, q1]
      unfold B1
      simp only [bind_ok, bind_ex, of_some, rs_ok, rs_ex, then_nx, then_rt, then_ex, then_bk, then_ct, mV0, mVs, mC_, m2_, m1_, mB_, kB_bl, mB1_, mNil_, mCons_, f1L_, f2L_, mTup_, mLst_, mCall_, mNotT_, mAndT_, mOrT_, mIf_, mAndV_, mOrV_, mNotV_, kAndV_bl, kOrV_bl, kNotV_bl, mSl_, mPart_, kPart_, mNoPart_, sSeq_, sSet_, sRet_, sIf_, sExpr_, sNil_, sBreak_, sCont_, e_lt, e_le, e_gt, e_ge, e_eqI, e_neI, e_eqS, e_neS, e_add, e_sub, List.set_cons_zero, List.set_cons_succ, kTu1, kTu2, kTu3, kTu4, kTu5, kLs0, kLs1, kLs2, kLs3, kLs4, kLs5, mM_, mM0_, sAsg_, sFor_, iRng_, iSeq_, d, Bool.false_eq_true, if_false]
def B2 : MS := (sSeq (sSet 5 (m2 fMod (mB1 (f1L fInt) (mCons (m2 fAdd (m2 fAdd (m2 fAdd (m2 fMulA (mV 5) (mV 5)) (m2 fMulA (mV 4) (mC (.int 7919)))) (mV 2)) (mC (.int 11))) mNil)) (mC (.int 998244353))))
  (sExpr (mM "list" fAppend (mV 1) (mCons (m2 fDiv (mV 5) (mC (.int 13))) mNil))))
theorem pl2 (ns : List Int) (x0 x3 : Option D) (pl : Int) (hpl : 0 ≤ pl ∧ pl < 1000) : ∀ (k i n : Nat) (mx : Int) (ps : List Int) (z : Option D), n = i + k → n ≤ 1000 → 0 ≤ mx ∧ mx < 2000000000 → ps.length + k ≤ 50000 → (∀ p ∈ ps, 0 ≤ p) → ∃ (ps' : List Int) (mx' : Int) (z' : Option D),
    forI (itRng 0 n) (gN 4) B2 k i [x0, some (.obj 1), some (.int pl), x3, z, some (.int mx)] (pS ns ps) = .nx [x0, some (.obj 1), some (.int pl), x3, z', some (.int mx')] (pS ns ps') ∧ (∀ p ∈ ps', 0 ≤ p) ∧ ps'.length ≤ ps.length + k
  | 0, i, n, mx, ps, z, hn, h1, hm, hl, hp => by
    have : n = i := by omega
    subst this
    exact ⟨ps, mx, z, by rw [fr_end], hp, by omega⟩
  | k + 1, i, n, mx, ps, z, hn, h1, hm, hl, hp => by
    generalize hM : (mx * mx + (0 + (i : Int)) * 7919 + pl + 11) % 998244353 = M
    have hM1 : 0 ≤ M ∧ M < 998244353 := by omega
    obtain ⟨ps', mx', z', q1, q2, q3⟩ := pl2 ns x0 x3 pl hpl k (i + 1) n M (ps ++ [M / 13]) (some (.int (0 + (i : Int)))) (by omega) h1 (by omega) (by simp; omega) (fun p hpm => by
      rcases List.mem_append.mp hpm with hpm | hpm
      · exact hp p hpm
      · rw [List.mem_singleton.mp hpm]; omega)
    refine ⟨ps', mx', z', ?_, q2, by simp at q3; omega⟩
    have b1 : mx.natAbs < 2 ^ 100 := by have : (2 : Nat) ^ 100 = 1267650600228229401496703205376 := by decide
                                        omega
    have b2 : (0 + (i : Int)).natAbs < 2 ^ 100 := by have : (2 : Nat) ^ 100 = 1267650600228229401496703205376 := by decide
                                                     omega
    rw [fr_nx (by omega) (env2 := [x0, some (.obj 1), some (.int pl), x3, some (.int (0 + (i : Int))), some (.int M)]) (S2 := pS ns (ps ++ [M / 13])) ?_, q1]
    unfold B2
    simp only [bind_ok, bind_ex, of_some, rs_ok, rs_ex, then_nx, then_rt, then_ex, then_bk, then_ct, mV0, mVs, mC_, m2_, m1_, mB_, kB_bl, mB1_, mNil_, mCons_, f1L_, f2L_, mTup_, mLst_, mCall_, mNotT_, mAndT_, mOrT_, mIf_, mAndV_, mOrV_, mNotV_, kAndV_bl, kOrV_bl, kNotV_bl, mSl_, mPart_, kPart_, mNoPart_, sSeq_, sSet_, sRet_, sIf_, sExpr_, sNil_, sBreak_, sCont_, e_lt, e_le, e_gt, e_ge, e_eqI, e_neI, e_eqS, e_neS, e_add, e_sub, List.set_cons_zero, List.set_cons_succ, kTu1, kTu2, kTu3, kTu4, kTu5, kLs0, kLs1, kLs2, kLs3, kLs4, kLs5, mM_, mM0_, sAsg_, sFor_, iRng_, iSeq_, e_mul b1 b1, e_mul b2 (show (7919 : Int).natAbs < 2 ^ 100 by decide), e_int, e_mod (show (0 : Int) < 998244353 by decide), hM, tyL pS1, if_true, pS_app (show ps.length < 100000 by omega), e_div (show (0 : Int) < 13 ∧ (13 : Int).natAbs.log2 < 9000 by decide)]
end K00

namespace K00
open PySem PySem.Spec L2 Mi
def B0 : MS := (sSeq (sSet 3 (mB1 (f1L fInt) (mCons (m2 fIx (mV 0) (mV 2)) mNil)))
  (sSeq (sIf (mB (m2 fLt (mV 3) (mC (.int 0))))
  (sSet 3 (m2 fSub (mC (.int 3)) (mV 3)))
  sNil)
  (sIf (mB (m2 fGe (mV 3) (m2 fPow (mC (.int 10)) (mC (.int 18)))))
  (sFor (iRng (mCons (mC (.int 48)) mNil)) (gN 4) B1)
  (sSeq (sSet 5 (m2 fMod (mB1 (f1L fInt) (mCons (m2 fAdd (m2 fAdd (m2 fMulA (mV 3) (mC (.int 50021))) (m2 fMulA (mV 2) (mC (.int 30011)))) (mC (.int 17))) mNil)) (mC (.int 1000000007))))
  (sFor (iRng (mCons (mC (.int 5)) mNil)) (gN 4) B2)))))
theorem e_pow {S : Sto} : fPow (.int 10) (.int 18) S = some (.int 1000000000000000000, S) := by
  unfold fPow
  dsimp only
  rw [if_pos (by decide)]
  rfl
theorem pool_step (ns : List Int) (i : Nat) (hi : i < ns.length) (hi2 : i < 63) (x3 x4 x5 : Option D) (ps : List Int) (hl : ps.length ≤ 40000) (hp : ∀ p ∈ ps, 0 ≤ p) : ∃ (ps' : List Int) (y3 y4 y5 : Option D),
    B0 [some (.obj 0), some (.obj 1), some (.int (0 + (i : Int))), x3, x4, x5] (pS ns ps) = .nx [some (.obj 0), some (.obj 1), some (.int (0 + (i : Int))), y3, y4, y5] (pS ns ps') ∧ (∀ p ∈ ps', 0 ≤ p) ∧ ps'.length ≤ ps.length + 48 := by
  have hix : fIx (.obj 0) (.int (0 + (i : Int))) (pS ns ps) = some (.int ns[i], pS ns ps) := by
    rw [Int.zero_add]
    unfold fIx lstAt
    show (some (ns.map D.int)).bind _ = _
    show Option.map _ (atI (ns.map D.int) (i : Int)) = _
    unfold atI
    rw [ixN_nat (by simpa using hi)]
    simp [hi]
  have en : ∀ n : Nat, (itRng 0 n).n = n := fun _ => (rfl)
  have r48 : kRngI [.int 48] (pS ns ps) = .ok (itRng 0 48) (pS ns ps) := kRng1 (by decide)
  have r5 : kRngI [.int 5] (pS ns ps) = .ok (itRng 0 5) (pS ns ps) := kRng1 (by decide)
  -- from the cell on
  have rest : ∀ cell : Int, 0 ≤ cell → ∃ (ps' : List Int) (y3 y4 y5 : Option D),
      (sIf (mB (m2 fGe (mV 3) (m2 fPow (mC (.int 10)) (mC (.int 18)))))
  (sFor (iRng (mCons (mC (.int 48)) mNil)) (gN 4) B1)
  (sSeq (sSet 5 (m2 fMod (mB1 (f1L fInt) (mCons (m2 fAdd (m2 fAdd (m2 fMulA (mV 3) (mC (.int 50021))) (m2 fMulA (mV 2) (mC (.int 30011)))) (mC (.int 17))) mNil)) (mC (.int 1000000007))))
  (sFor (iRng (mCons (mC (.int 5)) mNil)) (gN 4) B2))) [some (.obj 0), some (.obj 1), some (.int (0 + (i : Int))), some (.int cell), x4, x5] (pS ns ps) = .nx [some (.obj 0), some (.obj 1), some (.int (0 + (i : Int))), y3, y4, y5] (pS ns ps') ∧ (∀ p ∈ ps', 0 ≤ p) ∧ ps'.length ≤ ps.length + 48 := fun cell hc => by
    by_cases h : 1000000000000000000 ≤ cell
    · have d : decide ((1000000000000000000 : Int) ≤ cell) = true := decide_eq_true h
      obtain ⟨ps', cell', z', q1, q2, q3⟩ := pl1 ns (some (.obj 0)) (some (.int (0 + (i : Int)))) x5 48 0 48 cell ps x4 (by omega) hc (by omega) hp
      refine ⟨ps', some (.int cell'), z', x5, ?_, q2, q3⟩
      simp only [bind_ok, bind_ex, of_some, rs_ok, rs_ex, then_nx, then_rt, then_ex, then_bk, then_ct, mV0, mVs, mC_, m2_, m1_, mB_, kB_bl, mB1_, mNil_, mCons_, f1L_, f2L_, mTup_, mLst_, mCall_, mNotT_, mAndT_, mOrT_, mIf_, mAndV_, mOrV_, mNotV_, kAndV_bl, kOrV_bl, kNotV_bl, mSl_, mPart_, kPart_, mNoPart_, sSeq_, sSet_, sRet_, sIf_, sExpr_, sNil_, sBreak_, sCont_, e_lt, e_le, e_gt, e_ge, e_eqI, e_neI, e_eqS, e_neS, e_add, e_sub, List.set_cons_zero, List.set_cons_succ, kTu1, kTu2, kTu3, kTu4, kTu5, kLs0, kLs1, kLs2, kLs3, kLs4, kLs5, mM_, mM0_, sAsg_, sFor_, iRng_, iSeq_, e_pow, d, if_true, r48, en, q1]
    · have d : decide ((1000000000000000000 : Int) ≤ cell) = false := decide_eq_false h
      have b1 : cell.natAbs < 2 ^ 100 := by have : (2 : Nat) ^ 100 = 1267650600228229401496703205376 := by decide
                                            omega
      have b2 : (0 + (i : Int)).natAbs < 2 ^ 100 := by have : (2 : Nat) ^ 100 = 1267650600228229401496703205376 := by decide
                                                       omega
      generalize hM : (cell * 50021 + (0 + (i : Int)) * 30011 + 17) % 1000000007 = M
      have hM1 : 0 ≤ M ∧ M < 2000000000 := by omega
      obtain ⟨ps', mx', z', q1, q2, q3⟩ := pl2 ns (some (.obj 0)) (some (.int cell)) (0 + (i : Int)) (by omega) 5 0 5 M ps x4 (by omega) (by omega) hM1 (by omega) hp
      refine ⟨ps', some (.int cell), z', some (.int mx'), ?_, q2, by omega⟩
      simp only [bind_ok, bind_ex, of_some, rs_ok, rs_ex, then_nx, then_rt, then_ex, then_bk, then_ct, mV0, mVs, mC_, m2_, m1_, mB_, kB_bl, mB1_, mNil_, mCons_, f1L_, f2L_, mTup_, mLst_, mCall_, mNotT_, mAndT_, mOrT_, mIf_, mAndV_, mOrV_, mNotV_, kAndV_bl, kOrV_bl, kNotV_bl, mSl_, mPart_, kPart_, mNoPart_, sSeq_, sSet_, sRet_, sIf_, sExpr_, sNil_, sBreak_, sCont_, e_lt, e_le, e_gt, e_ge, e_eqI, e_neI, e_eqS, e_neS, e_add, e_sub, List.set_cons_zero, List.set_cons_succ, kTu1, kTu2, kTu3, kTu4, kTu5, kLs0, kLs1, kLs2, kLs3, kLs4, kLs5, mM_, mM0_, sAsg_, sFor_, iRng_, iSeq_, e_pow, d, Bool.false_eq_true, if_false, e_mul b1 (show (50021 : Int).natAbs < 2 ^ 100 by decide), e_mul b2 (show (30011 : Int).natAbs < 2 ^ 100 by decide), e_int, e_mod (show (0 : Int) < 1000000007 by decide), hM, r5, en, q1]
  by_cases hneg : ns[i] < 0
  · have d : decide (ns[i] < 0) = true := decide_eq_true hneg
    obtain ⟨ps', y3, y4, y5, q1, q2, q3⟩ := rest (3 - ns[i]) (by omega)
    refine ⟨ps', y3, y4, y5, ?_, q2, q3⟩
    rw [← q1]
    unfold B0
    simp only [bind_ok, bind_ex, of_some, rs_ok, rs_ex, then_nx, then_rt, then_ex, then_bk, then_ct, mV0, mVs, mC_, m2_, m1_, mB_, kB_bl, mB1_, mNil_, mCons_, f1L_, f2L_, mTup_, mLst_, mCall_, mNotT_, mAndT_, mOrT_, mIf_, mAndV_, mOrV_, mNotV_, kAndV_bl, kOrV_bl, kNotV_bl, mSl_, mPart_, kPart_, mNoPart_, sSeq_, sSet_, sRet_, sIf_, sExpr_, sNil_, sBreak_, sCont_, e_lt, e_le, e_gt, e_ge, e_eqI, e_neI, e_eqS, e_neS, e_add, e_sub, List.set_cons_zero, List.set_cons_succ, kTu1, kTu2, kTu3, kTu4, kTu5, kLs0, kLs1, kLs2, kLs3, kLs4, kLs5, mM_, mM0_, sAsg_, sFor_, iRng_, iSeq_, hix, e_int, d, if_true]
  · have d : decide (ns[i] < 0) = false := decide_eq_false hneg
    obtain ⟨ps', y3, y4, y5, q1, q2, q3⟩ := rest ns[i] (by omega)
    refine ⟨ps', y3, y4, y5, ?_, q2, q3⟩
    rw [← q1]
    unfold B0
    simp only [bind_ok, bind_ex, of_some, rs_ok, rs_ex, then_nx, then_rt, then_ex, then_bk, then_ct, mV0, mVs, mC_, m2_, m1_, mB_, kB_bl, mB1_, mNil_, mCons_, f1L_, f2L_, mTup_, mLst_, mCall_, mNotT_, mAndT_, mOrT_, mIf_, mAndV_, mOrV_, mNotV_, kAndV_bl, kOrV_bl, kNotV_bl, mSl_, mPart_, kPart_, mNoPart_, sSeq_, sSet_, sRet_, sIf_, sExpr_, sNil_, sBreak_, sCont_, e_lt, e_le, e_gt, e_ge, e_eqI, e_neI, e_eqS, e_neS, e_add, e_sub, List.set_cons_zero, List.set_cons_succ, kTu1, kTu2, kTu3, kTu4, kTu5, kLs0, kLs1, kLs2, kLs3, kLs4, kLs5, mM_, mM0_, sAsg_, sFor_, iRng_, iSeq_, hix, e_int, d, Bool.false_eq_true, if_false]
theorem pool_loop (ns : List Int) : ∀ (k i n : Nat) (ps : List Int) (x2 x3 x4 x5 : Option D), n = i + k → n ≤ ns.length → n ≤ 63 → ps.length ≤ 48 * i → (∀ p ∈ ps, 0 ≤ p) → ∃ (ps' : List Int) (y2 y3 y4 y5 : Option D),
    forI (itRng 0 n) (gN 2) B0 k i [some (.obj 0), some (.obj 1), x2, x3, x4, x5] (pS ns ps) = .nx [some (.obj 0), some (.obj 1), y2, y3, y4, y5] (pS ns ps') ∧ (∀ p ∈ ps', 0 ≤ p)
  | 0, i, n, ps, x2, x3, x4, x5, hn, h1, h2, hl, hp => by
    have : n = i := by omega
    subst this
    exact ⟨ps, x2, x3, x4, x5, by rw [fr_end], hp⟩
  | k + 1, i, n, ps, x2, x3, x4, x5, hn, h1, h2, hl, hp => by
    obtain ⟨ps1, y3, y4, y5, q1, q2, q3⟩ := pool_step ns i (by omega) (by omega) x3 x4 x5 ps (by omega) hp
    obtain ⟨ps', z2, z3, z4, z5, r1, r2⟩ := pool_loop ns k (i + 1) n ps1 (some (.int (0 + (i : Int)))) y3 y4 y5 (by omega) h1 h2 (by omega) q2
    refine ⟨ps', z2, z3, z4, z5, ?_, r2⟩
    rw [fr_nx (by omega) q1, r1]
theorem pool (ns : List Int) (hn : ns.length ≤ 63) : ∃ S' : Sto, M__law_pool [.obj 0] (script0 ns) = .ok (.obj 1) S' ∧ PoolOk S' 1 := by
  have en : ∀ n : Nat, (itRng 0 n).n = n := fun _ => (rfl)
  have hlen : ∀ S : Sto, fLen (.obj 0) (.fix (ns.map D.int) :: S) = some (.int (ns.length : Int), .fix (ns.map D.int) :: S) := fun S => by
    show some (D.int ((ns.map D.int).length : Int), _) = _
    rw [List.length_map]
  have hmin : ∀ S : Sto, fMin2 (.int (ns.length : Int)) (.int 63) S = some (.int (ns.length : Int), S) := fun S => by
    show some (D.int (if (63 : Int) < (ns.length : Int) then 63 else (ns.length : Int)), S) = _
    rw [if_neg (by omega)]
  have hr : ∀ S : Sto, kRngI [.int (ns.length : Int)] S = .ok (itRng 0 ns.length) S := fun S => by
    rw [kRng1 (by omega), Int.toNat_natCast]
  obtain ⟨ps, y2, y3, y4, y5, q1, q2⟩ := pool_loop ns ns.length 0 ns.length [] none none none none (by omega) (Nat.le_refl _) hn (by simp) (fun p h => by cases h)
  have e0 : pS ns [] = [.fix (ns.map D.int), .lst []] := rfl
  rw [e0] at q1
  have hrev : fReverse (.obj 1) [] (pS ns ps) = some (.non, pS ns ps.reverse) := by
    unfold fReverse
    simp only [pS1]
    simp [pS]
  refine ⟨pS ns ps.reverse, ?_, ps.reverse, rfl, fun p hp => q2 p (List.mem_reverse.mp hp)⟩
  unfold script0 M__law_pool mFn B__law_pool
  unfold B0 B1 B2 at q1
  simp only [List.length_cons, List.length_nil, Nat.reduceAdd, if_true, List.map_cons, List.map_nil, List.replicate, List.cons_append, List.nil_append, Nat.reduceSub]
  simp only [bind_ok, bind_ex, of_some, rs_ok, rs_ex, then_nx, then_rt, then_ex, then_bk, then_ct, mV0, mVs, mC_, m2_, m1_, mB_, kB_bl, mB1_, mNil_, mCons_, f1L_, f2L_, mTup_, mLst_, mCall_, mNotT_, mAndT_, mOrT_, mIf_, mAndV_, mOrV_, mNotV_, kAndV_bl, kOrV_bl, kNotV_bl, mSl_, mPart_, kPart_, mNoPart_, sSeq_, sSet_, sRet_, sIf_, sExpr_, sNil_, sBreak_, sCont_, e_lt, e_le, e_gt, e_ge, e_eqI, e_neI, e_eqS, e_neS, e_add, e_sub, List.set_cons_zero, List.set_cons_succ, kTu1, kTu2, kTu3, kTu4, kTu5, kLs0, kLs1, kLs2, kLs3, kLs4, kLs5, mM_, mM0_, sAsg_, sFor_, iRng_, iSeq_, List.cons_append, List.nil_append, hlen, hmin, hr, en, q1, tyL pS1, if_true, hrev, List.length_cons, List.length_nil]
  rfl
end K00

namespace K00
open PySem PySem.Spec L2 Mi
theorem mLc_ {a : MI} {g : MG} {t : MT} {e : ME} {vs : List Nat} {env : Mi.Env} {S : Sto} : mLc a g t e vs env S = (a env S).bind (kLc g t e vs env) := (rfl)
theorem lcI_end {it : MIt} {g : MG} {t : MT} {e : ME} {j k i : Nat} {env : Mi.Env} {S : Sto} (h : it.f i S = some none) : lcI it g t e j k i env S = .ok (.obj j) S := by
  cases k <;> (unfold lcI; simp only [h])
theorem lcI_nx {it : MIt} {e : ME} {j k i v : Nat} {env : Mi.Env} {S S3 : Sto} {d y : D} {acc : List D} (h : it.f i S = some (some d)) (he : e (env.set v (some d)) S = .ok y S3) (h3 : S3[j]? = some (.lst acc)) (hl : acc.length < sizeLine) :
    lcI it (gN v) tAll e j (k + 1) i env S = lcI it (gN v) tAll e j k (i + 1) env (S3.set j (.lst (acc ++ [y]))) := by
  rw [lcI]
  simp only [h, gN, tAll, noEx, bind_ok, if_true, he, h3, if_pos hl]
section
variable {it : MIt} {e : ME} {v : Nat} {vs : List Nat} {env : Mi.Env} {S : Sto} {ds : List D} {f : D → D}
theorem lc_loop (h1 : ∀ acc i d, ds[i]? = some d → it.f i (S ++ [.lst acc]) = some (some d)) (h2 : ∀ acc, it.f ds.length (S ++ [.lst acc]) = some none)
    (hf : ∀ acc d, d ∈ ds → e (env.set v (some d)) (S ++ [.lst acc]) = .ok (f d) (S ++ [.lst acc])) (hl : ds.length ≤ sizeLine) : ∀ (suf pre : List D), ds = pre ++ suf → lcI it (gN v) tAll e S.length suf.length pre.length env (S ++ [.lst (pre.map f)]) = .ok (.obj S.length) (S ++ [.lst (ds.map f)])
  | [], pre, he => by
    rw [List.append_nil] at he
    subst he
    exact lcI_end (h2 _)
  | d :: suf, pre, he => by
    have hg : ds[pre.length]? = some d := by rw [he]; simp
    have hm : d ∈ ds := by rw [he]; simp
    have hlen : ds.length = pre.length + (suf.length + 1) := by rw [he]; simp
    rw [show (d :: suf).length = suf.length + 1 from rfl, lcI_nx (h1 _ _ _ hg) (hf _ _ hm) last0 (by rw [List.length_map]; omega)]
    have := lc_loop h1 h2 hf hl suf (pre ++ [d]) (by rw [he]; simp)
    rw [List.length_append] at this
    rw [show (S ++ [MO.lst (pre.map f)]).set S.length (.lst (pre.map f ++ [f d])) = S ++ [.lst ((pre ++ [d]).map f)] by rw [sa0]; simp]
    exact this
theorem lc_pure (h1 : ∀ acc i d, ds[i]? = some d → it.f i (S ++ [.lst acc]) = some (some d)) (h2 : ∀ acc, it.f ds.length (S ++ [.lst acc]) = some none) (hn : it.n = ds.length)
    (hf : ∀ acc d, d ∈ ds → e ((wipeE env vs).set v (some d)) (S ++ [.lst acc]) = .ok (f d) (S ++ [.lst acc])) (hl : ds.length ≤ sizeLine) : kLc (gN v) tAll e vs env it S = .ok (.obj S.length) (S ++ [.lst (ds.map f)]) := by
  unfold kLc
  rw [hn]
  have := lc_loop (env := wipeE env vs) h1 h2 hf hl ds [] rfl
  exact this
/-- over a tuple -/
theorem lc_fix (hf : ∀ acc d, d ∈ ds → e ((wipeE env vs).set v (some d)) (S ++ [.lst acc]) = .ok (f d) (S ++ [.lst acc])) (hl : ds.length ≤ sizeLine) : kLc (gN v) tAll e vs env (itFix ds) S = .ok (.obj S.length) (S ++ [.lst (ds.map f)]) :=
  lc_pure (fun acc i d h => by show some (ds[i]?) = _; rw [h]) (fun acc => by show some (ds[ds.length]?) = _; simp) rfl hf hl
/-- over a list of the store -/
theorem lc_lst {j : Nat} (hj : S[j]? = some (.lst ds)) (hf : ∀ acc d, d ∈ ds → e ((wipeE env vs).set v (some d)) (S ++ [.lst acc]) = .ok (f d) (S ++ [.lst acc])) (hl : ds.length ≤ sizeLine) : kLc (gN v) tAll e vs env (itLst ds.length j) S = .ok (.obj S.length) (S ++ [.lst (ds.map f)]) :=
  lc_pure (fun acc i d h => fl_at (get_app hj) h) (fun acc => by
    show (lstAt (S ++ [.lst acc]) j).map _ = some none
    unfold lstAt
    rw [get_app hj]; simp) rfl hf hl
end
/-- the texts of the tokens -/
abbrev txs (ts : List Tk) : List (List Nat) := ts.map fun t => t.2.1
theorem token_texts (S : Sto) {t : List Nat} (h : TextOk t) : ∃ X : Sto, M_token_texts [sD t] S = (match cutOf t with
      | .bad p => .ex (exBS p) (S ++ X)
      | .good ls ts => .ok (.tup ((txs ts).map sD)) (S ++ X)) := by
  obtain ⟨T, hT⟩ := cut_text S t h.lt
  have ok := cut_ok h
  unfold M_token_texts mFn B_token_texts
  simp only [List.length_cons, List.length_nil, Nat.reduceAdd, if_true, List.map, List.replicate, List.cons_append, List.nil_append, Nat.reduceSub]
  rw [show cutG (t.length + 1) 0 t = cutOf t from rfl] at hT
  cases hc : cutOf t with
  | bad p =>
    rw [hc] at hT
    refine ⟨T, ?_⟩
    simp only [bind_ok, bind_ex, of_some, rs_ok, rs_ex, then_nx, then_rt, then_ex, then_bk, then_ct, mV0, mVs, mC_, m2_, m1_, mB_, kB_bl, mB1_, mNil_, mCons_, f1L_, f2L_, mTup_, mLst_, mCall_, mNotT_, mAndT_, mOrT_, mIf_, mAndV_, mOrV_, mNotV_, kAndV_bl, kOrV_bl, kNotV_bl, mSl_, mPart_, kPart_, mNoPart_, sSeq_, sSet_, sRet_, sIf_, sExpr_, sNil_, sBreak_, sCont_, e_lt, e_le, e_gt, e_ge, e_eqI, e_neI, e_eqS, e_neS, e_add, e_sub, List.set_cons_zero, List.set_cons_succ, kTu1, kTu2, kTu3, kTu4, kTu5, kLs0, kLs1, kLs2, kLs3, kLs4, kLs5, mM_, mM0_, sAsg_, sFor_, iRng_, iSeq_, mLc_, hT]
    rfl
  | good ls ts =>
    rw [hc] at hT ok
    have hl : (ts.map tkD).length ≤ sizeLine := by rw [List.length_map, sizeLine_eq]; have := ok.2.1; omega
    have hlc := lc_fix (S := S ++ T) (e := m2 fIx (mV 1) (mC (.int 1))) (v := 1) (vs := [1]) (env := [some (sD t), none]) (ds := ts.map tkD) (f := fun d => match d with | .tup [_, x, _] => x | d => d) (fun acc d hd => by
      obtain ⟨tk, _, rfl⟩ := List.mem_map.mp hd
      show m2 fIx (mV 1) (mC (.int 1)) [some (sD t), some (tkD tk)] _ = _
      simp only [bind_ok, bind_ex, of_some, rs_ok, rs_ex, then_nx, then_rt, then_ex, then_bk, then_ct, mV0, mVs, mC_, m2_, m1_, mB_, kB_bl, mB1_, mNil_, mCons_, f1L_, f2L_, mTup_, mLst_, mCall_, mNotT_, mAndT_, mOrT_, mIf_, mAndV_, mOrV_, mNotV_, kAndV_bl, kOrV_bl, kNotV_bl, mSl_, mPart_, kPart_, mNoPart_, sSeq_, sSet_, sRet_, sIf_, sExpr_, sNil_, sBreak_, sCont_, e_lt, e_le, e_gt, e_ge, e_eqI, e_neI, e_eqS, e_neS, e_add, e_sub, List.set_cons_zero, List.set_cons_succ, kTu1, kTu2, kTu3, kTu4, kTu5, kLs0, kLs1, kLs2, kLs3, kLs4, kLs5, mM_, mM0_, sAsg_, sFor_, iRng_, iSeq_, e_t1]) hl
    have emap : (ts.map tkD).map (fun d => match d with | .tup [_, x, _] => x | d => d) = (txs ts).map sD := by
      rw [List.map_map, List.map_map]; rfl
    rw [emap] at hlc
    have htu : fTuple (.obj (S ++ T).length) ((S ++ T) ++ [.lst ((txs ts).map sD)]) = some (.tup ((txs ts).map sD), (S ++ T) ++ [.lst ((txs ts).map sD)]) := by
      unfold fTuple lstAt
      simp only [last0]
      rfl
    refine ⟨T ++ [.lst ((txs ts).map sD)], ?_⟩
    simp only [bind_ok, bind_ex, of_some, rs_ok, rs_ex, then_nx, then_rt, then_ex, then_bk, then_ct, mV0, mVs, mC_, m2_, m1_, mB_, kB_bl, mB1_, mNil_, mCons_, f1L_, f2L_, mTup_, mLst_, mCall_, mNotT_, mAndT_, mOrT_, mIf_, mAndV_, mOrV_, mNotV_, kAndV_bl, kOrV_bl, kNotV_bl, mSl_, mPart_, kPart_, mNoPart_, sSeq_, sSet_, sRet_, sIf_, sExpr_, sNil_, sBreak_, sCont_, e_lt, e_le, e_gt, e_ge, e_eqI, e_neI, e_eqS, e_neS, e_add, e_sub, List.set_cons_zero, List.set_cons_succ, kTu1, kTu2, kTu3, kTu4, kTu5, kLs0, kLs1, kLs2, kLs3, kLs4, kLs5, mM_, mM0_, sAsg_, sFor_, iRng_, iSeq_, mLc_, hT, e_t1, kSeqT, hlc, htu]
    rw [← List.append_assoc]
    rfl
theorem eqvAll_strs : ∀ (a b : List (List Nat)), PyData.eqvAll (a.map strP) (b.map strP) = decide (a = b)
  | [], [] => by simp [PyData.eqvAll]
  | [], _ :: _ => by simp [PyData.eqvAll]
  | _ :: _, [] => by simp [PyData.eqvAll]
  | x :: a, y :: b => by
    show PyData.eqvAll (strP x :: a.map strP) (strP y :: b.map strP) = _
    unfold PyData.eqvAll
    rw [eqvAll_strs a b]
    have e : PyData.eqv (strP x) (strP y) = decide (x = y) := by
      unfold PyData.eqv
      by_cases h : x = y
      · subst h; simp
      · have : ¬ st x = st y := by rw [st_eq]; exact h
        simp [h, this]
    rw [e]
    by_cases h : x = y <;> simp [h]
end K00

namespace K00
open PySem PySem.Spec L2 Mi
theorem lstAt_app {S X : Sto} {i : Nat} {ds : List D} (h : lstAt S i = some ds) : lstAt (S ++ X) i = some ds := by
  unfold lstAt at h ⊢
  cases e : S[i]? with
  | none => rw [e] at h; cases h
  | some o => rw [e] at h; rw [get_app e]; exact h
/-- a later store that still holds what data are made of -/
def Later (S S' : Sto) : Prop := ∀ i ds, lstAt S i = some ds → lstAt S' i = some ds
theorem toP_later {S S' : Sto} (hL : Later S S') : ∀ n : Nat, (∀ d p, toP S n d = some p → toP S' n d = some p) ∧ (∀ ds ps, toPs S n ds = some ps → toPs S' n ds = some ps) := by
  intro n
  induction n with
  | zero => exact ⟨fun d p h => (by unfold toP at h; cases h), fun d p h => (by unfold toPs at h; cases h)⟩
  | succ n ih =>
    refine ⟨fun d p h => ?_, fun ds ps h => ?_⟩
    · cases d with
      | non => exact h
      | bl b => exact h
      | int i => exact h
      | str x => exact h
      | tup ds =>
        unfold toP at h ⊢
        cases e : toPs S n ds with
        | none => rw [e] at h; cases h
        | some ps => rw [e] at h; rw [ih.2 ds ps e]; exact h
      | obj i =>
        unfold toP at h ⊢
        cases e : lstAt S i with
        | none => rw [e] at h; cases h
        | some ds =>
          rw [e] at h
          rw [hL i ds e]
          dsimp only at h ⊢
          cases e2 : toPs S n ds with
          | none => rw [e2] at h; cases h
          | some ps => rw [e2] at h; rw [ih.2 ds ps e2]; exact h
    · cases ds with
      | nil => exact h
      | cons d ds =>
        unfold toPs at h ⊢
        cases e1 : toP S n d with
        | none => rw [e1] at h; cases h
        | some p =>
          cases e2 : toPs S n ds with
          | none => rw [e1, e2] at h; cases h
          | some ps => rw [e1, e2] at h; rw [ih.1 d p e1, ih.2 ds ps e2]; exact h
theorem later_app {S X : Sto} : Later S (S ++ X) := fun i ds h => lstAt_app h
theorem toP_app {S X : Sto} {n : Nat} {d : D} {p : PyData} (h : toP S n d = some p) : toP (S ++ X) n d = some p := (toP_later later_app n).1 d p h
/-! rows of texts compared -/
theorem strs_tup {S : Sto} {a : List (List Nat)} (ha : a.length < 900000) : toP S 1000000 (.tup (a.map sD)) = some (.tuple (a.map strP)) := by
  show (toPs S 999999 (a.map sD)).map PyData.tuple = _
  rw [toPs_strs a 999999 (by omega)]; rfl
theorem strs_lst {S : Sto} {i : Nat} {a : List (List Nat)} (ha : a.length < 900000) (h : S[i]? = some (.lst (a.map sD))) : toP S 1000000 (.obj i) = some (.list (a.map strP)) := toP_lst (n := 999999) h (toPs_strs a 999999 (by omega))
theorem tup_shaped {a : List (List Nat)} (ha : ∀ l ∈ a, okL l) : SeqAt.shaped (.tuple (a.map strP)) = true := by
  refine shaped_of ?_ ?_
  · unfold PyData.canLay0
    have := (lays_ok ha).1
    unfold PyData.canLay0 at this
    exact this
  · unfold PyData.depth
    have := (lays_ok ha).2
    unfold PyData.depth at this
    omega
theorem lst_shaped {a : List (List Nat)} (ha : ∀ l ∈ a, okL l) : SeqAt.shaped (.list (a.map strP)) = true := shaped_of (lays_ok ha).1 (by have := (lays_ok ha).2; omega)
theorem eq_tups {S : Sto} {a b : List (List Nat)} (ha : a.length < 900000) (hb : b.length < 900000) (oa : ∀ l ∈ a, okL l) (ob : ∀ l ∈ b, okL l) : fEq (.tup (a.map sD)) (.tup (b.map sD)) S = some (.bl (decide (a = b)), S) := by
  have h : eqD S (.tup (a.map sD)) (.tup (b.map sD)) = some (decide (a = b)) := by
    unfold eqD
    rw [strs_tup ha, strs_tup hb]
    dsimp only
    rw [if_pos ⟨tup_shaped oa, tup_shaped ob⟩]
    unfold PyData.eqv
    rw [eqvAll_strs]
  show (eqD S (.tup (a.map sD)) (.tup (b.map sD))).map _ = _
  rw [h]; rfl
theorem ne_tups {S : Sto} {a b : List (List Nat)} (ha : a.length < 900000) (hb : b.length < 900000) (oa : ∀ l ∈ a, okL l) (ob : ∀ l ∈ b, okL l) : fNe (.tup (a.map sD)) (.tup (b.map sD)) S = some (.bl (!decide (a = b)), S) := by
  have h : eqD S (.tup (a.map sD)) (.tup (b.map sD)) = some (decide (a = b)) := by
    unfold eqD
    rw [strs_tup ha, strs_tup hb]
    dsimp only
    rw [if_pos ⟨tup_shaped oa, tup_shaped ob⟩]
    unfold PyData.eqv
    rw [eqvAll_strs]
  show (eqD S (.tup (a.map sD)) (.tup (b.map sD))).map _ = _
  rw [h]; rfl
theorem eq_lsts {S : Sto} {i j : Nat} {a b : List (List Nat)} (hi : S[i]? = some (.lst (a.map sD))) (hj : S[j]? = some (.lst (b.map sD))) (ha : a.length < 900000) (hb : b.length < 900000) (oa : ∀ l ∈ a, okL l) (ob : ∀ l ∈ b, okL l) : fEq (.obj i) (.obj j) S = some (.bl (decide (a = b)), S) := by
  have h : eqD S (.obj i) (.obj j) = some (decide (a = b)) := by
    unfold eqD
    rw [strs_lst ha hi, strs_lst hb hj]
    dsimp only
    rw [if_pos ⟨lst_shaped oa, lst_shaped ob⟩]
    unfold PyData.eqv
    rw [eqvAll_strs]
  show (eqD S (.obj i) (.obj j)).map _ = _
  rw [h]; rfl
/-! the same tokens -/
def sameP : Cut → Cut → PyData
  | .bad p, _ => .list [.str "bad", .int (p : Int)]
  | .good _ _, .bad p => .list [.str "bad", .int (p : Int)]
  | .good _ ts, .good _ ts' => .list [.str "told", .bool (decide (txs ts = txs ts'))]
theorem txs_ok {ls : List (List Nat)} {ts : List Tk} (h : CutOk (.good ls ts)) : (txs ts).length < 900000 ∧ ∀ l ∈ txs ts, okL l := by
  refine ⟨by rw [List.length_map]; have := h.2.1; omega, fun l hl => ?_⟩
  obtain ⟨t, ht, rfl⟩ := List.mem_map.mp hl
  exact (h.2.2.2 t ht).1
theorem same_tokens (S : Sto) {t u : List Nat} (ht : TextOk t) (hu : TextOk u) : ∃ X : Sto, M_same_tokens [sD t, sD u] S = (match cutOf t, cutOf u with
      | .bad p, _ => .ex (exBS p) (S ++ X)
      | .good _ _, .bad p => .ex (exBS p) (S ++ X)
      | .good _ ts, .good _ ts' => .ok (.bl (decide (txs ts = txs ts'))) (S ++ X)) := by
  obtain ⟨X1, h1⟩ := token_texts S ht
  obtain ⟨X2, h2⟩ := token_texts (S ++ X1) hu
  have o1 := cut_ok ht
  have o2 := cut_ok hu
  unfold M_same_tokens mFn B_same_tokens
  simp only [List.length_cons, List.length_nil, Nat.reduceAdd, if_true, List.map, List.replicate, List.cons_append, List.nil_append, Nat.reduceSub, Nat.sub_self, List.append_nil]
  cases c1 : cutOf t with
  | bad p =>
    rw [c1] at h1
    refine ⟨X1, ?_⟩
    simp only [bind_ok, bind_ex, of_some, rs_ok, rs_ex, then_nx, then_rt, then_ex, then_bk, then_ct, mV0, mVs, mC_, m2_, m1_, mB_, kB_bl, mB1_, mNil_, mCons_, f1L_, f2L_, mTup_, mLst_, mCall_, mNotT_, mAndT_, mOrT_, mIf_, mAndV_, mOrV_, mNotV_, kAndV_bl, kOrV_bl, kNotV_bl, mSl_, mPart_, kPart_, mNoPart_, sSeq_, sSet_, sRet_, sIf_, sExpr_, sNil_, sBreak_, sCont_, e_lt, e_le, e_gt, e_ge, e_eqI, e_neI, e_eqS, e_neS, e_add, e_sub, List.set_cons_zero, List.set_cons_succ, kTu1, kTu2, kTu3, kTu4, kTu5, kLs0, kLs1, kLs2, kLs3, kLs4, kLs5, mM_, mM0_, sAsg_, sFor_, iRng_, iSeq_, h1]
    rfl
  | good ls ts =>
    rw [c1] at h1 o1
    cases c2 : cutOf u with
    | bad p =>
      rw [c2] at h2
      refine ⟨X1 ++ X2, ?_⟩
      simp only [bind_ok, bind_ex, of_some, rs_ok, rs_ex, then_nx, then_rt, then_ex, then_bk, then_ct, mV0, mVs, mC_, m2_, m1_, mB_, kB_bl, mB1_, mNil_, mCons_, f1L_, f2L_, mTup_, mLst_, mCall_, mNotT_, mAndT_, mOrT_, mIf_, mAndV_, mOrV_, mNotV_, kAndV_bl, kOrV_bl, kNotV_bl, mSl_, mPart_, kPart_, mNoPart_, sSeq_, sSet_, sRet_, sIf_, sExpr_, sNil_, sBreak_, sCont_, e_lt, e_le, e_gt, e_ge, e_eqI, e_neI, e_eqS, e_neS, e_add, e_sub, List.set_cons_zero, List.set_cons_succ, kTu1, kTu2, kTu3, kTu4, kTu5, kLs0, kLs1, kLs2, kLs3, kLs4, kLs5, mM_, mM0_, sAsg_, sFor_, iRng_, iSeq_, h1, h2]
      rw [← List.append_assoc]
      rfl
    | good ls' ts' =>
      rw [c2] at h2 o2
      refine ⟨X1 ++ X2, ?_⟩
      have e := eq_tups (S := S ++ X1 ++ X2) (txs_ok o1).1 (txs_ok o2).1 (txs_ok o1).2 (txs_ok o2).2
      simp only [bind_ok, bind_ex, of_some, rs_ok, rs_ex, then_nx, then_rt, then_ex, then_bk, then_ct, mV0, mVs, mC_, m2_, m1_, mB_, kB_bl, mB1_, mNil_, mCons_, f1L_, f2L_, mTup_, mLst_, mCall_, mNotT_, mAndT_, mOrT_, mIf_, mAndV_, mOrV_, mNotV_, kAndV_bl, kOrV_bl, kNotV_bl, mSl_, mPart_, kPart_, mNoPart_, sSeq_, sSet_, sRet_, sIf_, sExpr_, sNil_, sBreak_, sCont_, e_lt, e_le, e_gt, e_ge, e_eqI, e_neI, e_eqS, e_neS, e_add, e_sub, List.set_cons_zero, List.set_cons_succ, kTu1, kTu2, kTu3, kTu4, kTu5, kLs0, kLs1, kLs2, kLs3, kLs4, kLs5, mM_, mM0_, sAsg_, sFor_, iRng_, iSeq_, h1, h2, e]
      rw [← List.append_assoc]
      rfl
end K00

namespace K00
open PySem PySem.Spec L2 Mi
abbrev sameTry : MS := sTryAs (sSet 2 (mCall M_same_tokens (mCons (mV 0) (mCons (mV 1) mNil)))) 4 sub_BadSign (xSet 3 (fun en => if en.cls ∈ xl_offset then en.fs.lookup ("offset" : Str) else none))
theorem stry_ok {S S' : Sto} {d e r : D} (h : M_same_tokens [d, e] S = .ok r S') : sameTry [some d, some e, some .non, some .non, none] S = .nx [some d, some e, some r, some .non, none] S' := by
  unfold sameTry sTryAs
  simp only [bind_ok, bind_ex, of_some, rs_ok, rs_ex, then_nx, then_rt, then_ex, then_bk, then_ct, mV0, mVs, mC_, m2_, m1_, mB_, kB_bl, mB1_, mNil_, mCons_, f1L_, f2L_, mTup_, mLst_, mCall_, mNotT_, mAndT_, mOrT_, mIf_, mAndV_, mOrV_, mNotV_, kAndV_bl, kOrV_bl, kNotV_bl, mSl_, mPart_, kPart_, mNoPart_, sSeq_, sSet_, sRet_, sIf_, sExpr_, sNil_, sBreak_, sCont_, e_lt, e_le, e_gt, e_ge, e_eqI, e_neI, e_eqS, e_neS, e_add, e_sub, List.set_cons_zero, List.set_cons_succ, kTu1, kTu2, kTu3, kTu4, kTu5, kLs0, kLs1, kLs2, kLs3, kLs4, kLs5, mM_, mM0_, sAsg_, sFor_, iRng_, iSeq_, h]
theorem stry_ex {S S' : Sto} {d e o : D} (h : M_same_tokens [d, e] S = .ex ⟨"BadSign", [("offset", o)]⟩ S') : sameTry [some d, some e, some .non, some .non, none] S = .nx [some d, some e, some .non, some o, none] S' := by
  have h1 : sub_BadSign "BadSign" = some true := by decide +kernel
  have h2 : ("BadSign" : Str) ∈ xl_offset := by unfold xl_offset; simp
  unfold sameTry sTryAs
  simp only [bind_ok, bind_ex, of_some, rs_ok, rs_ex, then_nx, then_rt, then_ex, then_bk, then_ct, mV0, mVs, mC_, m2_, m1_, mB_, kB_bl, mB1_, mNil_, mCons_, f1L_, f2L_, mTup_, mLst_, mCall_, mNotT_, mAndT_, mOrT_, mIf_, mAndV_, mOrV_, mNotV_, kAndV_bl, kOrV_bl, kNotV_bl, mSl_, mPart_, kPart_, mNoPart_, sSeq_, sSet_, sRet_, sIf_, sExpr_, sNil_, sBreak_, sCont_, e_lt, e_le, e_gt, e_ge, e_eqI, e_neI, e_eqS, e_neS, e_add, e_sub, List.set_cons_zero, List.set_cons_succ, kTu1, kTu2, kTu3, kTu4, kTu5, kLs0, kLs1, kLs2, kLs3, kLs4, kLs5, mM_, mM0_, sAsg_, sFor_, iRng_, iSeq_, h, h1]
  simp only [h2, if_true, xSet, List.lookup, beq_self_eq_true, List.length_cons, List.length_nil, unsetEnd, List.set_cons_zero, List.set_cons_succ]
  rfl
theorem bad_toP {S : Sto} {j : Nat} {p : Int} (h : S[j]? = some (.lst [.str "bad", .int p])) : toP S 1000000 (.obj j) = some (.list [.str "bad", .int p]) := toP_lst (n := 999999) h rfl
theorem told_toP {S : Sto} {j : Nat} {b : Bool} (h : S[j]? = some (.lst [.str "told", .bl b])) : toP S 1000000 (.obj j) = some (.list [.str "told", .bool b]) := toP_lst (n := 999999) h rfl
theorem law_same (S : Sto) {t u : List Nat} (ht : TextOk t) (hu : TextOk u) : ∃ (j : Nat) (X : Sto), M__law_same [sD t, sD u] S = .ok (.obj j) (S ++ X) ∧ toP (S ++ X) 1000000 (.obj j) = some (sameP (cutOf t) (cutOf u)) := by
  obtain ⟨X, h⟩ := same_tokens S ht hu
  have hn : ∀ S : Sto, fIs .non .non S = some (.bl true, S) := fun _ => rfl
  have hb : ∀ (b : Bool) (S : Sto), fIs (.bl b) .non S = some (.bl false, S) := fun _ _ => rfl
  have hbb : ∀ (b c : Bool) (S : Sto), fIs (.bl b) (.bl c) S = some (.bl (decide (b = c)), S) := fun _ _ _ => rfl
  have bad : ∀ p : Nat, M_same_tokens [sD t, sD u] S = .ex (exBS p) (S ++ X) → ∃ (j : Nat) (X : Sto), M__law_same [sD t, sD u] S = .ok (.obj j) (S ++ X) ∧ toP (S ++ X) 1000000 (.obj j) = some (.list [.str "bad", .int (p : Int)]) := fun p hp => by
    have hT := stry_ex hp
    refine ⟨(S ++ X).length, X ++ [.lst [.str "bad", nD p]], ?_, ?_⟩
    · unfold M__law_same mFn B__law_same
      simp only [List.length_cons, List.length_nil, Nat.reduceAdd, if_true, List.map, List.replicate, List.cons_append, List.nil_append, Nat.reduceSub]
      simp only [bind_ok, bind_ex, of_some, rs_ok, rs_ex, then_nx, then_rt, then_ex, then_bk, then_ct, mV0, mVs, mC_, m2_, m1_, mB_, kB_bl, mB1_, mNil_, mCons_, f1L_, f2L_, mTup_, mLst_, mCall_, mNotT_, mAndT_, mOrT_, mIf_, mAndV_, mOrV_, mNotV_, kAndV_bl, kOrV_bl, kNotV_bl, mSl_, mPart_, kPart_, mNoPart_, sSeq_, sSet_, sRet_, sIf_, sExpr_, sNil_, sBreak_, sCont_, e_lt, e_le, e_gt, e_ge, e_eqI, e_neI, e_eqS, e_neS, e_add, e_sub, List.set_cons_zero, List.set_cons_succ, kTu1, kTu2, kTu3, kTu4, kTu5, kLs0, kLs1, kLs2, kLs3, kLs4, kLs5, mM_, mM0_, sAsg_, sFor_, iRng_, iSeq_, hT, hn, if_true]
      rw [← List.append_assoc]
      rfl
    · rw [← List.append_assoc]
      exact bad_toP last0
  cases c1 : cutOf t with
  | bad p => rw [c1] at h; exact bad p h
  | good ls ts =>
    rw [c1] at h
    cases c2 : cutOf u with
    | bad p => rw [c2] at h; exact bad p h
    | good ls' ts' =>
      rw [c2] at h
      have hT := stry_ok h
      rw [show sameP (.good ls ts) (.good ls' ts') = .list [.str "told", .bool (decide (txs ts = txs ts'))] from rfl]
      generalize decide (txs ts = txs ts') = b at *
      refine ⟨(S ++ X).length, X ++ [.lst [.str "told", .bl b]], ?_, ?_⟩
      · unfold M__law_same mFn B__law_same
        simp only [List.length_cons, List.length_nil, Nat.reduceAdd, if_true, List.map, List.replicate, List.cons_append, List.nil_append, Nat.reduceSub]
        simp only [bind_ok, bind_ex, of_some, rs_ok, rs_ex, then_nx, then_rt, then_ex, then_bk, then_ct, mV0, mVs, mC_, m2_, m1_, mB_, kB_bl, mB1_, mNil_, mCons_, f1L_, f2L_, mTup_, mLst_, mCall_, mNotT_, mAndT_, mOrT_, mIf_, mAndV_, mOrV_, mNotV_, kAndV_bl, kOrV_bl, kNotV_bl, mSl_, mPart_, kPart_, mNoPart_, sSeq_, sSet_, sRet_, sIf_, sExpr_, sNil_, sBreak_, sCont_, e_lt, e_le, e_gt, e_ge, e_eqI, e_neI, e_eqS, e_neS, e_add, e_sub, List.set_cons_zero, List.set_cons_succ, kTu1, kTu2, kTu3, kTu4, kTu5, kLs0, kLs1, kLs2, kLs3, kLs4, kLs5, mM_, mM0_, sAsg_, sFor_, iRng_, iSeq_, hT, hb, hbb, Bool.false_eq_true, if_false]
        rw [← List.append_assoc]
        cases b <;> simp only [decide_true, if_true, rs_ok, bind_ok, bind_ex, of_some, rs_ok, rs_ex, then_nx, then_rt, then_ex, then_bk, then_ct, mV0, mVs, mC_, m2_, m1_, mB_, kB_bl, mB1_, mNil_, mCons_, f1L_, f2L_, mTup_, mLst_, mCall_, mNotT_, mAndT_, mOrT_, mIf_, mAndV_, mOrV_, mNotV_, kAndV_bl, kOrV_bl, kNotV_bl, mSl_, mPart_, kPart_, mNoPart_, sSeq_, sSet_, sRet_, sIf_, sExpr_, sNil_, sBreak_, sCont_, e_lt, e_le, e_gt, e_ge, e_eqI, e_neI, e_eqS, e_neS, e_add, e_sub, List.set_cons_zero, List.set_cons_succ, kTu1, kTu2, kTu3, kTu4, kTu5, kLs0, kLs1, kLs2, kLs3, kLs4, kLs5, mM_, mM0_, sAsg_, sFor_, iRng_, iSeq_, show decide (false = true) = false from rfl, Bool.false_eq_true, if_false] <;> rfl
      · rw [← List.append_assoc]
        exact told_toP (b := b) (S := (S ++ X) ++ [.lst [.str "told", .bl b]]) last0
/-- the rows' texts by a comprehension -/
theorem rows_txs {S : Sto} {n0 b : Nat} {rs : List Nat} {ts : List Tk} {env : Mi.Env} {v : Nat} {vs : List Nat} (hb : S[b]? = some (.lst (rs.map D.obj))) (ha : Al (fun r t => n0 ≤ r ∧ S[r]? = some (MO.lst (rowD t))) rs ts) (hl : ts.length < 400000)
    (hv : ∀ d S, mV v ((wipeE env vs).set v (some d)) S = .ok d S) : kLc (gN v) tAll (m2 fIx (mV v) (mC (.int 1))) vs env (itLst (rs.map D.obj).length b) S = .ok (.obj S.length) (S ++ [.lst ((txs ts).map sD)]) := by
  have hrl : rs.length = ts.length := ha.len
  have key : ∀ r ∈ rs, ∃ t : Tk, S[r]? = some (MO.lst (rowD t)) := by
    have : ∀ {rs : List Nat} {ts : List Tk}, Al (fun r t => n0 ≤ r ∧ S[r]? = some (MO.lst (rowD t))) rs ts → ∀ r ∈ rs, ∃ t : Tk, S[r]? = some (MO.lst (rowD t)) := by
      intro rs ts h
      induction h with
      | nil => intro r hr; cases hr
      | cons h1 _ ih =>
        intro r hr
        rcases List.mem_cons.mp hr with z | z
        · rw [z]; exact ⟨_, h1.2⟩
        · exact ih r z
    exact this ha
  let f : D → D := fun d => match d with
    | .obj r => (match S[r]? with
      | some (.lst [_, x, _]) => x
      | _ => d)
    | d => d
  have emap : ∀ {rs : List Nat} {ts : List Tk}, Al (fun r t => n0 ≤ r ∧ S[r]? = some (MO.lst (rowD t))) rs ts → (rs.map D.obj).map f = (txs ts).map sD := by
    intro rs ts h
    induction h with
    | nil => rfl
    | @cons r t rs ts h1 _ ih =>
      show f (.obj r) :: (rs.map D.obj).map f = sD t.2.1 :: (txs ts).map sD
      rw [ih]
      have : f (.obj r) = sD t.2.1 := by
        show (match S[r]? with | some (.lst [_, x, _]) => x | _ => D.obj r) = _
        rw [h1.2]; rfl
      rw [this]
  have := lc_lst (S := S) (e := m2 fIx (mV v) (mC (.int 1))) (v := v) (vs := vs) (env := env) (f := f) hb (fun acc d hd => by
    obtain ⟨r, hr, rfl⟩ := List.mem_map.mp hd
    obtain ⟨t, ht⟩ := key r hr
    have ef : f (.obj r) = sD t.2.1 := by
      show (match S[r]? with | some (.lst [_, x, _]) => x | _ => D.obj r) = _
      rw [ht]; rfl
    rw [ef]
    have hx : fIx (.obj r) (.int 1) (S ++ [.lst acc]) = some (sD t.2.1, S ++ [.lst acc]) := e_ix1 (get_app ht)
    simp only [m2_, hv, bind_ok, mC_, hx, of_some]) (by rw [List.length_map, sizeLine_eq]; omega)
  rw [this, emap ha]
theorem gb : decide (("good" : Str) = "bad") = false := by decide +kernel
theorem bb : decide (("bad" : Str) = "bad") = true := by simp
/-- the head of a cutting's object -/
theorem due_head {S : Sto} {n0 i : Nat} {c : Cut} (h : DueAt S n0 i c) : ∃ (k : Str) (r : List D), S[i]? = some (.lst (.str k :: r)) ∧ decide (k = ("bad" : Str)) = (match c with | .bad _ => true | .good _ _ => false) := by
  cases c with
  | bad p => exact ⟨_, _, h.2, bb⟩
  | good ls ts =>
    obtain ⟨a, b, rs, _, _, _, h1, _⟩ := h
    exact ⟨_, _, h1, gb⟩
theorem same_due {S : Sto} {n0 n1 i i' : Nat} {c c' : Cut} (h : DueAt S n0 i c) (h' : DueAt S n1 i' c') (o : CutOk c) (o' : CutOk c') : ∃ (j : Nat) (X : Sto), M__law_same_due [.obj i, .obj i'] S = .ok (.obj j) (S ++ X) ∧ toP (S ++ X) 1000000 (.obj j) = some (sameP c c') := by
  unfold M__law_same_due mFn B__law_same_due
  simp only [List.length_cons, List.length_nil, Nat.reduceAdd, if_true, List.map, List.replicate, List.cons_append, List.nil_append, Nat.reduceSub]
  cases c with
  | bad p =>
    refine ⟨i, [], ?_, ?_⟩
    · simp only [bind_ok, bind_ex, of_some, rs_ok, rs_ex, then_nx, then_rt, then_ex, then_bk, then_ct, mV0, mVs, mC_, m2_, m1_, mB_, kB_bl, mB1_, mNil_, mCons_, f1L_, f2L_, mTup_, mLst_, mCall_, mNotT_, mAndT_, mOrT_, mIf_, mAndV_, mOrV_, mNotV_, kAndV_bl, kOrV_bl, kNotV_bl, mSl_, mPart_, kPart_, mNoPart_, sSeq_, sSet_, sRet_, sIf_, sExpr_, sNil_, sBreak_, sCont_, e_lt, e_le, e_gt, e_ge, e_eqI, e_neI, e_eqS, e_neS, e_add, e_sub, List.set_cons_zero, List.set_cons_succ, kTu1, kTu2, kTu3, kTu4, kTu5, kLs0, kLs1, kLs2, kLs3, kLs4, kLs5, mM_, mM0_, sAsg_, sFor_, iRng_, iSeq_, e_ix0 h.2, bb, if_true, List.append_nil]
      rfl
    · rw [List.append_nil]; exact bad_toP h.2
  | good ls ts =>
    obtain ⟨a, b, rs, _, _, _, g1, g2, g3, g4⟩ := h
    cases c' with
    | bad p =>
      refine ⟨i', [], ?_, ?_⟩
      · simp only [bind_ok, bind_ex, of_some, rs_ok, rs_ex, then_nx, then_rt, then_ex, then_bk, then_ct, mV0, mVs, mC_, m2_, m1_, mB_, kB_bl, mB1_, mNil_, mCons_, f1L_, f2L_, mTup_, mLst_, mCall_, mNotT_, mAndT_, mOrT_, mIf_, mAndV_, mOrV_, mNotV_, kAndV_bl, kOrV_bl, kNotV_bl, mSl_, mPart_, kPart_, mNoPart_, sSeq_, sSet_, sRet_, sIf_, sExpr_, sNil_, sBreak_, sCont_, e_lt, e_le, e_gt, e_ge, e_eqI, e_neI, e_eqS, e_neS, e_add, e_sub, List.set_cons_zero, List.set_cons_succ, kTu1, kTu2, kTu3, kTu4, kTu5, kLs0, kLs1, kLs2, kLs3, kLs4, kLs5, mM_, mM0_, sAsg_, sFor_, iRng_, iSeq_, e_ix0 g1, gb, Bool.false_eq_true, if_false, e_ix0 h'.2, bb, if_true, List.append_nil]
        rfl
      · rw [List.append_nil]; exact bad_toP h'.2
    | good ls' ts' =>
      obtain ⟨a', b', rs', _, _, _, f1, f2, f3, f4⟩ := h'
      have l1 := rows_txs (env := [some (.obj i), some (.obj i'), none]) (v := 2) (vs := [2]) g3 g4 o.2.1 (fun d S => rfl)
      have f3' : (S ++ [.lst ((txs ts).map sD)])[b']? = some (.lst (rs'.map D.obj)) := get_app f3
      have l2 := rows_txs (env := [some (.obj i), some (.obj i'), none]) (v := 2) (vs := [2]) f3' (f4.mono fun r t q => ⟨q.1, get_app q.2⟩) o'.2.1 (fun d S => rfl)
      have he := eq_lsts (S := (S ++ [MO.lst ((txs ts).map sD)]) ++ [MO.lst ((txs ts').map sD)]) (i := S.length) (j := (S ++ [MO.lst ((txs ts).map sD)]).length) (get_app last0) last0 (txs_ok o).1 (txs_ok o').1 (txs_ok o).2 (txs_ok o').2
      have f1' : (S ++ [.lst ((txs ts).map sD)])[i']? = some (.lst [.str "good", .obj a', .obj b']) := get_app f1
      refine ⟨S.length + 2, [.lst ((txs ts).map sD), .lst ((txs ts').map sD), .lst [.str "told", .bl (decide (txs ts = txs ts'))]], ?_, ?_⟩
      · simp only [bind_ok, bind_ex, of_some, rs_ok, rs_ex, then_nx, then_rt, then_ex, then_bk, then_ct, mV0, mVs, mC_, m2_, m1_, mB_, kB_bl, mB1_, mNil_, mCons_, f1L_, f2L_, mTup_, mLst_, mCall_, mNotT_, mAndT_, mOrT_, mIf_, mAndV_, mOrV_, mNotV_, kAndV_bl, kOrV_bl, kNotV_bl, mSl_, mPart_, kPart_, mNoPart_, sSeq_, sSet_, sRet_, sIf_, sExpr_, sNil_, sBreak_, sCont_, e_lt, e_le, e_gt, e_ge, e_eqI, e_neI, e_eqS, e_neS, e_add, e_sub, List.set_cons_zero, List.set_cons_succ, kTu1, kTu2, kTu3, kTu4, kTu5, kLs0, kLs1, kLs2, kLs3, kLs4, kLs5, mM_, mM0_, sAsg_, sFor_, iRng_, iSeq_, e_ix0 g1, gb, Bool.false_eq_true, if_false, e_ix0 f1, mLc_, e_ix2 g1, kSeqL g3, l1, e_ix2 f1', kSeqL f3', l2, he]
        simp only [List.length_append, List.length_singleton, List.append_assoc, List.cons_append, List.nil_append]
        rfl
      · refine told_toP ?_
        rw [List.getElem?_append_right (by omega), show S.length + 2 - S.length = 2 by omega]
        rfl
end K00

namespace K00
open PySem PySem.Spec L2 Mi
theorem flat_zs (ys : List Str) : (ys.map D.str).all flatD = true := by
  rw [List.all_eq_true]
  intro d hd
  obtain ⟨y, _, rfl⟩ := List.mem_map.mp hd
  rfl
theorem in_zs (x : Str) (ys : List Str) : inFlat (.str x) (ys.map D.str) = some (decide (x ∈ ys)) := by
  unfold inFlat
  rw [if_pos ⟨rfl, flat_zs ys⟩]
  congr 1
  unfold inD
  rw [List.any_map]
  induction ys with
  | nil => rfl
  | cons y ys ih =>
    rw [List.any_cons, ih]
    have e : eqF (.str y) (.str x) = decide (y = x) := by
      show (y == x) = decide (y = x)
      by_cases h : y = x
      · subst h; simp
      · simp [h]
    show (eqF (.str y) (.str x) || decide (x ∈ ys)) = decide (x ∈ y :: ys)
    rw [e]
    by_cases h : y = x
    · subst h; simp
    · have : ¬ x = y := fun z => h z.symm
      simp [h, this]
theorem dKEPT : d_Words_KEPT = .tup (KW.map D.str) := rfl
theorem is_kept {S : Sto} (x : Str) : M_Words_is_kept [.str x] S = .ok (.bl (decide (x ∈ KW))) S := by
  have hin : fIn (.str x) (.tup (KW.map D.str)) S = some (.bl (decide (x ∈ KW)), S) := by
    unfold fIn inB
    dsimp only
    rw [in_zs]; rfl
  unfold M_Words_is_kept mFn B_Words_is_kept
  simp only [List.length_cons, List.length_nil, Nat.reduceAdd, if_true, List.map_cons, List.map_nil, List.replicate, List.cons_append, List.nil_append, Nat.sub_self]
  simp only [bind_ok, bind_ex, of_some, rs_ok, rs_ex, then_nx, then_rt, then_ex, then_bk, then_ct, mV0, mVs, mC_, m2_, m1_, mB_, kB_bl, mB1_, mNil_, mCons_, f1L_, f2L_, mTup_, mLst_, mCall_, mNotT_, mAndT_, mOrT_, mIf_, mAndV_, mOrV_, mNotV_, kAndV_bl, kOrV_bl, kNotV_bl, mSl_, mPart_, kPart_, mNoPart_, sSeq_, sSet_, sRet_, sIf_, sExpr_, sNil_, sBreak_, sCont_, e_lt, e_le, e_gt, e_ge, e_eqI, e_neI, e_eqS, e_neS, e_add, e_sub, List.set_cons_zero, List.set_cons_succ, kTu1, kTu2, kTu3, kTu4, kTu5, kLs0, kLs1, kLs2, kLs3, kLs4, kLs5, mM_, mM0_, sAsg_, sFor_, iRng_, iSeq_, is_ss, dKEPT, hin, if_true]
  rfl
/-- the plain is_name -/
def nameOk (l : List Nat) : Bool := match l with
  | [] => false
  | c :: s => decide (c ∈ LET) && (decide (rn WSG (c :: s) = (c :: s).length) && !decide (st (c :: s) ∈ KW))
theorem is_name {S : Sto} (l : List Nat) (hl : l.length ≤ sizeLine) : M_is_name [sD l] S = .ok (.bl (nameOk l)) S := by
  have hz : ∀ S : Sto, M__run_end [sD l, .int 0, sD WSG] S = .ok (nD (rn WSG l)) S := fun S => by
    have := run_end [] l WSG S hl
    simp only [List.nil_append, List.length_nil, Nat.zero_add] at this
    exact this
  unfold M_is_name mFn B_is_name
  simp only [List.length_cons, List.length_nil, Nat.reduceAdd, if_true, List.map_cons, List.map_nil, List.replicate, List.cons_append, List.nil_append, Nat.sub_self]
  cases l with
  | nil =>
    simp only [bind_ok, bind_ex, of_some, rs_ok, rs_ex, then_nx, then_rt, then_ex, then_bk, then_ct, mV0, mVs, mC_, m2_, m1_, mB_, kB_bl, mB1_, mNil_, mCons_, f1L_, f2L_, mTup_, mLst_, mCall_, mNotT_, mAndT_, mOrT_, mIf_, mAndV_, mOrV_, mNotV_, kAndV_bl, kOrV_bl, kNotV_bl, mSl_, mPart_, kPart_, mNoPart_, sSeq_, sSet_, sRet_, sIf_, sExpr_, sNil_, sBreak_, sCont_, e_lt, e_le, e_gt, e_ge, e_eqI, e_neI, e_eqS, e_neS, e_add, e_sub, List.set_cons_zero, List.set_cons_succ, kTu1, kTu2, kTu3, kTu4, kTu5, kLs0, kLs1, kLs2, kLs3, kLs4, kLs5, mM_, mM0_, sAsg_, sFor_, iRng_, iSeq_, is_ss, Bool.not_true, Bool.false_eq_true, if_false, kE, decide_true, if_true]
    rfl
  | cons c s =>
    have hne : decide (st (c :: s) = st []) = false := by rw [decide_eq_false_iff_not, st_eq]; simp
    have h0 : ∀ S : Sto, fIx (sD (c :: s)) (.int 0) S = some (sD [c], S) := fun S => e_at (pre := []) hl
    have hk := is_kept (S := S) (st (c :: s))
    have hd : decide (((rn WSG (c :: s) : Nat) : Int) = (((c :: s).length : Nat) : Int)) = decide (rn WSG (c :: s) = (c :: s).length) := by
      by_cases h : rn WSG (c :: s) = (c :: s).length
      · rw [h]; simp
      · rw [decide_eq_false h, decide_eq_false]
        intro z; exact h (by omega)
    simp only [bind_ok, bind_ex, of_some, rs_ok, rs_ex, then_nx, then_rt, then_ex, then_bk, then_ct, mV0, mVs, mC_, m2_, m1_, mB_, kB_bl, mB1_, mNil_, mCons_, f1L_, f2L_, mTup_, mLst_, mCall_, mNotT_, mAndT_, mOrT_, mIf_, mAndV_, mOrV_, mNotV_, kAndV_bl, kOrV_bl, kNotV_bl, mSl_, mPart_, kPart_, mNoPart_, sSeq_, sSet_, sRet_, sIf_, sExpr_, sNil_, sBreak_, sCont_, e_lt, e_le, e_gt, e_ge, e_eqI, e_neI, e_eqS, e_neS, e_add, e_sub, List.set_cons_zero, List.set_cons_succ, kTu1, kTu2, kTu3, kTu4, kTu5, kLs0, kLs1, kLs2, kLs3, kLs4, kLs5, mM_, mM0_, sAsg_, sFor_, iRng_, iSeq_, is_ss, Bool.not_true, Bool.false_eq_true, if_false, kE, hne, h0, dLET, e_notinS, dWSG, hz, e_len hl, hd, hk]
    by_cases h1 : c ∈ LET
    · simp only [h1, decide_true, Bool.not_true, Bool.false_eq_true, if_false, rs_ok, then_nx, bind_ok, bind_ex, of_some, rs_ok, rs_ex, then_nx, then_rt, then_ex, then_bk, then_ct, mV0, mVs, mC_, m2_, m1_, mB_, kB_bl, mB1_, mNil_, mCons_, f1L_, f2L_, mTup_, mLst_, mCall_, mNotT_, mAndT_, mOrT_, mIf_, mAndV_, mOrV_, mNotV_, kAndV_bl, kOrV_bl, kNotV_bl, mSl_, mPart_, kPart_, mNoPart_, sSeq_, sSet_, sRet_, sIf_, sExpr_, sNil_, sBreak_, sCont_, e_lt, e_le, e_gt, e_ge, e_eqI, e_neI, e_eqS, e_neS, e_add, e_sub, List.set_cons_zero, List.set_cons_succ, kTu1, kTu2, kTu3, kTu4, kTu5, kLs0, kLs1, kLs2, kLs3, kLs4, kLs5, mM_, mM0_, sAsg_, sFor_, iRng_, iSeq_, hz, e_len hl, hd, hk]
      by_cases h2 : rn WSG (c :: s) = (c :: s).length
      · simp only [h2, decide_true, if_true, bind_ok, kNotV_bl, rs_ok]
        simp only [nameOk, h1, h2, decide_true, Bool.true_and]
        rfl
      · simp only [h2, decide_false, Bool.false_eq_true, if_false, rs_ok]
        simp only [nameOk, h1, h2, decide_true, decide_false, Bool.true_and, Bool.false_and]
        rfl
    · simp only [h1, decide_false, Bool.not_false, if_true, rs_ok, then_rt]
      simp only [nameOk, h1, decide_false, Bool.false_and]
      rfl
theorem rn_take {g : List Nat} : ∀ {l : List Nat}, rn g (l.take (rn g l)) = (l.take (rn g l)).length
  | [] => by simp [rn]
  | c :: s => by
    by_cases h : c ∈ g
    · have e : rn g (c :: s) = rn g s + 1 := by simp [rn, h]
      rw [e, List.take_succ_cons]
      have e2 : rn g (c :: s.take (rn g s)) = rn g (s.take (rn g s)) + 1 := by simp [rn, h]
      rw [e2, rn_take]; rfl
    · have e : rn g (c :: s) = 0 := by simp [rn, h]
      rw [e]; simp [rn]
/-- a token is a name just when it is a word that is not kept -/
theorem tok_name {l : List Nat} {k : Str} {m : Nat} (h : tok l = some (k, m)) : nameOk (l.take m) = (decide (k = ("word" : Str)) && !decide (st (l.take m) ∈ KW)) := by
  have n1 : decide (("number" : Str) = "word") = false := by decide +kernel
  have n2 : decide (("sign" : Str) = "word") = false := by decide +kernel
  have other : ∀ (c : Nat) (s : List Nat) (j : Nat), ¬ c ∈ LET → nameOk ((c :: s).take j) = false := fun c s j hc => by
    cases j with
    | zero => rfl
    | succ j => simp only [List.take_succ_cons, nameOk, hc, decide_false, Bool.false_and]
  cases l with
  | nil => cases h
  | cons c s =>
    unfold tok at h
    dsimp only at h
    split at h
    · rename_i h1
      cases h
      have h2 := rn_cons (s := s) (g := WSG) (List.mem_append_left _ (List.mem_append_left _ h1))
      obtain ⟨m, hm⟩ : ∃ m, rn WSG (c :: s) = m + 1 := ⟨rn WSG (c :: s) - 1, by omega⟩
      have h3 := rn_take (g := WSG) (l := c :: s)
      rw [hm] at h3 ⊢
      rw [List.take_succ_cons] at h3 ⊢
      simp only [nameOk, h1, h3, decide_true, Bool.true_and]
    · rename_i h1
      split at h
      · cases h; rw [other _ _ _ h1, n1]; rfl
      · split at h
        · split at h
          · cases h
          · cases h; rw [other _ _ _ h1, n1]; rfl
        · split at h
          · cases h; rw [other _ _ _ h1, n2]; rfl
          · split at h
            · cases h; rw [other _ _ _ h1, n2]; rfl
            · cases h
end K00

namespace K00
open PySem PySem.Spec L2 Mi
/-! ### words -/
def TokOk (t : Tk) : Prop := nameOk t.2.1 = (decide (t.1 = ("word" : Str)) && !decide (st t.2.1 ∈ KW)) ∧ t.2.1.length ≤ 100000
theorem cutG_tok : ∀ (f o : Nat) (l : List Nat) (ls : List (List Nat)) (ts : List Tk), l.length ≤ 100000 → cutG f o l = .good ls ts → ∀ t ∈ ts, TokOk t
  | 0, o, l, ls, ts, hl, h => by cases h
  | f + 1, o, l, ls, ts, hl, h => by
    rw [cutG_s] at h
    split at h
    · cases h
    · split at h
      · cases h
        intro t ht; cases ht
      · cases ht : tok (l.drop (lay false l).1) with
        | none => rw [ht] at h; cases h
        | some km =>
          obtain ⟨k, m⟩ := km
          rw [ht] at h
          dsimp only at h
          cases hc : cutG f (o + (lay false l).1 + m) ((l.drop (lay false l).1).drop m) with
          | bad p => rw [hc] at h; cases h
          | good ls' ts' =>
            rw [hc] at h
            cases h
            intro t htm
            rcases List.mem_cons.mp htm with z | z
            · rw [z]
              exact ⟨tok_name ht, by simp; omega⟩
            · exact cutG_tok f _ _ ls' ts' (by simp; omega) hc t z
theorem e_neB {S : Sto} {a b : Bool} : fNe (.bl a) (.bl b) S = some (.bl (!decide (a = b)), S) := (rfl)
theorem isN_bb {S : Sto} {a b : Bool} : fIsN (.bl a) (.bl b) S = some (.bl (!decide (a = b)), S) := (rfl)
theorem e_inK {S : Sto} {x : Str} {i : Nat} (h : S[i]? = some (.lst (KW.map D.str))) : fIn (.str x) (.obj i) S = some (.bl (decide (x ∈ KW)), S) ∧ fNotIn (.str x) (.obj i) S = some (.bl (!decide (x ∈ KW)), S) := by
  have e0 : lstAt S i = some (KW.map D.str) := by unfold lstAt; rw [h]
  constructor
  · unfold fIn inB
    dsimp only
    rw [e0]
    show Option.map _ (inFlat (.str x) (KW.map D.str)) = _
    rw [in_zs]; rfl
  · unfold fNotIn inB
    dsimp only
    rw [e0]
    show Option.map _ (inFlat (.str x) (KW.map D.str)) = _
    rw [in_zs]; rfl
def W1 : MS := (sSeq (sSet 3 (mCall M_is_name (mCons (m2 fIx (mV 2) (mC (.int 1))) mNil)))
  (sSeq (sSet 4 (mCall M_Words_is_kept (mCons (m2 fIx (mV 2) (mC (.int 1))) mNil)))
  (sSeq (sIf (mOrT (mAndT (mB (m2 fIsN (mV 3) (mC (.bl true)))) (mB (m2 fIsN (mV 3) (mC (.bl false))))) (mAndT (mB (m2 fIsN (mV 4) (mC (.bl true)))) (mB (m2 fIsN (mV 4) (mC (.bl false))))))
  (sRet (mC (.bl false)))
  sNil)
  (sIf (mOrT (mB (m2 fNe (mV 3) (mAndV (m2 fEq (m2 fIx (mV 2) (mC (.int 0))) (mC (.str "word"))) (m2 fNotIn (m2 fIx (mV 2) (mC (.int 1))) (mV 1))))) (mB (m2 fNe (mV 4) (m2 fIn (m2 fIx (mV 2) (mC (.int 1))) (mV 1)))))
  (sRet (mC (.bl false)))
  sNil))))
theorem w1_step {S : Sto} {i r : Nat} {t : Tk} (x0 x3 x4 x5 x6 : Option D) (hk : S[i]? = some (.lst (KW.map D.str))) (hr : S[r]? = some (.lst (rowD t))) (ho : TokOk t) : W1 [x0, some (.obj i), some (.obj r), x3, x4, x5, x6] S = .nx [x0, some (.obj i), some (.obj r), some (.bl (nameOk t.2.1)), some (.bl (decide (st t.2.1 ∈ KW))), x5, x6] S := by
  obtain ⟨k1, k2⟩ := e_inK (x := st t.2.1) hk
  have h1 : fIx (.obj r) (.int 1) S = some (sD t.2.1, S) := e_ix1 hr
  have h0 : fIx (.obj r) (.int 0) S = some (.str t.1, S) := e_ix0 hr
  have hn := is_name (S := S) t.2.1 (by rw [sizeLine_eq]; have := ho.2; omega)
  have hkk := is_kept (S := S) (st t.2.1)
  have ho1 := ho.1
  unfold W1
  simp only [bind_ok, bind_ex, of_some, rs_ok, rs_ex, then_nx, then_rt, then_ex, then_bk, then_ct, mV0, mVs, mC_, m2_, m1_, mB_, kB_bl, mB1_, mNil_, mCons_, f1L_, f2L_, mTup_, mLst_, mCall_, mNotT_, mAndT_, mOrT_, mIf_, mAndV_, mOrV_, mNotV_, kAndV_bl, kOrV_bl, kNotV_bl, mSl_, mPart_, kPart_, mNoPart_, sSeq_, sSet_, sRet_, sIf_, sExpr_, sNil_, sBreak_, sCont_, e_lt, e_le, e_gt, e_ge, e_eqI, e_neI, e_eqS, e_neS, e_add, e_sub, List.set_cons_zero, List.set_cons_succ, kTu1, kTu2, kTu3, kTu4, kTu5, kLs0, kLs1, kLs2, kLs3, kLs4, kLs5, mM_, mM0_, sAsg_, sFor_, iRng_, iSeq_, h1, h0, hn, hkk]
  generalize nameOk t.2.1 = a at *
  generalize hb : decide (st t.2.1 ∈ KW) = b at *
  generalize hcc : decide (t.1 = ("word" : Str)) = c at *
  subst ho1
  have tf : decide (true = false) = false := rfl
  have ft : decide (false = true) = false := rfl
  cases b <;> cases c <;> simp only [bind_ok, bind_ex, of_some, rs_ok, rs_ex, then_nx, then_rt, then_ex, then_bk, then_ct, mV0, mVs, mC_, m2_, m1_, mB_, kB_bl, mB1_, mNil_, mCons_, f1L_, f2L_, mTup_, mLst_, mCall_, mNotT_, mAndT_, mOrT_, mIf_, mAndV_, mOrV_, mNotV_, kAndV_bl, kOrV_bl, kNotV_bl, mSl_, mPart_, kPart_, mNoPart_, sSeq_, sSet_, sRet_, sIf_, sExpr_, sNil_, sBreak_, sCont_, e_lt, e_le, e_gt, e_ge, e_eqI, e_neI, e_eqS, e_neS, e_add, e_sub, List.set_cons_zero, List.set_cons_succ, kTu1, kTu2, kTu3, kTu4, kTu5, kLs0, kLs1, kLs2, kLs3, kLs4, kLs5, mM_, mM0_, sAsg_, sFor_, iRng_, iSeq_, isN_bb, e_neB, k1, k2, h0, h1, hcc, tf, ft, decide_true, decide_false, Bool.not_true, Bool.not_false, Bool.false_eq_true, if_false, if_true, Bool.and_true, Bool.and_false, Bool.true_and, Bool.false_and]
theorem w1_loop {S : Sto} {i j : Nat} (x0 x5 x6 : Option D) {rs : List Nat} {ts : List Tk} {n0 : Nat} (hk : S[i]? = some (.lst (KW.map D.str))) (hj : S[j]? = some (.lst (rs.map D.obj))) (ha : Al (fun r t => n0 ≤ r ∧ S[r]? = some (MO.lst (rowD t))) rs ts) (ho : ∀ t ∈ ts, TokOk t) :
    ∀ (sr pr : List Nat) (st' : List Tk) (x2 x3 x4 : Option D), rs = pr ++ sr → Al (fun r t => n0 ≤ r ∧ S[r]? = some (MO.lst (rowD t))) sr st' → (∀ t ∈ st', TokOk t) → ∃ (y2 y3 y4 : Option D), forI (itLst (rs.map D.obj).length j) (gN 2) W1 sr.length pr.length [x0, some (.obj i), x2, x3, x4, x5, x6] S = .nx [x0, some (.obj i), y2, y3, y4, x5, x6] S
  | [], pr, st', x2, x3, x4, he, ha', ho' => by
    rw [List.append_nil] at he
    subst he
    refine ⟨x2, x3, x4, ?_⟩
    have := fl_end (n := (rs.map D.obj).length) (k := ([] : List Nat).length) (g := gN 2) (b := W1) (env := [x0, some (.obj i), x2, x3, x4, x5, x6]) hj
    rw [List.length_map] at this ⊢
    exact this
  | r :: sr, pr, st', x2, x3, x4, he, ha', ho' => by
    cases ha' with
    | @cons _ t _ ts2 h1 h2 =>
      have hget : (rs.map D.obj)[pr.length]? = some (.obj r) := by rw [he]; simp
      obtain ⟨y2, y3, y4, q⟩ := w1_loop x0 x5 x6 hk hj ha ho sr (pr ++ [r]) ts2 (some (.obj r)) (some (.bl (nameOk t.2.1))) (some (.bl (decide (st t.2.1 ∈ KW)))) (by rw [he]; simp) h2 (fun t ht => ho' t (List.mem_cons_of_mem _ ht))
      refine ⟨y2, y3, y4, ?_⟩
      rw [show (r :: sr).length = sr.length + 1 from rfl, fl_nx hj hget rfl (w1_step x0 x3 x4 x5 x6 hk h1.2 (ho' t (List.mem_cons_self ..)))]
      rw [List.length_append] at q
      exact q
end K00

namespace K00
open PySem PySem.Spec L2 Mi
def SIGS : List Nat := [33, 47, 95, 65, 90, 64, 36, 38, 39, 59, 63, 94, 96, 123, 124, 125, 126, 9, 92, 34, 10, 32, 35, 45]
theorem strl_eq : STRL ++ [.str "\n", .str " ", .str "#", .str "-"] = SIGS.map fun c => sD [c] := by
  have k0 : STR.cps.toList = [33, 47, 95, 65, 90, 64, 36, 38, 39, 59, 63, 94, 96, 123, 124, 125, 126] := by decide +kernel
  have k1 : ("\t" : Str) = st [9] := by decide +kernel
  have k2 : ("\\" : Str) = st [92] := by decide +kernel
  have k3 : ("\"" : Str) = st [34] := by decide +kernel
  have k4 : ("-" : Str) = st [45] := by decide +kernel
  unfold STRL signsD
  rw [k0, k1, k2, k3, k4, kNL, kSP, kHA]
  rfl
theorem kA1 : ("a" : Str) = st [97] := by decide +kernel
theorem k11 : ("1" : Str) = st [49] := by decide +kernel
theorem kEN : ("end" : Str) = st [101, 110, 100] := by decide +kernel
theorem kX1 : ("x" : Str) = st [120] := by decide +kernel
theorem kUS : ("_" : Str) = st [95] := by decide +kernel
theorem sigs_ok : ∀ c ∈ SIGS, nameOk [c] = false ∧ nameOk [97, c, 49] = decide (c = 95) ∧ nameOk [c, 97] = false ∧ decide (st [101, 110, 100, c] ∈ KW) = false ∧ nameOk [120, c] = decide (c = 95) := by decide +kernel
def W2 : MS := (sSeq (sSet 6 (mLst (mCons (mCall M_is_name (mCons (mV 5) mNil)) (mCons (mCall M_is_name (mCons (m2 fAdd (m2 fAdd (mC (.str "a")) (mV 5)) (mC (.str "1"))) mNil)) (mCons (mCall M_is_name (mCons (m2 fAdd (mV 5) (mC (.str "a"))) mNil)) (mCons (mCall M_Words_is_kept (mCons (m2 fAdd (mC (.str "end")) (mV 5)) mNil)) mNil))))))
  (sIf (mOrT (mB (m2 fNe (mV 6) (mLst (mCons (mC (.bl false)) (mCons (m2 fEq (mV 5) (mC (.str "_"))) (mCons (mC (.bl false)) (mCons (mC (.bl false)) mNil))))))) (mB (m2 fNe (mCall M_is_name (mCons (m2 fAdd (mC (.str "x")) (mV 5)) mNil)) (m2 fEq (mV 5) (mC (.str "_"))))))
  (sRet (mC (.bl false)))
  sNil))
theorem bools_ne {S : Sto} {i j : Nat} {b : Bool} (h1 : S[i]? = some (.lst [.bl false, .bl b, .bl false, .bl false])) (h2 : S[j]? = some (.lst [.bl false, .bl b, .bl false, .bl false])) : fNe (.obj i) (.obj j) S = some (.bl false, S) := by
  have e1 : toP S 1000000 (.obj i) = some (.list [.bool false, .bool b, .bool false, .bool false]) := toP_lst (n := 999999) h1 rfl
  have e2 : toP S 1000000 (.obj j) = some (.list [.bool false, .bool b, .bool false, .bool false]) := toP_lst (n := 999999) h2 rfl
  exact (eq_objs e1 e2 (by cases b <;> decide +kernel)).2
theorem w2_step {S : Sto} {c : Nat} (hc : c ∈ SIGS) (x0 x1 x2 x3 x4 x6 : Option D) : ∃ (X : Sto) (y6 : Option D), W2 [x0, x1, x2, x3, x4, some (sD [c]), x6] S = .nx [x0, x1, x2, x3, x4, some (sD [c]), y6] (S ++ X) := by
  obtain ⟨s1, s2, s3, s4, s5⟩ := sigs_ok c hc
  have sz : ∀ l : List Nat, l.length ≤ 10 → l.length ≤ sizeLine := fun l h => by rw [sizeLine_eq]; omega
  have a1 : ∀ S : Sto, fAdd (sD [97]) (sD [c]) S = some (sD [97, c], S) := fun S => e_addS (by rw [sizeLine_eq]; simp)
  have a2 : ∀ S : Sto, fAdd (sD [97, c]) (sD [49]) S = some (sD [97, c, 49], S) := fun S => e_addS (by rw [sizeLine_eq]; simp)
  have a3 : ∀ S : Sto, fAdd (sD [c]) (sD [97]) S = some (sD [c, 97], S) := fun S => e_addS (by rw [sizeLine_eq]; simp)
  have a4 : ∀ S : Sto, fAdd (sD [101, 110, 100]) (sD [c]) S = some (sD [101, 110, 100, c], S) := fun S => e_addS (by rw [sizeLine_eq]; simp)
  have a5 : ∀ S : Sto, fAdd (sD [120]) (sD [c]) S = some (sD [120, c], S) := fun S => e_addS (by rw [sizeLine_eq]; simp)
  have n1 : ∀ S : Sto, M_is_name [sD [c]] S = .ok (.bl false) S := fun S => by rw [is_name [c] (sz _ (by simp)), s1]
  have n2 : ∀ S : Sto, M_is_name [sD [97, c, 49]] S = .ok (.bl (decide (c = 95))) S := fun S => by rw [is_name [97, c, 49] (sz _ (by simp)), s2]
  have n3 : ∀ S : Sto, M_is_name [sD [c, 97]] S = .ok (.bl false) S := fun S => by rw [is_name [c, 97] (sz _ (by simp)), s3]
  have n4 : ∀ S : Sto, M_Words_is_kept [sD [101, 110, 100, c]] S = .ok (.bl false) S := fun S => by rw [is_kept (st [101, 110, 100, c]), s4]
  have n5 : ∀ S : Sto, M_is_name [sD [120, c]] S = .ok (.bl (decide (c = 95))) S := fun S => by rw [is_name [120, c] (sz _ (by simp)), s5]
  have hus : decide (st [c] = st [95]) = decide (c = 95) := by
    have : (st [c] = st [95]) = (c = 95) := by rw [st_eq]; simp
    simp only [this]
  generalize decide (c = 95) = b at *
  have hne := bools_ne (S := S ++ [.lst [.bl false, .bl b, .bl false, .bl false], .lst [.bl false, .bl b, .bl false, .bl false]]) (b := b) ga0 ga1
  refine ⟨[.lst [.bl false, .bl b, .bl false, .bl false], .lst [.bl false, .bl b, .bl false, .bl false]], some (.obj S.length), ?_⟩
  have bbx : decide (b = b) = true := decide_eq_true rfl
  unfold W2
  simp only [bind_ok, bind_ex, of_some, rs_ok, rs_ex, then_nx, then_rt, then_ex, then_bk, then_ct, mV0, mVs, mC_, m2_, m1_, mB_, kB_bl, mB1_, mNil_, mCons_, f1L_, f2L_, mTup_, mLst_, mCall_, mNotT_, mAndT_, mOrT_, mIf_, mAndV_, mOrV_, mNotV_, kAndV_bl, kOrV_bl, kNotV_bl, mSl_, mPart_, kPart_, mNoPart_, sSeq_, sSet_, sRet_, sIf_, sExpr_, sNil_, sBreak_, sCont_, e_lt, e_le, e_gt, e_ge, e_eqI, e_neI, e_eqS, e_neS, e_add, e_sub, List.set_cons_zero, List.set_cons_succ, kTu1, kTu2, kTu3, kTu4, kTu5, kLs0, kLs1, kLs2, kLs3, kLs4, kLs5, mM_, mM0_, sAsg_, sFor_, iRng_, iSeq_, kA1, k11, kEN, kX1, kUS, a1, a2, a3, a4, a5, n1, n2, n3, n4, n5, hus, List.length_append, List.length_singleton, List.append_assoc, List.cons_append, List.nil_append, hne, Bool.false_eq_true, if_false, e_neB, decide_true, Bool.not_true]
theorem w2_loop {j n : Nat} (x0 x1 x2 x3 x4 : Option D) : ∀ (sr pr : List Nat) (S : Sto) (x5 x6 : Option D), SIGS = pr ++ sr → S[j]? = some (.lst (SIGS.map fun c => sD [c])) → ∃ (X : Sto) (y5 y6 : Option D), forI (itLst n j) (gN 5) W2 sr.length pr.length [x0, x1, x2, x3, x4, x5, x6] S = .nx [x0, x1, x2, x3, x4, y5, y6] (S ++ X)
  | [], pr, S, x5, x6, he, hj => by
    rw [List.append_nil] at he
    refine ⟨[], x5, x6, ?_⟩
    have := fl_end (n := n) (k := ([] : List Nat).length) (g := gN 5) (b := W2) (env := [x0, x1, x2, x3, x4, x5, x6]) hj
    rw [List.length_map, he] at this
    rw [this, List.append_nil]
  | c :: sr, pr, S, x5, x6, he, hj => by
    have hget : (SIGS.map fun c => sD [c])[pr.length]? = some (sD [c]) := by rw [he]; simp
    obtain ⟨X, y6, q⟩ := w2_step (S := S) (c := c) (by rw [he]; simp) x0 x1 x2 x3 x4 x6
    obtain ⟨X2, z5, z6, q2⟩ := w2_loop x0 x1 x2 x3 x4 sr (pr ++ [c]) (S ++ X) (some (sD [c])) y6 (by rw [he]; simp) (get_app hj)
    refine ⟨X ++ X2, z5, z6, ?_⟩
    rw [show (c :: sr).length = sr.length + 1 from rfl, fl_nx hj hget rfl q]
    rw [List.length_append] at q2
    rw [← List.append_assoc]
    exact q2
end K00

namespace K00
open PySem PySem.Spec L2 Mi
theorem Al.take {α β : Type} {R : α → β → Prop} : ∀ (n : Nat) {as : List α} {bs : List β}, Al R as bs → Al R (as.take n) (bs.take n)
  | 0, _, _, _ => by simp; exact .nil
  | _ + 1, _, _, .nil => .nil
  | n + 1, _, _, .cons h t => .cons h (Al.take n t)
theorem KW_map : KW.map D.str = (KW.map fun z => z.cps.toList).map sD := by
  rw [List.map_map]
  refine List.map_congr_left fun z _ => ?_
  exact str_sD z
theorem KW_ok : ∀ l ∈ KW.map (fun z : Str => z.cps.toList), okL l := by
  intro l hl
  obtain ⟨z, hz, rfl⟩ := List.mem_map.mp hl
  have hall : ∀ x ∈ KW, okZ x = true := by decide +kernel
  exact okZ_ok (hall z hz)
theorem kept_ne {S : Sto} : fNe (.tup (KW.map D.str)) (.tup (KW.map D.str)) S = some (.bl false, S) := by
  rw [KW_map, ne_tups (by rw [List.length_map]; decide) (by rw [List.length_map]; decide) KW_ok KW_ok]
  simp
theorem name7 {S : Sto} : M_is_name [.int 7] S = .ok (.bl false) S := rfl
theorem kept7 {S : Sto} : M_Words_is_kept [.int 7] S = .ok (.bl false) S := rfl
theorem cut30 {rs : List Nat} : cutD (rs.map D.obj) none (some 30) = (rs.take 30).map D.obj := by
  unfold cutD
  have e : HT.sIx (rs.map D.obj).length (rs.map D.obj).length (some 30) = min 30 (rs.map D.obj).length := HT.sIx_nat _ _ 30
  have e0 : HT.sIx (rs.map D.obj).length 0 none = 0 := rfl
  rw [e, e0, List.drop_zero, Nat.sub_zero, List.map_take]
  rw [List.take_eq_take_iff]
  omega
theorem words_right {S : Sto} {b n0 : Nat} {rs : List Nat} {ts : List Tk} (hb : S[b]? = some (.lst (rs.map D.obj))) (ha : Al (fun r t => n0 ≤ r ∧ S[r]? = some (MO.lst (rowD t))) rs ts) (ho : ∀ t ∈ ts, TokOk t) : ∃ X : Sto, M__law_words_right [.obj b] S = .ok (.bl true) (S ++ X) := by
  obtain ⟨X1, i, k1, k2, k3⟩ := kept S
  have kc : ∀ env : Mi.Env, mCall0 M__law_kept_words env S = .ok (.obj i) (S ++ X1) := fun env => by unfold mCall0 noEx; rw [k1]
  have htu : fTuple (.obj i) (S ++ X1) = some (.tup (KW.map D.str), S ++ X1) := by
    unfold fTuple lstAt
    simp only [k3]
    rfl
  have hsl : fSl (.obj b) none (some 30) (S ++ X1) = some (.obj (S ++ X1).length, S ++ X1 ++ [.lst ((rs.take 30).map D.obj)]) := by
    have e0 : lstAt (S ++ X1) b = some (rs.map D.obj) := by unfold lstAt; rw [get_app hb]
    unfold fSl
    dsimp only
    rw [e0]
    show some (D.obj (S ++ X1).length, S ++ X1 ++ [MO.lst (cutD (rs.map D.obj) none (some 30))]) = _
    rw [cut30]
  have ha2 := (ha.take 30).mono (R' := fun r t => n0 ≤ r ∧ (S ++ X1 ++ [.lst ((rs.take 30).map D.obj)])[r]? = some (MO.lst (rowD t))) fun r t q => ⟨q.1, get_app (get_app q.2)⟩
  have ho2 : ∀ t ∈ ts.take 30, TokOk t := fun t ht => ho t (List.mem_of_mem_take ht)
  obtain ⟨y2, y3, y4, q1⟩ := w1_loop (some (.obj b)) none none (i := i) (j := (S ++ X1).length) (get_app k3) last0 ha2 ho2 (rs.take 30) [] (ts.take 30) none none none rfl ha2 ho2
  obtain ⟨X2, m, l1, l2, l3⟩ := strange (S ++ X1 ++ [.lst ((rs.take 30).map D.obj)])
  have lc : ∀ env : Mi.Env, mCall0 M__law_strange env (S ++ X1 ++ [.lst ((rs.take 30).map D.obj)]) = .ok (.obj m) (S ++ X1 ++ [.lst ((rs.take 30).map D.obj)] ++ X2) := fun env => by unfold mCall0 noEx; rw [l1]
  generalize hS2 : S ++ X1 ++ [.lst ((rs.take 30).map D.obj)] ++ X2 = S2 at *
  have hadd := e_addL (S := S2 ++ [.lst [.str "\n", .str " ", .str "#", .str "-"]]) (i := m) (j := S2.length) (get_app l3) last0 (by rw [sizeLine_eq, strl_len]; decide)
  rw [strl_eq] at hadd
  obtain ⟨X3, y5, y6, q2⟩ := w2_loop (n := (SIGS.map fun c => sD [c]).length) (some (.obj b)) (some (.obj i)) y2 y3 y4 SIGS [] (S2 ++ [.lst [.str "\n", .str " ", .str "#", .str "-"]] ++ [.lst (SIGS.map fun c => sD [c])]) none none rfl last0
  have en : ∀ n j : Nat, (itLst n j).n = n := fun _ _ => (rfl)
  have z1 : ∀ S : Sto, M_is_name [.str ""] S = .ok (.bl false) S := fun S => by rw [kE, is_name [] (by simp)]; rfl
  have z2 : ∀ S : Sto, M_is_name [.str "a b"] S = .ok (.bl false) S := fun S => by
    rw [show ("a b" : Str) = st [97, 32, 98] by decide +kernel, is_name [97, 32, 98] (by rw [sizeLine_eq]; decide)]
    rw [show nameOk [97, 32, 98] = false by decide +kernel]
  have hbb : ∀ (b c : Bool) (S : Sto), fIs (.bl b) (.bl c) S = some (.bl (decide (b = c)), S) := fun _ _ _ => rfl
  refine ⟨X1 ++ [.lst ((rs.take 30).map D.obj)] ++ X2 ++ [.lst [.str "\n", .str " ", .str "#", .str "-"]] ++ [.lst (SIGS.map fun c => sD [c])] ++ X3, ?_⟩
  have eS : S ++ (X1 ++ [.lst ((rs.take 30).map D.obj)] ++ X2 ++ [.lst [.str "\n", .str " ", .str "#", .str "-"]] ++ [.lst (SIGS.map fun c => sD [c])] ++ X3) = S2 ++ [.lst [.str "\n", .str " ", .str "#", .str "-"]] ++ [.lst (SIGS.map fun c => sD [c])] ++ X3 := by rw [← hS2]; simp
  rw [eS]
  unfold W1 at q1
  unfold W2 at q2
  simp only [List.length_nil, List.length_map] at q1 q2
  unfold M__law_words_right mFn B__law_words_right
  simp only [List.length_cons, List.length_nil, Nat.reduceAdd, if_true, List.map_cons, List.map_nil, List.replicate, List.cons_append, List.nil_append, Nat.reduceSub]
  simp only [bind_ok, bind_ex, of_some, rs_ok, rs_ex, then_nx, then_rt, then_ex, then_bk, then_ct, mV0, mVs, mC_, m2_, m1_, mB_, kB_bl, mB1_, mNil_, mCons_, f1L_, f2L_, mTup_, mLst_, mCall_, mNotT_, mAndT_, mOrT_, mIf_, mAndV_, mOrV_, mNotV_, kAndV_bl, kOrV_bl, kNotV_bl, mSl_, mPart_, kPart_, mNoPart_, sSeq_, sSet_, sRet_, sIf_, sExpr_, sNil_, sBreak_, sCont_, e_lt, e_le, e_gt, e_ge, e_eqI, e_neI, e_eqS, e_neS, e_add, e_sub, List.set_cons_zero, List.set_cons_succ, kTu1, kTu2, kTu3, kTu4, kTu5, kLs0, kLs1, kLs2, kLs3, kLs4, kLs5, mM_, mM0_, sAsg_, sFor_, iRng_, iSeq_, kc, dKEPT, htu, kept_ne, Bool.false_eq_true, if_false, hsl, kSeqL last0, en, List.length_map, q1, lc, hadd, q2, z1, z2, name7, kept7, hbb, decide_true, if_true]
  rfl
end K00

namespace K00
open PySem PySem.Spec L2 Mi
theorem cut_other {S : Sto} {d : D} (h : fIsi ["str"] d S = some (.bl false, S)) : M_cut_text [d] S = .ex ⟨"BadSign", [("offset", .int (-1))]⟩ S := by
  unfold M_cut_text mFn B_cut_text
  simp only [List.length_cons, List.length_nil, Nat.reduceAdd, if_true, List.map_cons, List.map_nil, List.replicate, List.cons_append, List.nil_append, Nat.reduceSub]
  simp only [bind_ok, bind_ex, of_some, rs_ok, rs_ex, then_nx, then_rt, then_ex, then_bk, then_ct, mV0, mVs, mC_, m2_, m1_, mB_, kB_bl, mB1_, mNil_, mCons_, f1L_, f2L_, mTup_, mLst_, mCall_, mNotT_, mAndT_, mOrT_, mIf_, mAndV_, mOrV_, mNotV_, kAndV_bl, kOrV_bl, kNotV_bl, mSl_, mPart_, kPart_, mNoPart_, sSeq_, sSet_, sRet_, sIf_, sExpr_, sNil_, sBreak_, sCont_, e_lt, e_le, e_gt, e_ge, e_eqI, e_neI, e_eqS, e_neS, e_add, e_sub, List.set_cons_zero, List.set_cons_succ, kTu1, kTu2, kTu3, kTu4, kTu5, kLs0, kLs1, kLs2, kLs3, kLs4, kLs5, mM_, mM0_, sAsg_, sFor_, iRng_, iSeq_, h, Bool.not_false, if_true]
  rfl
theorem refused_eq {S : Sto} {i j : Nat} {k : Str} (hk : (PyData.str k).canLay0 = true) (h1 : S[i]? = some (.lst [.str k, .int (-1)])) (h2 : S[j]? = some (.lst [.str k, .int (-1)])) : fEq (.obj i) (.obj j) S = some (.bl true, S) := by
  have e1 : toP S 1000000 (.obj i) = some (.list [.str k, .int (-1)]) := toP_lst (n := 999999) h1 rfl
  have e2 : toP S 1000000 (.obj j) = some (.list [.str k, .int (-1)]) := toP_lst (n := 999999) h2 rfl
  refine (eq_objs e1 e2 (shaped_of ?_ ?_)).1
  · unfold PyData.canLay0
    refine canAll fun q hq => ?_
    simp only [List.mem_cons, List.not_mem_nil, or_false] at hq
    rcases hq with rfl | rfl
    · exact hk
    · exact ci
  · unfold PyData.depth
    have : PyData.depthAll [.str k, .int (-1)] ≤ 0 := depAll fun q hq => by
      simp only [List.mem_cons, List.not_mem_nil, or_false] at hq
      rcases hq with rfl | rfl
      · rw [d0]; exact Nat.le_refl _
      · rw [d0i]; exact Nat.le_refl _
    omega
theorem other_kinds {S : Sto} {w : Nat} (hw : w < 5) : ∃ X : Sto, M__law_other_kinds [nD w] S = .ok (.bl true) (S ++ X) := by
  let ds : List D := [.int 7, .non, .obj S.length, .tup [.str "a", .str "b"], .bl true]
  have hl : w < ds.length := hw
  generalize hS2 : S ++ [.lst [.str "a"], .lst ds] = S2
  have hls : S2[S.length + 1]? = some (.lst ds) := by rw [← hS2]; exact ga1
  have hl0 : S2[S.length]? = some (.lst [.str "a"]) := by rw [← hS2]; exact ga0
  have hix : fIx (.obj (S.length + 1)) (nD w) S2 = some (ds[w], S2) := e_ixN hls (List.getElem?_eq_getElem hl)
  have his : fIsi ["str"] ds[w] S2 = some (.bl false, S2) := by
    match w, hw with
    | 0, _ => rfl
    | 1, _ => rfl
    | 2, _ =>
      show fIsi ["str"] (.obj S.length) S2 = _
      unfold fIsi tyD
      simp only [hl0]
      rfl
    | 3, _ => rfl
    | 4, _ => rfl
  have htold := told_bad (cut_other his)
  have heq := refused_eq (S := S2 ++ [.lst [.str "bad", .int (-1)], .lst [.str "bad", .int (-1)]]) (i := S2.length) (j := S2.length + 1) kBAD ga0 ga1
  have hneg : fNeg (.int 1) (S2 ++ [.lst [.str "bad", .int (-1)]]) = some (.int (-1), S2 ++ [.lst [.str "bad", .int (-1)]]) := rfl
  refine ⟨[.lst [.str "a"], .lst ds, .lst [.str "bad", .int (-1)], .lst [.str "bad", .int (-1)]], ?_⟩
  have eS : S ++ [.lst [.str "a"], .lst ds, .lst [.str "bad", .int (-1)], .lst [.str "bad", .int (-1)]] = S2 ++ [.lst [.str "bad", .int (-1)], .lst [.str "bad", .int (-1)]] := by rw [← hS2]; simp
  rw [eS]
  have e1 : S ++ [.lst [.str "a"]] ++ [.lst ds] = S2 := by rw [← hS2]; simp
  unfold M__law_other_kinds mFn B__law_other_kinds
  simp only [List.length_cons, List.length_nil, Nat.reduceAdd, if_true, List.map_cons, List.map_nil, List.replicate, List.cons_append, List.nil_append, Nat.reduceSub, Nat.sub_self]
  have hkl : ∀ S' : Sto, kLst ds S' = .ok (.obj S'.length) (S' ++ [.lst ds]) := fun S' => kLst_ (by rw [sizeLine_eq]; show 5 ≤ _; decide)
  have eds : [D.int 7, .non, .obj S.length, .tup [.str "a", .str "b"], .bl true] = ds := rfl
  simp only [bind_ok, bind_ex, of_some, rs_ok, rs_ex, then_nx, then_rt, then_ex, then_bk, then_ct, mV0, mVs, mC_, m2_, m1_, mB_, kB_bl, mB1_, mNil_, mCons_, f1L_, f2L_, mTup_, mLst_, mCall_, mNotT_, mAndT_, mOrT_, mIf_, mAndV_, mOrV_, mNotV_, kAndV_bl, kOrV_bl, kNotV_bl, mSl_, mPart_, kPart_, mNoPart_, sSeq_, sSet_, sRet_, sIf_, sExpr_, sNil_, sBreak_, sCont_, e_lt, e_le, e_gt, e_ge, e_eqI, e_neI, e_eqS, e_neS, e_add, e_sub, List.set_cons_zero, List.set_cons_succ, kTu1, kTu2, kTu3, kTu4, kTu5, kLs0, kLs1, kLs2, kLs3, kLs4, kLs5, mM_, mM0_, sAsg_, sFor_, iRng_, iSeq_, eds, hkl, List.length_append, List.length_singleton, e1, hix, htold, hneg, List.append_assoc, List.cons_append, List.nil_append, hS2, heq]
  rfl
end K00

namespace K00
open PySem PySem.Spec L2 Mi
/-! ### a cutting joined; a layout exchanged -/
def joinL : List (List Nat) → List (List Nat) → List Nat
  | [], _ => []
  | l :: _, [] => l
  | l :: ls, t :: ts => l ++ t ++ joinL ls ts
theorem cutG_join : ∀ (f o : Nat) (l : List Nat) (ls : List (List Nat)) (ts : List Tk), cutG f o l = .good ls ts → joinL ls (txs ts) = l ∧ ls.length = ts.length + 1
  | 0, o, l, ls, ts, h => by cases h
  | f + 1, o, l, ls, ts, h => by
    rw [cutG_s] at h
    split at h
    · cases h
    · split at h
      · rename_i hd
        cases h
        refine ⟨?_, rfl⟩
        show l.take (lay false l).1 = l
        have := List.take_append_drop (lay false l).1 l
        rw [hd, List.append_nil] at this
        exact this
      · cases ht : tok (l.drop (lay false l).1) with
        | none => rw [ht] at h; cases h
        | some km =>
          obtain ⟨k, m⟩ := km
          rw [ht] at h
          dsimp only at h
          cases hc : cutG f (o + (lay false l).1 + m) ((l.drop (lay false l).1).drop m) with
          | bad p => rw [hc] at h; cases h
          | good ls' ts' =>
            rw [hc] at h
            cases h
            obtain ⟨i1, i2⟩ := cutG_join f _ _ ls' ts' hc
            refine ⟨?_, by simp [i2]⟩
            show l.take (lay false l).1 ++ (l.drop (lay false l).1).take m ++ joinL ls' (txs ts') = l
            rw [i1, List.append_assoc, List.take_append_drop, List.take_append_drop]
theorem lay_stop0 : ∀ (r : Bool) (l : List Nat) (c : Nat) (s : List Nat), (lay r l).2 = 0 → l.drop (lay r l).1 = c :: s → lay false (c :: s) = (0, 0) ∧ ∀ y : List Nat, lay r (l.take (lay r l).1 ++ c :: y) = ((lay r l).1, 0)
  | r, [], c, s, _, h => by simp at h
  | r, a :: l, c, s, h0, h => by
    by_cases h1 : a = 10
    · have e : lay r (a :: l) = ((lay false l).1 + 1, (lay false l).2) := by rw [lay, if_pos h1]
      rw [e] at h0 h ⊢
      obtain ⟨i1, i2⟩ := lay_stop0 false l c s h0 h
      refine ⟨i1, fun y => ?_⟩
      rw [List.take_succ_cons, List.cons_append, lay, if_pos h1, i2]
    · by_cases h2 : a < 32 ∨ 126 < a
      · have e : lay r (a :: l) = (0, if r = true then 2 else 1) := by rw [lay, if_neg h1, if_pos h2]
        rw [e] at h0
        cases r <;> simp at h0
      · by_cases h3 : a = 35
        · have e : lay r (a :: l) = ((lay true l).1 + 1, (lay true l).2) := by rw [lay, if_neg h1, if_neg h2, if_pos h3]
          rw [e] at h0 h ⊢
          obtain ⟨i1, i2⟩ := lay_stop0 true l c s h0 h
          refine ⟨i1, fun y => ?_⟩
          rw [List.take_succ_cons, List.cons_append, lay, if_neg h1, if_neg h2, if_pos h3, i2]
        · by_cases h4 : a ≠ 32 ∧ r = false
          · have e : lay r (a :: l) = (0, 0) := by rw [lay, if_neg h1, if_neg h2, if_neg h3, if_pos h4]
            rw [e] at h ⊢
            cases h
            refine ⟨by rw [lay, if_neg h1, if_neg h2, if_neg h3, if_pos ⟨h4.1, rfl⟩], fun y => ?_⟩
            show lay r (a :: y) = (0, 0)
            rw [lay, if_neg h1, if_neg h2, if_neg h3, if_pos h4]
          · have e : lay r (a :: l) = ((lay r l).1 + 1, (lay r l).2) := by rw [lay, if_neg h1, if_neg h2, if_neg h3, if_neg h4]
            rw [e] at h0 h ⊢
            obtain ⟨i1, i2⟩ := lay_stop0 r l c s h0 h
            refine ⟨i1, fun y => ?_⟩
            rw [List.take_succ_cons, List.cons_append, lay, if_neg h1, if_neg h2, if_neg h3, if_neg h4, i2]
/-- a fresh layout ends outside a remark -/
theorem lay_fresh {x : List Nat} (hx : x ∈ LAYS) (y : List Nat) : lay false (x ++ y) = (x.length + (lay false y).1, (lay false y).2) := by
  simp only [LAYS, List.mem_cons, List.not_mem_nil, or_false] at hx
  rcases hx with rfl | rfl | rfl | rfl | rfl | rfl | rfl | rfl <;> simp [lay] <;> omega
theorem fresh_head {x : List Nat} (hx : x ∈ LAYS) (h : x ≠ []) : ∃ c s, x = c :: s ∧ (c = 32 ∨ c = 10 ∨ c = 35) := by
  simp only [LAYS, List.mem_cons, List.not_mem_nil, or_false] at hx
  rcases hx with rfl | rfl | rfl | rfl | rfl | rfl | rfl | rfl
  · exact absurd rfl h
  all_goals exact ⟨_, _, rfl, by decide⟩
theorem rn_app {g tk y : List Nat} (h1 : ∀ c ∈ tk, c ∈ g) (h2 : ∀ c, y.head? = some c → c ∉ g) : rn g (tk ++ y) = tk.length := by
  induction tk with
  | nil =>
    cases y with
    | nil => rfl
    | cons c s =>
      have := h2 c rfl
      simp [rn, this]
  | cons a tk ih =>
    have ha := h1 a (List.mem_cons_self ..)
    have := ih fun c hc => h1 c (List.mem_cons_of_mem _ hc)
    have e : rn g (a :: (tk ++ y)) = rn g (tk ++ y) + 1 := by simp [rn, ha]
    rw [List.cons_append, e, this]; rfl
theorem rn_all {g : List Nat} : ∀ {l : List Nat}, ∀ c ∈ l.take (rn g l), c ∈ g
  | [] => by simp
  | a :: l => by
    by_cases h : a ∈ g
    · have e : rn g (a :: l) = rn g l + 1 := by simp [rn, h]
      rw [e, List.take_succ_cons]
      intro c hc
      rcases List.mem_cons.mp hc with z | z
      · rw [z]; exact h
      · exact rn_all c z
    · have e : rn g (a :: l) = 0 := by simp [rn, h]
      rw [e]; intro c hc; cases hc
theorem rn_head {g : List Nat} : ∀ {l : List Nat} (c : Nat), (l.drop (rn g l)).head? = some c → c ∉ g
  | [], c, h => by simp at h
  | a :: l, c, h => by
    by_cases ha : a ∈ g
    · have e : rn g (a :: l) = rn g l + 1 := by simp [rn, ha]
      rw [e, List.drop_succ_cons] at h
      exact rn_head c h
    · have e : rn g (a :: l) = 0 := by simp [rn, ha]
      rw [e] at h
      cases h
      exact ha
end K00

namespace K00
open PySem PySem.Spec L2 Mi
/-- y stands for x behind a token: it begins alike, or with a sign of layout -/
def NextOk (x y : List Nat) : Prop := y.head? = x.head? ∨ ∃ c, y.head? = some c ∧ (c = 32 ∨ c = 10 ∨ c = 35)
theorem next_not {g x y : List Nat} (hg : 32 ∉ g ∧ 10 ∉ g ∧ 35 ∉ g) (h : NextOk x y) (hx : ∀ c, x.head? = some c → c ∉ g) : ∀ c, y.head? = some c → c ∉ g := fun c hc => by
  rcases h with h | ⟨d, h, hd⟩
  · rw [h] at hc; exact hx c hc
  · rw [h] at hc
    cases hc
    rcases hd with rfl | rfl | rfl
    · exact hg.1
    · exact hg.2.1
    · exact hg.2.2
theorem tok_next {r y : List Nat} {k : Str} {m : Nat} (h : tok r = some (k, m)) (hn : NextOk (r.drop m) y) : tok (r.take m ++ y) = some (k, m) := by
  have gW : 32 ∉ WSG ∧ 10 ∉ WSG ∧ 35 ∉ WSG := by decide
  have gF : 32 ∉ FIG ∧ 10 ∉ FIG ∧ 35 ∉ FIG := by decide
  cases r with
  | nil => cases h
  | cons c s =>
    unfold tok at h
    dsimp only at h
    have run : ∀ (g : List Nat), 32 ∉ g ∧ 10 ∉ g ∧ 35 ∉ g → m = rn g (c :: s) → rn g ((c :: s).take m ++ y) = m := fun g gg hm => by
      subst hm
      have hle := rn_le g (c :: s)
      rw [rn_app (fun a ha => rn_all a ha) (next_not gg hn fun a ha => rn_head a ha), List.length_take]
      omega
    have shape : 1 ≤ m → ∃ s', (c :: s).take m ++ y = c :: s' := fun hm => by
      obtain ⟨m', rfl⟩ : ∃ m', m = m' + 1 := ⟨m - 1, by omega⟩
      exact ⟨s.take m' ++ y, by simp⟩
    split at h
    · rename_i h1
      cases h
      have hpos := rn_cons (s := s) (g := WSG) (List.mem_append_left _ (List.mem_append_left _ h1))
      obtain ⟨s', es⟩ := shape hpos
      have hr := run WSG gW rfl
      rw [es] at hr ⊢
      unfold tok
      dsimp only
      rw [if_pos h1, hr]
    · rename_i h1
      split at h
      · rename_i h2
        cases h
        obtain ⟨s', es⟩ := shape (Nat.le_refl 1)
        rw [es]
        unfold tok
        dsimp only
        rw [if_neg h1, if_pos h2]
      · rename_i h2
        split at h
        · rename_i h3
          split at h
          · cases h
          · rename_i h4
            cases h
            obtain ⟨s', es⟩ := shape (rn_cons h3)
            have hr := run FIG gF rfl
            rw [es] at hr ⊢
            unfold tok
            dsimp only
            rw [if_neg h1, if_neg h2, if_pos h3, hr, if_neg h4]
        · rename_i h3
          split at h
          · rename_i h5
            cases h
            have hl : ((c :: s).take 2).length = 2 := by
              have hall : ∀ x ∈ LON, x.length = 2 := by decide
              exact hall _ h5
            obtain ⟨s', es⟩ := shape (by omega)
            have et : (c :: s').take 2 = (c :: s).take 2 := by rw [← es, List.take_append_of_le_length (by omega), List.take_of_length_le (by omega)]
            rw [es]
            unfold tok
            dsimp only
            rw [if_neg h1, if_neg h2, if_neg h3, et, if_pos h5]
          · rename_i h5
            split at h
            · rename_i h6
              cases h
              have es : (c :: s).take 1 ++ y = c :: y := by simp
              have h5' : ¬ (c :: y).take 2 ∈ LON := by
                have hn' : NextOk s y := by simpa using hn
                rcases hn' with e | ⟨d, e, hd⟩
                · intro hm
                  apply h5
                  cases y with
                  | nil =>
                    cases s with
                    | nil => exact hm
                    | cons a s => simp at e
                  | cons b y =>
                    cases s with
                    | nil => simp at e
                    | cons a s =>
                      have : b = a := by simpa using e
                      subst this
                      simpa using hm
                · cases y with
                  | nil => simp at e
                  | cons b y =>
                    have : b = d := by simpa using e
                    subst this
                    intro hm
                    have hm' : [c, b] ∈ LON := by simpa using hm
                    have hall : ∀ x ∈ LON, x.getLast? = some 61 ∨ x.getLast? = some 47 := by decide
                    have := hall _ hm'
                    simp at this
                    rcases hd with rfl | rfl | rfl <;> omega
              rw [es]
              unfold tok
              dsimp only
              rw [if_neg h1, if_neg h2, if_neg h3, if_neg h5', if_pos h6]
            · cases h
end K00

namespace K00
open PySem PySem.Spec L2 Mi
/-- one turn of the cutting that goes on -/
theorem cutG_go {f o : Nat} {l : List Nat} {k : Str} {m : Nat} (h0 : (lay false l).2 = 0) (ht : tok (l.drop (lay false l).1) = some (k, m)) : cutG (f + 1) o l = (match cutG f (o + (lay false l).1 + m) ((l.drop (lay false l).1).drop m) with
        | .bad p => .bad p
        | .good ls ts => .good (l.take (lay false l).1 :: ls) ((k, (l.drop (lay false l).1).take m, o + (lay false l).1) :: ts)) := by
  rw [cutG_s, if_neg (by rw [h0]; simp), if_neg (fun z => by rw [z] at ht; cases ht), ht] <;> rfl
/-- what a good cutting is made of -/
theorem cutG_inv {f o : Nat} {l : List Nat} {ls : List (List Nat)} {ts : List Tk} (h : cutG (f + 1) o l = .good ls ts) : (lay false l).2 = 0 ∧ ((l.drop (lay false l).1 = [] ∧ ls = [l] ∧ ts = []) ∨
    ∃ (k : Str) (m : Nat) (ls' : List (List Nat)) (ts' : List Tk), tok (l.drop (lay false l).1) = some (k, m) ∧ cutG f (o + (lay false l).1 + m) ((l.drop (lay false l).1).drop m) = .good ls' ts' ∧ ls = l.take (lay false l).1 :: ls' ∧ ts = (k, (l.drop (lay false l).1).take m, o + (lay false l).1) :: ts') := by
  rw [cutG_s] at h
  by_cases h0 : (lay false l).2 = 0
  · rw [if_neg (by rw [h0]; simp)] at h
    refine ⟨h0, ?_⟩
    by_cases hd : l.drop (lay false l).1 = []
    · rw [if_pos hd] at h
      cases h
      refine .inl ⟨hd, ?_, rfl⟩
      have := List.take_append_drop (lay false l).1 l
      rw [hd, List.append_nil] at this
      rw [this]
    · rw [if_neg hd] at h
      cases ht : tok (l.drop (lay false l).1) with
      | none => rw [ht] at h; cases h
      | some km =>
        obtain ⟨k, m⟩ := km
        rw [ht] at h
        dsimp only at h
        cases hc : cutG f (o + (lay false l).1 + m) ((l.drop (lay false l).1).drop m) with
        | bad p => rw [hc] at h; cases h
        | good ls' ts' =>
          rw [hc] at h
          cases h
          exact .inr ⟨k, m, ls', ts', rfl, hc, rfl, rfl⟩
  · rw [if_pos h0] at h; cases h
theorem cutG_fuel : ∀ (f o : Nat) (l : List Nat) (ls : List (List Nat)) (ts : List Tk), cutG f o l = .good ls ts → ∀ (f' o' : Nat), l.length < f' → ∃ ts' : List Tk, cutG f' o' l = .good ls ts' ∧ txs ts' = txs ts
  | 0, o, l, ls, ts, h, _, _, _ => by cases h
  | f + 1, o, l, ls, ts, h, f', o', hf => by
    obtain ⟨f', rfl⟩ : ∃ g, f' = g + 1 := ⟨f' - 1, by omega⟩
    obtain ⟨h0, ⟨hd, rfl, rfl⟩ | ⟨k, m, ls', ts', ht, hc, rfl, rfl⟩⟩ := cutG_inv h
    · refine ⟨[], ?_, rfl⟩
      rw [cutG_s, if_neg (by rw [h0]; simp), if_pos hd]
      have := List.take_append_drop (lay false l).1 l
      rw [hd, List.append_nil] at this
      rw [this]
    · have hm := tok_pos ht
      have hle := lay_le false l
      rw [List.length_drop] at hm
      obtain ⟨ts2, q1, q2⟩ := cutG_fuel f _ _ ls' ts' hc f' (o' + (lay false l).1 + m) (by simp; omega)
      refine ⟨(k, (l.drop (lay false l).1).take m, o' + (lay false l).1) :: ts2, ?_, ?_⟩
      · rw [cutG_go h0 ht, q1]
      · show _ :: txs ts2 = _ :: txs ts'
        rw [q2]
theorem cutG_ne : ∀ (f o : Nat) (l : List Nat) (ls : List (List Nat)) (ts : List Tk), cutG f o l = .good ls ts → ∀ t ∈ ts, t.2.1 ≠ []
  | 0, o, l, ls, ts, h => by cases h
  | f + 1, o, l, ls, ts, h => by
    obtain ⟨h0, ⟨hd, rfl, rfl⟩ | ⟨k, m, ls', ts', ht, hc, rfl, rfl⟩⟩ := cutG_inv h
    · intro t ht; cases ht
    · intro t htm
      rcases List.mem_cons.mp htm with z | z
      · rw [z]
        have hm := tok_pos ht
        intro e
        have : ((l.drop (lay false l).1).take m).length = 0 := by rw [show (l.drop (lay false l).1).take m = [] from e]; rfl
        rw [List.length_take] at this
        omega
      · exact cutG_ne f _ _ ls' ts' hc t z
theorem join_next {ls : List (List Nat)} {ts : List Tk} {k : Nat} {fresh : List Nat} (hf : fresh ∈ LAYS) (hne : fresh ≠ []) (hl : ls.length = ts.length + 1) (ht : ∀ t ∈ ts, t.2.1 ≠ []) : NextOk (joinL ls (txs ts)) (joinL (ls.set k fresh) (txs ts)) := by
  cases ls with
  | nil => simp at hl
  | cons a ls =>
    cases k with
    | zero =>
      obtain ⟨c, s, rfl, hc⟩ := fresh_head hf hne
      refine .inr ⟨c, ?_, hc⟩
      cases ts with
      | nil => rfl
      | cons t ts => rfl
    | succ k =>
      refine .inl ?_
      cases ts with
      | nil => rfl
      | cons t ts =>
        have htn := ht t (List.mem_cons_self ..)
        show (a ++ t.2.1 ++ joinL (ls.set k fresh) (txs ts)).head? = (a ++ t.2.1 ++ joinL ls (txs ts)).head?
        cases a with
        | cons b a => rfl
        | nil =>
          cases e : t.2.1 with
          | nil => exact absurd e htn
          | cons b s => rfl
theorem exchange : ∀ (f o : Nat) (l : List Nat) (ls : List (List Nat)) (ts : List Tk), cutG f o l = .good ls ts → ∀ (k : Nat) (fresh : List Nat), fresh ∈ LAYS → fresh ≠ [] → ∀ (f' o' : Nat), (joinL (ls.set k fresh) (txs ts)).length < f' → ∃ (ls' : List (List Nat)) (ts' : List Tk), cutG f' o' (joinL (ls.set k fresh) (txs ts)) = .good ls' ts' ∧ txs ts' = txs ts
  | 0, o, l, ls, ts, h, _, _, _, _, _, _, _ => by cases h
  | f + 1, o, l, ls, ts, h, k, fresh, hf, hne, f', o', hlen => by
    obtain ⟨f', rfl⟩ : ∃ g, f' = g + 1 := ⟨f' - 1, by omega⟩
    have hj := cutG_join _ _ _ _ _ h
    obtain ⟨h0, ⟨hd, rfl, rfl⟩ | ⟨kk, m, ls', ts', ht, hc, rfl, rfl⟩⟩ := cutG_inv h
    · cases k with
      | zero =>
        show ∃ _ _, cutG (f' + 1) o' fresh = _ ∧ _
        have e := lay_fresh hf []
        rw [List.append_nil] at e
        have e1 : (lay false fresh).1 = fresh.length ∧ (lay false fresh).2 = 0 := by rw [e]; simp [lay]
        refine ⟨[fresh], [], ?_, rfl⟩
        rw [cutG_s, if_neg (by rw [e1.2]; simp), e1.1, List.drop_length, if_pos rfl, List.take_length]
      | succ k =>
        obtain ⟨ts2, q1, q2⟩ := cutG_fuel _ _ _ _ _ h (f' + 1) o' hlen
        exact ⟨_, ts2, q1, q2⟩
    · obtain ⟨c, s, hcs⟩ : ∃ c s, l.drop (lay false l).1 = c :: s := by
        cases e : l.drop (lay false l).1 with
        | nil => rw [e] at ht; cases ht
        | cons c s => exact ⟨c, s, rfl⟩
      have hm := tok_pos ht
      obtain ⟨j1, j2⟩ := cutG_join _ _ _ _ _ hc
      have hst := lay_stop0 false l c s h0 hcs
      have hle := lay_le false l
      rw [List.length_drop] at hm
      cases k with
      | zero =>
        have eJ : joinL ((l.take (lay false l).1 :: ls').set 0 fresh) (txs ((kk, (l.drop (lay false l).1).take m, o + (lay false l).1) :: ts')) = fresh ++ l.drop (lay false l).1 := by
          show fresh ++ (l.drop (lay false l).1).take m ++ joinL ls' (txs ts') = _
          rw [j1, List.append_assoc, List.take_append_drop]
        rw [eJ] at hlen ⊢
        have e := lay_fresh hf (l.drop (lay false l).1)
        rw [hcs, hst.1, ← hcs] at e
        have e1 : (lay false (fresh ++ l.drop (lay false l).1)).1 = fresh.length := by rw [e]; rfl
        have e2 : (lay false (fresh ++ l.drop (lay false l).1)).2 = 0 := by rw [e]
        have ed : (fresh ++ l.drop (lay false l).1).drop fresh.length = l.drop (lay false l).1 := List.drop_left
        obtain ⟨ts2, q1, q2⟩ := cutG_fuel f _ _ ls' ts' hc f' (o' + fresh.length + m) (by simp at hlen ⊢; omega)
        refine ⟨(fresh ++ l.drop (lay false l).1).take fresh.length :: ls', (kk, (l.drop (lay false l).1).take m, o' + fresh.length) :: ts2, ?_, ?_⟩
        · rw [cutG_go e2 (by rw [e1, ed]; exact ht), e1, ed, q1]
        · show _ :: txs ts2 = _ :: txs ts'
          rw [q2]
      | succ k =>
        have hnx : NextOk ((l.drop (lay false l).1).drop m) (joinL (ls'.set k fresh) (txs ts')) := by
          have := join_next (k := k) hf hne j2 (cutG_ne _ _ _ _ _ hc)
          rw [j1] at this
          exact this
        generalize hJ : joinL (ls'.set k fresh) (txs ts') = J at *
        have eJ : joinL ((l.take (lay false l).1 :: ls').set (k + 1) fresh) (txs ((kk, (l.drop (lay false l).1).take m, o + (lay false l).1) :: ts')) = l.take (lay false l).1 ++ ((l.drop (lay false l).1).take m ++ J) := by
          show l.take (lay false l).1 ++ (l.drop (lay false l).1).take m ++ joinL (ls'.set k fresh) (txs ts') = _
          rw [hJ, List.append_assoc]
        rw [eJ] at hlen ⊢
        have htn := tok_next ht hnx
        obtain ⟨m', hm'⟩ : ∃ m', m = m' + 1 := ⟨m - 1, by omega⟩
        have eh : (l.drop (lay false l).1).take m ++ J = c :: (s.take m' ++ J) := by rw [hcs, hm']; simp
        have elay := hst.2 (s.take m' ++ J)
        rw [← eh] at elay
        have el : (l.take (lay false l).1).length = (lay false l).1 := by rw [List.length_take]; omega
        have e1 : (lay false (l.take (lay false l).1 ++ ((l.drop (lay false l).1).take m ++ J))).1 = (lay false l).1 := by rw [elay]
        have e2 : (lay false (l.take (lay false l).1 ++ ((l.drop (lay false l).1).take m ++ J))).2 = 0 := by rw [elay]
        have ed : (l.take (lay false l).1 ++ ((l.drop (lay false l).1).take m ++ J)).drop (lay false l).1 = (l.drop (lay false l).1).take m ++ J := by
          rw [List.drop_append_of_le_length (by omega), List.drop_of_length_le (by omega), List.nil_append]
        have etl : ((l.drop (lay false l).1).take m).length = m := by rw [List.length_take, List.length_drop]; omega
        have ed2 : ((l.drop (lay false l).1).take m ++ J).drop m = J := by
          rw [List.drop_append_of_le_length (by omega), List.drop_of_length_le (by omega), List.nil_append]
        have et2 : ((l.drop (lay false l).1).take m ++ J).take m = (l.drop (lay false l).1).take m := by
          rw [List.take_append_of_le_length (by omega), List.take_of_length_le (by omega)]
        obtain ⟨ls2, ts2, q1, q2⟩ := exchange f _ _ ls' ts' hc k fresh hf hne f' (o' + (lay false l).1 + m) (by rw [hJ]; simp at hlen; omega)
        rw [hJ] at q1
        refine ⟨(l.take (lay false l).1 ++ ((l.drop (lay false l).1).take m ++ J)).take (lay false l).1 :: ls2, (kk, (l.drop (lay false l).1).take m, o' + (lay false l).1) :: ts2, ?_, ?_⟩
        · rw [cutG_go e2 (by rw [e1, ed]; exact htn), e1, ed, ed2, et2, q1]
        · show _ :: txs ts2 = _ :: txs ts'
          rw [q2]
end K00

namespace K00
open PySem PySem.Spec L2 Mi
/-! ### joining -/
theorem joinL_snoc : ∀ (ls : List (List Nat)) (ts : List (List Nat)) (t a : List Nat), ls.length = ts.length + 1 → joinL (ls ++ [a]) (ts ++ [t]) = joinL ls ts ++ t ++ a
  | [], ts, t, a, h => by simp at h
  | [l], [], t, a, h => by simp [joinL]
  | [l], _ :: _, t, a, h => by simp at h
  | l :: l2 :: ls, [], t, a, h => by simp at h
  | l :: l2 :: ls, t1 :: ts, t, a, h => by
    have ih := joinL_snoc (l2 :: ls) ts t a (by simp at h ⊢; omega)
    show l ++ t1 ++ joinL ((l2 :: ls) ++ [a]) (ts ++ [t]) = l ++ t1 ++ joinL (l2 :: ls) ts ++ t ++ a
    rw [ih]
    simp
def JB : MS := (sSet 2 (m2 fAdd (m2 fAdd (mV 2) (m2 fIx (m2 fIx (mV 1) (mV 3)) (mC (.int 1)))) (m2 fIx (mV 0) (m2 fAdd (mV 3) (mC (.int 1))))))
theorem joinL_take {ls ts : List (List Nat)} (hl : ls.length = ts.length + 1) {i : Nat} {t a : List Nat} (ht : ts[i]? = some t) (ha : ls[i + 1]? = some a) : joinL (ls.take (i + 1 + 1)) (ts.take (i + 1)) = joinL (ls.take (i + 1)) (ts.take i) ++ t ++ a := by
  have h1 : i < ts.length := by
    rcases Nat.lt_or_ge i ts.length with z | z
    · exact z
    · rw [List.getElem?_eq_none z] at ht; cases ht
  have e1 : ts.take (i + 1) = ts.take i ++ [t] := by rw [List.take_add_one, ht]; rfl
  have e2 : ls.take (i + 1 + 1) = ls.take (i + 1) ++ [a] := by rw [List.take_add_one, ha]; rfl
  rw [e1, e2]
  exact joinL_snoc _ _ _ _ (by rw [List.length_take, List.length_take]; omega)
theorem joinL_le : ∀ (ls ts : List (List Nat)) (i : Nat), ls.length = ts.length + 1 → (joinL (ls.take (i + 1)) (ts.take i)).length ≤ (joinL ls ts).length
  | [], ts, i, h => by simp at h
  | l :: ls, [], i, h => by
    cases i with
    | zero => simp [joinL]
    | succ i => simp [joinL]
  | l :: ls, t :: ts, 0, h => by
    cases ls with
    | nil => simp at h
    | cons l2 ls => simp [joinL]
  | l :: ls, t :: ts, i + 1, h => by
    have ih := joinL_le ls ts i (by simpa using h)
    show (l ++ t ++ joinL (ls.take (i + 1)) (ts.take i)).length ≤ (l ++ t ++ joinL ls ts).length
    simp only [List.length_append]
    omega
theorem jl_loop {S : Sto} {a b : Nat} {rs : List Nat} {ls txt : List (List Nat)} (ha : S[a]? = some (.lst (ls.map sD))) (hb : S[b]? = some (.lst (rs.map D.obj))) (hl : ls.length = txt.length + 1) (hrl : rs.length = txt.length) (hsz : (joinL ls txt).length ≤ 1000000)
    (hr : ∀ (i r : Nat) (t : List Nat), rs[i]? = some r → txt[i]? = some t → ∃ (k : D) (q : List D), S[r]? = some (.lst (k :: sD t :: q))) : ∀ (k i n : Nat) (x3 : Option D), n = i + k → n = txt.length → ∃ y3 : Option D,
    forI (itRng 0 n) (gN 3) JB k i [some (.obj a), some (.obj b), some (sD (joinL (ls.take (i + 1)) (txt.take i))), x3] S = .nx [some (.obj a), some (.obj b), some (sD (joinL ls txt)), y3] S
  | 0, i, n, x3, hn, h1 => by
    have : n = i := by omega
    subst this
    refine ⟨x3, ?_⟩
    rw [fr_end, List.take_of_length_le (by omega), List.take_of_length_le (by omega)]
  | k + 1, i, n, x3, hn, h1 => by
    have hi : i < txt.length := by omega
    obtain ⟨t, ht⟩ : ∃ t, txt[i]? = some t := ⟨_, List.getElem?_eq_getElem hi⟩
    obtain ⟨r, hr0⟩ : ∃ r, rs[i]? = some r := ⟨_, List.getElem?_eq_getElem (by omega)⟩
    obtain ⟨l, hl0⟩ : ∃ l, ls[i + 1]? = some l := ⟨_, List.getElem?_eq_getElem (by omega)⟩
    obtain ⟨kd, q, hrow⟩ := hr i r t hr0 ht
    have hnext := joinL_take hl ht hl0
    have hle := joinL_le ls txt (i + 1) hl
    rw [hnext] at hle
    simp only [List.length_append] at hle
    obtain ⟨y3, q1⟩ := jl_loop ha hb hl hrl hsz hr k (i + 1) n (some (.int (0 + (i : Int)))) (by omega) h1
    refine ⟨y3, ?_⟩
    have f1 : fIx (.obj b) (.int (0 + (i : Int))) S = some (.obj r, S) := by rw [Int.zero_add]; exact e_ixL hb (by rw [List.getElem?_map, hr0]; rfl)
    have f2 : fIx (.obj r) (.int 1) S = some (sD t, S) := e_ix1 hrow
    have f3 : fIx (.obj a) (.int (0 + (i : Int) + 1)) S = some (sD l, S) := by
      rw [show (0 + (i : Int) + 1) = ((i + 1 : Nat) : Int) by omega]
      exact e_ixL ha (by rw [List.getElem?_map, hl0]; rfl)
    have g1 : fAdd (sD (joinL (ls.take (i + 1)) (txt.take i))) (sD t) S = some (sD (joinL (ls.take (i + 1)) (txt.take i) ++ t), S) := e_addS (by rw [sizeLine_eq]; omega)
    have g2 : fAdd (sD (joinL (ls.take (i + 1)) (txt.take i) ++ t)) (sD l) S = some (sD (joinL (ls.take (i + 1)) (txt.take i) ++ t ++ l), S) := e_addS (by rw [sizeLine_eq]; simp only [List.length_append]; omega)
    rw [fr_nx (by omega) (env2 := [some (.obj a), some (.obj b), some (sD (joinL (ls.take (i + 1 + 1)) (txt.take (i + 1)))), some (.int (0 + (i : Int)))]) (S2 := S) ?_, q1]
    unfold JB
    simp only [bind_ok, bind_ex, of_some, rs_ok, rs_ex, then_nx, then_rt, then_ex, then_bk, then_ct, mV0, mVs, mC_, m2_, m1_, mB_, kB_bl, mB1_, mNil_, mCons_, f1L_, f2L_, mTup_, mLst_, mCall_, mNotT_, mAndT_, mOrT_, mIf_, mAndV_, mOrV_, mNotV_, kAndV_bl, kOrV_bl, kNotV_bl, mSl_, mPart_, kPart_, mNoPart_, sSeq_, sSet_, sRet_, sIf_, sExpr_, sNil_, sBreak_, sCont_, e_lt, e_le, e_gt, e_ge, e_eqI, e_neI, e_eqS, e_neS, e_add, e_sub, List.set_cons_zero, List.set_cons_succ, kTu1, kTu2, kTu3, kTu4, kTu5, kLs0, kLs1, kLs2, kLs3, kLs4, kLs5, mM_, mM0_, sAsg_, sFor_, iRng_, iSeq_, f1, f2, f3, g1, g2, hnext]
theorem law_joined {S : Sto} {a b : Nat} {rs : List Nat} {ls txt : List (List Nat)} (ha : S[a]? = some (.lst (ls.map sD))) (hb : S[b]? = some (.lst (rs.map D.obj))) (hl : ls.length = txt.length + 1) (hrl : rs.length = txt.length) (hsz : (joinL ls txt).length ≤ 1000000) (hts : txt.length ≤ 1000000)
    (hr : ∀ (i r : Nat) (t : List Nat), rs[i]? = some r → txt[i]? = some t → ∃ (k : D) (q : List D), S[r]? = some (.lst (k :: sD t :: q))) : M__law_joined [.obj a, .obj b] S = .ok (sD (joinL ls txt)) S := by
  obtain ⟨l0, h0⟩ : ∃ l0, ls[0]? = some l0 := ⟨_, List.getElem?_eq_getElem (by omega)⟩
  obtain ⟨y3, q⟩ := jl_loop ha hb hl hrl hsz hr txt.length 0 txt.length none (by omega) rfl
  have e0 : joinL (ls.take (0 + 1)) (txt.take 0) = l0 := by
    cases ls with
    | nil => cases h0
    | cons l ls => cases h0; rfl
  rw [e0] at q
  have f0 : fIx (.obj a) (.int 0) S = some (sD l0, S) := e_ixL (k := 0) ha (by rw [List.getElem?_map, h0]; rfl)
  have hlen : fLen (.obj b) S = some (.int (txt.length : Int), S) := by rw [e_lenL hb, List.length_map, hrl]
  have hrg : kRngI [.int (txt.length : Int)] S = .ok (itRng 0 txt.length) S := by
    rw [kRng1 (by omega), Int.toNat_natCast]
  have en : (itRng 0 txt.length).n = txt.length := (rfl)
  unfold JB at q
  unfold M__law_joined mFn B__law_joined
  simp only [List.length_cons, List.length_nil, Nat.reduceAdd, if_true, List.map_cons, List.map_nil, List.replicate, List.cons_append, List.nil_append, Nat.reduceSub]
  simp only [bind_ok, bind_ex, of_some, rs_ok, rs_ex, then_nx, then_rt, then_ex, then_bk, then_ct, mV0, mVs, mC_, m2_, m1_, mB_, kB_bl, mB1_, mNil_, mCons_, f1L_, f2L_, mTup_, mLst_, mCall_, mNotT_, mAndT_, mOrT_, mIf_, mAndV_, mOrV_, mNotV_, kAndV_bl, kOrV_bl, kNotV_bl, mSl_, mPart_, kPart_, mNoPart_, sSeq_, sSet_, sRet_, sIf_, sExpr_, sNil_, sBreak_, sCont_, e_lt, e_le, e_gt, e_ge, e_eqI, e_neI, e_eqS, e_neS, e_add, e_sub, List.set_cons_zero, List.set_cons_succ, kTu1, kTu2, kTu3, kTu4, kTu5, kLs0, kLs1, kLs2, kLs3, kLs4, kLs5, mM_, mM0_, sAsg_, sFor_, iRng_, iSeq_, f0, hlen, hrg, en, q]
  rfl
end K00

namespace K00
open PySem PySem.Spec L2 Mi
theorem is_token {S : Sto} {r : Nat} {k q : D} {t : List Nat} (h : S[r]? = some (.lst [k, sD t, q])) : M__is_token [.obj r] S = .ok (.bl true) S := by
  have h1 : fIsi ["list", "tuple"] (.obj r) S = some (.bl true, S) := by
    unfold fIsi tyD
    simp only [h]
    rfl
  have h2 : fLen (.obj r) S = some (.int 3, S) := e_lenL h
  have h3 : fIx (.obj r) (.int 1) S = some (sD t, S) := e_ix1 h
  have d3 : decide ((3 : Int) = 3) = true := rfl
  unfold M__is_token mFn B__is_token
  simp only [List.length_cons, List.length_nil, Nat.reduceAdd, if_true, List.map_cons, List.map_nil, List.replicate, List.cons_append, List.nil_append, Nat.sub_self]
  simp only [bind_ok, bind_ex, of_some, rs_ok, rs_ex, then_nx, then_rt, then_ex, then_bk, then_ct, mV0, mVs, mC_, m2_, m1_, mB_, kB_bl, mB1_, mNil_, mCons_, f1L_, f2L_, mTup_, mLst_, mCall_, mNotT_, mAndT_, mOrT_, mIf_, mAndV_, mOrV_, mNotV_, kAndV_bl, kOrV_bl, kNotV_bl, mSl_, mPart_, kPart_, mNoPart_, sSeq_, sSet_, sRet_, sIf_, sExpr_, sNil_, sBreak_, sCont_, e_lt, e_le, e_gt, e_ge, e_eqI, e_neI, e_eqS, e_neS, e_add, e_sub, List.set_cons_zero, List.set_cons_succ, kTu1, kTu2, kTu3, kTu4, kTu5, kLs0, kLs1, kLs2, kLs3, kLs4, kLs5, mM_, mM0_, sAsg_, sFor_, iRng_, iSeq_, h1, h2, h3, d3, if_true, is_ss]
  rfl
/-- the pieces of a joining so far -/
def pcs : List (List Nat) → List (List Nat) → List (List Nat)
  | [], _ => []
  | _, [] => []
  | l :: ls, t :: ts => l :: t :: pcs ls ts
theorem pcs_len : ∀ (ls ts : List (List Nat)), ls.length = ts.length + 1 → (pcs ls ts).length = 2 * ts.length
  | [], ts, h => by simp at h
  | [l], [], h => rfl
  | _ :: _ :: _, [], h => by simp at h
  | l :: ls, t :: ts, h => by
    show (pcs ls ts).length + 1 + 1 = _
    rw [pcs_len ls ts (by simpa using h)]
    simp; omega
theorem pcs_join : ∀ (ls ts : List (List Nat)) (a : List Nat), ls.length = ts.length + 1 → ls.getLast? = some a → (pcs ls ts ++ [a]).flatten = joinL ls ts
  | [], ts, a, h, _ => by simp at h
  | [l], [], a, h, ha => by
    have : l = a := by simpa using ha
    subst this
    simp [pcs, joinL]
  | _ :: _ :: _, [], a, h, _ => by simp at h
  | l :: ls, t :: ts, a, h, ha => by
    have hne : ls ≠ [] := by
      intro e; subst e; simp at h
    have ha' : ls.getLast? = some a := by rw [List.getLast?_cons_of_ne_nil hne] at ha; exact ha
    have ih := pcs_join ls ts a (by simpa using h) ha'
    show (l :: t :: (pcs ls ts ++ [a])).flatten = l ++ t ++ joinL ls ts
    rw [List.flatten_cons, List.flatten_cons, ih, List.append_assoc]
end K00

namespace K00
open PySem PySem.Spec L2 Mi
/-- turns with numbers over a list in the store -/
theorem fe_end {S : Sto} {ds : List D} {n j k : Nat} {g : MG} {b : MS} {env : Mi.Env} (h : S[j]? = some (.lst ds)) : forI (itEnumL n j) g b k ds.length env S = .nx env S := by
  have e : (itEnumL n j).f ds.length S = some none := by
    show (lstAt S j).map _ = some none
    unfold lstAt; rw [h]; simp
  cases k <;> (unfold forI; simp only [e])
theorem fe_nx {S S2 : Sto} {ds : List D} {d : D} {n j i k : Nat} {g : MG} {b : MS} {env env1 env2 : Mi.Env} (h : S[j]? = some (.lst ds)) (h2 : ds[i]? = some d) (hg : g (.tup [.int (i : Int), d]) env S = some env1) (hb : b env1 S = .nx env2 S2) : forI (itEnumL n j) g b (k + 1) i env S = forI (itEnumL n j) g b k (i + 1) env2 S2 := by
  have e : (itEnumL n j).f i S = some (some (.tup [.int (i : Int), d])) := by
    show (lstAt S j).map _ = _
    unfold lstAt; rw [h]; simp [h2]
  rw [forI]; simp only [e, hg, hb]
end K00

namespace K00
open PySem PySem.Spec L2 Mi
def JT : MS := (sSeq (sIf (mOrT (mNotT (mB (m1 (fIsi ["str"]) (m2 fIx (mV 0) (mV 3))))) (mNotT (mB (mCall M__is_token (mCons (mV 4) mNil)))))
  (sRaise "BadText" 1 (fl_BadText D .non) (mCons (m1 fNeg (mC (.int 1))) mNil))
  sNil)
  (sSeq (sExpr (mM "list" fAppend (mV 2) (mCons (m2 fIx (mV 0) (mV 3)) mNil)))
  (sExpr (mM "list" fAppend (mV 2) (mCons (m2 fIx (mV 4) (mC (.int 1))) mNil)))))
/-- one turn: S the store ahead of the pieces -/
theorem jt_step {S : Sto} {L : D} {r : Nat} {k q : D} {l t : List Nat} {i : Nat} {ps : List D} (x1 : Option D) (hL : ∀ X : Sto, fIx L (.int (i : Int)) (S ++ X) = some (sD l, S ++ X)) (hr : S[r]? = some (.lst [k, sD t, q])) (hps : ps.length + 2 ≤ 1000000) :
    JT [some L, x1, some (.obj S.length), some (.int (i : Int)), some (.obj r)] (S ++ [.lst ps]) = .nx [some L, x1, some (.obj S.length), some (.int (i : Int)), some (.obj r)] (S ++ [.lst (ps ++ [sD l, sD t])]) := by
  have h1 := fun X : Sto => is_token (S := S ++ X) (r := r) (get_app hr)
  have h2 : ∀ X : Sto, fIx (.obj r) (.int 1) (S ++ X) = some (sD t, S ++ X) := fun X => e_ix1 (get_app hr)
  have a1 : fAppend (.obj S.length) [sD l] (S ++ [.lst ps]) = some (.non, S ++ [.lst (ps ++ [sD l])]) := by rw [e_append ga0 (by rw [sizeLine_eq]; omega), sa0]
  have a2 : fAppend (.obj S.length) [sD t] (S ++ [.lst (ps ++ [sD l])]) = some (.non, S ++ [.lst (ps ++ [sD l, sD t])]) := by rw [e_append ga0 (by rw [sizeLine_eq]; simp; omega), sa0]; simp
  unfold JT
  simp only [bind_ok, bind_ex, of_some, rs_ok, rs_ex, then_nx, then_rt, then_ex, then_bk, then_ct, mV0, mVs, mC_, m2_, m1_, mB_, kB_bl, mB1_, mNil_, mCons_, f1L_, f2L_, mTup_, mLst_, mCall_, mNotT_, mAndT_, mOrT_, mIf_, mAndV_, mOrV_, mNotV_, kAndV_bl, kOrV_bl, kNotV_bl, mSl_, mPart_, kPart_, mNoPart_, sSeq_, sSet_, sRet_, sIf_, sExpr_, sNil_, sBreak_, sCont_, e_lt, e_le, e_gt, e_ge, e_eqI, e_neI, e_eqS, e_neS, e_add, e_sub, List.set_cons_zero, List.set_cons_succ, kTu1, kTu2, kTu3, kTu4, kTu5, kLs0, kLs1, kLs2, kLs3, kLs4, kLs5, mM_, mM0_, sAsg_, sFor_, iRng_, iSeq_, hL, h1, h2, is_ss, Bool.not_true, Bool.false_eq_true, if_false, tyL ga0, if_true, a1, a2]
end K00

namespace K00
open PySem PySem.Spec L2 Mi
theorem pcs_take {ls ts : List (List Nat)} : ∀ {i : Nat} {l t : List Nat}, ls[i]? = some l → ts[i]? = some t → pcs (ls.take (i + 1)) (ts.take (i + 1)) = pcs (ls.take i) (ts.take i) ++ [l, t] := by
  intro i
  induction i generalizing ls ts with
  | zero =>
    intro l t h1 h2
    cases ls with
    | nil => cases h1
    | cons a ls =>
      cases ts with
      | nil => cases h2
      | cons b ts => cases h1; cases h2; rfl
  | succ i ih =>
    intro l t h1 h2
    cases ls with
    | nil => cases h1
    | cons a ls =>
      cases ts with
      | nil => cases h2
      | cons b ts =>
        show a :: b :: pcs (ls.take (i + 1)) (ts.take (i + 1)) = a :: b :: (pcs (ls.take i) (ts.take i) ++ [l, t])
        rw [ih (ls := ls) (ts := ts) h1 h2]
end K00

namespace K00
open PySem PySem.Spec L2 Mi
theorem jt_loop {S : Sto} {L : D} {b m : Nat} {rs : List Nat} {ls txt : List (List Nat)} (x1 : Option D) (hb : S[b]? = some (.lst (rs.map D.obj))) (hl : ls.length = txt.length + 1) (hrl : rs.length = txt.length) (hsz : txt.length ≤ 400000)
    (hL : ∀ (i : Nat) (l : List Nat), ls[i]? = some l → ∀ X : Sto, fIx L (.int (i : Int)) (S ++ X) = some (sD l, S ++ X))
    (hr : ∀ (i r : Nat) (t : List Nat), rs[i]? = some r → txt[i]? = some t → ∃ (k q : D), S[r]? = some (.lst [k, sD t, q])) : ∀ (k i : Nat) (x3 x4 : Option D), txt.length = i + k → ∃ (y3 y4 : Option D),
    forI (itEnumL m b) (gT 2 (gsCons (gN 3) (gsCons (gN 4) gsNil))) JT k i [some L, x1, some (.obj S.length), x3, x4] (S ++ [.lst ((pcs (ls.take i) (txt.take i)).map sD)]) = .nx [some L, x1, some (.obj S.length), y3, y4] (S ++ [.lst ((pcs ls txt).map sD)])
  | 0, i, x3, x4, hn => by
    refine ⟨x3, x4, ?_⟩
    have hi : i = (rs.map D.obj).length := by rw [List.length_map]; omega
    rw [hi, fe_end (get_app hb), List.length_map, hrl]
    have e1 : pcs (ls.take txt.length) (txt.take txt.length) = pcs ls txt := by
      rw [List.take_length]
      have : ∀ (ls ts : List (List Nat)), pcs (ls.take ts.length) ts = pcs ls ts := by
        intro ls ts
        induction ts generalizing ls with
        | nil => cases ls <;> rfl
        | cons t ts ih =>
          cases ls with
          | nil => rfl
          | cons l ls => show l :: t :: pcs (ls.take ts.length) ts = l :: t :: pcs ls ts; rw [ih]
      exact this ls txt
    rw [e1]
  | k + 1, i, x3, x4, hn => by
    have hi : i < txt.length := by omega
    obtain ⟨t, ht⟩ : ∃ t, txt[i]? = some t := ⟨_, List.getElem?_eq_getElem hi⟩
    obtain ⟨r, hr0⟩ : ∃ r, rs[i]? = some r := ⟨_, List.getElem?_eq_getElem (by omega)⟩
    obtain ⟨l, hl0⟩ : ∃ l, ls[i]? = some l := ⟨_, List.getElem?_eq_getElem (by omega)⟩
    obtain ⟨kd, q, hrow⟩ := hr i r t hr0 ht
    have hlen : ((pcs (ls.take i) (txt.take i)).map sD).length + 2 ≤ 1000000 := by
      have : ∀ (ls ts : List (List Nat)), (pcs ls ts).length ≤ 2 * ts.length := by
        intro ls ts
        induction ts generalizing ls with
        | nil => cases ls <;> simp [pcs]
        | cons t ts ih =>
          cases ls with
          | nil => simp [pcs]
          | cons l ls =>
            have := ih ls
            show (pcs ls ts).length + 1 + 1 ≤ _
            simp; omega
      have h1 := this (ls.take i) (txt.take i)
      rw [List.length_map]
      rw [List.length_take] at h1
      omega
    obtain ⟨y3, y4, q1⟩ := jt_loop (m := m) x1 hb hl hrl hsz hL hr k (i + 1) (some (.int (i : Int))) (some (.obj r)) (by omega)
    refine ⟨y3, y4, ?_⟩
    rw [fe_nx (get_app hb) (d := .obj r) (by rw [List.getElem?_map, hr0]; rfl) rfl (jt_step x1 (hL i l hl0) hrow hlen)]
    rw [pcs_take hl0 ht, List.map_append] at q1
    exact q1
end K00

namespace K00
open PySem PySem.Spec L2 Mi
theorem toStrs_map : ∀ ys : List (List Nat), toStrs (ys.map sD) = some (ys.map st)
  | [] => rfl
  | y :: ys => by
    show (toStrs (ys.map sD)).map (st y :: ·) = _
    rw [toStrs_map ys]; rfl
end K00

namespace K00
open PySem PySem.Spec L2 Mi
/-! ### the end of a joining -/
theorem tl_st (l : List Nat) : TL.tl (st l) = l := (rfl)
theorem joinE : ∀ ys : List (List Nat), TL.joinL [] ys = ys.flatten
  | [] => rfl
  | [p] => by simp [TL.joinL]
  | p :: q :: r => by
    show p ++ ([] ++ TL.joinL [] (q :: r)) = _
    rw [joinE (q :: r)]; simp
theorem join_st (ys : List (List Nat)) : Txt.join (st []) (ys.map st) = st ys.flatten := by
  refine TL.ext_tl ?_
  rw [TL.join_eq, TL.tl_join, List.map_map, tl_st, tl_st]
  have e : ys.map (TL.tl ∘ st) = ys := by
    have : (TL.tl ∘ st) = id := rfl
    rw [this, List.map_id]
  rw [e, joinE]
theorem lst_at {S : Sto} {j : Nat} {ds : List D} (h : S[j]? = some (.lst ds)) : lstAt S j = some ds := by unfold lstAt; rw [h]
theorem e_join {S : Sto} {p : Nat} {ys : List (List Nat)} (h : S[p]? = some (.lst (ys.map sD))) (hz : ys.flatten.length ≤ 1000000) : fJoin (.str "") [.obj p] S = some (sD ys.flatten, S) := by
  have e0 : ("" : Str) = st [] := rfl
  have e1 := lst_at h
  have e2 : ((ys.map st).map (·.length)).sum = ys.flatten.length := by
    rw [List.length_flatten, List.map_map]; rfl
  rw [e0]
  unfold fJoin
  simp only [e1, toStrs_map, Option.bind_some]
  rw [if_pos ?_, join_st]
  rw [e2, st_len, List.length_nil]
  omega
/-- layouts in a list or a tuple -/
def LayAt (S : Sto) (L : D) (ls : List (List Nat)) : Prop := L = .tup (ls.map sD) ∨ ∃ a, L = .obj a ∧ S[a]? = some (.lst (ls.map sD))
theorem LayAt.app {S X : Sto} {L : D} {ls : List (List Nat)} (h : LayAt S L ls) : LayAt (S ++ X) L ls := by
  rcases h with h | ⟨a, h, h2⟩
  · exact .inl h
  · exact .inr ⟨a, h, get_app h2⟩
theorem LayAt.isi {S : Sto} {L : D} {ls : List (List Nat)} (h : LayAt S L ls) : fIsi ["list", "tuple"] L S = some (.bl true, S) := by
  rcases h with rfl | ⟨a, rfl, h2⟩
  · rfl
  · unfold fIsi tyD; simp only [h2]; rfl
theorem LayAt.len {S : Sto} {L : D} {ls : List (List Nat)} (h : LayAt S L ls) : fLen L S = some (.int (ls.length : Int), S) := by
  rcases h with rfl | ⟨a, rfl, h2⟩
  · rw [e_lenT, List.length_map]
  · rw [e_lenL h2, List.length_map]
theorem LayAt.ix {S : Sto} {L : D} {ls : List (List Nat)} {i : Nat} {l : List Nat} (h : LayAt S L ls) (h3 : ls[i]? = some l) : fIx L (.int (i : Int)) S = some (sD l, S) := by
  rcases h with rfl | ⟨a, rfl, h2⟩
  · exact e_ixT (by rw [List.getElem?_map, h3]; rfl)
  · exact e_ixL h2 (by rw [List.getElem?_map, h3]; rfl)
theorem at_last {ds : List D} {d : D} (h : ds.getLast? = some d) : atI ds (-1) = some d := by
  have h0 : ds ≠ [] := by intro e; subst e; cases h
  have h1 : 0 < ds.length := List.length_pos_iff.mpr h0
  unfold atI ixN
  rw [if_neg (by omega), if_pos (by omega)]
  show ds[((-1 : Int) + (ds.length : Int)).toNat]? = _
  rw [show ((-1 : Int) + (ds.length : Int)).toNat = ds.length - 1 by omega, ← List.getLast?_eq_getElem?, h]
theorem LayAt.last {S : Sto} {L : D} {ls : List (List Nat)} {l : List Nat} (h : LayAt S L ls) (h3 : ls.getLast? = some l) : fIx L (.int (-1)) S = some (sD l, S) := by
  have e : (ls.map sD).getLast? = some (sD l) := by rw [List.getLast?_map, h3]; rfl
  rcases h with rfl | ⟨a, rfl, h2⟩
  · show (atI (ls.map sD) (-1)).map _ = _
    rw [at_last e]; rfl
  · show (lstAt S a).bind _ = _
    rw [lst_at h2]
    show (atI (ls.map sD) (-1)).map _ = _
    rw [at_last e]; rfl
theorem kEn {ds : List D} {S : Sto} {j : Nat} (h : S[j]? = some (.lst ds)) : kEnumL [.obj j] S = .ok (itEnumL ds.length j) S := by
  unfold kEnumL
  simp only [lst_at h]
theorem iEn_ {a : MA} {env : Mi.Env} {S : Sto} : iEnumL a env S = (a env S).bind kEnumL := (rfl)
theorem joined_text {S : Sto} {L : D} {b : Nat} {rs : List Nat} {ls txt : List (List Nat)} (h : LayAt S L ls) (hb : S[b]? = some (.lst (rs.map D.obj))) (hl : ls.length = txt.length + 1) (hrl : rs.length = txt.length) (hsz : txt.length ≤ 400000) (hj : (joinL ls txt).length ≤ 1000000)
    (hr : ∀ (i r : Nat) (t : List Nat), rs[i]? = some r → txt[i]? = some t → ∃ (k q : D), S[r]? = some (.lst [k, sD t, q])) : ∃ X, M_joined_text [L, .obj b] S = .ok (sD (joinL ls txt)) (S ++ X) := by
  obtain ⟨a, ha⟩ : ∃ a, ls.getLast? = some a := by
    cases e : ls.getLast? with
    | some a => exact ⟨a, rfl⟩
    | none => rw [List.getLast?_eq_none_iff] at e; subst e; simp at hl
  obtain ⟨y3, y4, q⟩ := jt_loop (m := rs.length) (some (.obj b)) hb hl hrl hsz (fun i l e X => (h.app).ix e) hr txt.length 0 none none (by omega)
  have e0 : pcs (ls.take 0) (txt.take 0) = [] := (rfl)
  rw [e0] at q
  have i1 := h.isi
  have i2 : fIsi ["list", "tuple"] (.obj b) S = some (.bl true, S) := by unfold fIsi tyD; simp only [hb]; rfl
  have n1 := h.len
  have n2 : fLen (.obj b) S = some (.int (txt.length : Int), S) := by rw [e_lenL hb, List.length_map, hrl]
  have n3 : decide ((ls.length : Int) = (txt.length : Int) + 1) = true := decide_eq_true (by omega)
  have ke : ∀ X : Sto, kEnumL [.obj b] (S ++ X) = .ok (itEnumL rs.length b) (S ++ X) := fun X => by rw [kEn (get_app hb), List.length_map]
  have en : (itEnumL rs.length b).n = txt.length := hrl
  have la : ∀ X : Sto, fIx L (.int (-1)) (S ++ X) = some (sD a, S ++ X) := fun X => (h.app).last ha
  have ng : ∀ X : Sto, fNeg (.int 1) X = some (.int (-1), X) := fun _ => rfl
  have hpl := pcs_len ls txt hl
  have a1 : fAppend (.obj S.length) [sD a] (S ++ [.lst ((pcs ls txt).map sD)]) = some (.non, S ++ [.lst ((pcs ls txt ++ [a]).map sD)]) := by
    rw [e_append ga0 (by rw [sizeLine_eq, List.length_map, hpl]; omega), sa0, List.map_append]; rfl
  have pj := pcs_join ls txt a hl ha
  have jj : fJoin (.str "") [.obj S.length] (S ++ [.lst ((pcs ls txt ++ [a]).map sD)]) = some (sD (joinL ls txt), S ++ [.lst ((pcs ls txt ++ [a]).map sD)]) := by
    rw [e_join ga0 (by rw [pj]; exact hj), pj]
  refine ⟨[.lst ((pcs ls txt ++ [a]).map sD)], ?_⟩
  unfold JT at q
  unfold M_joined_text mFn B_joined_text
  simp only [List.length_cons, List.length_nil, Nat.reduceAdd, if_true, List.map_cons, List.map_nil, List.replicate, List.cons_append, List.nil_append, Nat.reduceSub]
  simp only [bind_ok, bind_ex, of_some, rs_ok, rs_ex, then_nx, then_rt, then_ex, then_bk, then_ct, mV0, mVs, mC_, m2_, m1_, mB_, kB_bl, mB1_, mNil_, mCons_, f1L_, f2L_, mTup_, mLst_, mCall_, mNotT_, mAndT_, mOrT_, mIf_, mAndV_, mOrV_, mNotV_, kAndV_bl, kOrV_bl, kNotV_bl, mSl_, mPart_, kPart_, mNoPart_, sSeq_, sSet_, sRet_, sIf_, sExpr_, sNil_, sBreak_, sCont_, e_lt, e_le, e_gt, e_ge, e_eqI, e_neI, e_eqS, e_neS, e_add, e_sub, List.set_cons_zero, List.set_cons_succ, kTu1, kTu2, kTu3, kTu4, kTu5, kLs0, kLs1, kLs2, kLs3, kLs4, kLs5, mM_, mM0_, sAsg_, sFor_, iRng_, iSeq_, i1, i2, n1, n2, n3, Bool.not_true, Bool.false_eq_true, if_false, iEn_, ke, en, ng, List.map_nil] at q ⊢
  rw [q]
  simp only [bind_ok, bind_ex, of_some, rs_ok, rs_ex, then_nx, then_rt, then_ex, then_bk, then_ct, mV0, mVs, mC_, m2_, m1_, mB_, kB_bl, mB1_, mNil_, mCons_, f1L_, f2L_, mTup_, mLst_, mCall_, mNotT_, mAndT_, mOrT_, mIf_, mAndV_, mOrV_, mNotV_, kAndV_bl, kOrV_bl, kNotV_bl, mSl_, mPart_, kPart_, mNoPart_, sSeq_, sSet_, sRet_, sIf_, sExpr_, sNil_, sBreak_, sCont_, e_lt, e_le, e_gt, e_ge, e_eqI, e_neI, e_eqS, e_neS, e_add, e_sub, List.set_cons_zero, List.set_cons_succ, kTu1, kTu2, kTu3, kTu4, kTu5, kLs0, kLs1, kLs2, kLs3, kLs4, kLs5, mM_, mM0_, sAsg_, sFor_, iRng_, iSeq_, la, ng, is_ss, Bool.not_true, Bool.false_eq_true, if_false, if_true, tyL ga0, a1, tyS, jj]
  rfl
theorem joined_refused {S : Sto} {L : D} {b : Nat} {ds : List D} {ls : List (List Nat)} (h : LayAt S L ls) (hb : S[b]? = some (.lst ds)) (hl : ls.length ≠ ds.length + 1) : M_joined_text [L, .obj b] S = .ex ⟨"BadText", [("offset", .int (-1))]⟩ S := by
  have i1 := h.isi
  have i2 : fIsi ["list", "tuple"] (.obj b) S = some (.bl true, S) := by unfold fIsi tyD; simp only [hb]; rfl
  have n1 := h.len
  have n2 : fLen (.obj b) S = some (.int (ds.length : Int), S) := e_lenL hb
  have n3 : decide ((ls.length : Int) = (ds.length : Int) + 1) = false := decide_eq_false (by omega)
  have ng : ∀ X : Sto, fNeg (.int 1) X = some (.int (-1), X) := fun _ => rfl
  unfold M_joined_text mFn B_joined_text
  simp only [List.length_cons, List.length_nil, Nat.reduceAdd, if_true, List.map_cons, List.map_nil, List.replicate, List.cons_append, List.nil_append, Nat.reduceSub]
  simp only [bind_ok, bind_ex, of_some, rs_ok, rs_ex, then_nx, then_rt, then_ex, then_bk, then_ct, mV0, mVs, mC_, m2_, m1_, mB_, kB_bl, mB1_, mNil_, mCons_, f1L_, f2L_, mTup_, mLst_, mCall_, mNotT_, mAndT_, mOrT_, mIf_, mAndV_, mOrV_, mNotV_, kAndV_bl, kOrV_bl, kNotV_bl, mSl_, mPart_, kPart_, mNoPart_, sSeq_, sSet_, sRet_, sIf_, sExpr_, sNil_, sBreak_, sCont_, e_lt, e_le, e_gt, e_ge, e_eqI, e_neI, e_eqS, e_neS, e_add, e_sub, List.set_cons_zero, List.set_cons_succ, kTu1, kTu2, kTu3, kTu4, kTu5, kLs0, kLs1, kLs2, kLs3, kLs4, kLs5, mM_, mM0_, sAsg_, sFor_, iRng_, iSeq_, i1, i2, n1, n2, n3, Bool.not_true, Bool.not_false, Bool.false_eq_true, if_false, if_true, ng]
  rfl
end K00

namespace K00
open PySem PySem.Spec L2 Mi
/-! ### comprehensions that make one new list a turn -/
def rng (b n : Nat) : List Nat := (List.range n).map (b + ·)
theorem rng_succ (b n : Nat) : rng b (n + 1) = rng b n ++ [b + n] := by unfold rng; rw [List.range_succ, List.map_append]; rfl
theorem rng_len (b n : Nat) : (rng b n).length = n := by unfold rng; simp
theorem rng_get {b n i : Nat} (h : i < n) : (rng b n)[i]? = some (b + i) := by
  unfold rng; rw [List.getElem?_map, List.getElem?_range h]; rfl
section
variable {it : MIt} {e : ME} {v : Nat} {vs : List Nat} {env : Mi.Env} {S : Sto} {ds : List D} {qs : List (List D)}
theorem lcr_loop (h1 : ∀ (acc : List D) (T : Sto) (i : Nat) (d : D), ds[i]? = some d → it.f i (S ++ .lst acc :: T) = some (some d)) (h2 : ∀ (acc : List D) (T : Sto), it.f ds.length (S ++ .lst acc :: T) = some none) (hq : qs.length = ds.length)
    (hf : ∀ (acc : List D) (T : Sto) (i : Nat) (d : D) (q : List D), ds[i]? = some d → qs[i]? = some q → e (env.set v (some d)) (S ++ MO.lst acc :: T) = .ok (.obj (S ++ MO.lst acc :: T).length) ((S ++ MO.lst acc :: T) ++ [.lst q])) (hl : ds.length ≤ sizeLine) : ∀ (k i : Nat), ds.length = i + k →
    lcI it (gN v) tAll e S.length k i env (S ++ .lst ((rng (S.length + 1) i).map D.obj) :: (qs.take i).map MO.lst) = .ok (.obj S.length) (S ++ .lst ((rng (S.length + 1) ds.length).map D.obj) :: qs.map MO.lst)
  | 0, i, he => by
    have : i = ds.length := by omega
    subst this
    rw [List.take_of_length_le (by omega)]
    exact lcI_end (h2 _ _)
  | k + 1, i, he => by
    have hi : i < ds.length := by omega
    obtain ⟨d, hd⟩ : ∃ d, ds[i]? = some d := ⟨_, List.getElem?_eq_getElem hi⟩
    obtain ⟨q, hqi⟩ : ∃ q, qs[i]? = some q := ⟨_, List.getElem?_eq_getElem (by omega)⟩
    have h := hf ((rng (S.length + 1) i).map D.obj) ((qs.take i).map MO.lst) i d q hd hqi
    have eS : (S ++ MO.lst ((rng (S.length + 1) i).map D.obj) :: (qs.take i).map MO.lst) ++ [.lst q] = S ++ MO.lst ((rng (S.length + 1) i).map D.obj) :: (qs.take (i + 1)).map MO.lst := by
      rw [List.take_add_one, hqi]; simp
    have eL : (S ++ MO.lst ((rng (S.length + 1) i).map D.obj) :: (qs.take i).map MO.lst).length = S.length + 1 + i := by
      simp only [List.length_append, List.length_cons, List.length_map, List.length_take]; omega
    rw [eS, eL] at h
    rw [lcI_nx (h1 _ _ _ _ hd) h ga0 (by rw [List.length_map, rng_len]; omega), sa0]
    have := lcr_loop h1 h2 hq hf hl k (i + 1) (by omega)
    rw [rng_succ, List.map_append] at this
    exact this
theorem lcr (h1 : ∀ (acc : List D) (T : Sto) (i : Nat) (d : D), ds[i]? = some d → it.f i (S ++ .lst acc :: T) = some (some d)) (h2 : ∀ (acc : List D) (T : Sto), it.f ds.length (S ++ .lst acc :: T) = some none) (hn : it.n = ds.length) (hq : qs.length = ds.length)
    (hf : ∀ (acc : List D) (T : Sto) (i : Nat) (d : D) (q : List D), ds[i]? = some d → qs[i]? = some q → e ((wipeE env vs).set v (some d)) (S ++ MO.lst acc :: T) = .ok (.obj (S ++ MO.lst acc :: T).length) ((S ++ MO.lst acc :: T) ++ [.lst q])) (hl : ds.length ≤ sizeLine) :
    kLc (gN v) tAll e vs env it S = .ok (.obj S.length) (S ++ .lst ((rng (S.length + 1) ds.length).map D.obj) :: qs.map MO.lst) := by
  unfold kLc
  rw [hn]
  exact lcr_loop (env := wipeE env vs) h1 h2 hq hf hl ds.length 0 (by omega)
theorem lcr_lst {j : Nat} (hj : S[j]? = some (.lst ds)) (hq : qs.length = ds.length)
    (hf : ∀ (acc : List D) (T : Sto) (i : Nat) (d : D) (q : List D), ds[i]? = some d → qs[i]? = some q → e ((wipeE env vs).set v (some d)) (S ++ MO.lst acc :: T) = .ok (.obj (S ++ MO.lst acc :: T).length) ((S ++ MO.lst acc :: T) ++ [.lst q])) (hl : ds.length ≤ sizeLine) :
    kLc (gN v) tAll e vs env (itLst ds.length j) S = .ok (.obj S.length) (S ++ .lst ((rng (S.length + 1) ds.length).map D.obj) :: qs.map MO.lst) :=
  lcr (fun acc T i d h => fl_at (get_app hj) h) (fun acc T => by
    show (lstAt (S ++ .lst acc :: T) j).map _ = some none
    unfold lstAt
    rw [get_app hj]; simp) rfl hq hf hl
end
/-- the rows made -/
theorem rows_get {S : Sto} {x : MO} {qs : List (List D)} {i : Nat} {q : List D} (h : qs[i]? = some q) : (S ++ x :: qs.map MO.lst)[S.length + 1 + i]? = some (.lst q) := by
  rw [List.getElem?_append_right (by omega), show S.length + 1 + i - S.length = i + 1 by omega, List.getElem?_cons_succ, List.getElem?_map, h]; rfl
end K00

namespace K00
open PySem PySem.Spec L2 Mi
abbrev joinTry : MS := sTryAs (sSet 2 (mCall M_joined_text (mCons (mV 0) (mCons (mV 1) mNil)))) 3 sub_BadText
  (xSetL 2 (fun en => ((fun _ => some (.str "refused")) en).bind fun d => ((fun en => ((fun en => if en.cls ∈ xl_offset then en.fs.lookup ("offset" : Str) else none) en).bind fun d => ((fun _ => some []) en).map fun ds => d :: ds) en).map fun ds => d :: ds))
theorem jtry_ex {S S' : Sto} {d e o : D} (h : M_joined_text [d, e] S = .ex ⟨"BadText", [("offset", o)]⟩ S') : joinTry [some d, some e, some .non, none] S = .nx [some d, some e, some (.obj S'.length), none] (S' ++ [.lst [.str "refused", o]]) := by
  have h1 : sub_BadText "BadText" = some true := by decide +kernel
  have h2 : ("BadText" : Str) ∈ xl_offset := by unfold xl_offset; simp
  have h3 : 2 ≤ sizeLine := by rw [sizeLine_eq]; decide
  unfold joinTry sTryAs
  simp only [bind_ok, bind_ex, of_some, rs_ok, rs_ex, then_nx, then_rt, then_ex, then_bk, then_ct, mV0, mVs, mC_, m2_, m1_, mB_, kB_bl, mB1_, mNil_, mCons_, f1L_, f2L_, mTup_, mLst_, mCall_, mNotT_, mAndT_, mOrT_, mIf_, mAndV_, mOrV_, mNotV_, kAndV_bl, kOrV_bl, kNotV_bl, mSl_, mPart_, kPart_, mNoPart_, sSeq_, sSet_, sRet_, sIf_, sExpr_, sNil_, sBreak_, sCont_, e_lt, e_le, e_gt, e_ge, e_eqI, e_neI, e_eqS, e_neS, e_add, e_sub, List.set_cons_zero, List.set_cons_succ, kTu1, kTu2, kTu3, kTu4, kTu5, kLs0, kLs1, kLs2, kLs3, kLs4, kLs5, mM_, mM0_, sAsg_, sFor_, iRng_, iSeq_, h, h1]
  simp only [h2, if_true, xSetL, List.lookup, beq_self_eq_true, List.length_cons, List.length_nil, unsetEnd, List.set_cons_zero, List.set_cons_succ, Option.bind_some, Option.map_some, Nat.reduceAdd, h3]
  rfl
theorem kREF : (PyData.str "refused").canLay0 = true := by decide +kernel
theorem refused {S : Sto} {L : D} {b : Nat} {ds : List D} {ls : List (List Nat)} (h : LayAt S L ls) (hb : S[b]? = some (.lst ds)) (hl : ls.length ≠ ds.length + 1) : ∃ X : Sto, M__law_join_refused [L, .obj b] S = .ok (.bl true) (S ++ X) := by
  have ht := jtry_ex (joined_refused h hb hl)
  have ng : ∀ X : Sto, fNeg (.int 1) X = some (.int (-1), X) := fun _ => rfl
  have heq := refused_eq (S := S ++ [.lst [.str "refused", .int (-1)], .lst [.str "refused", .int (-1)]]) (i := S.length) (j := S.length + 1) kREF ga0 ga1
  refine ⟨[.lst [.str "refused", .int (-1)], .lst [.str "refused", .int (-1)]], ?_⟩
  unfold joinTry at ht
  unfold M__law_join_refused mFn B__law_join_refused
  simp only [List.length_cons, List.length_nil, Nat.reduceAdd, if_true, List.map_cons, List.map_nil, List.replicate, List.cons_append, List.nil_append, Nat.reduceSub]
  simp only [bind_ok, bind_ex, of_some, rs_ok, rs_ex, then_nx, then_rt, then_ex, then_bk, then_ct, mV0, mVs, mC_, m2_, m1_, mB_, kB_bl, mB1_, mNil_, mCons_, f1L_, f2L_, mTup_, mLst_, mCall_, mNotT_, mAndT_, mOrT_, mIf_, mAndV_, mOrV_, mNotV_, kAndV_bl, kOrV_bl, kNotV_bl, mSl_, mPart_, kPart_, mNoPart_, sSeq_, sSet_, sRet_, sIf_, sExpr_, sNil_, sBreak_, sCont_, e_lt, e_le, e_gt, e_ge, e_eqI, e_neI, e_eqS, e_neS, e_add, e_sub, List.set_cons_zero, List.set_cons_succ, kTu1, kTu2, kTu3, kTu4, kTu5, kLs0, kLs1, kLs2, kLs3, kLs4, kLs5, mM_, mM0_, sAsg_, sFor_, iRng_, iSeq_, ht, ng, List.length_append, List.length_singleton, List.append_assoc, List.cons_append, List.nil_append, heq]
  rfl
theorem same_shaped (c c' : Cut) : SeqAt.shaped (sameP c c') = true := by
  have key : ∀ (x : Str) (p : PyData), (PyData.str x).canLay0 = true → p.canLay0 = true → p.depth = 0 → SeqAt.shaped (.list [.str x, p]) = true := fun x p h1 h2 h3 => by
    refine shaped_of ?_ ?_
    · unfold PyData.canLay0
      refine canAll fun q hq => ?_
      simp only [List.mem_cons, List.not_mem_nil, or_false] at hq
      rcases hq with rfl | rfl
      · exact h1
      · exact h2
    · unfold PyData.depth
      have : PyData.depthAll [.str x, p] ≤ 0 := depAll fun q hq => by
        simp only [List.mem_cons, List.not_mem_nil, or_false] at hq
        rcases hq with rfl | rfl
        · rw [d0]; exact Nat.le_refl _
        · rw [h3]; exact Nat.le_refl _
      omega
  have kT : (PyData.str "told").canLay0 = true := by decide +kernel
  cases c with
  | bad p => exact key _ _ kBAD ci d0i
  | good ls ts =>
    cases c' with
    | bad p => exact key _ _ kBAD ci d0i
    | good ls' ts' => exact key _ _ kT (by simp [PyData.canLay0]) (by simp [PyData.depth])
theorem DueAt.stp {S S' : Sto} {n0 j p : Nat} {c : Cut} (h : DueAt S n0 j c) (hp : p < n0) (a : Stp p S S') : DueAt S' n0 j c := by
  cases c with
  | bad q => exact ⟨h.1, a.get h.2 (by have := h.1; omega)⟩
  | good ls ts =>
    obtain ⟨x, y, rs, z1, z2, z3, h1, h2, h3, h4⟩ := h
    refine ⟨x, y, rs, z1, z2, z3, a.get h1 (by omega), a.get h2 (by omega), a.get h3 (by omega), ?_⟩
    clear h3
    induction h4 with
    | nil => exact .nil
    | cons q qs ih => exact .cons ⟨q.1, a.get q.2 (by have := q.1; omega)⟩ ih
theorem DueAt.app {S X : Sto} {n0 j : Nat} {c : Cut} (h : DueAt S n0 j c) : DueAt (S ++ X) n0 j c := by
  cases c with
  | bad q => exact ⟨h.1, get_app h.2⟩
  | good ls ts =>
    obtain ⟨x, y, rs, z1, z2, z3, h1, h2, h3, h4⟩ := h
    refine ⟨x, y, rs, z1, z2, z3, get_app h1, get_app h2, get_app h3, ?_⟩
    clear h3
    induction h4 with
    | nil => exact .nil
    | cons q qs ih => exact .cons ⟨q.1, get_app q.2⟩ ih
/-- told text against its due -/
theorem told_ne (S : Sto) {t : List Nat} {n0 a : Nat} (h : TextOk t) (hd : DueAt S n0 a (cutOf t)) : ∃ (j : Nat) (X : Sto), M__law_told [sD t] S = .ok (.obj j) (S ++ X) ∧ fNe (.obj j) (.obj a) (S ++ X) = some (.bl false, S ++ X) := by
  obtain ⟨j, X, h1, h2⟩ := told S h
  exact ⟨j, X, h1, (due_same (cut_ok h) h2 hd.app).2⟩
theorem same_ne (S : Sto) {t u : List Nat} {n0 n1 a b : Nat} (ht : TextOk t) (hu : TextOk u) (hd : DueAt S n0 a (cutOf t)) (hd' : DueAt S n1 b (cutOf u)) : ∃ (j j' : Nat) (X X' : Sto), M__law_same [sD t, sD u] S = .ok (.obj j) (S ++ X) ∧ M__law_same_due [.obj a, .obj b] (S ++ X) = .ok (.obj j') (S ++ X ++ X') ∧
    fNe (.obj j) (.obj j') (S ++ X ++ X') = some (.bl false, S ++ X ++ X') ∧ fEq (.obj j) (.obj j') (S ++ X ++ X') = some (.bl true, S ++ X ++ X') := by
  obtain ⟨j, X, h1, h2⟩ := law_same S ht hu
  obtain ⟨j', X', h3, h4⟩ := same_due (hd.app (X := X)) (hd'.app (X := X)) (cut_ok ht) (cut_ok hu)
  obtain ⟨e1, e2⟩ := eq_objs (toP_app h2 (X := X')) h4 (same_shaped _ _)
  exact ⟨j, j', X, X', h1, h3, e2, e1⟩
end K00

namespace K00
open PySem PySem.Spec L2 Mi
theorem stp_refl {j : Nat} {S : Sto} (h : PoolOk S j) : Stp j S S := ⟨Nat.le_refl _, fun _ _ _ => rfl, h⟩
def TB : MS := (sSet 2 (m2 fAdd (mV 2) (mCall M__law_piece (mCons (mV 1) mNil))))
theorem text_loop {j : Nat} (x0 : Option D) (rest : Mi.Env) : ∀ (k i n : Nat) (t : List Nat) (S : Sto) (z : Option D), n = i + k → t.length + 20 * k ≤ 1000 → okL t → PoolOk S j → ∃ (t' : List Nat) (S' : Sto) (z' : Option D),
    forI (itRng 0 n) (gN 3) TB k i (x0 :: some (.obj j) :: some (sD t) :: z :: rest) S = .nx (x0 :: some (.obj j) :: some (sD t') :: z' :: rest) S' ∧ t'.length ≤ t.length + 20 * k ∧ okL t' ∧ Stp j S S'
  | 0, i, n, t, S, z, hn, hl, ht, hp => by
    have : n = i := by omega
    subst this
    exact ⟨t, S, z, by rw [fr_end], by simp, ht, stp_refl hp⟩
  | k + 1, i, n, t, S, z, hn, hl, ht, hp => by
    obtain ⟨l, S1, p1, p2, p3, p4⟩ := piece hp
    have hadd : fAdd (sD t) (sD l) S1 = some (sD (t ++ l), S1) := e_addS (by rw [sizeLine_eq]; omega)
    obtain ⟨t', S', z', q1, q2, q3, q4⟩ := text_loop x0 rest k (i + 1) n (t ++ l) S1 (some (.int (0 + (i : Int)))) (by omega) (by rw [List.length_append]; omega) (okapp ht p3) p4.pool
    rw [List.length_append] at q2
    refine ⟨t', S', z', ?_, by omega, q3, p4.trans q4⟩
    rw [fr_nx (by omega) (env2 := (x0 :: some (.obj j) :: some (sD (t ++ l)) :: some (.int (0 + (i : Int))) :: rest)) (S2 := S1) ?_, q1]
    unfold TB
    simp only [bind_ok, bind_ex, of_some, rs_ok, rs_ex, then_nx, then_rt, then_ex, then_bk, then_ct, mV0, mVs, mC_, m2_, m1_, mB_, kB_bl, mB1_, mNil_, mCons_, f1L_, f2L_, mTup_, mLst_, mCall_, mNotT_, mAndT_, mOrT_, mIf_, mAndV_, mOrV_, mNotV_, kAndV_bl, kOrV_bl, kNotV_bl, mSl_, mPart_, kPart_, mNoPart_, sSeq_, sSet_, sRet_, sIf_, sExpr_, sNil_, sBreak_, sCont_, e_lt, e_le, e_gt, e_ge, e_eqI, e_neI, e_eqS, e_neS, e_add, e_sub, List.set_cons_zero, List.set_cons_succ, kTu1, kTu2, kTu3, kTu4, kTu5, kLs0, kLs1, kLs2, kLs3, kLs4, kLs5, mM_, mM0_, sAsg_, sFor_, iRng_, iSeq_, p1, hadd]
/-! a text so many times -/
def rep (n : Nat) (l : List Nat) : List Nat := (List.replicate n l).flatten
theorem rep_len (n : Nat) (l : List Nat) : (rep n l).length = n * l.length := by
  unfold rep; rw [List.length_flatten, List.map_replicate, List.sum_replicate_nat]
theorem rep_ok {n : Nat} {l : List Nat} (h : okL l) : okL (rep n l) := fun c hc => by
  unfold rep at hc
  obtain ⟨m, hm, hc⟩ := List.mem_flatten.mp hc
  rw [(List.mem_replicate.mp hm).2] at hc
  exact h c hc
theorem foldl_list (l : List Nat) : ∀ (n : Nat) (a : Array Nat), ((List.replicate n l.toArray).foldl (· ++ ·) a).toList = a.toList ++ rep n l
  | 0, a => by simp [rep]
  | n + 1, a => by
    rw [List.replicate_succ, List.foldl_cons, foldl_list l n]
    unfold rep
    simp [List.replicate_succ]
theorem strMul_st (l : List Nat) (n : Nat) : strMul (st l) n = st (rep n l) := by
  refine TL.ext_tl ?_
  show ((List.replicate n l.toArray).foldl (· ++ ·) #[]).toList = rep n l
  rw [foldl_list]; rfl
theorem e_mulA {l : List Nat} {n : Nat} {S : Sto} (hn : n ≤ 100000) (h : l.length * n ≤ 100000) : fMulA (sD l) (.int (n : Int)) S = some (sD (rep n l), S) := by
  unfold fMulA fMulS
  simp only []
  rw [if_pos ⟨by omega, by omega, by rw [sizeLine_eq, st_len, Int.toNat_natCast]; omega⟩, Int.toNat_natCast, strMul_st]
/-- the long tail -/
def TA : MS := (sIf (mB (m2 fEq (mCall M__law_pick (mCons (mV 1) (mCons (mC (.int 24)) mNil))) (mC (.int 23))))
  (sSet 2 (m2 fAdd (m2 fAdd (m2 fAdd (mV 2) (m2 fMulA (mC (.str " x1")) (mC (.int 700)))) (mC (.str " "))) (m2 fMulA (mC (.str "7")) (m2 fAdd (mC (.int 999)) (mCall M__law_pick (mCons (mV 1) (mCons (mC (.int 3)) mNil)))))))
  sNil)
theorem kSX1 : (" x1" : Str) = st [32, 120, 49] := by decide +kernel
theorem k7 : ("7" : Str) = st [55] := by decide +kernel
theorem tail {j : Nat} {x0 : Option D} {rest : Mi.Env} {t : List Nat} {S : Sto} (hl : t.length ≤ 1000) (ht : okL t) (hp : PoolOk S j) : ∃ (t' : List Nat) (S' : Sto), TA (x0 :: some (.obj j) :: some (sD t) :: rest) S = .nx (x0 :: some (.obj j) :: some (sD t') :: rest) S' ∧ t'.length ≤ 10000 ∧ okL t' ∧ Stp j S S' := by
  obtain ⟨w, S1, p1, p2, p3, _⟩ := pick hp (m := 24) (by omega)
  have p1' : M__law_pick [.obj j, .int 24] S = .ok (nD w) S1 := p1
  by_cases hw : w = 23
  · obtain ⟨v, S2, q1, q2, q3, _⟩ := pick p3.pool (m := 3) (by omega)
    have q1' : M__law_pick [.obj j, .int 3] S1 = .ok (nD v) S2 := q1
    have d1 : decide ((w : Int) = 23) = true := decide_eq_true (by omega)
    have m1 : fMulA (sD [32, 120, 49]) (.int 700) S1 = some (sD (rep 700 [32, 120, 49]), S1) := e_mulA (n := 700) (by omega) (by decide)
    have a0 : fAdd (sD t) (sD (rep 700 [32, 120, 49])) S1 = some (sD (t ++ rep 700 [32, 120, 49]), S1) := e_addS (by rw [sizeLine_eq, rep_len]; simp; omega)
    have a1 : fAdd (sD (t ++ rep 700 [32, 120, 49])) (sD [32]) S1 = some (sD (t ++ rep 700 [32, 120, 49] ++ [32]), S1) := e_addS (by rw [sizeLine_eq, List.length_append, rep_len]; simp; omega)
    have m2 : fMulA (sD [55]) (.int (999 + (v : Int))) S2 = some (sD (rep (999 + v) [55]), S2) := e_mulA (n := 999 + v) (by omega) (by simp; omega)
    have a2 : fAdd (sD (t ++ rep 700 [32, 120, 49] ++ [32])) (sD (rep (999 + v) [55])) S2 = some (sD (t ++ rep 700 [32, 120, 49] ++ [32] ++ rep (999 + v) [55]), S2) := e_addS (by rw [sizeLine_eq, List.length_append, List.length_append, rep_len, rep_len]; simp; omega)
    refine ⟨t ++ rep 700 [32, 120, 49] ++ [32] ++ rep (999 + v) [55], S2, ?_, ?_, ?_, p3.trans q3⟩
    · unfold TA
      simp only [bind_ok, bind_ex, of_some, rs_ok, rs_ex, then_nx, then_rt, then_ex, then_bk, then_ct, mV0, mVs, mC_, m2_, m1_, mB_, kB_bl, mB1_, mNil_, mCons_, f1L_, f2L_, mTup_, mLst_, mCall_, mNotT_, mAndT_, mOrT_, mIf_, mAndV_, mOrV_, mNotV_, kAndV_bl, kOrV_bl, kNotV_bl, mSl_, mPart_, kPart_, mNoPart_, sSeq_, sSet_, sRet_, sIf_, sExpr_, sNil_, sBreak_, sCont_, e_lt, e_le, e_gt, e_ge, e_eqI, e_neI, e_eqS, e_neS, e_add, e_sub, List.set_cons_zero, List.set_cons_succ, kTu1, kTu2, kTu3, kTu4, kTu5, kLs0, kLs1, kLs2, kLs3, kLs4, kLs5, mM_, mM0_, sAsg_, sFor_, iRng_, iSeq_, p1', q1', d1, if_true, kSX1, k7, kSP, m1, a0, a1, m2, a2]
    · simp only [List.length_append, rep_len, List.length_cons, List.length_nil]; omega
    · refine okapp (okapp (okapp ht (rep_ok ?_)) ?_) (rep_ok ?_) <;> (intro c hc; simp at hc; omega)
  · have d1 : decide ((w : Int) = 23) = false := decide_eq_false (by omega)
    refine ⟨t, S1, ?_, by omega, ht, p3⟩
    unfold TA
    simp only [bind_ok, bind_ex, of_some, rs_ok, rs_ex, then_nx, then_rt, then_ex, then_bk, then_ct, mV0, mVs, mC_, m2_, m1_, mB_, kB_bl, mB1_, mNil_, mCons_, f1L_, f2L_, mTup_, mLst_, mCall_, mNotT_, mAndT_, mOrT_, mIf_, mAndV_, mOrV_, mNotV_, kAndV_bl, kOrV_bl, kNotV_bl, mSl_, mPart_, kPart_, mNoPart_, sSeq_, sSet_, sRet_, sIf_, sExpr_, sNil_, sBreak_, sCont_, e_lt, e_le, e_gt, e_ge, e_eqI, e_neI, e_eqS, e_neS, e_add, e_sub, List.set_cons_zero, List.set_cons_succ, kTu1, kTu2, kTu3, kTu4, kTu5, kLs0, kLs1, kLs2, kLs3, kLs4, kLs5, mM_, mM0_, sAsg_, sFor_, iRng_, iSeq_, p1', d1, Bool.false_eq_true, if_false]
end K00

namespace K00
open PySem PySem.Spec L2 Mi
theorem Stp.put {p j : Nat} {S0 S : Sto} {x : MO} (h : Stp p S0 S) (hj : S0.length ≤ j) (hp : p < j) : Stp p S0 (S.set j x) := by
  refine ⟨by rw [List.length_set]; exact h.len, fun i h1 h2 => ?_, ?_⟩
  · rw [List.getElem?_set_ne (by omega)]; exact h.old i h1 h2
  · obtain ⟨ps, h1, h2⟩ := h.pool
    exact ⟨ps, by rw [List.getElem?_set_ne (by omega)]; exact h1, h2⟩
theorem fr_out {lo : Int} {n : Nat} {S : Sto} : (itRng lo n).f n S = some none := by
  show (if n < n then _ else _) = _
  rw [if_neg (by omega)]
def SP : ME := (mCall M__law_piece (mCons (mV 1) mNil))
theorem sec_loop {p j : Nat} {S0 : Sto} {env : Mi.Env} (hp : p < j) (h0 : S0.length ≤ j) (he : ∀ (d : D) (S : Sto), mV 1 (env.set 3 (some d)) S = .ok (.obj p) S) : ∀ (k i n : Nat) (ys : List (List Nat)) (S : Sto), n = i + k → n ≤ 100 → S[j]? = some (.lst (ys.map sD)) → ys.length ≤ i → ys.flatten.length ≤ 20 * i → okL ys.flatten → Stp p S0 S →
    ∃ (ys' : List (List Nat)) (S' : Sto), lcI (itRng 0 n) (gN 3) tAll SP j k i env S = .ok (.obj j) S' ∧ S'[j]? = some (.lst (ys'.map sD)) ∧ ys'.flatten.length ≤ 20 * n ∧ okL ys'.flatten ∧ Stp p S0 S'
  | 0, i, n, ys, S, hn, hm, hj, hl, hf, ho, hS => by
    have : n = i := by omega
    subst this
    exact ⟨ys, S, lcI_end fr_out, hj, hf, ho, hS⟩
  | k + 1, i, n, ys, S, hn, hm, hj, hl, hf, ho, hS => by
    obtain ⟨l, S1, p1, p2, p3, p4⟩ := piece hS.pool
    have hj1 : S1[j]? = some (.lst (ys.map sD)) := p4.get hj (by omega)
    have e1 : SP (env.set 3 (some (.int (0 + (i : Int))))) S = .ok (sD l) S1 := by
      unfold SP
      simp only [mCall_, mCons_, mNil_, he, bind_ok, p1]
    have hj2 : (S1.set j (.lst (ys.map sD ++ [sD l])))[j]? = some (.lst ((ys ++ [l]).map sD)) := by
      rw [List.getElem?_set_self (get_lt hj1), List.map_append]; rfl
    have ef : (ys ++ [l]).flatten = ys.flatten ++ l := by simp
    obtain ⟨ys', S', q1, q2, q3, q4, q5⟩ := sec_loop hp h0 he k (i + 1) n (ys ++ [l]) (S1.set j (.lst (ys.map sD ++ [sD l]))) (by omega) hm hj2 (by simp; omega) (by rw [ef, List.length_append]; omega) (by rw [ef]; exact okapp ho p3) ((hS.trans p4).put h0 hp)
    refine ⟨ys', S', ?_, q2, q3, q4, q5⟩
    rw [lcI_nx (fr_at (by omega)) e1 hj1 (by rw [List.length_map, sizeLine_eq]; omega), q1]
theorem second {p : Nat} {S : Sto} {env : Mi.Env} (hp : PoolOk S p) (he1 : mV 1 env S = .ok (.obj p) S) (hs1 : ∀ S', mV 1 env S' = .ok (.obj p) S') (he : ∀ (d : D) (S : Sto), mV 1 ((wipeE env [3]).set 3 (some d)) S = .ok (.obj p) S) : ∃ (u : List Nat) (S' : Sto),
    mM "str" fJoin (mC (.str "")) (mCons (mLc (iRng (mCons (m2 fAdd (mC (.int 1)) (mCall M__law_pick (mCons (mV 1) (mCons (mC (.int 4)) mNil)))) mNil)) (gN 3) tAll (mCall M__law_piece (mCons (mV 1) mNil)) [3]) mNil) env S = .ok (sD u) S' ∧ u.length ≤ 100 ∧ okL u ∧ Stp p S S' := by
  obtain ⟨w, S1, p1, p2, p3, _⟩ := pick hp (m := 4) (by omega)
  have p1' : M__law_pick [.obj p, .int 4] S = .ok (nD w) S1 := p1
  have hlt := p3.pool.lt
  have hk : kRngI [.int (1 + (w : Int))] S1 = .ok (itRng 0 (1 + w)) S1 := by
    rw [kRng1 (by omega), show (1 + (w : Int)).toNat = 1 + w by omega]
  obtain ⟨ys, S2, q1, q2, q3, q4, q5⟩ := sec_loop (p := p) (j := S1.length) (S0 := S) (env := wipeE env [3]) hlt p3.len he (1 + w) 0 (1 + w) [] (S1 ++ [.lst []]) (by omega) (by omega) last0 (by simp) (by simp) (by simp [okL]) (p3.trans (Stp.app p3.pool))
  have en : (itRng 0 (1 + w)).n = 1 + w := (rfl)
  have hc : kLc (gN 3) tAll (mCall M__law_piece (mCons (mV 1) mNil)) [3] env (itRng 0 (1 + w)) S1 = .ok (.obj S1.length) S2 := by
    unfold kLc
    rw [en]
    exact q1
  have hjn : fJoin (.str "") [.obj S1.length] S2 = some (sD ys.flatten, S2) := e_join q2 (by omega)
  refine ⟨ys.flatten, S2, ?_, by omega, q4, q5⟩
  simp only [bind_ok, bind_ex, of_some, rs_ok, rs_ex, then_nx, then_rt, then_ex, then_bk, then_ct, mV0, mVs, mC_, m2_, m1_, mB_, kB_bl, mB1_, mNil_, mCons_, f1L_, f2L_, mTup_, mLst_, mCall_, mNotT_, mAndT_, mOrT_, mIf_, mAndV_, mOrV_, mNotV_, kAndV_bl, kOrV_bl, kNotV_bl, mSl_, mPart_, kPart_, mNoPart_, sSeq_, sSet_, sRet_, sIf_, sExpr_, sNil_, sBreak_, sCont_, e_lt, e_le, e_gt, e_ge, e_eqI, e_neI, e_eqS, e_neS, e_add, e_sub, List.set_cons_zero, List.set_cons_succ, kTu1, kTu2, kTu3, kTu4, kTu5, kLs0, kLs1, kLs2, kLs3, kLs4, kLs5, mM_, mM0_, sAsg_, sFor_, iRng_, iSeq_, mLc_, hs1, p1', hk, hc, tyS, if_true, hjn]
end K00

namespace K00
open PySem PySem.Spec L2 Mi
/-! ### a good text, to the end -/
structure Good (S : Sto) (n0 dj a b : Nat) (rs : List Nat) (ls : List (List Nat)) (ts : List Tk) : Prop where
  j0 : n0 ≤ dj
  a0 : n0 ≤ a
  b0 : n0 ≤ b
  hj : S[dj]? = some (.lst [.str "good", .obj a, .obj b])
  ha : S[a]? = some (.lst (ls.map sD))
  hb : S[b]? = some (.lst (rs.map D.obj))
  al : Al (fun r t => n0 ≤ r ∧ S[r]? = some (MO.lst (rowD t))) rs ts
theorem Good.due {S : Sto} {n0 dj a b : Nat} {rs : List Nat} {ls : List (List Nat)} {ts : List Tk} (g : Good S n0 dj a b rs ls ts) : DueAt S n0 dj (.good ls ts) := ⟨a, b, rs, g.j0, g.a0, g.b0, g.hj, g.ha, g.hb, g.al⟩
theorem Good.of {S : Sto} {n0 dj : Nat} {ls : List (List Nat)} {ts : List Tk} (h : DueAt S n0 dj (.good ls ts)) : ∃ (a b : Nat) (rs : List Nat), Good S n0 dj a b rs ls ts := by
  obtain ⟨a, b, rs, h1, h2, h3, h4, h5, h6, h7⟩ := h
  exact ⟨a, b, rs, h1, h2, h3, h4, h5, h6, h7⟩
theorem Good.app {S X : Sto} {n0 dj a b : Nat} {rs : List Nat} {ls : List (List Nat)} {ts : List Tk} (g : Good S n0 dj a b rs ls ts) : Good (S ++ X) n0 dj a b rs ls ts :=
  ⟨g.j0, g.a0, g.b0, get_app g.hj, get_app g.ha, get_app g.hb, g.al.mono fun r t q => ⟨q.1, get_app q.2⟩⟩
theorem Good.stp {S S' : Sto} {p n0 dj a b : Nat} {rs : List Nat} {ls : List (List Nat)} {ts : List Tk} (g : Good S n0 dj a b rs ls ts) (hp : p < n0) (s : Stp p S S') : Good S' n0 dj a b rs ls ts :=
  ⟨g.j0, g.a0, g.b0, s.get g.hj (by have := g.j0; omega), s.get g.ha (by have := g.a0; omega), s.get g.hb (by have := g.b0; omega), g.al.mono fun r t q => ⟨q.1, s.get q.2 (by have := q.1; omega)⟩⟩
theorem Al.get {α β : Type} {R : α → β → Prop} : ∀ {as : List α} {bs : List β}, Al R as bs → ∀ (i : Nat) (a : α) (b : β), as[i]? = some a → bs[i]? = some b → R a b
  | _, _, .cons h _, 0, a, b, h1, h2 => by cases h1; cases h2; exact h
  | _, _, .cons _ t, i + 1, a, b, h1, h2 => t.get i a b h1 h2
theorem Good.row {S : Sto} {n0 dj a b : Nat} {rs : List Nat} {ls : List (List Nat)} {ts : List Tk} (g : Good S n0 dj a b rs ls ts) {i r : Nat} {t : Tk} (h1 : rs[i]? = some r) (h2 : ts[i]? = some t) : S[r]? = some (.lst (rowD t)) := (g.al.get i r t h1 h2).2
theorem Good.len {S : Sto} {n0 dj a b : Nat} {rs : List Nat} {ls : List (List Nat)} {ts : List Tk} (g : Good S n0 dj a b rs ls ts) : rs.length = ts.length := g.al.len
/-! ### the exchanged joining -/
theorem joinL_set (f : List Nat) : ∀ (ls ts : List (List Nat)) (w : Nat), (joinL (ls.set w f) ts).length ≤ (joinL ls ts).length + f.length ∧ ∀ c ∈ joinL (ls.set w f) ts, c ∈ joinL ls ts ∨ c ∈ f
  | [], ts, w => by simp [joinL]
  | l :: ls, [], 0 => by simp [joinL]; intro c h; exact .inr h
  | l :: ls, [], w + 1 => by
    simp [joinL]; intro c h; exact .inl h
  | l :: ls, t :: ts, 0 => by
    show (f ++ t ++ joinL ls ts).length ≤ (l ++ t ++ joinL ls ts).length + f.length ∧ ∀ c ∈ f ++ t ++ joinL ls ts, c ∈ l ++ t ++ joinL ls ts ∨ c ∈ f
    simp only [List.length_append, List.mem_append]
    refine ⟨by omega, fun c h => ?_⟩
    rcases h with (h | h) | h
    · exact .inr h
    · exact .inl (.inl (.inr h))
    · exact .inl (.inr h)
  | l :: ls, t :: ts, w + 1 => by
    obtain ⟨h1, h2⟩ := joinL_set f ls ts w
    show (l ++ t ++ joinL (ls.set w f) ts).length ≤ (l ++ t ++ joinL ls ts).length + f.length ∧ ∀ c ∈ l ++ t ++ joinL (ls.set w f) ts, c ∈ l ++ t ++ joinL ls ts ∨ c ∈ f
    simp only [List.length_append, List.mem_append]
    refine ⟨by omega, fun c h => ?_⟩
    rcases h with (h | h) | h
    · exact .inl (.inl (.inl h))
    · exact .inl (.inl (.inr h))
    · rcases h2 c h with h | h
      · exact .inl (.inr h)
      · exact .inr h
theorem lays_small : ∀ l ∈ LAYS, l.length ≤ 8 ∧ okL l := by
  have h : ∀ l ∈ LAYS, l.length ≤ 8 ∧ ∀ c ∈ l, c < 1114112 := by decide
  exact h
/-- the text with one layout exchanged is a right text -/
theorem other_ok {ls ts : List (List Nat)} {t f : List Nat} {w : Nat} (hj : joinL ls ts = t) (hl : t.length ≤ 20000) (ht : okL t) (hf : f ∈ LAYS) : TextOk (joinL (ls.set w f) ts) := by
  obtain ⟨h1, h2⟩ := joinL_set f ls ts w
  obtain ⟨f1, f2⟩ := lays_small f hf
  rw [hj] at h1 h2
  exact ⟨by omega, fun c hc => (h2 c hc).elim (ht c) (f2 c)⟩
/-! ### the steps -/
def G1 : MS := (sSet 7 (mB1 (f1L fTuple) (mCons (mLc (iSeq (m2 fIx (mV 4) (mC (.int 2)))) (gN 14) tAll (m2 fIx (mV 14) (mC (.int 1))) [14]) mNil)))
def G2 : MS := (sIf (mOrT (mB (m2 fNe (mCall M_token_texts (mCons (mV 2) mNil)) (mV 7))) (mNotT (mB (mCall M__law_words_right (mCons (m2 fIx (mV 4) (mC (.int 2))) mNil)))))
  (sRet (mC (.bl false)))
  sNil)
def G3 : MS := (sSet 8 (mCall M__law_pick (mCons (mV 1) (mCons (mB1 (f1L fLen) (mCons (m2 fIx (mV 4) (mC (.int 1))) mNil)) mNil))))
def G4 : MS := (sSet 9 (mCall M__law_layout (mCons (mV 1) mNil)))
def G5 : MS := (sSet 10 (mB1 (f1L fList2) (mCons (m2 fIx (mV 4) (mC (.int 1))) mNil)))
def G6 : MS := (sPut (mV 10) (mV 8) (mV 9))
def G7 : MS := (sSet 11 (mCall M__law_joined (mCons (mV 10) (mCons (m2 fIx (mV 4) (mC (.int 2))) mNil))))
def G8 : MS := (sSet 12 (mLc (iSeq (m2 fIx (mV 4) (mC (.int 2)))) (gN 14) tAll (mLst (mCons (mC (.str "")) (mCons (m2 fIx (mV 14) (mC (.int 1))) (mCons (mC (.int 0)) mNil)))) [14]))
variable {p n0 dj a b sj : Nat} {rs : List Nat} {ls : List (List Nat)} {ts : List Tk} {t u : List Nat} {x0 z : Option D}
theorem g1 {S : Sto} (g : Good S n0 dj a b rs ls ts) (ok : ts.length < 400000) : G1 [x0, some (.obj p), some (sD t), z, some (.obj dj), some (sD u), some (.obj sj), none, none, none, none, none, none, none, none] S = .nx [x0, some (.obj p), some (sD t), z, some (.obj dj), some (sD u), some (.obj sj), some (.tup ((txs ts).map sD)), none, none, none, none, none, none, none] (S ++ [.lst ((txs ts).map sD)]) := by
  have l1 := rows_txs (env := [x0, some (.obj p), some (sD t), z, some (.obj dj), some (sD u), some (.obj sj), none, none, none, none, none, none, none, none]) (v := 14) (vs := [14]) g.hb g.al ok (fun d S => rfl)
  have htu : fTuple (.obj S.length) (S ++ [.lst ((txs ts).map sD)]) = some (.tup ((txs ts).map sD), S ++ [.lst ((txs ts).map sD)]) := by
    show (lstAt _ S.length).map _ = _
    rw [lst_at last0]; rfl
  unfold G1
  simp only [bind_ok, bind_ex, of_some, rs_ok, rs_ex, then_nx, then_rt, then_ex, then_bk, then_ct, mV0, mVs, mC_, m2_, m1_, mB_, kB_bl, mB1_, mNil_, mCons_, f1L_, f2L_, mTup_, mLst_, mCall_, mNotT_, mAndT_, mOrT_, mIf_, mAndV_, mOrV_, mNotV_, kAndV_bl, kOrV_bl, kNotV_bl, mSl_, mPart_, kPart_, mNoPart_, sSeq_, sSet_, sRet_, sIf_, sExpr_, sNil_, sBreak_, sCont_, e_lt, e_le, e_gt, e_ge, e_eqI, e_neI, e_eqS, e_neS, e_add, e_sub, List.set_cons_zero, List.set_cons_succ, kTu1, kTu2, kTu3, kTu4, kTu5, kLs0, kLs1, kLs2, kLs3, kLs4, kLs5, mM_, mM0_, sAsg_, sFor_, iRng_, iSeq_, mLc_, e_ix2 g.hj, kSeqL g.hb, l1, htu]
theorem g2 {S : Sto} {r : Mi.Env} (g : Good S n0 dj a b rs ls ts) (hc : cutOf t = .good ls ts) (ht : TextOk t) : ∃ X : Sto, G2 (x0 :: some (.obj p) :: some (sD t) :: z :: some (.obj dj) :: some (sD u) :: some (.obj sj) :: some (.tup ((txs ts).map sD)) :: r) S = .nx (x0 :: some (.obj p) :: some (sD t) :: z :: some (.obj dj) :: some (sD u) :: some (.obj sj) :: some (.tup ((txs ts).map sD)) :: r) (S ++ X) := by
  obtain ⟨X1, h1⟩ := token_texts S ht
  have ok := cut_ok ht
  rw [hc] at h1 ok
  have e1 := ne_tups (S := S ++ X1) (txs_ok ok).1 (txs_ok ok).1 (txs_ok ok).2 (txs_ok ok).2
  rw [show decide (txs ts = txs ts) = true from decide_eq_true rfl] at e1
  have g' := g.app (X := X1)
  obtain ⟨X2, h2⟩ := words_right g'.hb g'.al (cutG_tok _ _ _ _ _ (by have := ht.1; omega) hc)
  refine ⟨X1 ++ X2, ?_⟩
  unfold G2
  simp only [bind_ok, bind_ex, of_some, rs_ok, rs_ex, then_nx, then_rt, then_ex, then_bk, then_ct, mV0, mVs, mC_, m2_, m1_, mB_, kB_bl, mB1_, mNil_, mCons_, f1L_, f2L_, mTup_, mLst_, mCall_, mNotT_, mAndT_, mOrT_, mIf_, mAndV_, mOrV_, mNotV_, kAndV_bl, kOrV_bl, kNotV_bl, mSl_, mPart_, kPart_, mNoPart_, sSeq_, sSet_, sRet_, sIf_, sExpr_, sNil_, sBreak_, sCont_, e_lt, e_le, e_gt, e_ge, e_eqI, e_neI, e_eqS, e_neS, e_add, e_sub, List.set_cons_zero, List.set_cons_succ, kTu1, kTu2, kTu3, kTu4, kTu5, kLs0, kLs1, kLs2, kLs3, kLs4, kLs5, mM_, mM0_, sAsg_, sFor_, iRng_, iSeq_, h1, e1, Bool.not_true, Bool.false_eq_true, if_false, e_ix2 g'.hj, h2, List.append_assoc]
theorem g3 {S : Sto} {r : Mi.Env} {x7 x8 : Option D} (g : Good S n0 dj a b rs ls ts) (hp : PoolOk S p) (hl : 0 < ls.length) : ∃ (w : Nat) (S' : Sto), G3 (x0 :: some (.obj p) :: some (sD t) :: z :: some (.obj dj) :: some (sD u) :: some (.obj sj) :: x7 :: x8 :: r) S = .nx (x0 :: some (.obj p) :: some (sD t) :: z :: some (.obj dj) :: some (sD u) :: some (.obj sj) :: x7 :: some (nD w) :: r) S' ∧ w < ls.length ∧ Stp p S S' := by
  obtain ⟨w, S1, p1, p2, p3, _⟩ := pick hp hl
  have e : fLen (.obj a) S = some (.int (ls.length : Int), S) := by rw [e_lenL g.ha, List.length_map]
  refine ⟨w, S1, ?_, p2, p3⟩
  unfold G3
  simp only [bind_ok, bind_ex, of_some, rs_ok, rs_ex, then_nx, then_rt, then_ex, then_bk, then_ct, mV0, mVs, mC_, m2_, m1_, mB_, kB_bl, mB1_, mNil_, mCons_, f1L_, f2L_, mTup_, mLst_, mCall_, mNotT_, mAndT_, mOrT_, mIf_, mAndV_, mOrV_, mNotV_, kAndV_bl, kOrV_bl, kNotV_bl, mSl_, mPart_, kPart_, mNoPart_, sSeq_, sSet_, sRet_, sIf_, sExpr_, sNil_, sBreak_, sCont_, e_lt, e_le, e_gt, e_ge, e_eqI, e_neI, e_eqS, e_neS, e_add, e_sub, List.set_cons_zero, List.set_cons_succ, kTu1, kTu2, kTu3, kTu4, kTu5, kLs0, kLs1, kLs2, kLs3, kLs4, kLs5, mM_, mM0_, sAsg_, sFor_, iRng_, iSeq_, e_ix1 g.hj, e, p1]
theorem g4 {S : Sto} {r : Mi.Env} {x2 x3 x4 x5 x6 x7 x8 x9 : Option D} (hp : PoolOk S p) : ∃ (l : List Nat) (S' : Sto), G4 (x0 :: some (.obj p) :: x2 :: x3 :: x4 :: x5 :: x6 :: x7 :: x8 :: x9 :: r) S = .nx (x0 :: some (.obj p) :: x2 :: x3 :: x4 :: x5 :: x6 :: x7 :: x8 :: some (sD l) :: r) S' ∧ l ∈ LAYS ∧ Stp p S S' := by
  obtain ⟨l, S1, p1, p2, p3⟩ := layout hp
  refine ⟨l, S1, ?_, p2, p3⟩
  unfold G4
  simp only [bind_ok, bind_ex, of_some, rs_ok, rs_ex, then_nx, then_rt, then_ex, then_bk, then_ct, mV0, mVs, mC_, m2_, m1_, mB_, kB_bl, mB1_, mNil_, mCons_, f1L_, f2L_, mTup_, mLst_, mCall_, mNotT_, mAndT_, mOrT_, mIf_, mAndV_, mOrV_, mNotV_, kAndV_bl, kOrV_bl, kNotV_bl, mSl_, mPart_, kPart_, mNoPart_, sSeq_, sSet_, sRet_, sIf_, sExpr_, sNil_, sBreak_, sCont_, e_lt, e_le, e_gt, e_ge, e_eqI, e_neI, e_eqS, e_neS, e_add, e_sub, List.set_cons_zero, List.set_cons_succ, kTu1, kTu2, kTu3, kTu4, kTu5, kLs0, kLs1, kLs2, kLs3, kLs4, kLs5, mM_, mM0_, sAsg_, sFor_, iRng_, iSeq_, p1]
end K00

namespace K00
open PySem PySem.Spec L2 Mi
theorem get_lt2 {α : Type} {l : List α} {i : Nat} {x : α} (h : l[i]? = some x) : i < l.length := by
  rcases Nat.lt_or_ge i l.length with z | z
  · exact z
  · rw [List.getElem?_eq_none z] at h; cases h
variable {p n0 dj a b sj : Nat} {rs : List Nat} {ls : List (List Nat)} {ts : List Tk} {t u : List Nat} {x0 z : Option D}
theorem g5 {S : Sto} {r : Mi.Env} {x1 x2 x5 x6 x7 x8 x9 x10 : Option D} (g : Good S n0 dj a b rs ls ts) : G5 (x0 :: x1 :: x2 :: z :: some (.obj dj) :: x5 :: x6 :: x7 :: x8 :: x9 :: x10 :: r) S = .nx (x0 :: x1 :: x2 :: z :: some (.obj dj) :: x5 :: x6 :: x7 :: x8 :: x9 :: some (.obj S.length) :: r) (S ++ [.lst (ls.map sD)]) := by
  have e : fList2 (.obj a) S = some (.obj S.length, S ++ [.lst (ls.map sD)]) := by
    show (lstAt S a).map _ = _
    rw [lst_at g.ha]; rfl
  unfold G5
  simp only [bind_ok, bind_ex, of_some, rs_ok, rs_ex, then_nx, then_rt, then_ex, then_bk, then_ct, mV0, mVs, mC_, m2_, m1_, mB_, kB_bl, mB1_, mNil_, mCons_, f1L_, f2L_, mTup_, mLst_, mCall_, mNotT_, mAndT_, mOrT_, mIf_, mAndV_, mOrV_, mNotV_, kAndV_bl, kOrV_bl, kNotV_bl, mSl_, mPart_, kPart_, mNoPart_, sSeq_, sSet_, sRet_, sIf_, sExpr_, sNil_, sBreak_, sCont_, e_lt, e_le, e_gt, e_ge, e_eqI, e_neI, e_eqS, e_neS, e_add, e_sub, List.set_cons_zero, List.set_cons_succ, kTu1, kTu2, kTu3, kTu4, kTu5, kLs0, kLs1, kLs2, kLs3, kLs4, kLs5, mM_, mM0_, sAsg_, sFor_, iRng_, iSeq_, e_ix1 g.hj, e]
theorem g6 {S : Sto} {r : Mi.Env} {x1 x2 x4 x5 x6 x7 : Option D} {w : Nat} {f : List Nat} (hw : w < ls.length) : G6 (x0 :: x1 :: x2 :: z :: x4 :: x5 :: x6 :: x7 :: some (nD w) :: some (sD f) :: some (.obj S.length) :: r) (S ++ [.lst (ls.map sD)]) = .nx (x0 :: x1 :: x2 :: z :: x4 :: x5 :: x6 :: x7 :: some (nD w) :: some (sD f) :: some (.obj S.length) :: r) (S ++ [.lst ((ls.set w f).map sD)]) := by
  have e : fPut (.obj S.length) (nD w) (sD f) (S ++ [.lst (ls.map sD)]) = some (S ++ [.lst ((ls.set w f).map sD)]) := by
    show (match (S ++ [MO.lst (ls.map sD)])[S.length]? with
      | some (.lst ds) => (ixN ds.length (w : Int)).map fun n => (S ++ [MO.lst (ls.map sD)]).set S.length (.lst (ds.set n (sD f)))
      | _ => none) = _
    rw [last0]
    simp only []
    rw [ixN_nat (by rw [List.length_map]; exact hw)]
    simp only [Option.map_some]
    rw [sa0, List.map_set]
  unfold G6 sPut
  simp only [bind_ok, bind_ex, of_some, rs_ok, rs_ex, then_nx, then_rt, then_ex, then_bk, then_ct, mV0, mVs, mC_, m2_, m1_, mB_, kB_bl, mB1_, mNil_, mCons_, f1L_, f2L_, mTup_, mLst_, mCall_, mNotT_, mAndT_, mOrT_, mIf_, mAndV_, mOrV_, mNotV_, kAndV_bl, kOrV_bl, kNotV_bl, mSl_, mPart_, kPart_, mNoPart_, sSeq_, sSet_, sRet_, sIf_, sExpr_, sNil_, sBreak_, sCont_, e_lt, e_le, e_gt, e_ge, e_eqI, e_neI, e_eqS, e_neS, e_add, e_sub, List.set_cons_zero, List.set_cons_succ, kTu1, kTu2, kTu3, kTu4, kTu5, kLs0, kLs1, kLs2, kLs3, kLs4, kLs5, mM_, mM0_, sAsg_, sFor_, iRng_, iSeq_, e]
theorem rows_of {S : Sto} (g : Good S n0 dj a b rs ls ts) : ∀ (i r : Nat) (x : List Nat), rs[i]? = some r → (txs ts)[i]? = some x → ∃ (k : D) (q : List D), S[r]? = some (.lst (k :: sD x :: q)) := fun i r x h1 h2 => by
  rw [List.getElem?_map] at h2
  cases e : ts[i]? with
  | none => rw [e] at h2; cases h2
  | some tk =>
    rw [e] at h2
    cases h2
    exact ⟨_, _, g.row h1 e⟩
theorem g7 {S : Sto} {r : Mi.Env} {x1 x2 x5 x6 x7 x8 x9 x11 : Option D} {q : Nat} {ls' : List (List Nat)} (g : Good S n0 dj a b rs ls ts) (hq : S[q]? = some (.lst (ls'.map sD))) (hl : ls'.length = ts.length + 1) (hz : (joinL ls' (txs ts)).length ≤ 1000000) (hts : ts.length ≤ 1000000) :
    G7 (x0 :: x1 :: x2 :: z :: some (.obj dj) :: x5 :: x6 :: x7 :: x8 :: x9 :: some (.obj q) :: x11 :: r) S = .nx (x0 :: x1 :: x2 :: z :: some (.obj dj) :: x5 :: x6 :: x7 :: x8 :: x9 :: some (.obj q) :: some (sD (joinL ls' (txs ts))) :: r) S := by
  have e := law_joined hq g.hb (txt := txs ts) (by rw [List.length_map]; exact hl) (by rw [List.length_map]; exact g.len) hz (by rw [List.length_map]; exact hts) (rows_of g)
  unfold G7
  simp only [bind_ok, bind_ex, of_some, rs_ok, rs_ex, then_nx, then_rt, then_ex, then_bk, then_ct, mV0, mVs, mC_, m2_, m1_, mB_, kB_bl, mB1_, mNil_, mCons_, f1L_, f2L_, mTup_, mLst_, mCall_, mNotT_, mAndT_, mOrT_, mIf_, mAndV_, mOrV_, mNotV_, kAndV_bl, kOrV_bl, kNotV_bl, mSl_, mPart_, kPart_, mNoPart_, sSeq_, sSet_, sRet_, sIf_, sExpr_, sNil_, sBreak_, sCont_, e_lt, e_le, e_gt, e_ge, e_eqI, e_neI, e_eqS, e_neS, e_add, e_sub, List.set_cons_zero, List.set_cons_succ, kTu1, kTu2, kTu3, kTu4, kTu5, kLs0, kLs1, kLs2, kLs3, kLs4, kLs5, mM_, mM0_, sAsg_, sFor_, iRng_, iSeq_, e_ix2 g.hj, e]
/-- the rows with the texts alone -/
def qsE (ts : List Tk) : List (List D) := (txs ts).map fun x => [.str "", sD x, .int 0]
theorem qsE_len : (qsE ts).length = ts.length := by unfold qsE; rw [List.length_map, List.length_map]
theorem g8 {S : Sto} {x1 x2 x5 x6 x7 x8 x9 x10 x11 x12 x13 x14 : Option D} (g : Good S n0 dj a b rs ls ts) (ok : ts.length < 400000) : G8 [x0, x1, x2, z, some (.obj dj), x5, x6, x7, x8, x9, x10, x11, x12, x13, x14] S = .nx [x0, x1, x2, z, some (.obj dj), x5, x6, x7, x8, x9, x10, x11, some (.obj S.length), x13, x14] (S ++ .lst ((rng (S.length + 1) rs.length).map D.obj) :: (qsE ts).map MO.lst) := by
  have hq : (qsE ts).length = (rs.map D.obj).length := by rw [List.length_map, qsE_len, g.len]
  have e := lcr_lst (S := S) (e := (mLst (mCons (mC (.str "")) (mCons (m2 fIx (mV 14) (mC (.int 1))) (mCons (mC (.int 0)) mNil))))) (v := 14) (vs := [14]) (env := [x0, x1, x2, z, some (.obj dj), x5, x6, x7, x8, x9, x10, x11, x12, x13, x14]) (qs := qsE ts) g.hb hq (fun acc T i d q hd hqi => by
    rw [List.getElem?_map] at hd
    cases e1 : rs[i]? with
    | none => rw [e1] at hd; cases hd
    | some r =>
      rw [e1] at hd
      cases hd
      have hi : i < rs.length := get_lt2 e1
      have hlen := g.len
      obtain ⟨tk, htk⟩ : ∃ tk, ts[i]? = some tk := ⟨_, List.getElem?_eq_getElem (by omega)⟩
      have hr := g.row e1 htk
      unfold qsE at hqi
      rw [List.getElem?_map, List.getElem?_map, htk] at hqi
      cases hqi
      show (mLst (mCons (mC (.str "")) (mCons (m2 fIx (mV 14) (mC (.int 1))) (mCons (mC (.int 0)) mNil)))) [x0, x1, x2, z, some (.obj dj), x5, x6, x7, x8, x9, x10, x11, x12, x13, some (.obj r)] (S ++ MO.lst acc :: T) = _
      have hix : fIx (.obj r) (.int 1) (S ++ MO.lst acc :: T) = some (sD tk.2.1, S ++ MO.lst acc :: T) := e_ix1 (get_app hr)
      simp only [bind_ok, bind_ex, of_some, rs_ok, rs_ex, then_nx, then_rt, then_ex, then_bk, then_ct, mV0, mVs, mC_, m2_, m1_, mB_, kB_bl, mB1_, mNil_, mCons_, f1L_, f2L_, mTup_, mLst_, mCall_, mNotT_, mAndT_, mOrT_, mIf_, mAndV_, mOrV_, mNotV_, kAndV_bl, kOrV_bl, kNotV_bl, mSl_, mPart_, kPart_, mNoPart_, sSeq_, sSet_, sRet_, sIf_, sExpr_, sNil_, sBreak_, sCont_, e_lt, e_le, e_gt, e_ge, e_eqI, e_neI, e_eqS, e_neS, e_add, e_sub, List.set_cons_zero, List.set_cons_succ, kTu1, kTu2, kTu3, kTu4, kTu5, kLs0, kLs1, kLs2, kLs3, kLs4, kLs5, mM_, mM0_, sAsg_, sFor_, iRng_, iSeq_, hix]) (by rw [List.length_map, sizeLine_eq, g.len]; omega)
  rw [List.length_map] at e
  have ks : kSeqI (.obj b) S = .ok (itLst rs.length b) S := by rw [kSeqL g.hb, List.length_map]
  unfold G8
  simp only [bind_ok, bind_ex, of_some, rs_ok, rs_ex, then_nx, then_rt, then_ex, then_bk, then_ct, mV0, mVs, mC_, m2_, m1_, mB_, kB_bl, mB1_, mNil_, mCons_, f1L_, f2L_, mTup_, mLst_, mCall_, mNotT_, mAndT_, mOrT_, mIf_, mAndV_, mOrV_, mNotV_, kAndV_bl, kOrV_bl, kNotV_bl, mSl_, mPart_, kPart_, mNoPart_, sSeq_, sSet_, sRet_, sIf_, sExpr_, sNil_, sBreak_, sCont_, e_lt, e_le, e_gt, e_ge, e_eqI, e_neI, e_eqS, e_neS, e_add, e_sub, List.set_cons_zero, List.set_cons_succ, kTu1, kTu2, kTu3, kTu4, kTu5, kLs0, kLs1, kLs2, kLs3, kLs4, kLs5, mM_, mM0_, sAsg_, sFor_, iRng_, iSeq_, mLc_, e_ix2 g.hj, ks, e]
end K00

namespace K00
open PySem PySem.Spec L2 Mi
variable {p n0 dj a b sj : Nat} {rs : List Nat} {ls : List (List Nat)} {ts : List Tk} {t u : List Nat} {x0 z : Option D}
theorem rng_inv {b n i r : Nat} (h : (rng b n)[i]? = some r) : i < n ∧ r = b + i := by
  have hi := get_lt2 h
  rw [rng_len] at hi
  rw [rng_get hi] at h
  exact ⟨hi, (Option.some.inj h).symm⟩
/-- the rows of a made list -/
theorem made_rows {S X : Sto} {x : MO} {qs : List (List D)} {n : Nat} {txt : List (List Nat)} (h : ∀ (i : Nat) (y : List Nat), txt[i]? = some y → ∃ k q : D, qs[i]? = some [k, sD y, q]) : ∀ (i r : Nat) (y : List Nat), (rng (S.length + 1) n)[i]? = some r → txt[i]? = some y → ∃ k q : D, (S ++ x :: qs.map MO.lst ++ X)[r]? = some (.lst [k, sD y, q]) := fun i r y h1 h2 => by
  obtain ⟨hi, rfl⟩ := rng_inv h1
  obtain ⟨k, q, hq⟩ := h i y h2
  exact ⟨k, q, get_app (rows_get hq)⟩
theorem qsE_get (i : Nat) (y : List Nat) (h : (txs ts)[i]? = some y) : ∃ k q : D, (qsE ts)[i]? = some [k, sD y, q] := by
  refine ⟨.str "", .int 0, ?_⟩
  unfold qsE
  rw [List.getElem?_map, h]; rfl
theorem qsR_get (i : Nat) (y : List Nat) (h : (txs ts)[i]? = some y) : ∃ k q : D, (ts.map rowD)[i]? = some [k, sD y, q] := by
  rw [List.getElem?_map] at h
  cases e : ts[i]? with
  | none => rw [e] at h; cases h
  | some tk =>
    rw [e] at h; cases h
    exact ⟨.str tk.1, nD tk.2.2, by rw [List.getElem?_map, e]; rfl⟩
def G9 : MS := (sIf (mOrT (mB (m2 fNe (mCall M_joined_text (mCons (mB1 (f1L fTuple) (mCons (m2 fIx (mV 4) (mC (.int 1))) mNil)) (mCons (mLc (iSeq (m2 fIx (mV 4) (mC (.int 2)))) (gN 14) tAll (mB1 (f1L fList2) (mCons (mV 14) mNil)) [14]) mNil))) (mV 2))) (mB (m2 fNe (mCall M_joined_text (mCons (mB1 (f1L fList2) (mCons (mV 10) mNil)) (mCons (mV 12) mNil))) (mV 11))))
  (sRet (mC (.bl false)))
  sNil)
theorem comp2 {S : Sto} {env : Mi.Env} (g : Good S n0 dj a b rs ls ts) (ok : ts.length < 400000) (hv : ∀ (d : D) (S : Sto), mV 14 ((wipeE env [14]).set 14 (some d)) S = .ok d S) : kLc (gN 14) tAll (mB1 (f1L fList2) (mCons (mV 14) mNil)) [14] env (itLst rs.length b) S = .ok (.obj S.length) (S ++ .lst ((rng (S.length + 1) rs.length).map D.obj) :: (ts.map rowD).map MO.lst) := by
  have hq : (ts.map rowD).length = (rs.map D.obj).length := by rw [List.length_map, List.length_map, g.len]
  have e := lcr_lst (S := S) (e := (mB1 (f1L fList2) (mCons (mV 14) mNil))) (v := 14) (vs := [14]) (env := env) (qs := ts.map rowD) g.hb hq (fun acc T i d q hd hqi => by
    rw [List.getElem?_map] at hd
    cases e1 : rs[i]? with
    | none => rw [e1] at hd; cases hd
    | some r =>
      rw [e1] at hd
      cases hd
      have hi : i < rs.length := get_lt2 e1
      have hlen := g.len
      obtain ⟨tk, htk⟩ : ∃ tk, ts[i]? = some tk := ⟨_, List.getElem?_eq_getElem (by omega)⟩
      have hr := g.row e1 htk
      rw [List.getElem?_map, htk] at hqi
      cases hqi
      have hl : fList2 (.obj r) (S ++ MO.lst acc :: T) = some (.obj (S ++ MO.lst acc :: T).length, (S ++ MO.lst acc :: T) ++ [.lst (rowD tk)]) := by
        show (lstAt _ r).map _ = _
        rw [lst_at (get_app hr)]; rfl
      simp only [mB1_, mCons_, mNil_, hv, bind_ok, f1L_, hl, of_some]) (by rw [List.length_map, sizeLine_eq, g.len]; omega)
  rw [List.length_map] at e
  exact e
theorem g9 {S : Sto} {x1 x5 x6 x7 x8 x9 x13 x14 : Option D} {q rw2 : Nat} {ls' : List (List Nat)} {rs2 : List Nat} (g : Good S n0 dj a b rs ls ts) (ok : ts.length < 400000) (hq : S[q]? = some (.lst (ls'.map sD))) (hr2 : S[rw2]? = some (.lst (rs2.map D.obj))) (hr2l : rs2.length = ts.length)
    (hrows : ∀ (X : Sto) (i r : Nat) (y : List Nat), rs2[i]? = some r → (txs ts)[i]? = some y → ∃ k q : D, (S ++ X)[r]? = some (.lst [k, sD y, q]))
    (hl : ls.length = ts.length + 1) (hl' : ls'.length = ts.length + 1) (hj : joinL ls (txs ts) = t) (ht : t.length ≤ 100000) (hj' : (joinL ls' (txs ts)).length ≤ 1000000) :
    ∃ X : Sto, G9 [x0, x1, some (sD t), z, some (.obj dj), x5, x6, x7, x8, x9, some (.obj q), some (sD (joinL ls' (txs ts))), some (.obj rw2), x13, x14] S = .nx [x0, x1, some (sD t), z, some (.obj dj), x5, x6, x7, x8, x9, some (.obj q), some (sD (joinL ls' (txs ts))), some (.obj rw2), x13, x14] (S ++ X) := by
  have hc := comp2 (env := [x0, x1, some (sD t), z, some (.obj dj), x5, x6, x7, x8, x9, some (.obj q), some (sD (joinL ls' (txs ts))), some (.obj rw2), x13, x14]) g ok (fun _ _ => rfl)
  have htu : fTuple (.obj a) S = some (.tup (ls.map sD), S) := by
    show (lstAt S a).map _ = _
    rw [lst_at g.ha]; rfl
  have ks : kSeqI (.obj b) S = .ok (itLst rs.length b) S := by rw [kSeqL g.hb, List.length_map]
  generalize hS1 : S ++ MO.lst ((rng (S.length + 1) rs.length).map D.obj) :: (ts.map rowD).map MO.lst = S1 at hc
  have g0 : S1[S.length]? = some (.lst ((rng (S.length + 1) rs.length).map D.obj)) := by rw [← hS1]; exact ga0
  obtain ⟨X1, j1⟩ := joined_text (S := S1) (L := .tup (ls.map sD)) (b := S.length) (rs := rng (S.length + 1) rs.length) (ls := ls) (txt := txs ts) (.inl rfl) g0 (by rw [List.length_map]; exact hl) (by rw [rng_len, List.length_map]; exact g.len) (by rw [List.length_map]; omega) (by rw [hj]; omega) (fun i r y h1 h2 => by
    have := made_rows (S := S) (X := []) (x := .lst ((rng (S.length + 1) rs.length).map D.obj)) qsR_get i r y h1 h2
    rw [List.append_nil, hS1] at this
    exact this)
  rw [hj] at j1
  have n1 : fNe (sD t) (sD t) (S1 ++ X1) = some (.bl false, S1 ++ X1) := by rw [e_neS, show decide (st t = st t) = true from decide_eq_true rfl]; rfl
  generalize hS2 : S1 ++ X1 = S2 at j1 n1
  have hS : S2 = S ++ (MO.lst ((rng (S.length + 1) rs.length).map D.obj) :: (ts.map rowD).map MO.lst ++ X1) := by rw [← hS2, ← hS1, List.append_assoc] <;> rfl
  generalize (MO.lst ((rng (S.length + 1) rs.length).map D.obj) :: (ts.map rowD).map MO.lst ++ X1) = Y at hS
  have hq2 : S2[q]? = some (.lst (ls'.map sD)) := by rw [hS]; exact get_app hq
  have hli : fList2 (.obj q) S2 = some (.obj S2.length, S2 ++ [.lst (ls'.map sD)]) := by
    show (lstAt S2 q).map _ = _
    rw [lst_at hq2]; rfl
  have hr3 : (S2 ++ [.lst (ls'.map sD)])[rw2]? = some (.lst (rs2.map D.obj)) := by rw [hS]; exact get_app (get_app hr2)
  obtain ⟨X2, j2⟩ := joined_text (S := S2 ++ [.lst (ls'.map sD)]) (L := .obj S2.length) (b := rw2) (rs := rs2) (ls := ls') (txt := txs ts) (.inr ⟨_, rfl, last0⟩) hr3 (by rw [List.length_map]; exact hl') (by rw [List.length_map]; exact hr2l) (by rw [List.length_map]; omega) hj' (fun i r y h1 h2 => by
    have := hrows (Y ++ [.lst (ls'.map sD)]) i r y h1 h2
    rw [← List.append_assoc, ← hS] at this
    exact this)
  have n2 : ∀ S : Sto, fNe (sD (joinL ls' (txs ts))) (sD (joinL ls' (txs ts))) S = some (.bl false, S) := fun S => by rw [e_neS, show decide (st (joinL ls' (txs ts)) = st (joinL ls' (txs ts))) = true from decide_eq_true rfl]; rfl
  refine ⟨Y ++ ([.lst (ls'.map sD)] ++ X2), ?_⟩
  rw [← List.append_assoc, ← hS, ← List.append_assoc]
  unfold G9
  simp only [bind_ok, bind_ex, of_some, rs_ok, rs_ex, then_nx, then_rt, then_ex, then_bk, then_ct, mV0, mVs, mC_, m2_, m1_, mB_, kB_bl, mB1_, mNil_, mCons_, f1L_, f2L_, mTup_, mLst_, mCall_, mNotT_, mAndT_, mOrT_, mIf_, mAndV_, mOrV_, mNotV_, kAndV_bl, kOrV_bl, kNotV_bl, mSl_, mPart_, kPart_, mNoPart_, sSeq_, sSet_, sRet_, sIf_, sExpr_, sNil_, sBreak_, sCont_, e_lt, e_le, e_gt, e_ge, e_eqI, e_neI, e_eqS, e_neS, e_add, e_sub, List.set_cons_zero, List.set_cons_succ, kTu1, kTu2, kTu3, kTu4, kTu5, kLs0, kLs1, kLs2, kLs3, kLs4, kLs5, mM_, mM0_, sAsg_, sFor_, iRng_, iSeq_, mLc_, e_ix1 g.hj, htu, e_ix2 g.hj, ks, hc, j1, n1, Bool.false_eq_true, if_false, hli, j2, n2]
end K00

namespace K00
open PySem PySem.Spec L2 Mi
variable {p n0 dj a b sj : Nat} {rs : List Nat} {ls : List (List Nat)} {ts : List Tk} {t u : List Nat} {x0 z : Option D}
def G10 : MS := (sSet 13 (mCall M__law_cut (mCons (mV 11) mNil)))
def G11 : MS := (sIf (mOrT (mB (m2 fNe (mCall M__law_told (mCons (mV 11) mNil)) (mV 13))) (mB (m2 fNe (mCall M__law_same (mCons (mV 2) (mCons (mV 11) mNil))) (mCall M__law_same_due (mCons (mV 4) (mCons (mV 13) mNil))))))
  (sRet (mC (.bl false)))
  sNil)
def G12 : MS := (sIf (mAndT (mB (m2 fNe (mV 9) (mC (.str "")))) (mOrT (mB (m2 fEq (m2 fIx (mV 13) (mC (.int 0))) (mC (.str "bad")))) (mB (m2 fNe (mCall M_token_texts (mCons (mV 11) mNil)) (mV 7)))))
  (sRet (mC (.bl false)))
  sNil)
def G13 : MS := (sRet (mAndV (mCall M__law_join_refused (mCons (m2 fAdd (mV 10) (mLst (mCons (mC (.str "")) mNil))) (mCons (mV 12) mNil))) (mCall M__law_join_refused (mCons (mB1 (f1L fTuple) (mCons (mSl (mV 10) (mPart (mC (.int 1))) mNoPart) mNil)) (mCons (mV 12) mNil)))))
theorem g10 {S : Sto} {x1 x2 x4 x5 x6 x7 x8 x9 x10 x12 x13 x14 : Option D} {o : List Nat} (ho : TextOk o) : ∃ (j : Nat) (X : Sto), G10 [x0, x1, x2, z, x4, x5, x6, x7, x8, x9, x10, some (sD o), x12, x13, x14] S = .nx [x0, x1, x2, z, x4, x5, x6, x7, x8, x9, x10, some (sD o), x12, some (.obj j), x14] (S ++ X) ∧ DueAt (S ++ X) S.length j (cutOf o) := by
  obtain ⟨j, X, h1, h2⟩ := lcut S o ho.lt
  refine ⟨j, X, ?_, h2⟩
  unfold G10
  simp only [bind_ok, bind_ex, of_some, rs_ok, rs_ex, then_nx, then_rt, then_ex, then_bk, then_ct, mV0, mVs, mC_, m2_, m1_, mB_, kB_bl, mB1_, mNil_, mCons_, f1L_, f2L_, mTup_, mLst_, mCall_, mNotT_, mAndT_, mOrT_, mIf_, mAndV_, mOrV_, mNotV_, kAndV_bl, kOrV_bl, kNotV_bl, mSl_, mPart_, kPart_, mNoPart_, sSeq_, sSet_, sRet_, sIf_, sExpr_, sNil_, sBreak_, sCont_, e_lt, e_le, e_gt, e_ge, e_eqI, e_neI, e_eqS, e_neS, e_add, e_sub, List.set_cons_zero, List.set_cons_succ, kTu1, kTu2, kTu3, kTu4, kTu5, kLs0, kLs1, kLs2, kLs3, kLs4, kLs5, mM_, mM0_, sAsg_, sFor_, iRng_, iSeq_, h1]
theorem g11 {S : Sto} {x1 x5 x6 x7 x8 x9 x10 x12 x14 : Option D} {o : List Nat} {n1 j : Nat} (ht : TextOk t) (ho : TextOk o) (hd : DueAt S n0 dj (cutOf t)) (hd' : DueAt S n1 j (cutOf o)) : ∃ X : Sto, G11 [x0, x1, some (sD t), z, some (.obj dj), x5, x6, x7, x8, x9, x10, some (sD o), x12, some (.obj j), x14] S = .nx [x0, x1, some (sD t), z, some (.obj dj), x5, x6, x7, x8, x9, x10, some (sD o), x12, some (.obj j), x14] (S ++ X) := by
  obtain ⟨j1, X1, h1, h2⟩ := told_ne S ho hd'
  obtain ⟨j2, j3, X2, X3, h3, h4, h5, _⟩ := same_ne (S ++ X1) ht ho hd.app hd'.app
  refine ⟨X1 ++ (X2 ++ X3), ?_⟩
  rw [← List.append_assoc, ← List.append_assoc]
  unfold G11
  simp only [bind_ok, bind_ex, of_some, rs_ok, rs_ex, then_nx, then_rt, then_ex, then_bk, then_ct, mV0, mVs, mC_, m2_, m1_, mB_, kB_bl, mB1_, mNil_, mCons_, f1L_, f2L_, mTup_, mLst_, mCall_, mNotT_, mAndT_, mOrT_, mIf_, mAndV_, mOrV_, mNotV_, kAndV_bl, kOrV_bl, kNotV_bl, mSl_, mPart_, kPart_, mNoPart_, sSeq_, sSet_, sRet_, sIf_, sExpr_, sNil_, sBreak_, sCont_, e_lt, e_le, e_gt, e_ge, e_eqI, e_neI, e_eqS, e_neS, e_add, e_sub, List.set_cons_zero, List.set_cons_succ, kTu1, kTu2, kTu3, kTu4, kTu5, kLs0, kLs1, kLs2, kLs3, kLs4, kLs5, mM_, mM0_, sAsg_, sFor_, iRng_, iSeq_, h1, h2, Bool.false_eq_true, if_false, h3, h4, h5]
theorem g12 {S : Sto} {x1 x2 x4 x5 x6 x8 x10 x12 x14 : Option D} {o f : List Nat} {n1 j : Nat} (ho : TextOk o) (hd' : DueAt S n1 j (cutOf o)) (okts : CutOk (.good ls ts)) (hx : f ≠ [] → ∃ (ls' : List (List Nat)) (ts' : List Tk), cutOf o = .good ls' ts' ∧ txs ts' = txs ts) : ∃ X : Sto, G12 [x0, x1, x2, z, x4, x5, x6, some (.tup ((txs ts).map sD)), x8, some (sD f), x10, some (sD o), x12, some (.obj j), x14] S = .nx [x0, x1, x2, z, x4, x5, x6, some (.tup ((txs ts).map sD)), x8, some (sD f), x10, some (sD o), x12, some (.obj j), x14] (S ++ X) := by
  by_cases hf : f = []
  · subst hf
    refine ⟨[], ?_⟩
    unfold G12
    have e : ∀ S : Sto, fNe (sD []) (.str "") S = some (.bl false, S) := fun S => by rw [kE, e_neS, show decide (st [] = st []) = true from decide_eq_true rfl] <;> rfl
    simp only [bind_ok, bind_ex, of_some, rs_ok, rs_ex, then_nx, then_rt, then_ex, then_bk, then_ct, mV0, mVs, mC_, m2_, m1_, mB_, kB_bl, mB1_, mNil_, mCons_, f1L_, f2L_, mTup_, mLst_, mCall_, mNotT_, mAndT_, mOrT_, mIf_, mAndV_, mOrV_, mNotV_, kAndV_bl, kOrV_bl, kNotV_bl, mSl_, mPart_, kPart_, mNoPart_, sSeq_, sSet_, sRet_, sIf_, sExpr_, sNil_, sBreak_, sCont_, e_lt, e_le, e_gt, e_ge, e_eqI, e_neI, e_eqS, e_neS, e_add, e_sub, List.set_cons_zero, List.set_cons_succ, kTu1, kTu2, kTu3, kTu4, kTu5, kLs0, kLs1, kLs2, kLs3, kLs4, kLs5, mM_, mM0_, sAsg_, sFor_, iRng_, iSeq_, e, Bool.false_eq_true, if_false, List.append_nil]
  · obtain ⟨ls', ts', h1, h2⟩ := hx hf
    have hd2 := hd'
    rw [h1] at hd2
    obtain ⟨k, r, h3, h4'⟩ := due_head hd2
    have h4 : decide (k = ("bad" : Str)) = false := h4'
    obtain ⟨X, h5⟩ := token_texts S ho
    rw [h1] at h5
    have e : ∀ S : Sto, fNe (sD f) (.str "") S = some (.bl true, S) := fun S => by
      rw [kE, e_neS, decide_eq_false (by rw [st_eq]; exact hf)] <;> rfl
    have ok := txs_ok okts
    have e2 := ne_tups (S := S ++ X) ok.1 ok.1 ok.2 ok.2
    rw [show decide (txs ts = txs ts) = true from decide_eq_true rfl] at e2
    simp only [h2] at h5
    refine ⟨X, ?_⟩
    unfold G12
    simp only [bind_ok, bind_ex, of_some, rs_ok, rs_ex, then_nx, then_rt, then_ex, then_bk, then_ct, mV0, mVs, mC_, m2_, m1_, mB_, kB_bl, mB1_, mNil_, mCons_, f1L_, f2L_, mTup_, mLst_, mCall_, mNotT_, mAndT_, mOrT_, mIf_, mAndV_, mOrV_, mNotV_, kAndV_bl, kOrV_bl, kNotV_bl, mSl_, mPart_, kPart_, mNoPart_, sSeq_, sSet_, sRet_, sIf_, sExpr_, sNil_, sBreak_, sCont_, e_lt, e_le, e_gt, e_ge, e_eqI, e_neI, e_eqS, e_neS, e_add, e_sub, List.set_cons_zero, List.set_cons_succ, kTu1, kTu2, kTu3, kTu4, kTu5, kLs0, kLs1, kLs2, kLs3, kLs4, kLs5, mM_, mM0_, sAsg_, sFor_, iRng_, iSeq_, e, if_true, e_ix0 h3, h4, Bool.false_eq_true, if_false, h5, e2, Bool.not_true]
theorem cut1 {ds : List D} : cutD ds (some 1) none = ds.drop 1 := by
  unfold cutD
  have e : HT.sIx ds.length 0 (some 1) = min 1 ds.length := HT.sIx_nat _ _ 1
  have e0 : HT.sIx ds.length ds.length none = ds.length := rfl
  rw [e, e0]
  cases ds with
  | nil => rfl
  | cons d ds =>
    rw [show min 1 (d :: ds).length = 1 by simp]
    exact List.take_of_length_le (by simp)
theorem g13 {S : Sto} {x1 x2 x4 x5 x6 x7 x8 x9 x11 x13 x14 : Option D} {q rw2 : Nat} {ls' : List (List Nat)} {rs2 : List Nat} (hq : S[q]? = some (.lst (ls'.map sD))) (hr2 : S[rw2]? = some (.lst (rs2.map D.obj))) (hr2l : rs2.length = ts.length) (hl' : ls'.length = ts.length + 1) (ok : ts.length < 400000) :
    ∃ S' : Sto, G13 [x0, x1, x2, z, x4, x5, x6, x7, x8, x9, some (.obj q), x11, some (.obj rw2), x13, x14] S = .rt (.bl true) S' := by
  have e1 : fAdd (.obj q) (.obj S.length) (S ++ [.lst [.str ""]]) = some (.obj (S ++ [MO.lst [.str ""]]).length, S ++ [.lst [.str ""]] ++ [.lst ((ls' ++ [[]]).map sD)]) := by
    rw [e_addL (get_app hq) last0 (by rw [sizeLine_eq, List.length_map]; simp; omega), List.map_append]
    rfl
  generalize hS1 : S ++ [MO.lst [.str ""]] ++ [.lst ((ls' ++ [[]]).map sD)] = S1 at e1
  have hk : S1[(S ++ [MO.lst [.str ""]]).length]? = some (.lst ((ls' ++ [[]]).map sD)) := by rw [← hS1]; exact last0
  have hr3 : S1[rw2]? = some (.lst (rs2.map D.obj)) := by rw [← hS1]; exact get_app (get_app hr2)
  have hq3 : S1[q]? = some (.lst (ls'.map sD)) := by rw [← hS1]; exact get_app (get_app hq)
  obtain ⟨X1, j1⟩ := refused (L := .obj (S ++ [MO.lst [.str ""]]).length) (ls := ls' ++ [[]]) (.inr ⟨_, rfl, hk⟩) hr3 (by rw [List.length_map, List.length_append, hr2l]; simp; omega)
  have e2 : fSl (.obj q) (some 1) none (S1 ++ X1) = some (.obj (S1 ++ X1).length, S1 ++ X1 ++ [.lst ((ls'.drop 1).map sD)]) := by
    show (lstAt _ q).map _ = _
    rw [lst_at (get_app hq3), List.map_drop, ← cut1]; rfl
  have e3 : fTuple (.obj (S1 ++ X1).length) (S1 ++ X1 ++ [.lst ((ls'.drop 1).map sD)]) = some (.tup ((ls'.drop 1).map sD), S1 ++ X1 ++ [.lst ((ls'.drop 1).map sD)]) := by
    show (lstAt _ _).map _ = _
    rw [lst_at last0]; rfl
  obtain ⟨X2, j2⟩ := refused (S := S1 ++ X1 ++ [.lst ((ls'.drop 1).map sD)]) (L := .tup ((ls'.drop 1).map sD)) (ls := ls'.drop 1) (.inl rfl) (get_app (get_app hr3)) (by rw [List.length_map, List.length_drop, hr2l]; omega)
  refine ⟨S1 ++ X1 ++ [.lst ((ls'.drop 1).map sD)] ++ X2, ?_⟩
  unfold G13
  simp only [bind_ok, bind_ex, of_some, rs_ok, rs_ex, then_nx, then_rt, then_ex, then_bk, then_ct, mV0, mVs, mC_, m2_, m1_, mB_, kB_bl, mB1_, mNil_, mCons_, f1L_, f2L_, mTup_, mLst_, mCall_, mNotT_, mAndT_, mOrT_, mIf_, mAndV_, mOrV_, mNotV_, kAndV_bl, kOrV_bl, kNotV_bl, mSl_, mPart_, kPart_, mNoPart_, sSeq_, sSet_, sRet_, sIf_, sExpr_, sNil_, sBreak_, sCont_, e_lt, e_le, e_gt, e_ge, e_eqI, e_neI, e_eqS, e_neS, e_add, e_sub, List.set_cons_zero, List.set_cons_succ, kTu1, kTu2, kTu3, kTu4, kTu5, kLs0, kLs1, kLs2, kLs3, kLs4, kLs5, mM_, mM0_, sAsg_, sFor_, iRng_, iSeq_, e1, j1, if_true, e2, e3, j2]
end K00

namespace K00
open PySem PySem.Spec L2 Mi
variable {p n0 dj a b sj : Nat} {rs : List Nat} {ls : List (List Nat)} {ts : List Tk} {t u : List Nat} {x0 z : Option D}
def GE : MS := sSeq G1 (sSeq G2 (sSeq G3 (sSeq G4 (sSeq G5 (sSeq G6 (sSeq G7 (sSeq G8 (sSeq G9 (sSeq G10 (sSeq G11 (sSeq G12 G13)))))))))))
theorem good_end {S : Sto} (hp : PoolOk S p) (hn : p < n0) (g0 : Good S n0 dj a b rs ls ts) (hc : cutOf t = .good ls ts) (ht : TextOk t) (hz : t.length ≤ 20000) : ∃ S' : Sto, GE [x0, some (.obj p), some (sD t), z, some (.obj dj), some (sD u), some (.obj sj), none, none, none, none, none, none, none, none] S = .rt (.bl true) S' := by
  have ok := cut_ok ht
  have hcj := cutG_join _ _ _ _ _ hc
  rw [hc] at ok
  have okt : ts.length < 400000 := ok.2.1
  have hl : ls.length = ts.length + 1 := hcj.2
  have htsz : ts.length < 400000 := okt
  have s1 := g1 (p := p) (sj := sj) (t := t) (u := u) (x0 := x0) (z := z) g0 okt
  generalize hSa : S ++ [MO.lst ((txs ts).map sD)] = Sa at s1
  have pa : PoolOk Sa p := by rw [← hSa]; exact (Stp.app hp).pool
  have ga : Good Sa n0 dj a b rs ls ts := by rw [← hSa]; exact g0.app
  obtain ⟨X2, s2⟩ := g2 (p := p) (sj := sj) (u := u) (x0 := x0) (z := z) (r := [none, none, none, none, none, none, none]) ga hc ht
  generalize hSb : Sa ++ X2 = Sb at s2
  have pb : PoolOk Sb p := by rw [← hSb]; exact (Stp.app pa).pool
  have gb : Good Sb n0 dj a b rs ls ts := by rw [← hSb]; exact ga.app
  obtain ⟨w, Sc, s3, hw, stc⟩ := g3 (t := t) (u := u) (sj := sj) (x0 := x0) (z := z) (x7 := some (.tup ((txs ts).map sD))) (x8 := none) (r := [none, none, none, none, none, none]) gb pb (by omega)
  have gc := gb.stp hn stc
  obtain ⟨f, Sd, s4, hf, std⟩ := g4 (x0 := x0) (x2 := some (sD t)) (x3 := z) (x4 := some (.obj dj)) (x5 := some (sD u)) (x6 := some (.obj sj)) (x7 := some (.tup ((txs ts).map sD))) (x8 := some (nD w)) (x9 := none) (r := [none, none, none, none, none]) stc.pool
  have gd := gc.stp hn std
  have s5 := g5 (x0 := x0) (z := z) (x1 := some (.obj p)) (x2 := some (sD t)) (x5 := some (sD u)) (x6 := some (.obj sj)) (x7 := some (.tup ((txs ts).map sD))) (x8 := some (nD w)) (x9 := some (sD f)) (x10 := none) (r := [none, none, none, none]) gd
  have s6 := g6 (x0 := x0) (z := z) (x1 := some (.obj p)) (x2 := some (sD t)) (x4 := some (.obj dj)) (x5 := some (sD u)) (x6 := some (.obj sj)) (x7 := some (.tup ((txs ts).map sD))) (S := Sd) (ls := ls) (f := f) (r := [none, none, none, none]) hw
  have hls' : (ls.set w f).length = ts.length + 1 := by rw [List.length_set]; exact hl
  have ho : TextOk (joinL (ls.set w f) (txs ts)) := other_ok hcj.1 hz ht.2 hf
  have hj' : (joinL (ls.set w f) (txs ts)).length ≤ 1000000 := by have := ho.1; omega
  generalize hSe : Sd ++ [MO.lst ((ls.set w f).map sD)] = Se at s6
  have ge : Good Se n0 dj a b rs ls ts := by rw [← hSe]; exact gd.app
  have hq : Se[Sd.length]? = some (.lst ((ls.set w f).map sD)) := by rw [← hSe]; exact last0
  have hx : f ≠ [] → ∃ (ls' : List (List Nat)) (ts' : List Tk), cutOf (joinL (ls.set w f) (txs ts)) = .good ls' ts' ∧ txs ts' = txs ts := fun hne => exchange _ _ _ _ _ hc w f hf hne _ _ (by omega)
  have s7 := g7 (x0 := x0) (z := z) (x1 := some (.obj p)) (x2 := some (sD t)) (x5 := some (sD u)) (x6 := some (.obj sj)) (x7 := some (.tup ((txs ts).map sD))) (x8 := some (nD w)) (x9 := some (sD f)) (x11 := none) (r := [none, none, none]) ge hq hls' hj' (by omega)
  generalize hls : ls.set w f = ls' at *
  generalize hoo : joinL ls' (txs ts) = o at s7 ho hx
  have s8 := g8 (x0 := x0) (z := z) (x1 := some (.obj p)) (x2 := some (sD t)) (x5 := some (sD u)) (x6 := some (.obj sj)) (x7 := some (.tup ((txs ts).map sD))) (x8 := some (nD w)) (x9 := some (sD f)) (x10 := some (.obj Sd.length)) (x11 := some (sD o)) (x12 := none) (x13 := none) (x14 := none) ge okt
  have hrows : ∀ (X : Sto) (i r : Nat) (y : List Nat), (rng (Se.length + 1) rs.length)[i]? = some r → (txs ts)[i]? = some y → ∃ k q : D, (Se ++ .lst ((rng (Se.length + 1) rs.length).map D.obj) :: (qsE ts).map MO.lst ++ X)[r]? = some (.lst [k, sD y, q]) := fun X => made_rows qsE_get
  have hr2 : (Se ++ .lst ((rng (Se.length + 1) rs.length).map D.obj) :: (qsE ts).map MO.lst)[Se.length]? = some (.lst ((rng (Se.length + 1) rs.length).map D.obj)) := ga0
  generalize hSf : Se ++ .lst ((rng (Se.length + 1) rs.length).map D.obj) :: (qsE ts).map MO.lst = Sf at s8 hrows hr2
  have gf : Good Sf n0 dj a b rs ls ts := by rw [← hSf]; exact ge.app
  have hqf : Sf[Sd.length]? = some (.lst (ls'.map sD)) := by rw [← hSf]; exact get_app hq
  have hr2l : (rng (Se.length + 1) rs.length).length = ts.length := by rw [rng_len]; exact g0.len
  have htl := ht.1
  have h9 := g9 (x0 := x0) (z := z) (x1 := some (.obj p)) (x5 := some (sD u)) (x6 := some (.obj sj)) (x7 := some (.tup ((txs ts).map sD))) (x8 := some (nD w)) (x9 := some (sD f)) (x13 := none) (x14 := none) gf okt hqf hr2 hr2l hrows hl hls' hcj.1 (by omega) (by rw [hoo]; have := ho.1; omega)
  rw [hoo] at h9
  obtain ⟨X9, s9⟩ := h9
  have gg := gf.app (X := X9)
  have hqg := get_app (X := X9) hqf
  have hrg := get_app (X := X9) hr2
  generalize hSg : Sf ++ X9 = Sg at s9 gg hqg hrg
  obtain ⟨j, X10, s10, hd10⟩ := g10 (x0 := x0) (z := z) (x1 := some (.obj p)) (x2 := some (sD t)) (x4 := some (.obj dj)) (x5 := some (sD u)) (x6 := some (.obj sj)) (x7 := some (.tup ((txs ts).map sD))) (x8 := some (nD w)) (x9 := some (sD f)) (x10 := some (.obj Sd.length)) (x12 := some (.obj Se.length)) (x13 := none) (x14 := none) (S := Sg) ho
  have gh := gg.app (X := X10)
  have hqh := get_app (X := X10) hqg
  have hrh := get_app (X := X10) hrg
  generalize hSh : Sg ++ X10 = Sh at s10 gh hqh hrh hd10
  have hdt : DueAt Sh n0 dj (cutOf t) := by rw [hc]; exact gh.due
  obtain ⟨X11, s11⟩ := g11 (x0 := x0) (z := z) (x1 := some (.obj p)) (x5 := some (sD u)) (x6 := some (.obj sj)) (x7 := some (.tup ((txs ts).map sD))) (x8 := some (nD w)) (x9 := some (sD f)) (x10 := some (.obj Sd.length)) (x12 := some (.obj Se.length)) (x14 := none) ht ho hdt hd10
  have hqi := get_app (X := X11) hqh
  have hri := get_app (X := X11) hrh
  have hdi := hd10.app (X := X11)
  generalize hSi : Sh ++ X11 = Si at s11 hqi hri hdi
  obtain ⟨X12, s12⟩ := g12 (x1 := some (.obj p)) (x0 := x0) (z := z) (x2 := some (sD t)) (x4 := some (.obj dj)) (x5 := some (sD u)) (x6 := some (.obj sj)) (x8 := some (nD w)) (f := f) (x10 := some (.obj Sd.length)) (x12 := some (.obj Se.length)) (x14 := none) ho hdi ok hx
  obtain ⟨S', s13⟩ := g13 (x0 := x0) (z := z) (x1 := some (.obj p)) (x2 := some (sD t)) (x4 := some (.obj dj)) (x5 := some (sD u)) (x6 := some (.obj sj)) (x7 := some (.tup ((txs ts).map sD))) (x8 := some (nD w)) (x9 := some (sD f)) (x11 := some (sD o)) (x13 := some (.obj j)) (x14 := none) (get_app (X := X12) hqi) (get_app (X := X12) hri) hr2l hls' okt
  refine ⟨S', ?_⟩
  unfold GE
  rw [sSeq_, s1, then_nx, sSeq_, s2, then_nx, sSeq_, s3, then_nx, sSeq_, s4, then_nx, sSeq_, s5, then_nx, sSeq_, s6, then_nx, sSeq_, s7, then_nx, sSeq_, s8, then_nx, sSeq_, s9, then_nx, sSeq_, s10, then_nx, sSeq_, s11, then_nx, sSeq_, s12, then_nx, s13]
end K00

namespace K00
open PySem PySem.Spec L2 Mi
def A1 : MS := (sSet 1 (mCall M__law_pool (mCons (mV 0) mNil)))
def A2 : MS := (sSet 2 (mC (.str "")))
def A3 : MS := (sFor (iRng (mCons (m2 fAdd (mC (.int 2)) (mCall M__law_pick (mCons (mV 1) (mCons (mC (.int 12)) mNil)))) mNil)) (gN 3) TB)
def A5 : MS := (sSet 4 (mCall M__law_cut (mCons (mV 2) mNil)))
def A6 : MS := (sIf (mOrT (mB (m2 fNe (mCall M__law_told (mCons (mV 2) mNil)) (mV 4))) (mNotT (mB (mCall M__law_other_kinds (mCons (mCall M__law_pick (mCons (mV 1) (mCons (mC (.int 5)) mNil))) mNil)))))
  (sRet (mC (.bl false)))
  sNil)
def A7 : MS := (sSet 5 (mM "str" fJoin (mC (.str "")) (mCons (mLc (iRng (mCons (m2 fAdd (mC (.int 1)) (mCall M__law_pick (mCons (mV 1) (mCons (mC (.int 4)) mNil)))) mNil)) (gN 3) tAll (mCall M__law_piece (mCons (mV 1) mNil)) [3]) mNil)))
def A8 : MS := (sSet 6 (mCall M__law_cut (mCons (mV 5) mNil)))
def A9 : MS := (sIf (mOrT (mB (m2 fNe (mCall M__law_told (mCons (mV 5) mNil)) (mV 6))) (mB (m2 fNe (mCall M__law_same (mCons (mV 2) (mCons (mV 5) mNil))) (mCall M__law_same_due (mCons (mV 4) (mCons (mV 6) mNil))))))
  (sRet (mC (.bl false)))
  sNil)
def A10 : MS := (sIf (mB (m2 fEq (m2 fIx (mV 4) (mC (.int 0))) (mC (.str "bad"))))
  (sRet (m2 fEq (mCall M__law_same (mCons (mV 5) (mCons (mV 2) mNil))) (mCall M__law_same_due (mCons (mV 6) (mCons (mV 4) mNil)))))
  sNil)
theorem law_eq : B_law = sSeq A1 (sSeq A2 (sSeq A3 (sSeq TA (sSeq A5 (sSeq A6 (sSeq A7 (sSeq A8 (sSeq A9 (sSeq A10 GE))))))))) := (rfl)
variable {p n0 n1 dj sj : Nat} {t u : List Nat} {x0 z : Option D}
theorem a3 {S : Sto} {r : Mi.Env} {x3 : Option D} (hp : PoolOk S p) : ∃ (t : List Nat) (z : Option D) (S' : Sto), A3 (x0 :: some (.obj p) :: some (sD []) :: x3 :: r) S = .nx (x0 :: some (.obj p) :: some (sD t) :: z :: r) S' ∧ t.length ≤ 1000 ∧ okL t ∧ Stp p S S' := by
  obtain ⟨w, S1, p1, p2, p3, _⟩ := pick hp (m := 12) (by omega)
  have p1' : M__law_pick [.obj p, .int 12] S = .ok (nD w) S1 := p1
  have hk : kRngI [.int (2 + (w : Int))] S1 = .ok (itRng 0 (2 + w)) S1 := by
    rw [kRng1 (by omega), show (2 + (w : Int)).toNat = 2 + w by omega]
  obtain ⟨t, S', z, q1, q2, q3, q4⟩ := text_loop x0 r (2 + w) 0 (2 + w) [] S1 x3 (by omega) (by simp; omega) (by simp [okL]) p3.pool
  have en : (itRng 0 (2 + w)).n = 2 + w := (rfl)
  refine ⟨t, z, S', ?_, by simp at q2; omega, q3, p3.trans q4⟩
  unfold A3
  simp only [bind_ok, bind_ex, of_some, rs_ok, rs_ex, then_nx, then_rt, then_ex, then_bk, then_ct, mV0, mVs, mC_, m2_, m1_, mB_, kB_bl, mB1_, mNil_, mCons_, f1L_, f2L_, mTup_, mLst_, mCall_, mNotT_, mAndT_, mOrT_, mIf_, mAndV_, mOrV_, mNotV_, kAndV_bl, kOrV_bl, kNotV_bl, mSl_, mPart_, kPart_, mNoPart_, sSeq_, sSet_, sRet_, sIf_, sExpr_, sNil_, sBreak_, sCont_, e_lt, e_le, e_gt, e_ge, e_eqI, e_neI, e_eqS, e_neS, e_add, e_sub, List.set_cons_zero, List.set_cons_succ, kTu1, kTu2, kTu3, kTu4, kTu5, kLs0, kLs1, kLs2, kLs3, kLs4, kLs5, mM_, mM0_, sAsg_, sFor_, iRng_, iSeq_, p1', hk, en, q1]
theorem a5 {S : Sto} {r : Mi.Env} {x1 x4 : Option D} (ht : TextOk t) : ∃ (j : Nat) (X : Sto), A5 (x0 :: x1 :: some (sD t) :: z :: x4 :: r) S = .nx (x0 :: x1 :: some (sD t) :: z :: some (.obj j) :: r) (S ++ X) ∧ DueAt (S ++ X) S.length j (cutOf t) := by
  obtain ⟨j, X, h1, h2⟩ := lcut S t ht.lt
  refine ⟨j, X, ?_, h2⟩
  unfold A5
  simp only [bind_ok, bind_ex, of_some, rs_ok, rs_ex, then_nx, then_rt, then_ex, then_bk, then_ct, mV0, mVs, mC_, m2_, m1_, mB_, kB_bl, mB1_, mNil_, mCons_, f1L_, f2L_, mTup_, mLst_, mCall_, mNotT_, mAndT_, mOrT_, mIf_, mAndV_, mOrV_, mNotV_, kAndV_bl, kOrV_bl, kNotV_bl, mSl_, mPart_, kPart_, mNoPart_, sSeq_, sSet_, sRet_, sIf_, sExpr_, sNil_, sBreak_, sCont_, e_lt, e_le, e_gt, e_ge, e_eqI, e_neI, e_eqS, e_neS, e_add, e_sub, List.set_cons_zero, List.set_cons_succ, kTu1, kTu2, kTu3, kTu4, kTu5, kLs0, kLs1, kLs2, kLs3, kLs4, kLs5, mM_, mM0_, sAsg_, sFor_, iRng_, iSeq_, h1]
theorem a6 {S : Sto} {r : Mi.Env} (ht : TextOk t) (hp : PoolOk S p) (hd : DueAt S n0 dj (cutOf t)) : ∃ S' : Sto, A6 (x0 :: some (.obj p) :: some (sD t) :: z :: some (.obj dj) :: r) S = .nx (x0 :: some (.obj p) :: some (sD t) :: z :: some (.obj dj) :: r) S' ∧ Stp p S S' := by
  obtain ⟨j1, X1, h1, h2⟩ := told_ne S ht hd
  have s1 := Stp.app (X := X1) hp
  obtain ⟨w, S1, p1, p2, p3, _⟩ := pick s1.pool (m := 5) (by omega)
  have p1' : M__law_pick [.obj p, .int 5] (S ++ X1) = .ok (nD w) S1 := p1
  obtain ⟨X2, h3⟩ := other_kinds (S := S1) p2
  refine ⟨S1 ++ X2, ?_, s1.trans (p3.trans (Stp.app p3.pool))⟩
  unfold A6
  simp only [bind_ok, bind_ex, of_some, rs_ok, rs_ex, then_nx, then_rt, then_ex, then_bk, then_ct, mV0, mVs, mC_, m2_, m1_, mB_, kB_bl, mB1_, mNil_, mCons_, f1L_, f2L_, mTup_, mLst_, mCall_, mNotT_, mAndT_, mOrT_, mIf_, mAndV_, mOrV_, mNotV_, kAndV_bl, kOrV_bl, kNotV_bl, mSl_, mPart_, kPart_, mNoPart_, sSeq_, sSet_, sRet_, sIf_, sExpr_, sNil_, sBreak_, sCont_, e_lt, e_le, e_gt, e_ge, e_eqI, e_neI, e_eqS, e_neS, e_add, e_sub, List.set_cons_zero, List.set_cons_succ, kTu1, kTu2, kTu3, kTu4, kTu5, kLs0, kLs1, kLs2, kLs3, kLs4, kLs5, mM_, mM0_, sAsg_, sFor_, iRng_, iSeq_, h1, h2, Bool.false_eq_true, if_false, p1', h3, Bool.not_true]
theorem a7 {S : Sto} {x6 x7 x8 x9 x10 x11 x12 x13 x14 x2 x4 x5 : Option D} (hp : PoolOk S p) : ∃ (u : List Nat) (S' : Sto), A7 [x0, some (.obj p), x2, z, x4, x5, x6, x7, x8, x9, x10, x11, x12, x13, x14] S = .nx [x0, some (.obj p), x2, z, x4, some (sD u), x6, x7, x8, x9, x10, x11, x12, x13, x14] S' ∧ u.length ≤ 100 ∧ okL u ∧ Stp p S S' := by
  obtain ⟨u, S', h1, h2, h3, h4⟩ := second (env := [x0, some (.obj p), x2, z, x4, x5, x6, x7, x8, x9, x10, x11, x12, x13, x14]) hp rfl (fun _ => rfl) (fun _ _ => rfl)
  refine ⟨u, S', ?_, h2, h3, h4⟩
  unfold A7
  rw [sSet_, h1, rs_ok]
  rfl
theorem a8 {S : Sto} {r : Mi.Env} {x1 x2 x4 x6 : Option D} (hu : TextOk u) : ∃ (j : Nat) (X : Sto), A8 (x0 :: x1 :: x2 :: z :: x4 :: some (sD u) :: x6 :: r) S = .nx (x0 :: x1 :: x2 :: z :: x4 :: some (sD u) :: some (.obj j) :: r) (S ++ X) ∧ DueAt (S ++ X) S.length j (cutOf u) := by
  obtain ⟨j, X, h1, h2⟩ := lcut S u hu.lt
  refine ⟨j, X, ?_, h2⟩
  unfold A8
  simp only [bind_ok, bind_ex, of_some, rs_ok, rs_ex, then_nx, then_rt, then_ex, then_bk, then_ct, mV0, mVs, mC_, m2_, m1_, mB_, kB_bl, mB1_, mNil_, mCons_, f1L_, f2L_, mTup_, mLst_, mCall_, mNotT_, mAndT_, mOrT_, mIf_, mAndV_, mOrV_, mNotV_, kAndV_bl, kOrV_bl, kNotV_bl, mSl_, mPart_, kPart_, mNoPart_, sSeq_, sSet_, sRet_, sIf_, sExpr_, sNil_, sBreak_, sCont_, e_lt, e_le, e_gt, e_ge, e_eqI, e_neI, e_eqS, e_neS, e_add, e_sub, List.set_cons_zero, List.set_cons_succ, kTu1, kTu2, kTu3, kTu4, kTu5, kLs0, kLs1, kLs2, kLs3, kLs4, kLs5, mM_, mM0_, sAsg_, sFor_, iRng_, iSeq_, h1]
theorem a9 {S : Sto} {r : Mi.Env} {x1 : Option D} (ht : TextOk t) (hu : TextOk u) (hd : DueAt S n0 dj (cutOf t)) (hd' : DueAt S n1 sj (cutOf u)) : ∃ X : Sto, A9 (x0 :: x1 :: some (sD t) :: z :: some (.obj dj) :: some (sD u) :: some (.obj sj) :: r) S = .nx (x0 :: x1 :: some (sD t) :: z :: some (.obj dj) :: some (sD u) :: some (.obj sj) :: r) (S ++ X) := by
  obtain ⟨j1, X1, h1, h2⟩ := told_ne S hu hd'
  obtain ⟨j2, j3, X2, X3, h3, h4, h5, _⟩ := same_ne (S ++ X1) ht hu hd.app hd'.app
  refine ⟨X1 ++ (X2 ++ X3), ?_⟩
  rw [← List.append_assoc, ← List.append_assoc]
  unfold A9
  simp only [bind_ok, bind_ex, of_some, rs_ok, rs_ex, then_nx, then_rt, then_ex, then_bk, then_ct, mV0, mVs, mC_, m2_, m1_, mB_, kB_bl, mB1_, mNil_, mCons_, f1L_, f2L_, mTup_, mLst_, mCall_, mNotT_, mAndT_, mOrT_, mIf_, mAndV_, mOrV_, mNotV_, kAndV_bl, kOrV_bl, kNotV_bl, mSl_, mPart_, kPart_, mNoPart_, sSeq_, sSet_, sRet_, sIf_, sExpr_, sNil_, sBreak_, sCont_, e_lt, e_le, e_gt, e_ge, e_eqI, e_neI, e_eqS, e_neS, e_add, e_sub, List.set_cons_zero, List.set_cons_succ, kTu1, kTu2, kTu3, kTu4, kTu5, kLs0, kLs1, kLs2, kLs3, kLs4, kLs5, mM_, mM0_, sAsg_, sFor_, iRng_, iSeq_, h1, h2, Bool.false_eq_true, if_false, h3, h4, h5]
theorem a10_bad {S : Sto} {r : Mi.Env} {x1 : Option D} {q : Nat} (ht : TextOk t) (hu : TextOk u) (hd : DueAt S n0 dj (cutOf t)) (hd' : DueAt S n1 sj (cutOf u)) (hc : cutOf t = .bad q) : ∃ S' : Sto, A10 (x0 :: x1 :: some (sD t) :: z :: some (.obj dj) :: some (sD u) :: some (.obj sj) :: r) S = .rt (.bl true) S' := by
  obtain ⟨j2, j3, X2, X3, h3, h4, _, h5⟩ := same_ne S hu ht hd' hd
  rw [hc] at hd
  obtain ⟨k, r', h6, h7'⟩ := due_head hd
  have h7 : decide (k = ("bad" : Str)) = true := h7'
  refine ⟨S ++ X2 ++ X3, ?_⟩
  unfold A10
  simp only [bind_ok, bind_ex, of_some, rs_ok, rs_ex, then_nx, then_rt, then_ex, then_bk, then_ct, mV0, mVs, mC_, m2_, m1_, mB_, kB_bl, mB1_, mNil_, mCons_, f1L_, f2L_, mTup_, mLst_, mCall_, mNotT_, mAndT_, mOrT_, mIf_, mAndV_, mOrV_, mNotV_, kAndV_bl, kOrV_bl, kNotV_bl, mSl_, mPart_, kPart_, mNoPart_, sSeq_, sSet_, sRet_, sIf_, sExpr_, sNil_, sBreak_, sCont_, e_lt, e_le, e_gt, e_ge, e_eqI, e_neI, e_eqS, e_neS, e_add, e_sub, List.set_cons_zero, List.set_cons_succ, kTu1, kTu2, kTu3, kTu4, kTu5, kLs0, kLs1, kLs2, kLs3, kLs4, kLs5, mM_, mM0_, sAsg_, sFor_, iRng_, iSeq_, e_ix0 h6, h7, if_true, h3, h4, h5]
theorem a10_good {S : Sto} {r : Mi.Env} {x1 x2 : Option D} {ls : List (List Nat)} {ts : List Tk} (hd : DueAt S n0 dj (.good ls ts)) : A10 (x0 :: x1 :: x2 :: z :: some (.obj dj) :: r) S = .nx (x0 :: x1 :: x2 :: z :: some (.obj dj) :: r) S := by
  obtain ⟨k, r', h6, h7'⟩ := due_head hd
  have h7 : decide (k = ("bad" : Str)) = false := h7'
  unfold A10
  simp only [bind_ok, bind_ex, of_some, rs_ok, rs_ex, then_nx, then_rt, then_ex, then_bk, then_ct, mV0, mVs, mC_, m2_, m1_, mB_, kB_bl, mB1_, mNil_, mCons_, f1L_, f2L_, mTup_, mLst_, mCall_, mNotT_, mAndT_, mOrT_, mIf_, mAndV_, mOrV_, mNotV_, kAndV_bl, kOrV_bl, kNotV_bl, mSl_, mPart_, kPart_, mNoPart_, sSeq_, sSet_, sRet_, sIf_, sExpr_, sNil_, sBreak_, sCont_, e_lt, e_le, e_gt, e_ge, e_eqI, e_neI, e_eqS, e_neS, e_add, e_sub, List.set_cons_zero, List.set_cons_succ, kTu1, kTu2, kTu3, kTu4, kTu5, kLs0, kLs1, kLs2, kLs3, kLs4, kLs5, mM_, mM0_, sAsg_, sFor_, iRng_, iSeq_, e_ix0 h6, h7, Bool.false_eq_true, if_false]
end K00

namespace K00
open PySem PySem.Spec L2 Mi
theorem law_body {ns : List Int} (hn : ns.length ≤ 63) : ∃ S' : Sto, B_law [some (.obj 0), none, none, none, none, none, none, none, none, none, none, none, none, none, none] (script0 ns) = .rt (.bl true) S' := by
  obtain ⟨S1, p1, hp1⟩ := pool ns hn
  have s1 : A1 [some (.obj 0), none, none, none, none, none, none, none, none, none, none, none, none, none, none] (script0 ns) = .nx [some (.obj 0), some (.obj 1), none, none, none, none, none, none, none, none, none, none, none, none, none] S1 := by
    unfold A1
    simp only [bind_ok, bind_ex, of_some, rs_ok, rs_ex, then_nx, then_rt, then_ex, then_bk, then_ct, mV0, mVs, mC_, m2_, m1_, mB_, kB_bl, mB1_, mNil_, mCons_, f1L_, f2L_, mTup_, mLst_, mCall_, mNotT_, mAndT_, mOrT_, mIf_, mAndV_, mOrV_, mNotV_, kAndV_bl, kOrV_bl, kNotV_bl, mSl_, mPart_, kPart_, mNoPart_, sSeq_, sSet_, sRet_, sIf_, sExpr_, sNil_, sBreak_, sCont_, e_lt, e_le, e_gt, e_ge, e_eqI, e_neI, e_eqS, e_neS, e_add, e_sub, List.set_cons_zero, List.set_cons_succ, kTu1, kTu2, kTu3, kTu4, kTu5, kLs0, kLs1, kLs2, kLs3, kLs4, kLs5, mM_, mM0_, sAsg_, sFor_, iRng_, iSeq_, p1]
  have s2 : A2 [some (.obj 0), some (.obj 1), none, none, none, none, none, none, none, none, none, none, none, none, none] S1 = .nx [some (.obj 0), some (.obj 1), some (sD []), none, none, none, none, none, none, none, none, none, none, none, none] S1 := by
    unfold A2
    simp only [bind_ok, bind_ex, of_some, rs_ok, rs_ex, then_nx, then_rt, then_ex, then_bk, then_ct, mV0, mVs, mC_, m2_, m1_, mB_, kB_bl, mB1_, mNil_, mCons_, f1L_, f2L_, mTup_, mLst_, mCall_, mNotT_, mAndT_, mOrT_, mIf_, mAndV_, mOrV_, mNotV_, kAndV_bl, kOrV_bl, kNotV_bl, mSl_, mPart_, kPart_, mNoPart_, sSeq_, sSet_, sRet_, sIf_, sExpr_, sNil_, sBreak_, sCont_, e_lt, e_le, e_gt, e_ge, e_eqI, e_neI, e_eqS, e_neS, e_add, e_sub, List.set_cons_zero, List.set_cons_succ, kTu1, kTu2, kTu3, kTu4, kTu5, kLs0, kLs1, kLs2, kLs3, kLs4, kLs5, mM_, mM0_, sAsg_, sFor_, iRng_, iSeq_, kE]
  obtain ⟨t0, z, S3, s3, l3, o3, st3⟩ := a3 (x0 := some (.obj 0)) (x3 := none) (r := [none, none, none, none, none, none, none, none, none, none, none]) hp1
  obtain ⟨t, S4, s4, l4, o4, st4⟩ := tail (x0 := some (.obj 0)) (rest := z :: [none, none, none, none, none, none, none, none, none, none, none]) l3 o3 st3.pool
  have ht : TextOk t := ⟨by omega, o4⟩
  obtain ⟨dj, X5, s5, d5⟩ := a5 (x0 := some (.obj 0)) (z := z) (x1 := some (.obj 1)) (x4 := none) (r := [none, none, none, none, none, none, none, none, none, none]) (S := S4) ht
  have hlt := st4.pool.lt
  have p5 := (Stp.app (X := X5) st4.pool).pool
  generalize hS5 : S4 ++ X5 = S5 at s5 d5 p5
  obtain ⟨S6, s6, st6⟩ := a6 (x0 := some (.obj 0)) (z := z) (r := [none, none, none, none, none, none, none, none, none, none]) ht p5 d5
  have d6 := d5.stp hlt st6
  obtain ⟨u, S7, s7, l7, o7, st7⟩ := a7 (x0 := some (.obj 0)) (z := z) (x2 := some (sD t)) (x4 := some (.obj dj)) (x5 := none) (x6 := none) (x7 := none) (x8 := none) (x9 := none) (x10 := none) (x11 := none) (x12 := none) (x13 := none) (x14 := none) st6.pool
  have hu : TextOk u := ⟨by omega, o7⟩
  have d7 := d6.stp hlt st7
  obtain ⟨sj, X8, s8, d8⟩ := a8 (x0 := some (.obj 0)) (z := z) (x1 := some (.obj 1)) (x2 := some (sD t)) (x4 := some (.obj dj)) (x6 := none) (r := [none, none, none, none, none, none, none, none]) (S := S7) hu
  have p8 := (Stp.app (X := X8) st7.pool).pool
  have d7' := d7.app (X := X8)
  generalize hS8 : S7 ++ X8 = S8 at s8 d8 p8 d7'
  obtain ⟨X9, s9⟩ := a9 (x0 := some (.obj 0)) (z := z) (x1 := some (.obj 1)) (r := [none, none, none, none, none, none, none, none]) ht hu d7' d8
  have p9 := (Stp.app (X := X9) p8).pool
  have d9 := d7'.app (X := X9)
  have d9' := d8.app (X := X9)
  generalize hS9 : S8 ++ X9 = S9 at s9 d9 d9' p9
  rw [law_eq]
  cases hc : cutOf t with
  | bad q =>
    obtain ⟨S10, s10⟩ := a10_bad (x0 := some (.obj 0)) (z := z) (x1 := some (.obj 1)) (r := [none, none, none, none, none, none, none, none]) ht hu d9 d9' hc
    refine ⟨S10, ?_⟩
    rw [sSeq_, s1, then_nx, sSeq_, s2, then_nx, sSeq_, s3, then_nx, sSeq_, s4, then_nx, sSeq_, s5, then_nx, sSeq_, s6, then_nx, sSeq_, s7, then_nx, sSeq_, s8, then_nx, sSeq_, s9, then_nx, sSeq_, s10, then_rt]
  | good ls ts =>
    rw [hc] at d9
    have s10 := a10_good (x0 := some (.obj 0)) (z := z) (x1 := some (.obj 1)) (x2 := some (sD t)) (r := [some (sD u), some (.obj sj), none, none, none, none, none, none, none, none]) d9
    obtain ⟨a, b, rs, g⟩ := Good.of d9
    obtain ⟨S11, s11⟩ := good_end (x0 := some (.obj 0)) (z := z) (u := u) (sj := sj) p9 hlt g hc ht (by omega)
    refine ⟨S11, ?_⟩
    rw [sSeq_, s1, then_nx, sSeq_, s2, then_nx, sSeq_, s3, then_nx, sSeq_, s4, then_nx, sSeq_, s5, then_nx, sSeq_, s6, then_nx, sSeq_, s7, then_nx, sSeq_, s8, then_nx, sSeq_, s9, then_nx, sSeq_, s10, then_nx, s11]
theorem plain : Plain M_law := fun ns hn => by
  obtain ⟨S', h⟩ := law_body hn
  refine ⟨S', ?_⟩
  unfold M_law mFn
  simp only [List.length_cons, List.length_nil, Nat.reduceAdd, if_true, List.map_cons, List.map_nil, List.replicate, List.cons_append, List.nil_append, Nat.reduceSub]
  rw [h]
  rfl
end K00

open PySem PySem.W PySem.Calls PyProof.Rows
theorem PySem.Challenge.cw_provedtorun_k00_cut_in_one_way_holds : PySem.Challenge.rw_provedtorun_k00_cut_in_one_way.Holds := by
  w_on; o_law
  refine HandSHeadRun.head_any (r := OpenLaw.row PySem.Challenge.rw_provedtorun_k00_cut_in_one_way) (q := view (OpenLaw.row PySem.Challenge.rw_provedtorun_k00_cut_in_one_way).prog [41]) (H := K00.hk) (ob := K00.ob) (M := 6000) (loose := K00.names) (d := HandSHeadRun.topDef (OpenLaw.row PySem.Challenge.rw_provedtorun_k00_cut_in_one_way).prog 41) (kwd := []) K00.ob_eq
    (by kernel_rfl) (fun s => by kernel_rfl) K00.run (by kernel_rfl) (by kernel_rfl) (by kernel_rfl) (by rfl) (by first | assumption | decide +kernel) (by decide +kernel) ⟨rfl, rfl, rfl, rfl, rfl, by decide +kernel⟩ ?hw ?hc
  case hw => w_witness2
  case hc =>
    refine Mi.walk_ofW (lw := PySem.Challenge.rw_provedtorun_k00_cut_in_one_way) (m := 63) (lv := 9) (x := "script") rfl (by decide) (by kernel_rfl) ⟨rfl, by decide, by decide⟩ ?F
    case F =>
      intro w mg fa h Y G hmg0
      obtain ⟨K, KX, c⟩ := Y
      have hmg : mg ("law" : PySem.Str) = some (.ref fa) := by
        have e : (HandSHeadRun.topDef (OpenLaw.row PySem.Challenge.rw_provedtorun_k00_cut_in_one_way).prog 41).name = ("law" : PySem.Str) := by kernel_rfl
        rw [← e]
        exact hmg0
      obtain ⟨fd, hb, hF⟩ := K00.facts (w := w) KX G hmg c
      exact ⟨K, fd, Mi.spM K mg K00.M_law, KX, hb, fun H a ns hl hO hS => Mi.spM_plain K00.plain hl hO hS, fun base _ _ => hF base⟩
