import PyProof.Rows.All
import Wide.All
import OpenK.AllK
import Wide.FinOn
import HandS.Base
import HandS.Call
import HandS.List
import HandS.Comp
import HandS.Ends
import HandS.Dict
import HandS.Iter
import HandS.Text
import HandS.Words
import HandS.WordsList
import HandS.WordsDict
import HandS.Exc
import HandS.TryOnly
import HandS.ExcOwn
import HandS.ExcInit
import HandS.Nested
import HandS.Wide
import HandS.TupAny
import HandS.TupLe
import HandS.IsInst
import HandS.SortInts
import HandS.Defaults
import HandS.WordsExc
import KE.KExcSuper
import HandS.ExcField
import HandS.ClsMeth
import PyProof.StrOps2
import PyProof.ListStr
import KE.KStateDown
import HandS.Head0
import HandS.Head1
import HandS.Head2
import HandS.HeadEnd
import HandS.HeadHook1
import HandS.HeadHook2
import KE.GoesMore
import KE.GoesEnum
import KE.KDictZip
import PySem.Challenge.RW_provedtorun_k07_arrays_against_cells
set_option Elab.async false
set_option linter.all false
set_option maxRecDepth 100000
set_option maxHeartbeats 4000000
namespace Mi
open PySem PySem.Spec PyProof.Rows L2

/-- data of the mirror: what never changes, and names of objects of the store -/
inductive D where
  | non | bl (b : Bool) | int (i : Int) | str (x : Str) | tup (l : List D) | obj (i : Nat)

/-- objects of the mirror's store -/
inductive MO where
  | lst (ds : List D) | fix (ds : List D) | dic (kvs : List (Key × D)) | gap
def MO.mut : MO → Bool
  | .fix _ => false
  | .gap => false
  | _ => true
abbrev Sto := List MO
/-- an exception: its class's name, its fields -/
structure Xn where
  cls : Str
  fs : List (Str × D)
inductive R (α : Type) where
  | ok (a : α) (S : Sto) | ex (e : Xn) (S : Sto) | no
abbrev Env := List (Option D)
def R.bind {α β : Type} (x : R α) (f : α → Sto → R β) : R β := match x with
  | .ok a S => f a S
  | .ex e S => .ex e S
  | .no => .no

/-! ### what stands for what -/
section
variable (K : PySem.W.Frag)
mutual
inductive Rv (as : List Addr) (H : Hp) : V → D → Prop where
  | non : Rv as H .non .non
  | bl (b : Bool) : Rv as H (.bl b) (.bl b)
  | int (i : Int) : Rv as H (.int i) (.int i)
  | str (x : Str) : Rv as H (.str x) (.str x)
  | tup {a : Addr} {xs : List V} {ds : List D} : SqT K H a xs → Rvs as H xs ds → Rv as H (.ref a) (.tup ds)
  | obj {i : Nat} {a : Addr} : as[i]? = some a → Rv as H (.ref a) (.obj i)
inductive Rvs (as : List Addr) (H : Hp) : List V → List D → Prop where
  | nil : Rvs as H [] []
  | cons {v : V} {d : D} {vs : List V} {ds : List D} : Rv as H v d → Rvs as H vs ds → Rvs as H (v :: vs) (d :: ds)
end
/-- later: the objects' places stay, the tuples stay -/
structure Ex (as : List Addr) (H : Hp) (as' : List Addr) (H' : Hp) : Prop where
  pre : ∀ (i : Nat) (a : Addr), as[i]? = some a → as'[i]? = some a
  tup : ∀ (a : Addr) (xs : List V), SqT K H a xs → SqT K H' a xs
  frz : ∀ (a : Addr) (o : Obj) (u : HO), H a = some (.frz o u) → H' a = some (.frz o u)
/-- the pairs of a dict -/
def Rkv (as : List Addr) (H : Hp) (kvs : List (Key × V)) (kds : List (Key × D)) : Prop := kvs.map (·.1) = kds.map (·.1) ∧ Rvs K as H (kvs.map (·.2)) (kds.map (·.2))
def Ro (as : List Addr) (H : Hp) (a : Addr) : MO → Prop
  | .lst ds => ∃ vs, H a = some (.lst vs) ∧ Rvs K as H vs ds
  | .fix ds => ∃ vs, ((∃ o, H a = some (.frz o (.lst vs))) ∨ ∀ H', SqL K H' a vs) ∧ Rvs K as H vs ds
  | .dic kds => ∃ kvs, H a = some (.dK kvs) ∧ Rkv K as H kvs kds
  | .gap => True
structure Rel (as : List Addr) (S : Sto) (H : Hp) : Prop where
  len : as.length = S.length
  ob : ∀ (i : Nat) (a : Addr) (o : MO), as[i]? = some a → S[i]? = some o → Ro K as H a o
  sep : ∀ (i j : Nat) (a : Addr) (o u : MO), as[i]? = some a → as[j]? = some a → S[i]? = some o → S[j]? = some u → o.mut = true → u.mut = true → i = j
structure Re (as : List Addr) (H : Hp) (σ : L2.St) (env : Env) : Prop where
  len : σ.length = env.length
  at_ : ∀ (i : Nat) (d : D), env[i]? = some (some d) → ∃ v, σ[i]? = some (some v) ∧ Rv K as H v d
def Rx (mg : Str → Option Value) (as : List Addr) (H : Hp) (cls : Value) (dd : Option Addr) (e : Xn) : Prop :=
  ∃ (C d : Addr) (fs : List (Str × V)), cls = .ref C ∧ mg e.cls = some (.ref C) ∧ dd = some d ∧ H d = some (.xd fs) ∧ fs.map (·.1) = e.fs.map (·.1) ∧ Rvs K as H (fs.map (·.2)) (e.fs.map (·.2))
end

section
variable {K : PySem.W.Frag} {mg : Str → Option Value} {as as' as2 : List Addr} {H H' H2 : Hp} {S S' : Sto} {v : V} {d : D} {vs : List V} {ds : List D} {a p : Addr}
theorem Ex.refl : Ex K as H as H := ⟨fun _ _ h => h, fun _ _ h => h, fun _ _ _ h => h⟩
theorem Ex.trans (x : Ex K as H as' H') (y : Ex K as' H' as2 H2) : Ex K as H as2 H2 := ⟨fun i a h => y.pre i a (x.pre i a h), fun a xs h => y.tup a xs (x.tup a xs h), fun a o u h => y.frz a o u (x.frz a o u h)⟩
mutual
theorem Rv.mono (x : Ex K as H as' H') : ∀ {v : V} {d : D}, Rv K as H v d → Rv K as' H' v d
  | _, _, .non => .non
  | _, _, .bl b => .bl b
  | _, _, .int i => .int i
  | _, _, .str z => .str z
  | _, _, .tup h t => .tup (x.tup _ _ h) (Rvs.mono x t)
  | _, _, .obj h => .obj (x.pre _ _ h)
theorem Rvs.mono (x : Ex K as H as' H') : ∀ {vs : List V} {ds : List D}, Rvs K as H vs ds → Rvs K as' H' vs ds
  | _, _, .nil => .nil
  | _, _, .cons h t => .cons (Rv.mono x h) (Rvs.mono x t)
end
theorem Rvs.len : ∀ {vs : List V} {ds : List D}, Rvs K as H vs ds → vs.length = ds.length
  | _, _, .nil => rfl
  | _, _, .cons _ t => by rw [List.length_cons, List.length_cons, Rvs.len t]
theorem Rvs.get : ∀ {vs : List V} {ds : List D} {i : Nat} {d : D}, Rvs K as H vs ds → ds[i]? = some d → ∃ v, vs[i]? = some v ∧ Rv K as H v d
  | _, _, _, _, .nil, e => by simp at e
  | _, _, 0, _, .cons r _, e => by simp at e; subst e; exact ⟨_, rfl, r⟩
  | _, _, i + 1, d, .cons _ t, e => by
    obtain ⟨u, h1, h2⟩ := Rvs.get (i := i) (d := d) t (by simpa using e)
    exact ⟨u, by simpa using h1, h2⟩
theorem Rvs.getV : ∀ {vs : List V} {ds : List D} {i : Nat} {v : V}, Rvs K as H vs ds → vs[i]? = some v → ∃ d, ds[i]? = some d ∧ Rv K as H v d
  | _, _, _, _, .nil, e => by simp at e
  | _, _, 0, _, .cons r _, e => by simp at e; subst e; exact ⟨_, rfl, r⟩
  | _, _, i + 1, d, .cons _ t, e => by
    obtain ⟨u, h1, h2⟩ := Rvs.getV (i := i) (v := d) t (by simpa using e)
    exact ⟨u, by simpa using h1, h2⟩
theorem Rvs.append : ∀ {xs ys : List V} {ds es : List D}, Rvs K as H xs ds → Rvs K as H ys es → Rvs K as H (xs ++ ys) (ds ++ es)
  | _, _, _, _, .nil, s => s
  | _, _, _, _, .cons r t, s => .cons r (Rvs.append t s)
theorem Rvs.take : ∀ {xs : List V} {ds : List D} (n : Nat), Rvs K as H xs ds → Rvs K as H (xs.take n) (ds.take n)
  | _, _, 0, _ => .nil
  | _, _, _ + 1, .nil => .nil
  | _, _, n + 1, .cons r t => .cons r (Rvs.take n t)
theorem Rvs.drop : ∀ {xs : List V} {ds : List D} (n : Nat), Rvs K as H xs ds → Rvs K as H (xs.drop n) (ds.drop n)
  | _, _, 0, r => r
  | _, _, _ + 1, .nil => .nil
  | _, _, n + 1, .cons _ t => Rvs.drop n t
theorem Rvs.set {v : V} {d : D} (r : Rv K as H v d) : ∀ {xs : List V} {ds : List D} (n : Nat), Rvs K as H xs ds → Rvs K as H (xs.set n v) (ds.set n d)
  | _, _, _, .nil => .nil
  | _, _, 0, .cons _ t => .cons r t
  | _, _, n + 1, .cons q t => .cons q (Rvs.set r n t)
theorem Rvs.reverse : ∀ {xs : List V} {ds : List D}, Rvs K as H xs ds → Rvs K as H xs.reverse ds.reverse
  | _, _, .nil => .nil
  | _, _, .cons r t => by
    rw [List.reverse_cons, List.reverse_cons]
    exact (Rvs.reverse t).append (.cons r .nil)
theorem Rvs.map {α : Type} {f : α → V} {g : α → D} (h : ∀ x, Rv K as H (f x) (g x)) : ∀ l : List α, Rvs K as H (l.map f) (l.map g)
  | [] => .nil
  | x :: l => .cons (h x) (Rvs.map h l)
theorem Rvs.repl (n : Nat) (r : Rvs K as H vs ds) : Rvs K as H (List.replicate n vs).flatten (List.replicate n ds).flatten := by
  induction n with
  | zero => exact .nil
  | succ n ih => rw [List.replicate_succ, List.replicate_succ, List.flatten_cons, List.flatten_cons]; exact r.append ih

/-! ### tuples stay -/
theorem sqt_fresh {K : PySem.W.Frag} {H : Hp} {p : Addr} {o : HO} (hp : H p = none) (a : Addr) (xs : List V) (h : SqT K H a xs) : SqT K (upd H p o) a xs := by
  rcases h with (h | ⟨u, h⟩) | h
  · exact .inl (.inl (by rw [upd_ne (ne_of_none h hp)]; exact h))
  · exact .inl (.inr ⟨u, by rw [upd_ne (ne_of_none h hp)]; exact h⟩)
  · exact .inr h
theorem sqt_mut {K : PySem.W.Frag} {H : Hp} {p : Addr} {o : HO} (hp : Mut (H p)) (a : Addr) (xs : List V) (h : SqT K H a xs) : SqT K (upd H p o) a xs := by
  have ne : ∀ u, H a = some u → ¬ Mut (some u) → a ≠ p := fun u e n z => by subst z; rw [e] at hp; exact n hp
  rcases h with (h | ⟨u, h⟩) | h
  · exact .inl (.inl (by rw [upd_ne (ne _ h fun z => z)]; exact h))
  · exact .inl (.inr ⟨u, by rw [upd_ne (ne _ h fun z => z)]; exact h⟩)
  · exact .inr h
theorem Ex.fresh {o : HO} (hp : H p = none) : Ex K as H as (upd H p o) := ⟨fun _ _ h => h, fun a xs h => sqt_fresh hp a xs h, fun a o u h => by rw [upd_ne (ne_of_none h hp)]; exact h⟩
theorem Ex.mut {o : HO} (hp : Mut (H p)) : Ex K as H as (upd H p o) := ⟨fun _ _ h => h, fun a xs h => sqt_mut hp a xs h, fun a o u h => by rw [upd_ne (fun e => by subst e; rw [h] at hp; exact hp)]; exact h⟩
theorem Ex.more {l : List Addr} : Ex K as H (as ++ l) H := ⟨fun i a h => by
  obtain ⟨hi, e⟩ := List.getElem?_eq_some_iff.mp h
  rw [List.getElem?_append_left hi]; exact h, fun _ _ h => h, fun _ _ _ h => h⟩
theorem Ro.mono_same {o : MO} (x : Ex K as H as' H') (e : H' a = H a) (r : Ro K as H a o) : Ro K as' H' a o := by
  cases o with
  | lst ds => obtain ⟨vs, h, r⟩ := r; exact ⟨vs, e.trans h, r.mono x⟩
  | fix ds =>
    obtain ⟨vs, h, r⟩ := r
    refine ⟨vs, ?_, r.mono x⟩
    rcases h with ⟨o, h⟩ | h
    · exact .inl ⟨o, e.trans h⟩
    · exact .inr h
  | dic kds => obtain ⟨kvs, h, e2, r⟩ := r; exact ⟨kvs, e.trans h, e2, r.mono x⟩
  | gap => trivial
/-- a new thing that no entry names -/
theorem Rel.fresh {o : HO} (r : Rel K as S H) (hp : H p = none) : Rel K as S (upd H p o) := by
  refine ⟨r.len, fun i a u h1 h2 => ?_, r.sep⟩
  have q := r.ob i a u h1 h2
  cases u with
  | lst ds => exact q.mono_same (Ex.fresh hp) (upd_ne (by obtain ⟨vs, h, _⟩ := q; exact ne_of_none h hp))
  | dic ds => exact q.mono_same (Ex.fresh hp) (upd_ne (by obtain ⟨vs, h, _⟩ := q; exact ne_of_none h hp))
  | gap => trivial
  | fix ds =>
    obtain ⟨vs, h, r⟩ := q
    refine ⟨vs, ?_, r.mono (Ex.fresh hp)⟩
    rcases h with ⟨o, h⟩ | h
    · exact .inl ⟨o, by rw [upd_ne (ne_of_none h hp)]; exact h⟩
    · exact .inr h
theorem Ro.laid {o : HO} {u : MO} (q : Ro K as H a u) (hp : H p = none) (x : Ex K as H as' (upd H p o)) : Ro K as' (upd H p o) a u := by
  cases u with
  | lst ds => exact q.mono_same x (upd_ne (by obtain ⟨vs, h, _⟩ := q; exact ne_of_none h hp))
  | dic ds => exact q.mono_same x (upd_ne (by obtain ⟨vs, h, _⟩ := q; exact ne_of_none h hp))
  | gap => trivial
  | fix ds =>
    obtain ⟨vs, h, r⟩ := q
    refine ⟨vs, ?_, r.mono x⟩
    rcases h with ⟨o, h⟩ | h
    · exact .inl ⟨o, by rw [upd_ne (ne_of_none h hp)]; exact h⟩
    · exact .inr h
/-- a new object of the store -/
theorem Rel.new {o : HO} {u : MO} (r : Rel K as S H) (hp : H p = none) (hu : Ro K (as ++ [p]) (upd H p o) p u) (hm : u.mut = true) : Rel K (as ++ [p]) (S ++ [u]) (upd H p o) ∧ Ex K as H (as ++ [p]) (upd H p o) ∧ (as ++ [p])[S.length]? = some p := by
  have x : Ex K as H (as ++ [p]) (upd H p o) := (Ex.fresh hp).trans Ex.more
  have last : (as ++ [p])[S.length]? = some p := by rw [← r.len, List.getElem?_append_right (Nat.le_refl _)]; simp
  have nop : ∀ (i : Nat) (a : Addr) (w : MO), as[i]? = some a → S[i]? = some w → w.mut = true → a ≠ p := fun i a w h1 h2 hw => by
    have q := r.ob i a w h1 h2
    cases w with
    | lst ds => obtain ⟨vs, h, _⟩ := q; exact ne_of_none h hp
    | dic ds => obtain ⟨vs, h, _⟩ := q; exact ne_of_none h hp
    | fix ds => cases hw
    | gap => cases hw
  have old : ∀ (i : Nat) (a : Addr) (w : MO), (as ++ [p])[i]? = some a → (S ++ [u])[i]? = some w → (as[i]? = some a ∧ S[i]? = some w) ∨ (i = S.length ∧ a = p ∧ w = u) := fun i a w h1 h2 => by
    by_cases hi : i < S.length
    · rw [List.getElem?_append_left (by rw [r.len]; exact hi)] at h1
      rw [List.getElem?_append_left hi] at h2
      exact .inl ⟨h1, h2⟩
    · rw [List.getElem?_append_right (by rw [r.len]; omega)] at h1
      rw [List.getElem?_append_right (by omega)] at h2
      have hi2 : i = S.length := by
        by_cases hz : i - S.length = 0
        · omega
        · rw [List.getElem?_eq_none_iff.mpr (by simp; omega)] at h2; cases h2
      refine .inr ⟨hi2, ?_, ?_⟩
      · have : i - as.length = 0 := by rw [r.len]; omega
        rw [this] at h1; simpa using h1.symm
      · have : i - S.length = 0 := by omega
        rw [this] at h2; simpa using h2.symm
  refine ⟨⟨by rw [List.length_append, List.length_append, r.len]; rfl, fun i a w h1 h2 => ?_, fun i j a w w2 h1 h2 h3 h4 m1 m2 => ?_⟩, x, last⟩
  · rcases old i a w h1 h2 with ⟨g1, g2⟩ | ⟨_, rfl, rfl⟩
    · exact (r.ob i a w g1 g2).laid hp x
    · exact hu
  · rcases old i a w h1 h3 with ⟨g1, g2⟩ | ⟨e1, e2, e3⟩
    · rcases old j a w2 h2 h4 with ⟨k1, k2⟩ | ⟨k1, k2, k3⟩
      · exact r.sep i j a w w2 g1 k1 g2 k2 m1 m2
      · exact absurd k2 (nop i a w g1 g2 m1)
    · rcases old j a w2 h2 h4 with ⟨k1, k2⟩ | ⟨k1, k2, k3⟩
      · exact absurd e2 (nop j a w2 k1 k2 m2)
      · omega
/-- an object of the store is changed -/
theorem Rel.put {o : HO} {u w : MO} {i : Nat} (r : Rel K as S H) (hi : as[i]? = some a) (hs : S[i]? = some w) (hw : w.mut = true) (hm : u.mut = true) (hu : Ro K as (upd H a o) a u) : Rel K as (S.set i u) (upd H a o) ∧ Ex K as H as (upd H a o) := by
  have mu : Mut (H a) := by
    have q := r.ob i a w hi hs
    cases w with
    | lst ds => obtain ⟨vs, h, _⟩ := q; rw [h]; trivial
    | dic ds => obtain ⟨vs, h, _⟩ := q; rw [h]; trivial
    | fix ds => cases hw
    | gap => cases hw
  have x : Ex K as H as (upd H a o) := Ex.mut mu
  refine ⟨⟨by rw [List.length_set]; exact r.len, fun j b z h1 h2 => ?_, fun j k b z z2 h1 h2 h3 h4 m1 m2 => ?_⟩, x⟩
  · by_cases hj : j = i
    · subst hj
      rw [hi] at h1; cases h1
      have hl : j < S.length := (List.getElem?_eq_some_iff.mp hs).1
      rw [List.getElem?_set_self hl] at h2; cases h2
      exact hu
    · rw [List.getElem?_set_ne (Ne.symm hj)] at h2
      have q := r.ob j b z h1 h2
      by_cases hz : z.mut = true
      · have hb : b ≠ a := fun e => by subst e; exact hj (r.sep j i b z w h1 hi h2 hs hz hw)
        exact q.mono_same x (upd_ne hb)
      · cases z with
        | lst _ => exact absurd rfl hz
        | dic _ => exact absurd rfl hz
        | gap => trivial
        | fix ds =>
          obtain ⟨vs, h, rr⟩ := q
          refine ⟨vs, ?_, rr.mono x⟩
          rcases h with ⟨ob, h⟩ | h
          · refine .inl ⟨ob, ?_⟩
            rw [upd_ne (fun e => by subst e; rw [h] at mu; exact mu)]; exact h
          · exact .inr h
  · have hl : i < S.length := (List.getElem?_eq_some_iff.mp hs).1
    have conv : ∀ (j : Nat) (z : MO), (S.set i u)[j]? = some z → z.mut = true → ∃ z', S[j]? = some z' ∧ z'.mut = true := fun j z h m => by
      by_cases hj : j = i
      · subst hj; exact ⟨w, hs, hw⟩
      · rw [List.getElem?_set_ne (Ne.symm hj)] at h; exact ⟨z, h, m⟩
    obtain ⟨y1, g1, n1⟩ := conv j z h3 m1
    obtain ⟨y2, g2, n2⟩ := conv k z2 h4 m2
    exact r.sep j k b y1 y2 h1 h2 g1 g2 n1 n2
theorem Re.mono {σ : L2.St} {env : Env} (x : Ex K as H as' H') (r : Re K as H σ env) : Re K as' H' σ env := ⟨r.len, fun i d h => let ⟨v, h1, h2⟩ := r.at_ i d h; ⟨v, h1, h2.mono x⟩⟩
theorem Re.set {σ : L2.St} {env : Env} {i : Nat} (r : Re K as H σ env) (q : Rv K as H v d) : Re K as H (σ.set i (some v)) (env.set i (some d)) := by
  refine ⟨by rw [List.length_set, List.length_set]; exact r.len, fun j e h => ?_⟩
  by_cases hj : j = i
  · subst hj
    by_cases hl : j < env.length
    · rw [List.getElem?_set_self hl] at h
      cases h
      exact ⟨v, List.getElem?_set_self (by rw [r.len]; exact hl), q⟩
    · rw [List.getElem?_eq_none_iff.mpr (by rw [List.length_set]; omega)] at h; cases h
  · rw [List.getElem?_set_ne (Ne.symm hj)] at h
    obtain ⟨u, h1, h2⟩ := r.at_ j e h
    exact ⟨u, by rw [List.getElem?_set_ne (Ne.symm hj)]; exact h1, h2⟩
theorem Re.unset {σ : L2.St} {env : Env} {i : Nat} (r : Re K as H σ env) : Re K as H (σ.set i none) (env.set i none) := by
  refine ⟨by rw [List.length_set, List.length_set]; exact r.len, fun j e h => ?_⟩
  by_cases hj : j = i
  · subst hj
    by_cases hl : j < env.length
    · rw [List.getElem?_set_self hl] at h; cases h
    · rw [List.getElem?_eq_none_iff.mpr (by rw [List.length_set]; omega)] at h; cases h
  · rw [List.getElem?_set_ne (Ne.symm hj)] at h
    obtain ⟨u, h1, h2⟩ := r.at_ j e h
    exact ⟨u, by rw [List.getElem?_set_ne (Ne.symm hj)]; exact h1, h2⟩
end
end Mi

namespace Mi
open PySem PySem.Spec PyProof.Rows L2

/-! ### what an outcome asks -/
section
variable (K : PySem.W.Frag) (mg : Str → Option Value) (W : WX)
/-- an outcome of a part: d's V is handed on with all that is known of it -/
def Go {α β : Type} (Ra : List Addr → Hp → β → α → Prop) (out : R α) (as : List Addr) (H : Hp) (σ : L2.St) (Q : β → Hp → Prop) : Prop := match out with
  | .ok d S' => ∀ (as' : List Addr) (H' : Hp) (v : β), Ex K as H as' H' → Rel K as' S' H' → Ra as' H' v d → Q v H'
  | .ex e S' => ∀ (as' : List Addr) (H' : Hp) (cls : Value) (dd : Option Addr), Ex K as H as' H' → Rel K as' S' H' → Rx K mg as' H' cls dd e → W cls dd σ H'
  | .no => False
/-- the reading that a mirror gives -/
def tU {α β : Type} (Ra : List Addr → Hp → β → α → Prop) (m : Env → Sto → R α) : L2.St → Hp → (β → Hp → Prop) → Prop := fun σ H Q =>
  ∃ as env S, Re K as H σ env ∧ Rel K as S H ∧ Go K mg W Ra (m env S) as H σ Q
end
def Rb : List Addr → Hp → Bool → Bool → Prop := fun _ _ a b => a = b
abbrev ME := Env → Sto → R D
abbrev MT := Env → Sto → R Bool
abbrev MA := Env → Sto → R (List D)

section
variable {K : PySem.W.Frag} {mg : Str → Option Value} {W : WX} {as as1 : List Addr} {H H1 : Hp} {S : Sto} {σ : L2.St}
theorem Go.later {α β : Type} {Ra : List Addr → Hp → β → α → Prop} {out : R α} {Q : β → Hp → Prop} (x : Ex K as H as1 H1) (h : Go K mg W Ra out as H σ Q) : Go K mg W Ra out as1 H1 σ Q := by
  cases out with
  | ok d S' => exact fun as' H' v y r q => h as' H' v (x.trans y) r q
  | ex e S' => exact fun as' H' c dd y r q => h as' H' c dd (x.trans y) r q
  | no => exact h
theorem Go.bind {α β γ δ : Type} {Ra : List Addr → Hp → β → α → Prop} {Rc : List Addr → Hp → δ → γ → Prop} {x : R α} {f : α → Sto → R γ} {Q : δ → Hp → Prop} {Q1 : β → Hp → Prop} (h : Go K mg W Rc (x.bind f) as H σ Q)
    (k : ∀ d S1 as1 H1 v, Ex K as H as1 H1 → Rel K as1 S1 H1 → Ra as1 H1 v d → Go K mg W Rc (f d S1) as1 H1 σ Q → Q1 v H1) : Go K mg W Ra x as H σ Q1 := by
  cases x with
  | ok d S' => exact fun as' H' v y r q => k d S' as' H' v y r q (Go.later y h)
  | ex e S' => exact h
  | no => exact h
/-- the usual step: the first part's reading from the whole's outcome -/
theorem tU_bind {α β γ δ : Type} {Ra : List Addr → Hp → β → α → Prop} {Rc : List Addr → Hp → δ → γ → Prop} {m : Env → Sto → R α} {f : Env → α → Sto → R γ} {Q : δ → Hp → Prop} {Q1 : β → Hp → Prop}
    (h : tU K mg W Rc (fun env S => (m env S).bind (f env)) σ H Q)
    (k : ∀ (as : List Addr) (env : Env) (d : α) (S1 : Sto) (as1 : List Addr) (H1 : Hp) (v : β), Re K as1 H1 σ env → Rel K as1 S1 H1 → Ra as1 H1 v d → Go K mg W Rc (f env d S1) as1 H1 σ Q → Q1 v H1) : tU K mg W Ra m σ H Q1 := by
  obtain ⟨as, env, S, re, rel, g⟩ := h
  exact ⟨as, env, S, re, rel, Go.bind g fun d S1 as1 H1 v x r q g' => k as env d S1 as1 H1 v (re.mono x) r q g'⟩
theorem tU_now {α β : Type} {Ra : List Addr → Hp → β → α → Prop} {m : Env → Sto → R α} {Q : β → Hp → Prop} {env : Env} (re : Re K as H σ env) (r : Rel K as S H) (g : Go K mg W Ra (m env S) as H σ Q) : tU K mg W Ra m σ H Q := ⟨as, env, S, re, r, g⟩
end

/-! ### judgements -/
section
variable (X : Cx) (W : WX)
structure EM (e : Expr) (m : ME) : Prop where
  pe : PE X e (tU X.K X.mg W (Rv X.K) m)
structure TM (e : Expr) (m : MT) : Prop where
  pt : PT X e (tU X.K X.mg W Rb m)
structure AM (es : List Expr) (m : MA) : Prop where
  pa : PA X es (tU X.K X.mg W (Rvs X.K) m)
end
section
variable {X : Cx} {W : WX}
theorem pe_imp {e : Expr} {t t' : TE} (h : PE X e t) (i : ∀ σ H Q, t' σ H Q → t σ H Q) : PE X e t' := ⟨fun pins s σ H Q I q => h.run pins s σ H Q I (i σ H Q q)⟩
theorem pt_imp {e : Expr} {t t' : TT} (h : PT X e t) (i : ∀ σ H Q, t' σ H Q → t σ H Q) : PT X e t' := ⟨fun pins s σ H Q I q => h.run pins s σ H Q I (i σ H Q q)⟩
theorem pw_imp {e : Expr} {t t' : TT} (h : PW X e t) (i : ∀ σ H Q, t' σ H Q → t σ H Q) : PW X e t' := ⟨fun w pins s σ H Q I q => h.run w pins s σ H Q I (i σ H Q q)⟩
theorem pa_imp {e : List Expr} {t t' : TA} (h : PA X e t) (i : ∀ σ H Q, t' σ H Q → t σ H Q) : PA X e t' := ⟨fun p pins s σ H Q I q => h.run p pins s σ H Q I (i σ H Q q)⟩
theorem ps_imp {e : Stmt} {t t' : TS} (h : PS X e t) (i : ∀ D σ H, t' D σ H → t D σ H) : PS X e t' := ⟨fun pins s σ H D I q => h.run pins s σ H D I (i D σ H q)⟩
theorem pss_imp {e : List Stmt} {t t' : TS} (h : PSs X e t) (i : ∀ D σ H, t' D σ H → t D σ H) : PSs X e t' := ⟨fun pins s σ H D I q => h.run pins s σ H D I (i D σ H q)⟩
theorem op_imp {f : Value → Value → Sem Value} {r r' : R2} (h : OpR X f r) (i : ∀ x y H Q, r' x y H Q → r x y H Q) : OpR X f r' := fun pins s σ H x y v u Q I rx ry q => h pins s σ H x y v u Q I rx ry (i x y H Q q)
theorem un_imp {f : Value → Sem Value} {r r' : V → Hp → VK → Prop} (h : UnR X f r) (i : ∀ x H Q, r' x H Q → r x H Q) : UnR X f r' := fun pins s σ H x v Q I rx q => h pins s σ H x v Q I rx (i x H Q q)
theorem ix_imp {r r' : R2} (h : IxR X r) (i : ∀ x y H Q, r' x y H Q → r x y H Q) : IxR X r' := fun a b pins s σ H x y v u Q I rx ry q hs => h a b pins s σ H x y v u Q I rx ry (i x y H Q q) hs
theorem call_imp {f : Value} {r r' : List V → Hp → VK → Prop} (h : CallR X f r) (i : ∀ x H Q, r' x H Q → r x H Q) : CallR X f r' := fun pins s σ H x us Q I rx q => h pins s σ H x us Q I rx (i x H Q q)
theorem mt_imp {id : String} {r r' : V → List V → Hp → VK → Prop} (h : MtR X id r) (i : ∀ x xs H Q, r' x xs H Q → r x xs H Q) : MtR X id r' := fun pins s σ H x xs v us Q I rx rs q => h pins s σ H x xs v us Q I rx rs (i x xs H Q q)

/-! ### names and constants -/
def mC (d : D) : ME := fun _ S => .ok d S
def mV (i : Nat) : ME := fun env S => match env[i]? with
  | some (some d) => .ok d S
  | _ => .no
theorem em_c {e : Expr} {v : V} {d : D} (h : PE X e (tC v)) (r : ∀ as H, Rv X.K as H v d) : EM X W e (mC d) := ⟨pe_imp h fun σ H Q ⟨as, env, S, re, rel, g⟩ => g as H v Ex.refl rel (r as H)⟩
theorem em_int {i : Int} {j : Nat} {pos : Pos} : EM X W (.Constant (.int i) j pos) (mC (.int i)) := em_c pe_int fun _ _ => .int i
theorem em_bl {b : Bool} {j : Nat} {pos : Pos} : EM X W (.Constant (.bool b) j pos) (mC (.bl b)) := em_c pe_bl fun _ _ => .bl b
theorem em_non {j : Nat} {pos : Pos} : EM X W (.Constant .none j pos) (mC .non) := em_c pe_non fun _ _ => .non
theorem em_str {x : Str} {j : Nat} {pos : Pos} : EM X W (.Constant (.str x) j pos) (mC (.str x)) := em_c pe_str fun _ _ => .str x
theorem em_v (i : Nat) {x : Str} {pos : Pos} (hN : X.N[i]? = some x := by rfl) (hv : Vis X.env.scope x := by first | exact Or.inl rfl | exact Or.inr (Or.inl rfl) | exact Or.inr (Or.inr rfl)) (hd : (x == ("__debug__" : Str)) = false := by decide)
    (hcd : (x == ("__classdict__" : Str)) = false := by decide) : EM X W (.Name x pos) (mV i) := ⟨pe_imp (pe_var hN hv hd hcd) fun σ H Q ⟨as, env, S, re, rel, g⟩ => by
  unfold mV at g
  cases e : env[i]? with
  | none => rw [e] at g; exact g.elim
  | some o =>
    cases o with
    | none => rw [e] at g; exact g.elim
    | some d =>
      rw [e] at g
      obtain ⟨v, h1, h2⟩ := re.at_ i d e
      exact ⟨v, h1, g as H v Ex.refl rel h2⟩⟩
/-- a constant of the module -/
theorem em_g {x : Str} {v : V} {u : Value} {d : D} {pos : Pos} (hg : Gl X x) (hm : X.mg x = some u) (r : RelV v u) (rd : ∀ as H, Rv X.K as H v d) (hd : (x == ("__debug__" : Str)) = false := by decide) : EM X W (.Name x pos) (mC d) := em_c (pe_glob hg hm r hd) rd

/-! ### operators -/
/-- an operation of values: a value and a store, or nothing -/
abbrev F2 := D → D → Sto → Option (D × Sto)
def R.of {α : Type} : Option (α × Sto) → R α
  | some (d, S) => .ok d S
  | none => .no
def rF (K : PySem.W.Frag) (f : F2) : R2 := fun x y H Q => ∃ as S d e z S', Rel K as S H ∧ Rv K as H x d ∧ Rv K as H y e ∧ f d e S = some (z, S') ∧
  ∀ as' H' v, Ex K as H as' H' → Rel K as' S' H' → Rv K as' H' v z → Q v H'
def m2 (f : F2) (a b : ME) : ME := fun env S => (a env S).bind fun x S1 => (b env S1).bind fun y S2 => R.of (f x y S2)
theorem go_of {K : PySem.W.Frag} {mg : Str → Option Value} {W : WX} {as : List Addr} {H : Hp} {σ : L2.St} {o : Option (D × Sto)} {Q : VK} (g : Go K mg W (Rv K) (R.of o) as H σ Q) :
    ∃ z S', o = some (z, S') ∧ ∀ as' H' v, Ex K as H as' H' → Rel K as' S' H' → Rv K as' H' v z → Q v H' := by
  cases o with
  | none => exact g.elim
  | some p => exact ⟨p.1, p.2, rfl, g⟩
theorem m2_step {K : PySem.W.Frag} {mg : Str → Option Value} {f : F2} {ma mb : ME} {r : R2} (hr : ∀ x y H Q, rF K f x y H Q → r x y H Q) {σ : L2.St} {H : Hp} {Q : VK} (h : tU K mg W (Rv K) (m2 f ma mb) σ H Q) :
    tOp r (tU K mg W (Rv K) ma) (tU K mg W (Rv K) mb) σ H Q := by
  refine tU_bind (f := fun env x S1 => (mb env S1).bind fun y S2 => R.of (f x y S2)) h fun as env d S1 as1 H1 x re rel rv g => ?_
  refine ⟨as1, env, S1, re, rel, Go.bind g fun e S2 as2 H2 y x2 r2 rv2 g2 => ?_⟩
  obtain ⟨z, S', hz, q⟩ := go_of g2
  exact hr _ _ _ _ ⟨as2, S2, d, e, z, S', r2, rv.mono x2, rv2, hz, q⟩
theorem em_bin {f : F2} {a b : Expr} {op : Operator} {ma mb : ME} {pos : Pos} (ho : OpR X (binaryOp op) (rF X.K f)) (ha : EM X W a ma) (hb : EM X W b mb) : EM X W (.BinOp a op b pos) (m2 f ma mb) :=
  ⟨pe_imp (pe_op ho ha.pe hb.pe) fun σ H Q h => m2_step (fun _ _ _ _ q => q) h⟩
theorem em_cmp {f : F2} {a b : Expr} {op : CmpOp} {ma mb : ME} {pos : Pos} (ho : OpR X (compareOp op) (rF X.K f)) (ha : EM X W a ma) (hb : EM X W b mb) (hm : behindInMarks op b = false := by rfl) : EM X W (.Compare a [op] [b] pos) (m2 f ma mb) :=
  ⟨pe_imp (pe_cmpR ho ha.pe hb.pe hm) fun σ H Q h => m2_step (fun _ _ _ _ q => q) h⟩
theorem em_ix {f : F2} {a b : Expr} {ma mb : ME} {pos : Pos} (ho : IxR X (rF X.K f)) (ha : EM X W a ma) (hb : EM X W b mb) (hs : PlainIx b := by exact fun _ _ => rfl) : EM X W (.Subscript a b pos) (m2 f ma mb) :=
  ⟨pe_imp (pe_ix ho ha.pe hb.pe hs) fun σ H Q h => m2_step (fun _ _ _ _ q => q) h⟩
/-- a < b < c -/
def mCh (f g : F2) (a b c : ME) : ME := fun env S => (a env S).bind fun x S1 => (b env S1).bind fun y S2 => match f x y S2 with
  | some (.bl true, S3) => (c env S3).bind fun z S4 => R.of (g y z S4)
  | some (.bl false, S3) => .ok (.bl false) S3
  | _ => .no
theorem mCh_step {K : PySem.W.Frag} {mg : Str → Option Value} {f g : F2} {ma mb mc : ME} {σ : L2.St} {H : Hp} {Q : VK} (h : tU K mg W (Rv K) (mCh f g ma mb mc) σ H Q) :
    tChain (rF K f) (rF K g) (tU K mg W (Rv K) ma) (tU K mg W (Rv K) mb) (tU K mg W (Rv K) mc) σ H Q := by
  refine tU_bind (f := fun env x S1 => (mb env S1).bind fun y S2 => match f x y S2 with
    | some (.bl true, S3) => (mc env S3).bind fun z S4 => R.of (g y z S4)
    | some (.bl false, S3) => .ok (.bl false) S3
    | _ => .no) h fun as env d S1 as1 H1 x re rel rv g1 => ?_
  refine ⟨as1, env, S1, re, rel, Go.bind g1 fun e S2 as2 H2 y x2 r2 rv2 g2 => ?_⟩
  cases q : f d e S2 with
  | none => rw [q] at g2; exact g2.elim
  | some p =>
    obtain ⟨z, S3⟩ := p
    rw [q] at g2
    cases z with
    | bl b =>
      refine ⟨as2, S2, d, e, .bl b, S3, r2, rv.mono x2, rv2, q, fun as3 H3 v x3 r3 rv3 => ?_⟩
      cases rv3
      cases b with
      | true =>
        refine ⟨true, rfl, ?_⟩
        rw [if_pos rfl]
        refine ⟨as3, env, S3, (re.mono x2).mono x3, r3, Go.bind (Go.later x3 g2) fun w S4 as4 H4 y4 x4 r4 rv4 g4 => ?_⟩
        obtain ⟨z, S', hz, q⟩ := go_of g4
        exact ⟨as4, S4, e, w, z, S', r4, (rv2.mono x3).mono x4, rv4, hz, q⟩
      | false =>
        refine ⟨false, rfl, ?_⟩
        rw [if_neg Bool.false_ne_true]
        exact g2 as3 H3 _ x3 r3 (.bl false)
    | _ => exact g2.elim
theorem em_chain {f g : F2} {a b c : Expr} {op op' : CmpOp} {ma mb mc : ME} {pos : Pos} (ho : OpR X (compareOp op) (rF X.K f)) (ho' : OpR X (compareOp op') (rF X.K g)) (ha : EM X W a ma) (hb : EM X W b mb) (hc : EM X W c mc) (hm : behindInMarks op' c = false := by rfl) :
    EM X W (.Compare a [op, op'] [b, c] pos) (mCh f g ma mb mc) :=
  ⟨pe_imp (pe_chain ho ho' ha.pe hb.pe hc.pe hm) fun σ H Q h => mCh_step h⟩

/-! ### tests -/
/-- of a True or False -/
def mB (a : ME) : MT := fun env S => (a env S).bind fun x S1 => match x with
  | .bl b => .ok b S1
  | _ => .no
theorem mB_step {K : PySem.W.Frag} {mg : Str → Option Value} {ma : ME} {σ : L2.St} {H : Hp} {Q : Bool → Hp → Prop} (h : tU K mg W Rb (mB ma) σ H Q) : tU K mg W (Rv K) ma σ H fun x H1 => ∃ k, x = .bl k ∧ Q k H1 := by
  refine tU_bind (f := fun env x S1 => match x with
    | .bl b => .ok b S1
    | _ => .no) h fun as env d S1 as1 H1 x re rel rv g => ?_
  cases d with
  | bl b => cases rv; exact ⟨b, rfl, g as1 H1 b Ex.refl rel rfl⟩
  | _ => exact g.elim
theorem tm_val {e : Expr} {m : ME} (h : EM X W e m) (he : ∀ whole, isTrue e X.env whole = (do let v ← whole; standAt e.pos; holding [v] (truthy v)) := by intro _; rfl) : TM X W e (mB m) := ⟨pt_imp (pt_val h.pe he) fun σ H Q q => mB_step q⟩
theorem tm_cmp {f : F2} {a b : Expr} {op : CmpOp} {ma mb : ME} {pos : Pos} (ho : OpR X (compareOp op) (rF X.K f)) (ha : EM X W a ma) (hb : EM X W b mb) (hm : behindInMarks op b = false := by rfl) : TM X W (.Compare a [op] [b] pos) (mB (m2 f ma mb)) :=
  ⟨pt_imp (pt_cmpR ho ha.pe hb.pe hm) fun σ H Q h => m2_step (fun _ _ _ _ q => q) (mB_step h)⟩
theorem tm_chain {f g : F2} {a b c : Expr} {op op' : CmpOp} {ma mb mc : ME} {pos : Pos} (ho : OpR X (compareOp op) (rF X.K f)) (ho' : OpR X (compareOp op') (rF X.K g)) (ha : EM X W a ma) (hb : EM X W b mb) (hc : EM X W c mc) (hm : behindInMarks op' c = false := by rfl) :
    TM X W (.Compare a [op, op'] [b, c] pos) (mB (mCh f g ma mb mc)) :=
  ⟨pt_imp (pt_chain ho ho' ha.pe hb.pe hc.pe hm) fun σ H Q h => mCh_step (mB_step h)⟩
def mNotT (a : MT) : MT := fun env S => (a env S).bind fun b S1 => .ok (!b) S1
def mAndT (a b : MT) : MT := fun env S => (a env S).bind fun c S1 => if c = true then b env S1 else .ok false S1
def mOrT (a b : MT) : MT := fun env S => (a env S).bind fun c S1 => if c = true then .ok true S1 else b env S1
theorem tm_not {a : Expr} {m : MT} {pos : Pos} (h : TM X W a m) : TM X W (.UnaryOp .Not a pos) (mNotT m) := ⟨pt_imp (pt_not h.pt) fun σ H Q q => tU_bind (f := fun env b S1 => .ok (!b) S1) q fun as env d S1 as1 H1 x re rel rv g => by
  cases rv
  exact g as1 H1 _ Ex.refl rel rfl⟩
structure WM (X : Cx) (W : WX) (e : Expr) (m : MT) : Prop where
  pw : PW X e (tU X.K X.mg W Rb m)
theorem wm_and1 {a : Expr} {m : MT} {pos : Pos} (h : TM X W a m) : WM X W (.BoolOp .And [a] pos) m := ⟨pw_and1 h.pt⟩
theorem wm_or1 {a : Expr} {m : MT} {pos : Pos} (h : TM X W a m) : WM X W (.BoolOp .Or [a] pos) m := ⟨pw_or1 h.pt⟩
theorem wm_and {a b : Expr} {rest : List Expr} {m n : MT} {pos : Pos} (h : TM X W a m) (h2 : WM X W (.BoolOp .And (b :: rest) pos) n) : WM X W (.BoolOp .And (a :: b :: rest) pos) (mAndT m n) :=
  ⟨pw_imp (pw_and h.pt h2.pw) fun σ H Q q => tU_bind (f := fun env c S1 => if c = true then n env S1 else .ok false S1) q fun as env d S1 as1 H1 x re rel rv g => by
    cases rv
    cases d with
    | true => rw [if_pos rfl]; exact ⟨as1, env, S1, re, rel, g⟩
    | false => rw [if_neg Bool.false_ne_true]; exact g as1 H1 _ Ex.refl rel rfl⟩
theorem wm_or {a b : Expr} {rest : List Expr} {m n : MT} {pos : Pos} (h : TM X W a m) (h2 : WM X W (.BoolOp .Or (b :: rest) pos) n) : WM X W (.BoolOp .Or (a :: b :: rest) pos) (mOrT m n) :=
  ⟨pw_imp (pw_or h.pt h2.pw) fun σ H Q q => tU_bind (f := fun env c S1 => if c = true then .ok true S1 else n env S1) q fun as env d S1 as1 H1 x re rel rv g => by
    cases rv
    cases d with
    | true => rw [if_pos rfl]; exact g as1 H1 _ Ex.refl rel rfl
    | false => rw [if_neg Bool.false_ne_true]; exact ⟨as1, env, S1, re, rel, g⟩⟩
theorem WM.tm {e : Expr} {m : MT} (h : WM X W e m) : TM X W e m := ⟨PW.pt h.pw⟩

/-! ### and, or, not as values (True or False) -/
def mAndV (a b : ME) : ME := fun env S => (a env S).bind fun c S1 => match c with
  | .bl true => b env S1
  | .bl false => .ok (.bl false) S1
  | _ => .no
def mOrV (a b : ME) : ME := fun env S => (a env S).bind fun c S1 => match c with
  | .bl false => b env S1
  | .bl true => .ok (.bl true) S1
  | _ => .no
def mNotV (a : ME) : ME := fun env S => (a env S).bind fun c S1 => match c with
  | .bl b => .ok (.bl (!b)) S1
  | _ => .no
theorem em_one {op : BoolOp} {a : Expr} {m : ME} {pos : Pos} (h : EM X W a m) : EM X W (.BoolOp op [a] pos) m := ⟨pe_one h.pe⟩
theorem em_and {a b : Expr} {rest : List Expr} {m n : ME} {pos : Pos} (h : EM X W a m) (h2 : EM X W (.BoolOp .And (b :: rest) pos) n) : EM X W (.BoolOp .And (a :: b :: rest) pos) (mAndV m n) :=
  ⟨pe_imp (pe_and h.pe h2.pe) fun σ H Q q => tU_bind (f := fun env c S1 => match c with
    | .bl true => n env S1
    | .bl false => .ok (.bl false) S1
    | _ => .no) q fun as env d S1 as1 H1 x re rel rv g => by
    cases d with
    | bl b =>
      cases rv
      refine ⟨b, rfl, ?_⟩
      cases b with
      | true => rw [if_pos rfl]; exact ⟨as1, env, S1, re, rel, g⟩
      | false => rw [if_neg Bool.false_ne_true]; exact g as1 H1 _ Ex.refl rel (.bl false)
    | _ => exact g.elim⟩
theorem em_or {a b : Expr} {rest : List Expr} {m n : ME} {pos : Pos} (h : EM X W a m) (h2 : EM X W (.BoolOp .Or (b :: rest) pos) n) : EM X W (.BoolOp .Or (a :: b :: rest) pos) (mOrV m n) :=
  ⟨pe_imp (pe_or h.pe h2.pe) fun σ H Q q => tU_bind (f := fun env c S1 => match c with
    | .bl false => n env S1
    | .bl true => .ok (.bl true) S1
    | _ => .no) q fun as env d S1 as1 H1 x re rel rv g => by
    cases d with
    | bl b =>
      cases rv
      refine ⟨b, rfl, ?_⟩
      cases b with
      | true => rw [if_pos rfl]; exact g as1 H1 _ Ex.refl rel (.bl true)
      | false => rw [if_neg Bool.false_ne_true]; exact ⟨as1, env, S1, re, rel, g⟩
    | _ => exact g.elim⟩
theorem em_not {a : Expr} {m : ME} {pos : Pos} (h : EM X W a m) : EM X W (.UnaryOp .Not a pos) (mNotV m) :=
  ⟨pe_imp (pe_not h.pe) fun σ H Q q => tU_bind (f := fun env c S1 => (match c with
    | .bl b => .ok (.bl (!b)) S1
    | _ => .no : R D)) q fun as env d S1 as1 H1 x re rel rv g => by
    cases d with
    | bl b => cases rv; exact ⟨b, rfl, g as1 H1 _ Ex.refl rel (.bl _)⟩
    | _ => exact g.elim⟩
def mIf (t : MT) (a b : ME) : ME := fun env S => (t env S).bind fun c S1 => if c = true then a env S1 else b env S1
theorem em_if {c a b : Expr} {t : MT} {m n : ME} {pos : Pos} (hc : TM X W c t) (ha : EM X W a m) (hb : EM X W b n) : EM X W (.IfExp c a b pos) (mIf t m n) :=
  ⟨pe_imp (pe_ifExp hc.pt ha.pe hb.pe) fun σ H Q q => tU_bind (f := fun env c S1 => if c = true then m env S1 else n env S1) q fun as env d S1 as1 H1 x re rel rv g => by
    cases rv
    cases d with
    | true => rw [if_pos rfl]; exact ⟨as1, env, S1, re, rel, g⟩
    | false => rw [if_neg Bool.false_ne_true]; exact ⟨as1, env, S1, re, rel, g⟩⟩

/-! ### argument lists, displays -/
def mNil : MA := fun _ S => .ok [] S
def mCons (a : ME) (r : MA) : MA := fun env S => (a env S).bind fun x S1 => (r env S1).bind fun xs S2 => .ok (x :: xs) S2
theorem am_nil : AM X W [] mNil := ⟨pa_imp pa_nil fun σ H Q ⟨as, env, S, re, rel, g⟩ => g as H [] Ex.refl rel .nil⟩
theorem am_cons {e : Expr} {es : List Expr} {m : ME} {r : MA} (h : EM X W e m) (hr : AM X W es r) (hs : starEach (e :: es) X.env = (false, eval e X.env) :: starEach es X.env := by rfl) : AM X W (e :: es) (mCons m r) :=
  ⟨pa_imp (pa_cons h.pe hr.pa hs) fun σ H Q q => tU_bind (f := fun env x S1 => (r env S1).bind fun xs S2 => .ok (x :: xs) S2) q fun as env d S1 as1 H1 x re rel rv g =>
    ⟨as1, env, S1, re, rel, Go.bind g fun ds S2 as2 H2 xs x2 r2 rv2 g2 => g2 as2 H2 _ Ex.refl r2 (.cons (rv.mono x2) rv2)⟩⟩
def kTup (xs : List D) (S1 : Sto) : R D := if xs.length ≤ sizeLine then .ok (.tup xs) S1 else .no
def kLst (xs : List D) (S1 : Sto) : R D := if xs.length ≤ sizeLine then .ok (.obj S1.length) (S1 ++ [.lst xs]) else .no
def mTup (a : MA) : ME := fun env S => (a env S).bind kTup
def mLst (a : MA) : ME := fun env S => (a env S).bind kLst
theorem em_tup {es : List Expr} {m : MA} {k : Nat} {pos : Pos} (h : AM X W es m) : EM X W (.Tuple es k pos) (mTup m) :=
  ⟨pe_imp (pe_tup h.pa) fun σ H Q q => tU_bind (f := fun _ => kTup) q fun as env ds S1 as1 H1 xs re rel rv g => by
    unfold kTup at g
    by_cases hl : ds.length ≤ sizeLine
    · rw [if_pos hl] at g
      exact ⟨by rw [rv.len]; exact hl, fun p hp => g as1 _ _ (Ex.fresh hp) (rel.fresh hp) (.tup (SqT.of upd_same) (rv.mono (Ex.fresh hp)))⟩
    · rw [if_neg hl] at g; exact g.elim⟩
theorem new_lst {K : PySem.W.Frag} {as : List Addr} {S : Sto} {H : Hp} {p : Addr} {vs : List V} {ds : List D} (rel : Rel K as S H) (hp : H p = none) (rv : Rvs K as H vs ds) :
    Rel K (as ++ [p]) (S ++ [.lst ds]) (upd H p (.lst vs)) ∧ Ex K as H (as ++ [p]) (upd H p (.lst vs)) ∧ (as ++ [p])[S.length]? = some p :=
  rel.new hp ⟨vs, upd_same, rv.mono ((Ex.fresh hp).trans Ex.more)⟩ rfl
theorem em_lst {es : List Expr} {m : MA} {pos : Pos} (h : AM X W es m) : EM X W (.List es pos) (mLst m) :=
  ⟨pe_imp (pe_lst h.pa) fun σ H Q q => tU_bind (f := fun _ => kLst) q fun as env ds S1 as1 H1 xs re rel rv g => by
    unfold kLst at g
    by_cases hl : ds.length ≤ sizeLine
    · rw [if_pos hl] at g
      refine ⟨by rw [rv.len]; exact hl, fun p hp => ?_⟩
      obtain ⟨r1, x1, e1⟩ := new_lst rel hp rv
      exact g _ _ _ x1 r1 (.obj e1)
    · rw [if_neg hl] at g; exact g.elim⟩
end
end Mi

namespace Mi
open PySem PySem.Spec PyProof.Rows L2

/-! ### what a datum's V is -/
section
variable {K : PySem.W.Frag} {as : List Addr} {H : Hp} {S : Sto} {v : V}
theorem Rv.non_ (r : Rv K as H v .non) : v = .non := by cases r; rfl
theorem Rv.bl_ {b : Bool} (r : Rv K as H v (.bl b)) : v = .bl b := by cases r; rfl
theorem Rv.int_ {i : Int} (r : Rv K as H v (.int i)) : v = .int i := by cases r; rfl
theorem Rv.str_ {x : Str} (r : Rv K as H v (.str x)) : v = .str x := by cases r; rfl
theorem Rv.tup_ {ds : List D} (r : Rv K as H v (.tup ds)) : ∃ a xs, v = .ref a ∧ SqT K H a xs ∧ Rvs K as H xs ds := by cases r with | tup h t => exact ⟨_, _, rfl, h, t⟩
theorem Rv.obj_ {i : Nat} (r : Rv K as H v (.obj i)) : ∃ a, v = .ref a ∧ as[i]? = some a := by cases r with | obj h => exact ⟨_, rfl, h⟩
theorem Rv.lst_ {i : Nat} {ds : List D} (r : Rv K as H v (.obj i)) (rel : Rel K as S H) (h : S[i]? = some (.lst ds)) : ∃ a vs, v = .ref a ∧ as[i]? = some a ∧ H a = some (.lst vs) ∧ Rvs K as H vs ds := by
  obtain ⟨a, rfl, ha⟩ := r.obj_
  obtain ⟨vs, h1, h2⟩ := rel.ob i a _ ha h
  exact ⟨a, vs, rfl, ha, h1, h2⟩
/-- a list to be read -/
def lstAt (S : Sto) (i : Nat) : Option (List D) := match S[i]? with
  | some (.lst ds) => some ds
  | some (.fix ds) => some ds
  | _ => none
theorem Rv.seq_ {i : Nat} {ds : List D} (r : Rv K as H v (.obj i)) (rel : Rel K as S H) (h : lstAt S i = some ds) : ∃ a vs, v = .ref a ∧ as[i]? = some a ∧ SqL K H a vs ∧ Rvs K as H vs ds := by
  obtain ⟨a, rfl, ha⟩ := r.obj_
  unfold lstAt at h
  cases e : S[i]? with
  | none => rw [e] at h; cases h
  | some o =>
    rw [e] at h
    have q := rel.ob i a o ha e
    cases o with
    | lst es => cases h; obtain ⟨vs, h1, h2⟩ := q; exact ⟨a, vs, rfl, ha, SqL.of h1, h2⟩
    | fix es =>
      cases h
      obtain ⟨vs, h1, h2⟩ := q
      refine ⟨a, vs, rfl, ha, ?_, h2⟩
      rcases h1 with ⟨o, h1⟩ | h1
      · exact .inl (.inr ⟨o, h1⟩)
      · exact h1 H
    | dic es => cases h
    | gap => cases h
theorem Rv.dic_ {i : Nat} {kds : List (Key × D)} (r : Rv K as H v (.obj i)) (rel : Rel K as S H) (h : S[i]? = some (.dic kds)) : ∃ a kvs, v = .ref a ∧ as[i]? = some a ∧ H a = some (.dK kvs) ∧ Rkv K as H kvs kds := by
  obtain ⟨a, rfl, ha⟩ := r.obj_
  obtain ⟨vs, h1, h2⟩ := rel.ob i a _ ha h
  exact ⟨a, vs, rfl, ha, h1, h2⟩
theorem Rvs.sing {d : D} {vs : List V} (r : Rvs K as H vs [d]) : ∃ v, vs = [v] ∧ Rv K as H v d := by
  cases r with | cons h t => cases t; exact ⟨_, rfl, h⟩
theorem Rvs.pair {d e : D} {vs : List V} (r : Rvs K as H vs [d, e]) : ∃ v u, vs = [v, u] ∧ Rv K as H v d ∧ Rv K as H u e := by
  cases r with | cons h t => obtain ⟨u, rfl, h2⟩ := t.sing; exact ⟨_, _, rfl, h, h2⟩
theorem Rvs.ints : ∀ {vs : List V} {ns : List Int}, Rvs K as H vs (ns.map D.int) → vs = ns.map V.int
  | _, [], .nil => rfl
  | _, n :: ns, .cons h t => by rw [h.int_, Rvs.ints t]; rfl
theorem Rvs.bls : ∀ {vs : List V} {ns : List Bool}, Rvs K as H vs (ns.map D.bl) → vs = ns.map V.bl
  | _, [], .nil => rfl
  | _, n :: ns, .cons h t => by rw [h.bl_, Rvs.bls t]; rfl
theorem Rvs.strs : ∀ {vs : List V} {ns : List Str}, Rvs K as H vs (ns.map D.str) → vs = ns.map V.str
  | _, [], .nil => rfl
  | _, n :: ns, .cons h t => by rw [h.str_, Rvs.strs t]; rfl
theorem Rvs.of_ints : ∀ ns : List Int, Rvs K as H (ns.map V.int) (ns.map D.int)
  | [] => .nil
  | n :: ns => .cons (.int n) (Rvs.of_ints ns)
end
/-- all ints, all bools, all texts -/
def toInts : List D → Option (List Int)
  | [] => some []
  | .int i :: r => (toInts r).map (i :: ·)
  | _ => none
theorem toInts_eq : ∀ {ds : List D} {ns : List Int}, toInts ds = some ns → ds = ns.map D.int
  | [], ns, h => by cases h; rfl
  | .int i :: r, ns, h => by
    unfold toInts at h
    cases e : toInts r with
    | none => rw [e] at h; cases h
    | some l => rw [e] at h; cases h; rw [toInts_eq e]; rfl
  | .non :: _, _, h => by cases h
  | .bl _ :: _, _, h => by cases h
  | .str _ :: _, _, h => by cases h
  | .tup _ :: _, _, h => by cases h
  | .obj _ :: _, _, h => by cases h
@[simp] theorem toInts_map : ∀ ns : List Int, toInts (ns.map D.int) = some ns
  | [] => rfl
  | n :: ns => by show (toInts (ns.map D.int)).map (n :: ·) = _; rw [toInts_map ns]; rfl
def toBls : List D → Option (List Bool)
  | [] => some []
  | .bl i :: r => (toBls r).map (i :: ·)
  | _ => none
theorem toBls_eq : ∀ {ds : List D} {ns : List Bool}, toBls ds = some ns → ds = ns.map D.bl
  | [], ns, h => by cases h; rfl
  | .bl i :: r, ns, h => by
    unfold toBls at h
    cases e : toBls r with
    | none => rw [e] at h; cases h
    | some l => rw [e] at h; cases h; rw [toBls_eq e]; rfl
  | .non :: _, _, h => by cases h
  | .int _ :: _, _, h => by cases h
  | .str _ :: _, _, h => by cases h
  | .tup _ :: _, _, h => by cases h
  | .obj _ :: _, _, h => by cases h
@[simp] theorem toBls_map : ∀ ns : List Bool, toBls (ns.map D.bl) = some ns
  | [] => rfl
  | n :: ns => by show (toBls (ns.map D.bl)).map (n :: ·) = _; rw [toBls_map ns]; rfl
def toStrs : List D → Option (List Str)
  | [] => some []
  | .str i :: r => (toStrs r).map (i :: ·)
  | _ => none
theorem toStrs_eq : ∀ {ds : List D} {ns : List Str}, toStrs ds = some ns → ds = ns.map D.str
  | [], ns, h => by cases h; rfl
  | .str i :: r, ns, h => by
    unfold toStrs at h
    cases e : toStrs r with
    | none => rw [e] at h; cases h
    | some l => rw [e] at h; cases h; rw [toStrs_eq e]; rfl
  | .non :: _, _, h => by cases h
  | .int _ :: _, _, h => by cases h
  | .bl _ :: _, _, h => by cases h
  | .tup _ :: _, _, h => by cases h
  | .obj _ :: _, _, h => by cases h
@[simp] theorem toStrs_map : ∀ ns : List Str, toStrs (ns.map D.str) = some ns
  | [] => rfl
  | n :: ns => by show (toStrs (ns.map D.str)).map (n :: ·) = _; rw [toStrs_map ns]; rfl

/-! ### arithmetic -/
def fAdd : F2 := fun d e S => match d, e with
  | .int i, .int j => some (.int (i + j), S)
  | .str x, .str y => if x.length + y.length ≤ sizeLine then some (.str (x ++ y), S) else none
  | .tup xs, .tup ys => if xs.length + ys.length ≤ sizeLine then some (.tup (xs ++ ys), S) else none
  | .obj i, .obj j => match S[i]?, S[j]? with
    | some (.lst xs), some (.lst ys) => if xs.length + ys.length ≤ sizeLine then some (.obj S.length, S ++ [.lst (xs ++ ys)]) else none
    | _, _ => none
  | _, _ => none
def fSub : F2 := fun d e S => match d, e with
  | .int i, .int j => some (.int (i - j), S)
  | _, _ => none
def fMul : F2 := fun d e S => match d, e with
  | .int i, .int j => if i.natAbs.log2 + j.natAbs.log2 < 1000000 then some (.int (i * j), S) else none
  | .obj i, .int k => match S[i]? with
    | some (.lst xs) => if -(2 ^ 63) ≤ k ∧ k < 2 ^ 63 ∧ xs.length * k.toNat ≤ sizeLine then some (.obj S.length, S ++ [.lst (List.replicate k.toNat xs).flatten]) else none
    | _ => none
  | _, _ => none
def fDiv : F2 := fun d e S => match d, e with
  | .int i, .int j => if 0 < j ∧ j.natAbs.log2 < 9000 then some (.int (i / j), S) else none
  | _, _ => none
def fMod : F2 := fun d e S => match d, e with
  | .int i, .int j => if 0 < j then some (.int (i % j), S) else none
  | _, _ => none
def fPow : F2 := fun d e S => match d, e with
  | .int i, .int j => if 0 ≤ j ∧ j ≤ 1000000 ∧ i.natAbs < 2 ^ 64 then some (.int (i ^ j.toNat), S) else none
  | _, _ => none
section
variable {X : Cx}
theorem op_fAdd : OpR X (binaryOp .Add) (rF X.K fAdd) := by
  refine op_imp (OpR.or (OpR.or op_add op_add_str) (OpR.or op_catA op_cat)) fun x y H Q ⟨as, S, d, e, z, S', rel, rx, ry, hf, q⟩ => ?_
  cases d <;> cases e <;> try (cases hf; done)
  case int.int i j => cases hf; exact .inl (.inl ⟨i, j, rx.int_, ry.int_, q as H _ Ex.refl rel (.int _)⟩)
  case str.str a b =>
    unfold fAdd at hf
    dsimp only at hf
    by_cases hl : a.length + b.length ≤ sizeLine
    · rw [if_pos hl] at hf; cases hf; exact .inl (.inr ⟨a, b, rx.str_, ry.str_, hl, q as H _ Ex.refl rel (.str _)⟩)
    · rw [if_neg hl] at hf; cases hf
  case tup.tup ds es =>
    unfold fAdd at hf
    dsimp only at hf
    by_cases hl : ds.length + es.length ≤ sizeLine
    · rw [if_pos hl] at hf
      cases hf
      obtain ⟨a, xs, rfl, ha, ra⟩ := rx.tup_
      obtain ⟨b, ys, rfl, hb, rb⟩ := ry.tup_
      refine .inr (.inl ⟨a, b, xs, ys, rfl, rfl, ha, hb, by rw [ra.len, rb.len]; exact hl, fun h => ?_, fun _ h => ?_, fun _ _ p hp => ?_⟩)
      · subst h; cases ra; exact q as H _ Ex.refl rel (.tup hb rb)
      · subst h; cases rb; rw [List.append_nil] at q; exact q as H _ Ex.refl rel (.tup ha ra)
      · exact q as _ _ (Ex.fresh hp) (rel.fresh hp) (.tup (SqT.of upd_same) ((ra.append rb).mono (Ex.fresh hp)))
    · rw [if_neg hl] at hf; cases hf
  case obj.obj i j =>
    unfold fAdd at hf
    dsimp only at hf
    split at hf
    · rename_i ds es h1 h2
      by_cases hl : ds.length + es.length ≤ sizeLine
      · rw [if_pos hl] at hf
        cases hf
        obtain ⟨a, xs, rfl, _, ha, ra⟩ := rx.lst_ rel h1
        obtain ⟨b, ys, rfl, _, hb, rb⟩ := ry.lst_ rel h2
        refine .inr (.inr ⟨a, b, xs, ys, rfl, rfl, ha, hb, by rw [ra.len, rb.len]; exact hl, fun p hp => ?_⟩)
        obtain ⟨r1, x1, e1⟩ := new_lst rel hp (ra.append rb)
        exact q _ _ _ x1 r1 (.obj e1)
      · rw [if_neg hl] at hf; cases hf
    · cases hf
theorem op_fSub : OpR X (binaryOp .Sub) (rF X.K fSub) := by
  refine op_imp op_sub fun x y H Q ⟨as, S, d, e, z, S', rel, rx, ry, hf, q⟩ => ?_
  cases d <;> cases e <;> try (cases hf; done)
  case int.int i j => cases hf; exact ⟨i, j, rx.int_, ry.int_, q as H _ Ex.refl rel (.int _)⟩
theorem op_fMul : OpR X (binaryOp .Mult) (rF X.K fMul) := by
  refine op_imp (OpR.or op_mulW op_rep) fun x y H Q ⟨as, S, d, e, z, S', rel, rx, ry, hf, q⟩ => ?_
  cases d <;> cases e <;> try (cases hf; done)
  case int.int i j =>
    unfold fMul at hf
    dsimp only at hf
    by_cases hl : i.natAbs.log2 + j.natAbs.log2 < 1000000
    · rw [if_pos hl] at hf; cases hf; exact .inl ⟨i, j, rx.int_, ry.int_, hl, q as H _ Ex.refl rel (.int _)⟩
    · rw [if_neg hl] at hf; cases hf
  case obj.int i k =>
    unfold fMul at hf
    dsimp only at hf
    split at hf
    · rename_i ds h1
      by_cases hl : -(2 ^ 63) ≤ k ∧ k < 2 ^ 63 ∧ ds.length * k.toNat ≤ sizeLine
      · rw [if_pos hl] at hf
        cases hf
        obtain ⟨a, xs, rfl, _, ha, ra⟩ := rx.lst_ rel h1
        refine .inr ⟨a, k, xs, rfl, ry.int_, ha, hl.1, hl.2.1, by rw [ra.len]; exact hl.2.2, fun p hp => ?_⟩
        obtain ⟨r1, x1, e1⟩ := new_lst rel hp (ra.repl k.toNat)
        exact q _ _ _ x1 r1 (.obj e1)
      · rw [if_neg hl] at hf; cases hf
    · cases hf
theorem op_fDiv : OpR X (binaryOp .FloorDiv) (rF X.K fDiv) := by
  refine op_imp op_fdivW fun x y H Q ⟨as, S, d, e, z, S', rel, rx, ry, hf, q⟩ => ?_
  cases d <;> cases e <;> try (cases hf; done)
  case int.int i j =>
    unfold fDiv at hf
    dsimp only at hf
    by_cases hl : 0 < j ∧ j.natAbs.log2 < 9000
    · rw [if_pos hl] at hf; cases hf; exact ⟨i, j, rx.int_, ry.int_, hl, q as H _ Ex.refl rel (.int _)⟩
    · rw [if_neg hl] at hf; cases hf
theorem op_fMod : OpR X (binaryOp .Mod) (rF X.K fMod) := by
  refine op_imp op_mod fun x y H Q ⟨as, S, d, e, z, S', rel, rx, ry, hf, q⟩ => ?_
  cases d <;> cases e <;> try (cases hf; done)
  case int.int i j =>
    unfold fMod at hf
    dsimp only at hf
    by_cases hl : 0 < j
    · rw [if_pos hl] at hf; cases hf; exact ⟨i, j, rx.int_, ry.int_, hl, q as H _ Ex.refl rel (.int _)⟩
    · rw [if_neg hl] at hf; cases hf
theorem op_fPow : OpR X (binaryOp .Pow) (rF X.K fPow) := by
  refine op_imp op_pow fun x y H Q ⟨as, S, d, e, z, S', rel, rx, ry, hf, q⟩ => ?_
  cases d <;> cases e <;> try (cases hf; done)
  case int.int i j =>
    unfold fPow at hf
    dsimp only at hf
    by_cases hl : 0 ≤ j ∧ j ≤ 1000000 ∧ i.natAbs < 2 ^ 64
    · rw [if_pos hl] at hf; cases hf; exact ⟨i, j, rx.int_, ry.int_, hl, q as H _ Ex.refl rel (.int _)⟩
    · rw [if_neg hl] at hf; cases hf
/-- -x -/
abbrev F1 := D → Sto → Option (D × Sto)
def rF1 (K : PySem.W.Frag) (f : F1) : V → Hp → VK → Prop := fun x H Q => ∃ as S d z S', Rel K as S H ∧ Rv K as H x d ∧ f d S = some (z, S') ∧ ∀ as' H' v, Ex K as H as' H' → Rel K as' S' H' → Rv K as' H' v z → Q v H'
def m1 (f : F1) (a : ME) : ME := fun env S => (a env S).bind fun x S1 => R.of (f x S1)
theorem em_un {W : WX} {f : F1} {a : Expr} {op : UnaryOp} {ma : ME} {pos : Pos} (ho : UnR X (unaryOp op) (rF1 X.K f)) (ha : EM X W a ma)
    (hu : ∀ {t : TE} {r : V → Hp → VK → Prop}, UnR X (unaryOp op) r → PE X a t → PE X (.UnaryOp op a pos) (tUn r t)) : EM X W (.UnaryOp op a pos) (m1 f ma) :=
  ⟨pe_imp (hu ho ha.pe) fun σ H Q h => tU_bind (f := fun _ x S1 => R.of (f x S1)) h fun as env d S1 as1 H1 x re rel rv g => by
    obtain ⟨z, S', hz, q⟩ := go_of g
    exact ⟨as1, S1, d, z, S', rel, rv, hz, q⟩⟩
def fNeg : F1 := fun d S => match d with
  | .int i => some (.int (-i), S)
  | _ => none
theorem un_fNeg : UnR X (unaryOp .USub) (rF1 X.K fNeg) := by
  refine un_imp un_neg fun x H Q ⟨as, S, d, z, S', rel, rx, hf, q⟩ => ?_
  cases d <;> try (cases hf; done)
  case int i => cases hf; exact ⟨i, rx.int_, q as H _ Ex.refl rel (.int _)⟩

/-! ### order -/
def fRel (p : Int → Int → Bool) (s : Str → Str → Option Bool) : F2 := fun d e S => match d, e with
  | .int i, .int j => some (.bl (p i j), S)
  | .str x, .str y => match s x y with
    | some b => some (.bl b, S)
    | none => none
  | _, _ => none
theorem op_rel {op : CmpOp} {p : Int → Int → Bool} {s : Str → Str → Option Bool} (h : OpR X (compareOp op) (rI0 fun i j => .bl (p i j)))
    (h2 : OpR X (compareOp op) (fun x y H Q => ∃ i j, x = .str i ∧ y = .str j ∧ ∃ b, s i j = some b ∧ Q (.bl b) H)) : OpR X (compareOp op) (rF X.K (fRel p s)) := by
  refine op_imp (OpR.or h h2) fun x y H Q ⟨as, S, d, e, z, S', rel, rx, ry, hf, q⟩ => ?_
  cases d <;> cases e <;> try (cases hf; done)
  case int.int i j => cases hf; exact .inl ⟨i, j, rx.int_, ry.int_, q as H _ Ex.refl rel (.bl _)⟩
  case str.str a b =>
    unfold fRel at hf
    dsimp only at hf
    cases e : s a b with
    | none => rw [e] at hf; cases hf
    | some c => rw [e] at hf; cases hf; exact .inr ⟨a, b, rx.str_, ry.str_, c, e, q as H _ Ex.refl rel (.bl _)⟩
def sLt (x y : Str) : Option Bool := some (decide (x.cps.toList < y.cps.toList))
def fLt : F2 := fRel (fun i j => decide (i < j)) sLt
def fLe : F2 := fRel (fun i j => decide (i ≤ j)) fun x y => some (!decide (y.cps.toList < x.cps.toList))
def fGt : F2 := fRel (fun i j => decide (j < i)) fun x y => some (decide (y.cps.toList < x.cps.toList))
def fGe : F2 := fRel (fun i j => decide (j ≤ i)) fun x y => some (!decide (x.cps.toList < y.cps.toList))
theorem op_fLt : OpR X (compareOp .Lt) (rF X.K fLt) := op_rel op_lt (op_imp op_lt_str fun x y H Q ⟨i, j, h1, h2, b, h3, q⟩ => by cases h3; exact ⟨i, j, h1, h2, q⟩)
theorem op_fLe : OpR X (compareOp .LtE) (rF X.K fLe) := op_rel op_le (op_imp op_le_str fun x y H Q ⟨i, j, h1, h2, b, h3, q⟩ => by cases h3; exact ⟨i, j, h1, h2, q⟩)
theorem op_fGt : OpR X (compareOp .Gt) (rF X.K fGt) := op_rel op_gt (op_imp op_gt_str fun x y H Q ⟨i, j, h1, h2, b, h3, q⟩ => by cases h3; exact ⟨i, j, h1, h2, q⟩)
theorem op_fGe : OpR X (compareOp .GtE) (rF X.K fGe) := op_rel op_ge (op_imp op_ge_str fun x y H Q ⟨i, j, h1, h2, b, h3, q⟩ => by cases h3; exact ⟨i, j, h1, h2, q⟩)

/-! ### ==, by data -/
mutual
def toP (S : Sto) : Nat → D → Option PyData
  | 0, _ => none
  | _ + 1, .non => some .none
  | _ + 1, .bl b => some (.bool b)
  | _ + 1, .int i => some (.int i)
  | _ + 1, .str x => some (.str x)
  | n + 1, .tup ds => (toPs S n ds).map .tuple
  | n + 1, .obj i => match lstAt S i with
    | some ds => (toPs S n ds).map .list
    | none => none
def toPs (S : Sto) : Nat → List D → Option (List PyData)
  | 0, _ => none
  | _ + 1, [] => some []
  | n + 1, d :: ds => match toP S n d, toPs S n ds with
    | some p, some ps => some (p :: ps)
    | _, _ => none
end
end
section
variable {K : PySem.W.Frag} {as : List Addr} {H : Hp} {S : Sto}
theorem dp_both (rel : Rel K as S H) : ∀ n : Nat, (∀ {v : V} {d : D} {p : PyData}, Rv K as H v d → toP S n d = some p → Dp K H v p) ∧ (∀ {vs : List V} {ds : List D} {ps : List PyData}, Rvs K as H vs ds → toPs S n ds = some ps → DpAll K H vs ps) := by
  intro n
  induction n with
  | zero => exact ⟨fun _ h => (by unfold toP at h; cases h), fun _ h => (by unfold toPs at h; cases h)⟩
  | succ n ih =>
    refine ⟨fun {v d p} r h => ?_, fun {vs ds ps} r h => ?_⟩
    · cases d with
      | non => unfold toP at h; cases h; rw [r.non_]; exact .non
      | bl b => unfold toP at h; cases h; rw [r.bl_]; exact .bl b
      | int i => unfold toP at h; cases h; rw [r.int_]; exact .int i
      | str x => unfold toP at h; cases h; rw [r.str_]; exact .str x
      | tup ds =>
        unfold toP at h
        cases e : toPs S n ds with
        | none => rw [e] at h; cases h
        | some ps =>
          rw [e] at h; cases h
          obtain ⟨a, xs, rfl, ha, ra⟩ := r.tup_
          exact .tup ha (ih.2 ra e)
      | obj i =>
        unfold toP at h
        cases e0 : lstAt S i with
        | none => rw [e0] at h; cases h
        | some ds =>
          rw [e0] at h
          dsimp only at h
          cases e : toPs S n ds with
          | none => rw [e] at h; cases h
          | some ps =>
            rw [e] at h; cases h
            obtain ⟨a, xs, rfl, _, ha, ra⟩ := r.seq_ rel e0
            exact .lst ha (ih.2 ra e)
    · cases r with
      | nil => unfold toPs at h; cases h; exact .nil
      | cons r1 r2 =>
        rename_i d ds
        unfold toPs at h
        cases e1 : toP S n _ with
        | none => rw [e1] at h; cases h
        | some p =>
          cases e2 : toPs S n _ with
          | none => rw [e1, e2] at h; cases h
          | some ps => rw [e1, e2] at h; cases h; exact .cons (ih.1 r1 e1) (ih.2 r2 e2)
end
/-- deep equality, where both are data -/
def eqD (S : Sto) (d e : D) : Option Bool := match toP S 1000000 d, toP S 1000000 e with
  | some p, some q => if SeqAt.shaped p = true ∧ SeqAt.shaped q = true then some (PyData.eqv p q) else none
  | _, _ => none
def eqB (S : Sto) (d e : D) : Option Bool := match d, e with
  | .int i, .int j => some (decide (i = j))
  | .str i, .str j => some (decide (i = j))
  | .bl i, .bl j => some (decide (i = j))
  | .non, .non => some true
  | _, _ => eqD S d e
def fEq : F2 := fun d e S => (eqB S d e).map fun b => (.bl b, S)
def fNe : F2 := fun d e S => (eqB S d e).map fun b => (.bl (!b), S)
section
variable {X : Cx}
theorem eq_cases {K : PySem.W.Frag} {as : List Addr} {H : Hp} {S : Sto} {x y : V} {d e : D} {b : Bool} (rel : Rel K as S H) (rx : Rv K as H x d) (ry : Rv K as H y e) (h : eqB S d e = some b) :
    (scal x y = true ∧ decide (x = y) = b) ∨ (∃ p q, Dp K H x p ∧ Dp K H y q ∧ SeqAt.shaped p = true ∧ SeqAt.shaped q = true ∧ PyData.eqv p q = b) := by
  have gen : ∀ {d e : D}, Rv K as H x d → Rv K as H y e → eqD S d e = some b → (∃ p q, Dp K H x p ∧ Dp K H y q ∧ SeqAt.shaped p = true ∧ SeqAt.shaped q = true ∧ PyData.eqv p q = b) := fun {d e} rx ry h => by
    unfold eqD at h
    cases e1 : toP S 1000000 d with
    | none => rw [e1] at h; cases h
    | some p =>
      cases e2 : toP S 1000000 e with
      | none => rw [e1, e2] at h; cases h
      | some q =>
        rw [e1, e2] at h
        dsimp only at h
        by_cases hs : SeqAt.shaped p = true ∧ SeqAt.shaped q = true
        · rw [if_pos hs] at h
          exact ⟨p, q, (dp_both rel _).1 rx e1, (dp_both rel _).1 ry e2, hs.1, hs.2, Option.some.inj h⟩
        · rw [if_neg hs] at h; cases h
  unfold eqB at h
  split at h
  · cases h; rw [rx.int_, ry.int_]; exact .inl ⟨rfl, by simp⟩
  · cases h; rw [rx.str_, ry.str_]; exact .inl ⟨rfl, by simp⟩
  · cases h; rw [rx.bl_, ry.bl_]; exact .inl ⟨rfl, by simp⟩
  · cases h; rw [rx.non_, ry.non_]; exact .inl ⟨rfl, by simp⟩
  · exact .inr (gen rx ry h)
theorem op_fEq (hu : X.A.units + 64 < cLine) : OpR X (compareOp .Eq) (rF X.K fEq) := by
  refine op_imp (OpR.or op_eq (op_eqD hu)) fun x y H Q ⟨as, S, d, e, z, S', rel, rx, ry, hf, q⟩ => ?_
  unfold fEq at hf
  cases h : eqB S d e with
  | none => rw [h] at hf; cases hf
  | some b =>
    rw [h] at hf; cases hf
    rcases eq_cases rel rx ry h with ⟨h1, h2⟩ | ⟨p, p', h1, h2, h3, h4, h5⟩
    · exact .inl ⟨h1, by rw [h2]; exact q as H _ Ex.refl rel (.bl _)⟩
    · exact .inr ⟨p, p', h1, h2, h3, h4, by rw [h5]; exact q as H _ Ex.refl rel (.bl _)⟩
theorem op_fNe (hu : X.A.units + 64 < cLine) : OpR X (compareOp .NotEq) (rF X.K fNe) := by
  refine op_imp (OpR.or op_ne (op_neD hu)) fun x y H Q ⟨as, S, d, e, z, S', rel, rx, ry, hf, q⟩ => ?_
  unfold fNe at hf
  cases h : eqB S d e with
  | none => rw [h] at hf; cases hf
  | some b =>
    rw [h] at hf; cases hf
    rcases eq_cases rel rx ry h with ⟨h1, h2⟩ | ⟨p, p', h1, h2, h3, h4, h5⟩
    · exact .inl ⟨h1, by rw [h2]; exact q as H _ Ex.refl rel (.bl _)⟩
    · exact .inr ⟨p, p', h1, h2, h3, h4, by rw [h5]; exact q as H _ Ex.refl rel (.bl _)⟩
/-- is: of None, of two bools -/
def fIs : F2 := fun d e S => match d, e with
  | .non, .non => some (.bl true, S)
  | _, .non => some (.bl false, S)
  | .bl a, .bl b => some (.bl (decide (a = b)), S)
  | _, _ => none
def fIsN : F2 := fun d e S => match d, e with
  | .non, .non => some (.bl false, S)
  | _, .non => some (.bl true, S)
  | .bl a, .bl b => some (.bl (!decide (a = b)), S)
  | _, _ => none
theorem Rv.non_iff {K : PySem.W.Frag} {as : List Addr} {H : Hp} {x : V} {d : D} (r : Rv K as H x d) (h : d ≠ .non) : decide (x = .non) = false := decide_eq_false fun e => by
  subst e
  cases r
  exact h rfl
theorem op_fIs : OpR X (compareOp .Is) (rF X.K fIs) := by
  refine op_imp (OpR.or op_isN op_is_bl) fun x y H Q ⟨as, S, d, e, z, S', rel, rx, ry, hf, q⟩ => ?_
  cases e <;> cases d <;> try (cases hf; done)
  case non.non => cases hf; exact .inl ⟨ry.non_, by rw [rx.non_]; exact q as H _ Ex.refl rel (.bl _)⟩
  case bl.bl a b => cases hf; exact .inr ⟨_, _, rx.bl_, ry.bl_, q as H _ Ex.refl rel (.bl _)⟩
  all_goals (cases hf; exact .inl ⟨ry.non_, by rw [rx.non_iff (fun h => nomatch h)]; exact q as H _ Ex.refl rel (.bl _)⟩)
theorem op_fIsN : OpR X (compareOp .IsNot) (rF X.K fIsN) := by
  refine op_imp (OpR.or op_notN op_isnot_bl) fun x y H Q ⟨as, S, d, e, z, S', rel, rx, ry, hf, q⟩ => ?_
  cases e <;> cases d <;> try (cases hf; done)
  case non.non => cases hf; exact .inl ⟨ry.non_, by rw [rx.non_]; exact q as H _ Ex.refl rel (.bl _)⟩
  case bl.bl a b => cases hf; exact .inr ⟨_, _, rx.bl_, ry.bl_, q as H _ Ex.refl rel (.bl _)⟩
  all_goals (cases hf; exact .inl ⟨ry.non_, by rw [rx.non_iff (fun h => nomatch h)]; exact q as H _ Ex.refl rel (.bl _)⟩)
end
end Mi

namespace Mi
open PySem PySem.Spec PyProof.Rows L2

/-! ### in, over flat things -/
def flatD : D → Bool
  | .non => true | .bl _ => true | .int _ => true | .str _ => true | _ => false
def eqF : D → D → Bool
  | .non, .non => true
  | .bl a, .bl b => a == b
  | .bl a, .int b => (if a then 1 else 0) == b
  | .int a, .bl b => a == (if b then 1 else 0)
  | .int a, .int b => a == b
  | .str a, .str b => a == b
  | _, _ => false
def inD (d : D) (ds : List D) : Bool := ds.any fun e => eqF e d
section
variable {K : PySem.W.Frag} {as : List Addr} {H : Hp} {S : Sto}
theorem flat_of {v : V} {d : D} (r : Rv K as H v d) (h : flatD d = true) : flatV v = true := by
  cases r <;> first | rfl | exact absurd h (by intro q; cases q)
theorem flats_of : ∀ {vs : List V} {ds : List D}, Rvs K as H vs ds → ds.all flatD = true → vs.all flatV = true
  | _, _, .nil, _ => rfl
  | _, _, .cons h t, q => by
    rw [List.all_cons, Bool.and_eq_true] at q
    rw [List.all_cons, flat_of h q.1, flats_of t q.2]; rfl
theorem eqF_of {v u : V} {d e : D} (r : Rv K as H v d) (q : Rv K as H u e) (h : flatD d = true) (h2 : flatD e = true) : eqV v u = eqF d e := by
  cases r <;> cases q <;> first | rfl | exact absurd h (by intro q; cases q) | exact absurd h2 (by intro q; cases q)
theorem inD_of {v : V} {d : D} (r : Rv K as H v d) (h : flatD d = true) : ∀ {vs : List V} {ds : List D}, Rvs K as H vs ds → ds.all flatD = true → inV v vs = inD d ds
  | _, _, .nil, _ => rfl
  | _, _, .cons r1 t, q => by
    rw [List.all_cons, Bool.and_eq_true] at q
    unfold inV inD
    rw [List.any_cons, List.any_cons, eqF_of r1 r q.1 h]
    exact congrArg _ (inD_of r h t q.2)
end
def inFlat (d : D) (ds : List D) : Option Bool := if flatD d = true ∧ ds.all flatD = true then some (inD d ds) else none
def inB (S : Sto) (d e : D) : Option Bool := match e with
  | .str y => match d with
    | .str x => match x.cps.toList with
      | [c] => some (decide (c ∈ y.cps.toList))
      | _ => some (!(Builtin.Str.occurrences y x 0 y.length 1).isEmpty)
    | _ => none
  | .tup ds => inFlat d ds
  | .obj i => (lstAt S i).bind (inFlat d)
  | _ => none
def fIn : F2 := fun d e S => (inB S d e).map fun b => (.bl b, S)
def fNotIn : F2 := fun d e S => (inB S d e).map fun b => (.bl (!b), S)
section
variable {X : Cx}
theorem in_cases {K : PySem.W.Frag} {as : List Addr} {H : Hp} {S : Sto} {x y : V} {d e : D} {b : Bool} (rel : Rel K as S H) (rx : Rv K as H x d) (ry : Rv K as H y e) (h : inB S d e = some b) :
    (∃ (c : Nat) (z : Str), x = .str ⟨#[c]⟩ ∧ y = .str z ∧ decide (c ∈ z.cps.toList) = b) ∨ (∃ i j : Str, x = .str i ∧ y = .str j ∧ (!(Builtin.Str.occurrences j i 0 j.length 1).isEmpty) = b) ∨
      ∃ (p : Addr) (xs : List V), y = .ref p ∧ (SqL K H p xs ∨ SqT K H p xs) ∧ flatV x = true ∧ xs.all flatV = true ∧ inV x xs = b := by
  have fl : ∀ {p : Addr} {xs : List V} {ds : List D}, inFlat d ds = some b → Rvs K as H xs ds → flatV x = true ∧ xs.all flatV = true ∧ inV x xs = b := fun {p xs ds} h rp => by
    unfold inFlat at h
    by_cases hf : flatD d = true ∧ ds.all flatD = true
    · rw [if_pos hf] at h; cases h
      exact ⟨flat_of rx hf.1, flats_of rp hf.2, inD_of rx hf.1 rp hf.2⟩
    · rw [if_neg hf] at h; cases h
  cases e with
  | str z =>
    cases d <;> try (cases h; done)
    rename_i a
    unfold inB at h
    dsimp only at h
    split at h
    · rename_i c hc
      cases h
      refine .inl ⟨c, z, ?_, ry.str_, rfl⟩
      rw [rx.str_]
      obtain ⟨⟨l⟩⟩ := a
      simp at hc
      rw [hc]
    · cases h; exact .inr (.inl ⟨a, z, rx.str_, ry.str_, rfl⟩)
  | tup ds =>
    obtain ⟨p, xs, rfl, hp, rp⟩ := ry.tup_
    exact .inr (.inr ⟨p, xs, rfl, .inr hp, fl (p := p) h rp⟩)
  | obj i =>
    unfold inB at h
    dsimp only at h
    cases e0 : lstAt S i with
    | none => rw [e0] at h; cases h
    | some ds =>
      rw [e0] at h
      obtain ⟨p, xs, rfl, _, hp, rp⟩ := ry.seq_ rel e0
      exact .inr (.inr ⟨p, xs, rfl, .inl hp, fl (p := p) h rp⟩)
  | non => cases h
  | bl _ => cases h
  | int _ => cases h
theorem op_fIn : OpR X (compareOp .In) (rF X.K fIn) := by
  refine op_imp (OpR.or (OpR.or op_in_sign op_in_str) op_in_seq) fun x y H Q ⟨as, S, d, e, z, S', rel, rx, ry, hf, q⟩ => ?_
  unfold fIn at hf
  cases h : inB S d e with
  | none => rw [h] at hf; cases hf
  | some b =>
    rw [h] at hf; cases hf
    have fin := q as H (.bl b) Ex.refl rel (.bl b)
    rcases in_cases rel rx ry h with ⟨c, z, h1, h2, h3⟩ | ⟨i, j, h1, h2, h3⟩ | ⟨p, xs, h1, h2, h3, h4, h5⟩
    · exact .inl (.inl ⟨c, z, h1, h2, by rw [h3]; exact fin⟩)
    · exact .inl (.inr ⟨i, j, h1, h2, by rw [h3]; exact fin⟩)
    · exact .inr ⟨p, xs, h1, h2, h3, h4, by rw [if_neg Bool.false_ne_true, h5]; exact fin⟩
theorem op_fNotIn : OpR X (compareOp .NotIn) (rF X.K fNotIn) := by
  refine op_imp (OpR.or (OpR.or op_notIn_sign op_notin_str) op_notIn_seq) fun x y H Q ⟨as, S, d, e, z, S', rel, rx, ry, hf, q⟩ => ?_
  unfold fNotIn at hf
  cases h : inB S d e with
  | none => rw [h] at hf; cases hf
  | some b =>
    rw [h] at hf; cases hf
    have fin := q as H (.bl (!b)) Ex.refl rel (.bl _)
    rcases in_cases rel rx ry h with ⟨c, z, h1, h2, h3⟩ | ⟨i, j, h1, h2, h3⟩ | ⟨p, xs, h1, h2, h3, h4, h5⟩
    · exact .inl (.inl ⟨c, z, h1, h2, by rw [h3]; exact fin⟩)
    · exact .inl (.inr ⟨i, j, h1, h2, by rw [h3]; exact fin⟩)
    · exact .inr ⟨p, xs, h1, h2, h3, h4, by rw [if_pos rfl, h5]; exact fin⟩

/-! ### items -/
def fIx : F2 := fun d e S => match d, e with
  | .tup ds, .int i => (atI ds i).map fun z => (z, S)
  | .obj j, .int i => (lstAt S j).bind fun ds => (atI ds i).map fun z => (z, S)
  | .str z, .int i => if z.length ≤ sizeLine then (atI z.cps.toList i).map fun c => (.str ⟨#[c]⟩, S) else none
  | _, _ => none
theorem atI_of {K : PySem.W.Frag} {as : List Addr} {H : Hp} {vs : List V} {ds : List D} {i : Int} {d : D} (r : Rvs K as H vs ds) (h : atI ds i = some d) : ∃ v, atI vs i = some v ∧ Rv K as H v d := by
  unfold atI at h ⊢
  rw [r.len]
  cases e : ixN ds.length i with
  | none => rw [e] at h; cases h
  | some j => rw [e] at h; exact r.get h
theorem ix_fIx : IxR X (rF X.K fIx) := by
  refine ix_imp (IxR.or (IxR.or ix_list ix_tup) ix_str) fun x y H Q ⟨as, S, d, e, z, S', rel, rx, ry, hf, q⟩ => ?_
  cases d <;> cases e <;> try (cases hf; done)
  case tup.int ds i =>
    unfold fIx at hf
    dsimp only at hf
    cases h : atI ds i with
    | none => rw [h] at hf; cases hf
    | some w =>
      rw [h] at hf; cases hf
      obtain ⟨a, xs, rfl, ha, ra⟩ := rx.tup_
      obtain ⟨v, hv, rv⟩ := atI_of ra h
      exact .inl (.inr ⟨a, xs, i, v, rfl, ry.int_, ha, hv, q as H v Ex.refl rel rv⟩)
  case obj.int j i =>
    unfold fIx at hf
    dsimp only at hf
    cases h0 : lstAt S j with
    | none => rw [h0] at hf; cases hf
    | some ds =>
      rw [h0] at hf
      cases h : atI ds i with
      | none => rw [Option.bind_some, h] at hf; cases hf
      | some w =>
        rw [Option.bind_some, h] at hf; cases hf
        obtain ⟨a, xs, rfl, _, ha, ra⟩ := rx.seq_ rel h0
        obtain ⟨v, hv, rv⟩ := atI_of ra h
        exact .inl (.inl ⟨a, xs, i, v, rfl, ry.int_, ha, hv, q as H v Ex.refl rel rv⟩)
  case str.int w i =>
    unfold fIx at hf
    dsimp only at hf
    by_cases hl : w.length ≤ sizeLine
    · rw [if_pos hl] at hf
      cases h : atI w.cps.toList i with
      | none => rw [h] at hf; cases hf
      | some c => rw [h] at hf; cases hf; exact .inr ⟨w, i, c, rx.str_, ry.int_, hl, h, q as H _ Ex.refl rel (.str _)⟩
    · rw [if_neg hl] at hf; cases hf

/-! ### slices -/
def cutD (xs : List D) (lo hi : Option Int) : List D := (xs.drop (HT.sIx xs.length 0 lo)).take (HT.sIx xs.length xs.length hi - HT.sIx xs.length 0 lo)
theorem cut_of {K : PySem.W.Frag} {as : List Addr} {H : Hp} {vs : List V} {ds : List D} {lo hi : Option Int} (r : Rvs K as H vs ds) : Rvs K as H (cutV vs lo hi) (cutD ds lo hi) := by
  unfold cutV cutD
  rw [r.len]
  exact (r.drop _).take _
def fSl (x : D) (lo hi : Option Int) (S : Sto) : Option (D × Sto) := match x with
  | .tup ds => some (.tup (cutD ds lo hi), S)
  | .obj j => (lstAt S j).map fun ds => (.obj S.length, S ++ [.lst (cutD ds lo hi)])
  | .str z => if z.length ≤ sizeLine then some (.str (cutS z lo hi), S) else none
  | _ => none
abbrev MO' := Env → Sto → R (Option Int)
def Ro' : List Addr → Hp → Option Int → Option Int → Prop := fun _ _ a b => a = b
structure OM (X : Cx) (W : WX) (e : Option Expr) (m : MO') : Prop where
  po : PO X e (tU X.K X.mg W Ro' m)
theorem po_imp {e : Option Expr} {t t' : TO} (h : PO X e t) (i : ∀ σ H Q, t' σ H Q → t σ H Q) : PO X e t' := ⟨fun pins s σ H Q I q => h.run pins s σ H Q I (i σ H Q q)⟩
def mNoPart : MO' := fun _ S => .ok none S
def kPart (x : D) (S : Sto) : R (Option Int) := match x with
  | .int i => .ok (some i) S
  | _ => .no
def mPart (a : ME) : MO' := fun env S => (a env S).bind kPart
theorem om_none {W : WX} : OM X W none mNoPart := ⟨po_imp po_none fun σ H Q ⟨as, env, S, re, rel, g⟩ => g as H none Ex.refl rel rfl⟩
theorem om_some {W : WX} {e : Expr} {m : ME} (h : EM X W e m) : OM X W (some e) (mPart m) := ⟨po_imp (po_some h.pe) fun σ H Q q => tU_bind (f := fun _ => kPart) q fun as env d S1 as1 H1 x re rel rv g => by
  cases d <;> first | exact g.elim | skip
  rw [rv.int_]
  exact ⟨_, rfl, g as1 H1 _ Ex.refl rel rfl⟩⟩
def mSl (a : ME) (lo hi : MO') : ME := fun env S => (a env S).bind fun x S1 => (lo env S1).bind fun l S2 => (hi env S2).bind fun u S3 => R.of (fSl x l u S3)
theorem em_sl {W : WX} {e : Expr} {lo hi : Option Expr} {m : ME} {l h : MO'} {p2 pos : Pos} (he : EM X W e m) (hl : OM X W lo l) (hh : OM X W hi h) : EM X W (.Subscript e (.Slice lo hi none p2) pos) (mSl m l h) :=
  ⟨pe_imp (pe_slice (SlR.or (SlR.or sl_tupA sl_list) sl_str) he.pe hl.po hh.po) fun σ H Q q =>
    tU_bind (f := fun env x S1 => (l env S1).bind fun lo S2 => (h env S2).bind fun u S3 => R.of (fSl x lo u S3)) q fun as env d S1 as1 H1 x re rel rv g =>
    ⟨as1, env, S1, re, rel, Go.bind g fun lo' S2 as2 H2 lo1 x2 r2 e2 g2 => ⟨as2, env, S2, re.mono x2, r2, Go.bind g2 fun hi' S3 as3 H3 hi1 x3 r3 e3 g3 => by
      cases e2
      cases e3
      obtain ⟨z, S', hz, q⟩ := go_of g3
      have rx := (rv.mono x2).mono x3
      cases d <;> try (cases hz; done)
      case tup ds =>
        cases hz
        obtain ⟨a, xs, rfl, ha, ra⟩ := rx.tup_
        refine .inl (.inl ⟨a, xs, rfl, ha, fun hw => ?_, fun _ p hp => ?_⟩)
        · have e : cutD ds lo' hi' = ds := by
            unfold cutD
            rw [← ra.len, hw.1, hw.2, List.drop_zero, Nat.sub_zero, ra.len, List.take_length]
          rw [e] at q
          exact q as3 H3 _ Ex.refl r3 (.tup ha ra)
        · exact q as3 _ _ (Ex.fresh hp) (r3.fresh hp) (.tup (SqT.of upd_same) ((cut_of ra).mono (Ex.fresh hp)))
      case obj j =>
        unfold fSl at hz
        dsimp only at hz
        cases h0 : lstAt S3 j with
        | none => rw [h0] at hz; cases hz
        | some ds =>
          rw [h0] at hz; cases hz
          obtain ⟨a, xs, rfl, _, ha, ra⟩ := rx.seq_ r3 h0
          refine .inl (.inr ⟨a, xs, rfl, ha, fun p hp => ?_⟩)
          obtain ⟨r1, x1, e1⟩ := new_lst r3 hp (cut_of (lo := lo') (hi := hi') ra)
          exact q _ _ _ x1 r1 (.obj e1)
      case str w =>
        unfold fSl at hz
        dsimp only at hz
        by_cases hl : w.length ≤ sizeLine
        · rw [if_pos hl] at hz; cases hz
          exact .inr ⟨w, rx.str_, hl, q as3 H3 _ Ex.refl r3 (.str _)⟩
        · rw [if_neg hl] at hz; cases hz⟩⟩⟩

/-! ### calls of built-ins -/
abbrev FL := List D → Sto → Option (D × Sto)
def rFL (K : PySem.W.Frag) (f : FL) : List V → Hp → VK → Prop := fun xs H Q => ∃ as S ds z S', Rel K as S H ∧ Rvs K as H xs ds ∧ f ds S = some (z, S') ∧ ∀ as' H' v, Ex K as H as' H' → Rel K as' S' H' → Rv K as' H' v z → Q v H'
def mB1 (f : FL) (a : MA) : ME := fun env S => (a env S).bind fun xs S1 => R.of (f xs S1)
theorem mB1_step {K : PySem.W.Frag} {mg : Str → Option Value} {W : WX} {f : FL} {m : MA} {σ : L2.St} {H : Hp} {Q : VK} (h : tU K mg W (Rv K) (mB1 f m) σ H Q) : tCB (rFL K f) (tU K mg W (Rvs K) m) σ H Q :=
  tU_bind (f := fun _ xs S1 => R.of (f xs S1)) h fun as env ds S1 as1 H1 vs re rel rv g => by
    obtain ⟨z, S', hz, q⟩ := go_of g
    exact ⟨as1, S1, ds, z, S', rel, rv, hz, q⟩
theorem em_callB {W : WX} {f : FL} {x : Str} {id : String} {e : Expr} {es : List Expr} {m : MA} {p pos : Pos} (hc : CallR X (.builtin id) (rFL X.K f)) (hg : Gl X x) (hm : X.mg x = none) (hv : bootBuiltins x = some (.builtin id)) (ha : AM X W (e :: es) m)
    (hn : x ≠ "__name__" := by decide) (hdb : (x == ("__debug__" : Str)) = false := by decide) (he : starEach (e :: es) X.env = (false, eval e X.env) :: starEach es X.env := by rfl) (hpl : (backTo pos (starEach es X.env)).any (·.1) = false := by rfl) :
    EM X W (.Call (.Name x p) (e :: es) [] pos) (mB1 f m) := ⟨pe_imp (pe_callB hc hg hm hv ha.pa hn hdb he hpl) fun σ H Q h => mB1_step h⟩
theorem em_callT {W : WX} {f : FL} {x : Str} {T : String} {e : Expr} {es : List Expr} {m : MA} {p pos : Pos} (hc : CallR X (.type T) (rFL X.K f)) (hg : Gl X x) (hm : X.mg x = none) (hv : bootBuiltins x = some (.type T)) (ha : AM X W (e :: es) m)
    (hn : x ≠ "__name__" := by decide) (hdb : (x == ("__debug__" : Str)) = false := by decide) (he : starEach (e :: es) X.env = (false, eval e X.env) :: starEach es X.env := by rfl) (hpl : (backTo pos (starEach es X.env)).any (·.1) = false := by rfl) :
    EM X W (.Call (.Name x p) (e :: es) [] pos) (mB1 f m) := ⟨pe_imp (pe_callTy hc hg hm hv ha.pa hn hdb he hpl) fun σ H Q h => mB1_step h⟩
theorem call_or {f : Value} {r r' : List V → Hp → VK → Prop} (h : CallR X f r) (h' : CallR X f r') : CallR X f (fun xs H Q => r xs H Q ∨ r' xs H Q) := fun pins s σ H xs us Q I rv q => q.elim (h pins s σ H xs us Q I rv) (h' pins s σ H xs us Q I rv)
/-- one argument -/
def f1L (f : F1) : FL := fun ds S => match ds with
  | [d] => f d S
  | _ => none
theorem f1L_inv {f : F1} {K : PySem.W.Frag} {as : List Addr} {H : Hp} {xs : List V} {ds : List D} {S S' : Sto} {z : D} (r : Rvs K as H xs ds) (h : f1L f ds S = some (z, S')) : ∃ x d, xs = [x] ∧ Rv K as H x d ∧ f d S = some (z, S') := by
  unfold f1L at h
  split at h
  · obtain ⟨x, rfl, rx⟩ := r.sing
    exact ⟨x, _, rfl, rx, h⟩
  · cases h
def fLen : F1 := fun d S => match d with
  | .tup ds => some (.int ds.length, S)
  | .obj i => match S[i]? with
    | some (.lst ds) => some (.int ds.length, S)
    | some (.fix ds) => some (.int ds.length, S)
    | some (.dic kds) => some (.int kds.length, S)
    | some .gap => none
    | none => none
  | .str z => if z.length ≤ sizeLine then some (.int z.length, S) else none
  | _ => none
theorem call_fLen : CallR X (.builtin "len") (rFL X.K (f1L fLen)) := by
  refine call_imp (call_or call_len call_lenD) fun xs H Q ⟨as, S, ds, z, S', rel, rs, hf, q⟩ => ?_
  obtain ⟨x, d, rfl, rx, hf⟩ := f1L_inv rs hf
  cases d <;> try (cases hf; done)
  case tup es =>
    cases hf
    obtain ⟨a, ys, rfl, ha, ra⟩ := rx.tup_
    exact .inl ⟨_, ys.length, rfl, .inr ⟨ys, ha, rfl⟩, by rw [ra.len]; exact q as H _ Ex.refl rel (.int _)⟩
  case obj i =>
    unfold fLen at hf
    dsimp only at hf
    cases e : S[i]? with
    | none => rw [e] at hf; cases hf
    | some o =>
      rw [e] at hf
      cases o with
      | lst es =>
        cases hf
        obtain ⟨a, ys, rfl, _, ha, ra⟩ := rx.seq_ rel (ds := es) (by unfold lstAt; rw [e])
        exact .inl ⟨_, ys.length, rfl, .inl ⟨ys, ha, rfl⟩, by rw [ra.len]; exact q as H _ Ex.refl rel (.int _)⟩
      | fix es =>
        cases hf
        obtain ⟨a, ys, rfl, _, ha, ra⟩ := rx.seq_ rel (ds := es) (by unfold lstAt; rw [e])
        exact .inl ⟨_, ys.length, rfl, .inl ⟨ys, ha, rfl⟩, by rw [ra.len]; exact q as H _ Ex.refl rel (.int _)⟩
      | gap => cases hf
      | dic es =>
        cases hf
        obtain ⟨a, kvs, rfl, _, ha, k1, k2⟩ := rx.dic_ rel e
        have hl : kvs.length = es.length := by have := congrArg List.length k1; rwa [List.length_map, List.length_map] at this
        exact .inr ⟨a, kvs, rfl, ha, by rw [hl]; exact q as H _ Ex.refl rel (.int _)⟩
  case str w =>
    unfold fLen at hf
    dsimp only at hf
    by_cases hl : w.length ≤ sizeLine
    · rw [if_pos hl] at hf; cases hf
      exact .inl ⟨.str w, w.length, by rw [rx.str_], ⟨hl, rfl⟩, q as H _ Ex.refl rel (.int _)⟩
    · rw [if_neg hl] at hf; cases hf
def fInt : F1 := fun d S => match d with
  | .int i => some (.int i, S)
  | .bl b => some (.int (if b then 1 else 0), S)
  | _ => none
theorem call_fInt : CallR X (.type "int") (rFL X.K (f1L fInt)) := by
  refine call_imp call_int1 fun xs H Q ⟨as, S, ds, z, S', rel, rs, hf, q⟩ => ?_
  obtain ⟨x, d, rfl, rx, hf⟩ := f1L_inv rs hf
  cases d <;> try (cases hf; done)
  case int i => cases hf; exact .inl ⟨i, by rw [rx.int_], q as H _ Ex.refl rel (.int _)⟩
  case bl b => cases hf; exact .inr ⟨b, by rw [rx.bl_], q as H _ Ex.refl rel (.int _)⟩
def fStr : F1 := fun d S => match d with
  | .int i => if i.natAbs.log2 < 1920 then some (.str (toString i), S) else none
  | _ => none
theorem call_fStr : CallR X (.type "str") (rFL X.K (f1L fStr)) := by
  refine call_imp call_str_int fun xs H Q ⟨as, S, ds, z, S', rel, rs, hf, q⟩ => ?_
  obtain ⟨x, d, rfl, rx, hf⟩ := f1L_inv rs hf
  cases d <;> try (cases hf; done)
  case int i =>
    unfold fStr at hf
    dsimp only at hf
    by_cases hl : i.natAbs.log2 < 1920
    · rw [if_pos hl] at hf; cases hf; exact ⟨i, by rw [rx.int_], hl, q as H _ Ex.refl rel (.str _)⟩
    · rw [if_neg hl] at hf; cases hf
def fTuple : F1 := fun d S => match d with
  | .tup ds => some (.tup ds, S)
  | .obj i => (lstAt S i).map fun ds => (.tup ds, S)
  | _ => none
theorem call_fTuple : CallR X (.type "tuple") (rFL X.K (f1L fTuple)) := by
  refine call_imp call_tuple_of fun xs H Q ⟨as, S, ds, z, S', rel, rs, hf, q⟩ => ?_
  obtain ⟨x, d, rfl, rx, hf⟩ := f1L_inv rs hf
  cases d <;> try (cases hf; done)
  case tup es =>
    cases hf
    obtain ⟨a, ys, rfl, ha, ra⟩ := rx.tup_
    exact ⟨a, ys, rfl, .inr ⟨ha, q as H _ Ex.refl rel (.tup ha ra)⟩⟩
  case obj i =>
    unfold fTuple at hf
    dsimp only at hf
    cases h0 : lstAt S i with
    | none => rw [h0] at hf; cases hf
    | some es =>
      rw [h0] at hf; cases hf
      obtain ⟨a, ys, rfl, _, ha, ra⟩ := rx.seq_ rel h0
      exact ⟨a, ys, rfl, .inl ⟨ha, fun p hp => q as _ _ (Ex.fresh hp) (rel.fresh hp) (.tup (SqT.of upd_same) (ra.mono (Ex.fresh hp)))⟩⟩
def fList : F1 := fun d S => match d with
  | .tup ds => some (.obj S.length, S ++ [.lst ds])
  | .obj i => (lstAt S i).map fun ds => (.obj S.length, S ++ [.lst ds])
  | _ => none
theorem call_fList : CallR X (.type "list") (rFL X.K (f1L fList)) := by
  refine call_imp call_list_of fun xs H Q ⟨as, S, ds, z, S', rel, rs, hf, q⟩ => ?_
  obtain ⟨x, d, rfl, rx, hf⟩ := f1L_inv rs hf
  cases d <;> try (cases hf; done)
  case tup es =>
    cases hf
    obtain ⟨a, ys, rfl, ha, ra⟩ := rx.tup_
    refine ⟨a, ys, rfl, .inr ha, fun p hp => ?_⟩
    obtain ⟨r1, x1, e1⟩ := new_lst rel hp ra
    exact q _ _ _ x1 r1 (.obj e1)
  case obj i =>
    unfold fList at hf
    dsimp only at hf
    cases h0 : lstAt S i with
    | none => rw [h0] at hf; cases hf
    | some es =>
      rw [h0] at hf; cases hf
      obtain ⟨a, ys, rfl, _, ha, ra⟩ := rx.seq_ rel h0
      refine ⟨a, ys, rfl, .inl ha, fun p hp => ?_⟩
      obtain ⟨r1, x1, e1⟩ := new_lst rel hp ra
      exact q _ _ _ x1 r1 (.obj e1)
def fAll : F1 := fun d S => match d with
  | .obj i => (lstAt S i).bind fun ds => (toBls ds).map fun bs => (.bl (bs.all id), S)
  | _ => none
def fAny : F1 := fun d S => match d with
  | .obj i => (lstAt S i).bind fun ds => (toBls ds).map fun bs => (.bl (bs.any id), S)
  | _ => none
theorem call_fAll (hc : X.calm = true) : CallR X (.builtin "all") (rFL X.K (f1L fAll)) := by
  refine call_imp (cr_all hc) fun xs H Q ⟨as, S, ds, z, S', rel, rs, hf, q⟩ => ?_
  obtain ⟨x, d, rfl, rx, hf⟩ := f1L_inv rs hf
  cases d <;> try (cases hf; done)
  case obj i =>
    unfold fAll at hf
    dsimp only at hf
    cases h0 : lstAt S i with
    | none => rw [h0] at hf; cases hf
    | some es =>
      rw [h0, Option.bind_some] at hf
      cases h1 : toBls es with
      | none => rw [h1] at hf; cases hf
      | some bs =>
        rw [h1] at hf; cases hf
        obtain ⟨a, ys, rfl, _, ha, ra⟩ := rx.seq_ rel h0
        rw [toBls_eq h1] at ra
        rw [ra.bls] at ha
        exact ⟨a, bs, rfl, ha, q as H _ Ex.refl rel (.bl _)⟩
theorem call_fAny (hc : X.calm = true) : CallR X (.builtin "any") (rFL X.K (f1L fAny)) := by
  refine call_imp (cr_any hc) fun xs H Q ⟨as, S, ds, z, S', rel, rs, hf, q⟩ => ?_
  obtain ⟨x, d, rfl, rx, hf⟩ := f1L_inv rs hf
  cases d <;> try (cases hf; done)
  case obj i =>
    unfold fAny at hf
    dsimp only at hf
    cases h0 : lstAt S i with
    | none => rw [h0] at hf; cases hf
    | some es =>
      rw [h0, Option.bind_some] at hf
      cases h1 : toBls es with
      | none => rw [h1] at hf; cases hf
      | some bs =>
        rw [h1] at hf; cases hf
        obtain ⟨a, ys, rfl, _, ha, ra⟩ := rx.seq_ rel h0
        rw [toBls_eq h1] at ra
        rw [ra.bls] at ha
        exact ⟨a, bs, rfl, ha, q as H _ Ex.refl rel (.bl _)⟩
/-- sorted of ints -/
def srt (ns : List Int) : List Int := ns.mergeSort fun a b => decide (a ≤ b)
theorem srt_perm (ns : List Int) : (srt ns).Perm ns := List.mergeSort_perm _ _
theorem srt_le (ns : List Int) : (srt ns).Pairwise (· ≤ ·) := by
  have h := List.pairwise_mergeSort (le := fun a b : Int => decide (a ≤ b)) (fun a b c => by simp; omega) (fun a b => by simp; omega) ns
  exact h.imp fun q => of_decide_eq_true q
def fSorted : F1 := fun d S => match d with
  | .obj i => (lstAt S i).bind fun ds => (toInts ds).map fun ns => (.obj S.length, S ++ [.lst ((srt ns).map D.int)])
  | _ => none
theorem call_fSorted : CallR X (.builtin "sorted") (rFL X.K (f1L fSorted)) := by
  refine call_imp cr_sortedI fun xs H Q ⟨as, S, ds, z, S', rel, rs, hf, q⟩ => ?_
  obtain ⟨x, d, rfl, rx, hf⟩ := f1L_inv rs hf
  cases d <;> try (cases hf; done)
  case obj i =>
    unfold fSorted at hf
    dsimp only at hf
    cases h0 : lstAt S i with
    | none => rw [h0] at hf; cases hf
    | some es =>
      rw [h0, Option.bind_some] at hf
      cases h1 : toInts es with
      | none => rw [h1] at hf; cases hf
      | some ns =>
        rw [h1] at hf; cases hf
        obtain ⟨a, ys, rfl, _, ha, ra⟩ := rx.seq_ rel h0
        rw [toInts_eq h1] at ra
        rw [ra.ints] at ha
        refine ⟨a, ns, rfl, ha, fun ns' p hp hs hn => ?_⟩
        have e : ns' = srt ns := PySem.W.ksm_same (hp.trans (srt_perm ns).symm) hs (srt_le ns)
        subst e
        obtain ⟨r1, x1, e1⟩ := new_lst rel hn (Rvs.of_ints (K := X.K) (as := as) (H := H) (srt ns))
        exact q _ _ _ x1 r1 (.obj e1)
def f2L (f : D → D → Sto → Option (D × Sto)) : FL := fun ds S => match ds with
  | [d, e] => f d e S
  | _ => none
theorem f2L_inv {f : F2} {K : PySem.W.Frag} {as : List Addr} {H : Hp} {xs : List V} {ds : List D} {S S' : Sto} {z : D} (r : Rvs K as H xs ds) (h : f2L f ds S = some (z, S')) : ∃ x y d e, xs = [x, y] ∧ Rv K as H x d ∧ Rv K as H y e ∧ f d e S = some (z, S') := by
  match ds, r, h with
  | [d, e], r, h =>
    obtain ⟨x, y, rfl, rx, ry⟩ := r.pair
    exact ⟨x, y, d, e, rfl, rx, ry, h⟩
  | [], _, h => cases h
  | [_], _, h => cases h
  | _ :: _ :: _ :: _, _, h => cases h
def fMin2 : F2 := fun d e S => match d, e with
  | .int i, .int j => some (.int (if j < i then j else i), S)
  | _, _ => none
theorem call_fMin2 (hc : X.calm = true) : CallR X (.builtin "min") (rFL X.K (f2L fMin2)) := by
  refine call_imp (call_min2 hc) fun xs H Q ⟨as, S, ds, z, S', rel, rs, hf, q⟩ => ?_
  obtain ⟨x, y, d, e, rfl, rx, ry, hf⟩ := f2L_inv rs hf
  cases d <;> cases e <;> first | (cases hf; done) | skip
  rename_i i j
  cases hf
  exact ⟨i, j, by rw [rx.int_, ry.int_], q as H _ Ex.refl rel (.int _)⟩
end
end Mi

namespace Mi
open PySem PySem.Spec PyProof.Rows L2

/-- how a statement ends -/
inductive RS where
  | nx (env : Env) (S : Sto) | rt (d : D) (S : Sto) | bk (env : Env) (S : Sto) | ct (env : Env) (S : Sto) | ex (e : Xn) (env : Env) (S : Sto) | no
abbrev MS := Env → Sto → RS
def RS.of {α : Type} (x : R α) (env : Env) (f : α → Sto → RS) : RS := match x with
  | .ok a S => f a S
  | .ex e S => .ex e env S
  | .no => .no
def RS.then (x : RS) (f : Env → Sto → RS) : RS := match x with
  | .nx env S => f env S
  | o => o
section
variable (K : PySem.W.Frag) (mg : Str → Option Value) (W : WX)
def GoS (out : RS) (as : List Addr) (H : Hp) (Dn : Ends) : Prop := match out with
  | .nx env' S' => ∀ (as' : List Addr) (H' : Hp) (σ' : L2.St), Ex K as H as' H' → Rel K as' S' H' → Re K as' H' σ' env' → Dn.nx σ' H'
  | .rt d S' => ∀ (as' : List Addr) (H' : Hp) (v : V), Ex K as H as' H' → Rel K as' S' H' → Rv K as' H' v d → Dn.rt v H'
  | .bk env' S' => ∀ (as' : List Addr) (H' : Hp) (σ' : L2.St), Ex K as H as' H' → Rel K as' S' H' → Re K as' H' σ' env' → Dn.bk σ' H'
  | .ct env' S' => ∀ (as' : List Addr) (H' : Hp) (σ' : L2.St), Ex K as H as' H' → Rel K as' S' H' → Re K as' H' σ' env' → Dn.ct σ' H'
  | .ex e env' S' => ∀ (as' : List Addr) (H' : Hp) (σ' : L2.St) (cls : Value) (dd : Option Addr), Ex K as H as' H' → Rel K as' S' H' → Re K as' H' σ' env' → Rx K mg as' H' cls dd e → W cls dd σ' H'
  | .no => False
def tS (m : MS) : TS := fun Dn σ H => ∃ as env S, Re K as H σ env ∧ Rel K as S H ∧ GoS K mg W (m env S) as H Dn
end
section
variable {K : PySem.W.Frag} {mg : Str → Option Value} {W : WX} {as as1 : List Addr} {H H1 : Hp} {S : Sto} {σ : L2.St} {Dn : Ends}
theorem GoS.later {out : RS} (x : Ex K as H as1 H1) (h : GoS K mg W out as H Dn) : GoS K mg W out as1 H1 Dn := by
  cases out with
  | nx env S' => exact fun as' H' σ' y r q => h as' H' σ' (x.trans y) r q
  | rt d S' => exact fun as' H' v y r q => h as' H' v (x.trans y) r q
  | bk env S' => exact fun as' H' σ' y r q => h as' H' σ' (x.trans y) r q
  | ct env S' => exact fun as' H' σ' y r q => h as' H' σ' (x.trans y) r q
  | ex e env S' => exact fun as' H' σ' c dd y r q => h as' H' σ' c dd (x.trans y) r q
  | no => exact h
/-- a statement's expression -/
theorem GoS.ofE {α β : Type} {Ra : List Addr → Hp → β → α → Prop} {x : R α} {env : Env} {f : α → Sto → RS} {Q1 : β → Hp → Prop} (re : Re K as H σ env) (h : GoS K mg W (RS.of x env f) as H Dn)
    (k : ∀ (d : α) (S1 : Sto) (as1 : List Addr) (H1 : Hp) (v : β), Ex K as H as1 H1 → Rel K as1 S1 H1 → Ra as1 H1 v d → GoS K mg W (f d S1) as1 H1 Dn → Q1 v H1) : Go K mg W Ra x as H σ Q1 := by
  cases x with
  | ok d S' => exact fun as' H' v y r q => k d S' as' H' v y r q (GoS.later y h)
  | ex e S' => exact fun as' H' c dd y r q => h as' H' σ c dd y r (re.mono y) q
  | no => exact h
theorem tS_of {α β : Type} {Ra : List Addr → Hp → β → α → Prop} {m : Env → Sto → R α} {f : Env → α → Sto → RS} {Q1 : β → Hp → Prop} (h : tS K mg W (fun env S => RS.of (m env S) env (f env)) Dn σ H)
    (k : ∀ (as : List Addr) (env : Env) (d : α) (S1 : Sto) (as1 : List Addr) (H1 : Hp) (v : β), Re K as1 H1 σ env → Rel K as1 S1 H1 → Ra as1 H1 v d → GoS K mg W (f env d S1) as1 H1 Dn → Q1 v H1) : tU K mg W Ra m σ H Q1 := by
  obtain ⟨as, env, S, re, rel, g⟩ := h
  exact ⟨as, env, S, re, rel, GoS.ofE re g fun d S1 as1 H1 v x r q g' => k as env d S1 as1 H1 v (re.mono x) r q g'⟩
/-- other ends behind it -/
theorem GoS.thenS {x : RS} {f : Env → Sto → RS} (h : GoS K mg W (x.then f) as H Dn) : GoS K mg W x as H { Dn with nx := fun σ' H' => tS K mg W f Dn σ' H' } := by
  cases x with
  | nx env S' => exact fun as' H' σ' y r q => ⟨as', env, S', q, r, GoS.later y h⟩
  | rt d S' => exact h
  | bk env S' => exact h
  | ct env S' => exact h
  | ex e env S' => exact h
  | no => exact h
end
section
variable (X : Cx) (W : WX)
structure SM (st : Stmt) (m : MS) : Prop where
  ps : PS X st (tS X.K X.mg W m)
structure BM (st : List Stmt) (m : MS) : Prop where
  ps : PSs X st (tS X.K X.mg W m)
end
section
variable {X : Cx} {W : WX}
def sNil : MS := fun env S => .nx env S
def sSeq (m n : MS) : MS := fun env S => (m env S).then n
theorem bm_nil : BM X W [] sNil := ⟨pss_imp pss_nil fun D σ H ⟨as, env, S, re, rel, g⟩ => g as H σ Ex.refl rel re⟩
theorem bm_cons {st : Stmt} {rest : List Stmt} {m n : MS} (h : SM X W st m) (h2 : BM X W rest n) : BM X W (st :: rest) (sSeq m n) :=
  ⟨pss_imp (pss_cons h.ps h2.ps) fun D σ H ⟨as, env, S, re, rel, g⟩ => ⟨as, env, S, re, rel, GoS.thenS g⟩⟩
theorem bm_one {st : Stmt} {m : MS} (h : SM X W st m) : BM X W [st] m := ⟨pss_one h.ps⟩
def sBreak : MS := fun env S => .bk env S
def sCont : MS := fun env S => .ct env S
theorem sm_pass {pos : Pos} : SM X W (.Pass pos) sNil := ⟨ps_imp ps_pass fun D σ H ⟨as, env, S, re, rel, g⟩ => g as H σ Ex.refl rel re⟩
theorem sm_break {pos : Pos} : SM X W (.Break pos) sBreak := ⟨ps_imp ps_break fun D σ H ⟨as, env, S, re, rel, g⟩ => g as H σ Ex.refl rel re⟩
theorem sm_cont {pos : Pos} : SM X W (.Continue pos) sCont := ⟨ps_imp ps_continue fun D σ H ⟨as, env, S, re, rel, g⟩ => g as H σ Ex.refl rel re⟩
def sExpr (a : ME) : MS := fun env S => RS.of (a env S) env fun _ S1 => .nx env S1
def sRet (a : ME) : MS := fun env S => RS.of (a env S) env fun d S1 => .rt d S1
def sRetN : MS := fun _ S => .rt .non S
def sSet (i : Nat) (a : ME) : MS := fun env S => RS.of (a env S) env fun d S1 => .nx (env.set i (some d)) S1
theorem sm_expr {e : Expr} {m : ME} {pos : Pos} (h : EM X W e m) (hs : swapsWith e none pos.line X.env = pure false := by rfl) : SM X W (.Expr e pos) (sExpr m) :=
  ⟨ps_imp (ps_expr h.pe hs) fun D σ H q => tS_of (f := fun env _ S1 => .nx env S1) q fun as env d S1 as1 H1 v re rel rv g => g as1 H1 σ Ex.refl rel re⟩
theorem sm_doc {x : Str} {j : Nat} {pos pos' : Pos} : SM X W (.Expr (.Constant (.str x) j pos) pos') sNil := ⟨ps_imp ps_doc fun D σ H ⟨as, env, S, re, rel, g⟩ => g as H σ Ex.refl rel re⟩
theorem sm_ret {e : Expr} {m : ME} {pos : Pos} (h : EM X W e m) : SM X W (.Return (some e) pos) (sRet m) :=
  ⟨ps_imp (ps_ret h.pe) fun D σ H q => tS_of (f := fun _ d S1 => .rt d S1) q fun as env d S1 as1 H1 v re rel rv g => g as1 H1 v Ex.refl rel rv⟩
theorem sm_retN {pos : Pos} : SM X W (.Return none pos) sRetN := ⟨ps_imp ps_retN fun D σ H ⟨as, env, S, re, rel, g⟩ => g as H _ Ex.refl rel .non⟩
theorem sm_set (i : Nat) {x : Str} {e : Expr} {m : ME} {pos pos' : Pos} (hN : X.N.Nodup) (h : EM X W e m) (hi : X.N[i]? = some x := by rfl) (hx : Loc X.env.scope x := by first | exact Or.inl rfl | exact Or.inr rfl)
    (hs : swapsWith e (some (.Name x pos')) pos.line X.env = pure false := by rfl) (hf : X.fn x = true ∨ X.env.scope.names.lookup x = some .local := by first | exact .inl rfl | exact .inr rfl | assumption) :
    SM X W (.Assign [.Name x pos'] e pos) (sSet i m) :=
  ⟨ps_imp (ps_set hN hi hx h.pe hs hf) fun D σ H q => tS_of (f := fun env d S1 => .nx (env.set i (some d)) S1) q fun as env d S1 as1 H1 v re rel rv g => g as1 H1 _ Ex.refl rel (re.set rv)⟩
def sIf (t : MT) (a b : MS) : MS := fun env S => RS.of (t env S) env fun c S1 => if c = true then a env S1 else b env S1
theorem sm_if {c : Expr} {a b : List Stmt} {t : MT} {m n : MS} {pos : Pos} (hc : TM X W c t) (ha : BM X W a m) (hb : BM X W b n) : SM X W (.If c a b pos) (sIf t m n) :=
  ⟨ps_imp (ps_if hc.pt ha.ps hb.ps) fun D σ H q => tS_of (f := fun env c S1 => if c = true then m env S1 else n env S1) q fun as env d S1 as1 H1 v re rel rv g => by
    cases rv
    cases d with
    | true => rw [if_pos rfl]; exact ⟨as1, env, S1, re, rel, g⟩
    | false => rw [if_neg Bool.false_ne_true]; exact ⟨as1, env, S1, re, rel, g⟩⟩
/-- x op= e -/
def sAug (i : Nat) (f : F2) (a : ME) : MS := fun env S => match env[i]? with
  | some (some x) => RS.of (a env S) env fun y S1 => match f x y S1 with
    | some (z, S2) => .nx (env.set i (some z)) S2
    | none => .no
  | _ => .no
theorem sm_aug (i : Nat) {x : Str} {e : Expr} {m : ME} {f : F2} {op : Operator} {pos pos' : Pos} (hN : X.N.Nodup) (ho : PIp X op (rF X.K f)) (h : EM X W e m) (hi : X.N[i]? = some x := by rfl) (hx : Loc X.env.scope x := by first | exact Or.inl rfl | exact Or.inr rfl)
    (hf : X.fn x = true ∨ X.env.scope.names.lookup x = some .local := by first | exact .inl rfl | exact .inr rfl | assumption) : SM X W (.AugAssign (.Name x pos') op e pos) (sAug i f m) :=
  ⟨ps_imp (ps_aug hN hi hx h.pe ho hf) fun D σ H ⟨as, env, S, re, rel, g⟩ => by
    unfold sAug at g
    cases e0 : env[i]? with
    | none => rw [e0] at g; exact g.elim
    | some o =>
      cases o with
      | none => rw [e0] at g; exact g.elim
      | some d =>
        rw [e0] at g
        obtain ⟨v, h1, h2⟩ := re.at_ i d e0
        refine ⟨v, h1, as, env, S, re, rel, GoS.ofE re g fun y S1 as1 H1 u x1 r1 ru g1 => ?_⟩
        cases q : f d y S1 with
        | none => rw [q] at g1; exact g1.elim
        | some p =>
          rw [q] at g1
          exact ⟨as1, S1, d, y, p.1, p.2, r1, h2.mono x1, ru, q, fun as2 H2 w x2 r2 rw' => g1 as2 H2 _ x2 r2 (((re.mono x1).mono x2).set rw')⟩⟩
/-- iadd of ints, texts -/
def fIAdd : F2 := fun d e S => match d, e with
  | .int i, .int j => some (.int (i + j), S)
  | .str x, .str y => if x.length + y.length ≤ sizeLine then some (.str (x ++ y), S) else none
  | _, _ => none
theorem ip_of {op : Operator} {r r' : R2} (h : OpR X (inplaceOp op) r) (i : ∀ x y H Q, r' x y H Q → r x y H Q) : PIp X op r' := fun pins s σ H x y v u Q I rx ry q => h pins s σ H x y v u Q I rx ry (i x y H Q q)
theorem ip_fAdd : PIp X .Add (rF X.K fIAdd) := by
  refine ip_of (OpR.or iop_add iop_add_str) fun x y H Q ⟨as, S, d, e, z, S', rel, rx, ry, hf, q⟩ => ?_
  cases d <;> cases e <;> try (cases hf; done)
  case int.int i j => cases hf; exact .inl ⟨i, j, rx.int_, ry.int_, q as H _ Ex.refl rel (.int _)⟩
  case str.str a b =>
    unfold fIAdd at hf
    dsimp only at hf
    by_cases hl : a.length + b.length ≤ sizeLine
    · rw [if_pos hl] at hf; cases hf; exact .inr ⟨a, b, rx.str_, ry.str_, hl, q as H _ Ex.refl rel (.str _)⟩
    · rw [if_neg hl] at hf; cases hf
theorem ip_fSub : PIp X .Sub (rF X.K fSub) := by
  refine ip_of iop_sub fun x y H Q ⟨as, S, d, e, z, S', rel, rx, ry, hf, q⟩ => ?_
  cases d <;> cases e <;> try (cases hf; done)
  case int.int i j => cases hf; exact ⟨i, j, rx.int_, ry.int_, q as H _ Ex.refl rel (.int _)⟩

/-! ### targets -/
/-- a store of a datum into the frame -/
abbrev MG := D → Env → Sto → Option Env
def gU (K : PySem.W.Frag) (g : MG) : TG := fun v σ H Q => ∃ as env S d env', Re K as H σ env ∧ Rel K as S H ∧ Rv K as H v d ∧ g d env S = some env' ∧ ∀ σ', Re K as H σ' env' → Q σ' H
structure GM (X : Cx) (tg : Expr) (g : MG) : Prop where
  pg : PG X tg (gU X.K g)
theorem pg_imp {tg : Expr} {g g' : TG} (h : PG X tg g) (i : ∀ v σ H Q, g' v σ H Q → g v σ H Q) : PG X tg g' := ⟨fun pins s σ H v u Q I r q => h.run pins s σ H v u Q I r (i v σ H Q q)⟩
def gN (i : Nat) : MG := fun d env _ => some (env.set i (some d))
theorem gm_n (i : Nat) {x : Str} {pos : Pos} (hN : X.N.Nodup) (hi : X.N[i]? = some x := by rfl) (hx : Loc X.env.scope x := by first | exact Or.inl rfl | exact Or.inr rfl) (hf : X.fn x = true ∨ X.env.scope.names.lookup x = some .local := by first | exact .inl rfl | exact .inr rfl | assumption) :
    GM X (.Name x pos) (gN i) := ⟨pg_imp (pg_name hN hi hx hf) fun v σ H Q ⟨as, env, S, d, env', re, rel, rv, e, q⟩ => by cases e; exact q _ (re.set rv)⟩
abbrev MGs := List D → Env → Sto → Option Env
def gUs (K : PySem.W.Frag) (g : MGs) : TGs := fun vs σ H Q => ∃ as env S ds env', Re K as H σ env ∧ Rel K as S H ∧ Rvs K as H vs ds ∧ g ds env S = some env' ∧ ∀ σ', Re K as H σ' env' → Q σ' H
structure GMs (X : Cx) (tg : List Expr) (g : MGs) : Prop where
  pg : PGs X tg (gUs X.K g)
theorem pgs_imp {tg : List Expr} {g g' : TGs} (h : PGs X tg g) (i : ∀ v σ H Q, g' v σ H Q → g v σ H Q) : PGs X tg g' := ⟨fun pins s σ H v u Q I r q => h.run pins s σ H v u Q I r (i v σ H Q q)⟩
def gsNil : MGs := fun ds env _ => match ds with
  | [] => some env
  | _ => none
def gsCons (g : MG) (r : MGs) : MGs := fun ds env S => match ds with
  | d :: ds => (g d env S).bind fun env' => r ds env' S
  | _ => none
theorem gms_nil : GMs X [] gsNil := ⟨pgs_imp pgs_nil fun vs σ H Q ⟨as, env, S, ds, env', re, rel, rv, e, q⟩ => by
  cases ds with
  | nil => cases rv; cases e; exact ⟨rfl, q _ re⟩
  | cons _ _ => cases e⟩
end
end Mi

namespace Mi
open PySem PySem.Spec PyProof.Rows L2
section
variable {X : Cx} {W : WX}
theorem gms_cons {e : Expr} {es : List Expr} {g : MG} {r : MGs} (h1 : GM X e g) (h2 : GMs X es r) (hs : (assignEach (e :: es) X.env).map (·.2) = assign e X.env :: (assignEach es X.env).map (·.2) := by rfl) : GMs X (e :: es) (gsCons g r) :=
  ⟨pgs_imp (pgs_cons h1.pg h2.pg hs) fun vs σ H Q ⟨as, env, S, ds, env', re, rel, rv, e0, q⟩ => by
    cases ds with
    | nil => cases e0
    | cons d ds =>
      cases rv with
      | cons r1 r2 =>
        unfold gsCons at e0
        dsimp only at e0
        cases e1 : g d env S with
        | none => rw [e1] at e0; cases e0
        | some env1 =>
          rw [e1] at e0
          exact ⟨_, _, rfl, as, env, S, d, env1, re, rel, r1, e1, fun σ1 re1 => ⟨as, env1, S, ds, env', re1, rel, r2, e0, q⟩⟩⟩
def gT (n : Nat) (r : MGs) : MG := fun d env S => match d with
  | .tup ds => if ds.length = n then r ds env S else none
  | _ => none
theorem gm_tup {es : List Expr} {k : Nat} {r : MGs} {n : Nat} {pos : Pos} (hc : X.calm = true) (h : GMs X es r)
    (hn : (assignEach es X.env).length = n := by rfl) (hst : (assignEach es X.env).findIdx? (·.1) = none := by rfl) : GM X (.Tuple es k pos) (gT n r) :=
  ⟨pg_imp (pg_tup hc h.pg hn hst) fun v σ H Q ⟨as, env, S, d, env', re, rel, rv, e, q⟩ => by
    cases d <;> first | (cases e; done) | skip
    rename_i ds
    unfold gT at e
    dsimp only at e
    by_cases hl : ds.length = n
    · rw [if_pos hl] at e
      obtain ⟨a, xs, rfl, ha, ra⟩ := rv.tup_
      exact ⟨a, xs, rfl, ha, by rw [ra.len]; exact hl, as, env, S, ds, env', re, rel, ra, e, q⟩
    · rw [if_neg hl] at e; cases e⟩
/-- tg = e -/
def kAsg (g : MG) (env : Env) (d : D) (S1 : Sto) : RS := match g d env S1 with
  | some env' => .nx env' S1
  | none => .no
def sAsg (a : ME) (g : MG) : MS := fun env S => RS.of (a env S) env (kAsg g env)
theorem sm_asg {tg e : Expr} {m : ME} {g : MG} {pos : Pos} (h : EM X W e m) (hg : GM X tg g) (hs : swapsWithSole [tg] e pos.line X.env = pure false := by rfl) (hw : swappedStores [tg] e X.env = pure none := by rfl) (h1 : (assignEach [tg] X.env).map (·.2) = [assign tg X.env] := by rfl) : SM X W (.Assign [tg] e pos) (sAsg m g) :=
  ⟨ps_imp (ps_asg h.pe hg.pg hs hw h1) fun D σ H q => tS_of (f := kAsg g) q fun as env d S1 as1 H1 v re rel rv g1 => by
    unfold kAsg at g1
    cases e : g d env S1 with
    | none => rw [e] at g1; exact g1.elim
    | some env' => rw [e] at g1; exact ⟨as1, env, S1, d, env', re, rel, rv, e, fun σ' re' => g1 as1 H1 σ' Ex.refl rel re'⟩⟩
/-- xs[i] = e -/
def fPut (o i v : D) (S : Sto) : Option Sto := match o, i with
  | .obj j, .int k => match S[j]? with
    | some (.lst ds) => (ixN ds.length k).map fun n => S.set j (.lst (ds.set n v))
    | _ => none
  | _, _ => none
def sPut (o i e : ME) : MS := fun env S => RS.of (e env S) env fun v S1 => RS.of (o env S1) env fun x S2 => RS.of (i env S2) env fun y S3 => match fPut x y v S3 with
  | some S4 => .nx env S4
  | none => .no
theorem put_lst {K : PySem.W.Frag} {as : List Addr} {S : Sto} {H : Hp} {i : Nat} {a : Addr} {ds es : List D} {vs us : List V} (rel : Rel K as S H) (ha : as[i]? = some a) (hs : S[i]? = some (.lst ds)) (hH : H a = some (.lst vs)) (ru : Rvs K as H us es) :
    Rel K as (S.set i (.lst es)) (upd H a (.lst us)) ∧ Ex K as H as (upd H a (.lst us)) := by
  have x : Ex K as H as (upd H a (.lst us)) := Ex.mut (by rw [hH]; trivial)
  exact rel.put ha hs rfl rfl ⟨us, upd_same, ru.mono x⟩
theorem sm_put {o i e : Expr} {mo mi me : ME} {pos pos' : Pos} (ho : EM X W o mo) (hi : EM X W i mi) (he : EM X W e me) (hs : swapsWithSole [.Subscript o i pos'] e pos.line X.env = pure false := by rfl) (hw : swappedStores [.Subscript o i pos'] e X.env = pure none := by rfl)
    (h1 : (assignEach [.Subscript o i pos'] X.env).map (·.2) = [assign (.Subscript o i pos') X.env] := by rfl)
    (hA : ∀ v, assign (.Subscript o i pos') X.env v = (do
      let ov ← holding [v] (eval o X.env)
      let iv ← holding [v, ov] (eval i X.env)
      standAt pos'
      holding [v, ov, iv] (setItem ov iv v)
      release [v, ov, iv] []) := by intro _; rfl) :
    SM X W (.Assign [.Subscript o i pos'] e pos) (sPut mo mi me) :=
  ⟨ps_imp (ps_asg he.pe (pg_sub ho.pe hi.pe set_list hA) hs hw h1) fun D σ H q => tS_of (f := fun env v S1 => RS.of (mo env S1) env fun x S2 => RS.of (mi env S2) env fun y S3 => match fPut x y v S3 with
    | some S4 => .nx env S4
    | none => .no) q fun as env d S1 as1 H1 v re rel rv g1 =>
    ⟨as1, env, S1, re, rel, GoS.ofE re g1 fun x S2 as2 H2 xv x2 r2 rx g2 => ⟨as2, env, S2, re.mono x2, r2, GoS.ofE (re.mono x2) g2 fun y S3 as3 H3 yv x3 r3 ry g3 => by
      cases e0 : fPut x y d S3 with
      | none => rw [e0] at g3; exact g3.elim
      | some S4 =>
        rw [e0] at g3
        cases x <;> cases y <;> first | (cases e0; done) | skip
        rename_i j k
        unfold fPut at e0
        dsimp only at e0
        cases e1 : S3[j]? with
        | none => rw [e1] at e0; cases e0
        | some ob =>
          rw [e1] at e0
          cases ob with
          | lst ds =>
            dsimp only at e0
            cases e2 : ixN ds.length k with
            | none => rw [e2] at e0; cases e0
            | some n =>
              rw [e2] at e0; cases e0
              obtain ⟨a, vs, rfl, ha, hH, rvs⟩ := (rx.mono x3).lst_ r3 e1
              refine ⟨a, vs, k, n, rfl, ry.int_, hH, by rw [rvs.len]; exact e2, ?_⟩
              obtain ⟨r4, x4⟩ := put_lst r3 ha e1 hH (rvs.set ((rv.mono x2).mono x3) n)
              exact g3 as3 _ σ x4 r4 (((re.mono x2).mono x3).mono x4)
          | fix _ => cases e0
          | gap => cases e0
          | dic _ => cases e0⟩⟩⟩

/-! ### while -/
def whileM (t : MT) (b : MS) : Nat → MS
  | 0 => fun _ _ => .no
  | n + 1 => fun env S => RS.of (t env S) env fun c S1 => if c = true then (match b env S1 with
      | .nx env2 S2 => whileM t b n env2 S2
      | .ct env2 S2 => whileM t b n env2 S2
      | .bk env2 S2 => .nx env2 S2
      | o => o) else .nx env S1
def sWhile (n : Nat) (t : MT) (b : MS) : MS := whileM t b n
theorem sm_while (n : Nat) {c : Expr} {body : List Stmt} {t : MT} {b : MS} {pos : Pos} (hp : PassesOwn (model X.prog X.w) X.A X.env X.xe) (hc : TM X W c t) (hb : BM X W body b) : SM X W (.While c body [] pos) (sWhile n t b) :=
  ⟨ps_imp (ps_while hp hc.pt hb.ps) fun D σ H ⟨as, env, S, re, rel, g⟩ => by
    refine ⟨fun m σ H => ∃ as env S, Re X.K as H σ env ∧ Rel X.K as S H ∧ GoS X.K X.mg W (whileM t b m env S) as H D, ⟨n, as, env, S, re, rel, g⟩, ?_⟩
    intro m σ H ⟨as, env, S, re, rel, g⟩
    cases m with
    | zero => exact g.elim
    | succ m =>
      refine ⟨as, env, S, re, rel, GoS.ofE re g fun c S1 as1 H1 v x r1 rv g1 => ?_⟩
      cases rv
      cases c with
      | false => rw [if_neg Bool.false_ne_true] at g1 ⊢; exact g1 as1 H1 σ Ex.refl r1 (re.mono x)
      | true =>
        rw [if_pos rfl] at g1 ⊢
        refine ⟨fun σ' H' => ∃ as env S, Re X.K as H' σ' env ∧ Rel X.K as S H' ∧ GoS X.K X.mg W (whileM t b m env S) as H' D, fun σ' H' q => ⟨m, Nat.lt_succ_self m, q⟩, as1, env, S1, re.mono x, r1, ?_⟩
        cases e : b env S1 with
        | nx env2 S2 => rw [e] at g1; exact fun as' H' σ' y r q => ⟨as', env2, S2, q, r, GoS.later y g1⟩
        | ct env2 S2 => rw [e] at g1; exact fun as' H' σ' y r q => ⟨as', env2, S2, q, r, GoS.later y g1⟩
        | bk env2 S2 => rw [e] at g1; exact g1
        | rt d S2 => rw [e] at g1; exact g1
        | ex x env2 S2 => rw [e] at g1; exact g1
        | no => rw [e] at g1; exact g1.elim⟩

/-! ### for -/
/-- over items that are told ahead; chk: what must hold of the store at each turn -/
def forM (chk : Sto → Bool) (g : MG) (b : MS) : List D → MS
  | [] => fun env S => if chk S = true then .nx env S else .no
  | d :: r => fun env S => if chk S = true then (match g d env S with
      | some env1 => (match b env1 S with
        | .nx env2 S2 => forM chk g b r env2 S2
        | .ct env2 S2 => forM chk g b r env2 S2
        | .bk env2 S2 => .nx env2 S2
        | o => o)
      | none => .no) else .no
/-- for x in a tuple -/
def kForT (g : MG) (b : MS) (env : Env) (d : D) (S1 : Sto) : RS := match d with
  | .tup ds => forM (fun _ => true) g b ds env S1
  | _ => .no
def sForT (a : ME) (g : MG) (b : MS) : MS := fun env S => RS.of (a env S) env (kForT g b env)
theorem forM_end {chk : Sto → Bool} {g : MG} {b : MS} {as : List Addr} {env : Env} {S : Sto} {H : Hp} {σ : L2.St} {Dn : Ends} (re : Re X.K as H σ env) (rel : Rel X.K as S H) (h : GoS X.K X.mg W (forM chk g b [] env S) as H Dn) : chk S = true ∧ Dn.nx σ H := by
  unfold forM at h
  by_cases hc : chk S = true
  · rw [if_pos hc] at h; exact ⟨hc, h as H σ Ex.refl rel re⟩
  · rw [if_neg hc] at h; exact h.elim
theorem forM_chk {chk : Sto → Bool} {g : MG} {b : MS} {l : List D} {as : List Addr} {env : Env} {S : Sto} {H : Hp} {Dn : Ends} (h : GoS X.K X.mg W (forM chk g b l env S) as H Dn) : chk S = true := by
  cases l with
  | nil =>
    unfold forM at h
    by_cases hc : chk S = true
    · exact hc
    · rw [if_neg hc] at h; exact h.elim
  | cons d r =>
    unfold forM at h
    by_cases hc : chk S = true
    · exact hc
    · rw [if_neg hc] at h; exact h.elim
theorem sm_forT {tg it : Expr} {body : List Stmt} {a : ME} {g : MG} {b : MS} {pos : Pos} (hp : PassesOwn (model X.prog X.w) X.A X.env X.xe) (hc : X.calm = true) (hi : EM X W it a) (hg : GM X tg g) (hb : BM X W body b)
    (hs : ∀ x, foldedSetIterable it X.env x = pure x := by intro _; rfl) : SM X W (.For tg it body [] pos) (sForT a g b) :=
  ⟨ps_imp (ps_for hp hc (pi_tup hi.pe) hg.pg hb.ps hs) fun D σ H q => tS_of (f := kForT g b) q fun as env d S1 as1 H1 v re rel rv g1 => by
    cases d <;> first | exact g1.elim | skip
    rename_i ds
    obtain ⟨a, xs, rfl, ha, ra⟩ := rv.tup_
    refine ⟨a, rfl, ⟨xs, ha⟩, fun i m σ H => m = ds.length - i ∧ i ≤ ds.length ∧ ∃ as env S, Ex X.K as1 H1 as H ∧ Re X.K as H σ env ∧ Rel X.K as S H ∧ GoS X.K X.mg W (forM (fun _ => true) g b (ds.drop i) env S) as H D,
      ⟨ds.length, by simp, Nat.zero_le _, as1, env, S1, Ex.refl, re, rel, by rw [List.drop_zero]; exact g1⟩, ?_⟩
    rintro i m σ H ⟨rfl, hi, as, env, S, x, re, rel, gg⟩
    have ha' : SqT X.K H a xs := x.tup _ _ ha
    have ra' : Rvs X.K as H xs ds := ra.mono x
    by_cases hlt : i < ds.length
    · rw [List.drop_eq_getElem_cons hlt] at gg
      obtain ⟨v, hv, rv⟩ := ra'.get (List.getElem?_eq_getElem hlt)
      refine .inr ⟨⟨xs, v, ha', hv⟩, fun σ' H' => i + 1 ≤ ds.length ∧ ∃ as env S, Ex X.K as1 H1 as H' ∧ Re X.K as H' σ' env ∧ Rel X.K as S H' ∧ GoS X.K X.mg W (forM (fun _ => true) g b (ds.drop (i + 1)) env S) as H' D,
        fun σ' H' q => ⟨ds.length - (i + 1), by omega, rfl, q⟩, fun y H' hy => ?_⟩
      obtain ⟨rfl, hy⟩ := hy
      have e := hy xs ha'
      rw [hv] at e
      cases e
      have gg' := gg
      unfold forM at gg'
      rw [if_pos rfl] at gg'
      cases e1 : g ds[i] env S with
      | none => rw [e1] at gg'; exact gg'.elim
      | some env1 =>
        rw [e1] at gg'
        dsimp only at gg'
        refine ⟨as, env, S, ds[i], env1, re, rel, rv, e1, fun σ' re' => ⟨as, env1, S, re', rel, ?_⟩⟩
        cases e : b env1 S with
        | nx env2 S2 => rw [e] at gg'; exact fun as2 H2 σ2 y r q => ⟨hlt, as2, env2, S2, x.trans y, q, r, GoS.later y gg'⟩
        | ct env2 S2 => rw [e] at gg'; exact fun as2 H2 σ2 y r q => ⟨hlt, as2, env2, S2, x.trans y, q, r, GoS.later y gg'⟩
        | bk env2 S2 => rw [e] at gg'; exact gg'
        | rt d S2 => rw [e] at gg'; exact gg'
        | ex x env2 S2 => rw [e] at gg'; exact gg'
        | no => rw [e] at gg'; exact gg'.elim
    · have hi2 : i = ds.length := by omega
      rw [List.drop_eq_nil_of_le (by omega)] at gg
      exact .inl ⟨⟨xs, ha', by rw [ra.len]; omega⟩, (forM_end re rel gg).2⟩⟩
/-- for x in a list, as it stands at each turn -/
def forL (g : MG) (b : MS) (j : Nat) : Nat → Nat → MS
  | 0, i => fun env S => match lstAt S j with
    | some es => if es.length ≤ i then .nx env S else .no
    | none => .no
  | n + 1, i => fun env S => match lstAt S j with
    | some es => match es[i]? with
      | none => .nx env S
      | some d => match g d env S with
        | some env1 => match b env1 S with
          | .nx env2 S2 => forL g b j n (i + 1) env2 S2
          | .ct env2 S2 => forL g b j n (i + 1) env2 S2
          | .bk env2 S2 => .nx env2 S2
          | o => o
        | none => .no
    | none => .no
def kForL (g : MG) (b : MS) (env : Env) (d : D) (S1 : Sto) : RS := match d with
  | .obj j => match lstAt S1 j with
    | some ds => forL g b j ds.length 0 env S1
    | none => .no
  | _ => .no
def sForL (a : ME) (g : MG) (b : MS) : MS := fun env S => RS.of (a env S) env (kForL g b env)
theorem sm_forL {tg it : Expr} {body : List Stmt} {a : ME} {g : MG} {b : MS} {pos : Pos} (hp : PassesOwn (model X.prog X.w) X.A X.env X.xe) (hc : X.calm = true) (hi : EM X W it a) (hg : GM X tg g) (hb : BM X W body b)
    (hs : ∀ x, foldedSetIterable it X.env x = pure x := by intro _; rfl) : SM X W (.For tg it body [] pos) (sForL a g b) :=
  ⟨ps_imp (ps_for hp hc (pi_list hi.pe) hg.pg hb.ps hs) fun D σ H q => tS_of (f := kForL g b) q fun as env d S1 as1 H1 v re rel rv g1 => by
    cases d <;> first | exact g1.elim | skip
    rename_i j
    unfold kForL at g1
    dsimp only at g1
    cases e0 : lstAt S1 j with
    | none => rw [e0] at g1; exact g1.elim
    | some ds =>
      rw [e0] at g1
      dsimp only at g1
      obtain ⟨a, xs, rfl, hj, ha, ra⟩ := rv.seq_ rel e0
      refine ⟨a, rfl, ⟨xs, ha⟩, fun i m σ H => ∃ as env S, Ex X.K as1 H1 as H ∧ Re X.K as H σ env ∧ Rel X.K as S H ∧ GoS X.K X.mg W (forL g b j m i env S) as H D,
        ⟨ds.length, as1, env, S1, Ex.refl, re, rel, g1⟩, ?_⟩
      rintro i m σ H ⟨as, env, S, x, re, rel, gg⟩
      have hj' := x.pre _ _ hj
      cases m with
      | zero =>
        unfold forL at gg
        cases e2 : lstAt S j with
        | none => rw [e2] at gg; exact gg.elim
        | some es =>
          rw [e2] at gg
          dsimp only at gg
          by_cases hl : es.length ≤ i
          · rw [if_pos hl] at gg
            obtain ⟨a', ys, ea, _, hy, ry⟩ := (Rv.obj (K := X.K) (H := H) hj').seq_ rel e2
            cases ea
            exact .inl ⟨⟨ys, hy, by rw [ry.len]; exact hl⟩, gg as H σ Ex.refl rel re⟩
          · rw [if_neg hl] at gg; exact gg.elim
      | succ m =>
        unfold forL at gg
        cases e2 : lstAt S j with
        | none => rw [e2] at gg; exact gg.elim
        | some es =>
          rw [e2] at gg
          dsimp only at gg
          obtain ⟨a', ys, ea, _, hy, ry⟩ := (Rv.obj (K := X.K) (H := H) hj').seq_ rel e2
          cases ea
          cases e3 : es[i]? with
          | none =>
            rw [e3] at gg
            exact .inl ⟨⟨ys, hy, by rw [ry.len]; exact List.getElem?_eq_none_iff.mp e3⟩, gg as H σ Ex.refl rel re⟩
          | some d =>
            rw [e3] at gg
            dsimp only at gg
            obtain ⟨v, hv, rv⟩ := ry.get e3
            refine .inr ⟨⟨ys, v, hy, hv⟩, fun σ' H' => ∃ as env S, Ex X.K as1 H1 as H' ∧ Re X.K as H' σ' env ∧ Rel X.K as S H' ∧ GoS X.K X.mg W (forL g b j m (i + 1) env S) as H' D, fun σ' H' q => ⟨m, Nat.lt_succ_self m, q⟩, fun y H' hy' => ?_⟩
            obtain ⟨rfl, hy'⟩ := hy'
            have e := hy' ys hy
            rw [hv] at e
            cases e
            cases e1 : g d env S with
            | none => rw [e1] at gg; exact gg.elim
            | some env1 =>
              rw [e1] at gg
              dsimp only at gg
              refine ⟨as, env, S, d, env1, re, rel, rv, e1, fun σ' re' => ⟨as, env1, S, re', rel, ?_⟩⟩
              cases e : b env1 S with
              | nx env2 S2 => rw [e] at gg; exact fun as2 H2 σ2 y r q => ⟨as2, env2, S2, x.trans y, q, r, GoS.later y gg⟩
              | ct env2 S2 => rw [e] at gg; exact fun as2 H2 σ2 y r q => ⟨as2, env2, S2, x.trans y, q, r, GoS.later y gg⟩
              | bk env2 S2 => rw [e] at gg; exact gg
              | rt d S2 => rw [e] at gg; exact gg
              | ex x env2 S2 => rw [e] at gg; exact gg
              | no => rw [e] at gg; exact gg.elim⟩
/-- for i in range(..) -/
def rngD (lo : Int) (n : Nat) : List D := (List.range n).map fun (k : Nat) => D.int (lo + (k : Int))
def kForR (g : MG) (b : MS) (env : Env) (ds : List D) (S1 : Sto) : RS := match ds with
  | [.int j] => if -(2 ^ 62) ≤ j ∧ j < 2 ^ 62 then forM (fun _ => true) g b (rngD 0 j.toNat) env S1 else .no
  | [.int i, .int j] => if -(2 ^ 62) ≤ i ∧ i < 2 ^ 62 ∧ -(2 ^ 62) ≤ j ∧ j < 2 ^ 62 then forM (fun _ => true) g b (rngD i (j - i).toNat) env S1 else .no
  | _ => .no
def sForR (a : MA) (g : MG) (b : MS) : MS := fun env S => RS.of (a env S) env (kForR g b env)
theorem for_rng {g : MG} {b : MS} {Dn : Ends} {lo : Int} {n : Nat} {as1 : List Addr} {env1 : Env} {S1 : Sto} {H1 : Hp} {σ : L2.St} (re1 : Re X.K as1 H1 σ env1) (rel1 : Rel X.K as1 S1 H1)
    (g1 : GoS X.K X.mg W (forM (fun _ => true) g b (rngD lo n) env1 S1) as1 H1 Dn) :
    ∃ Wv : Nat → Nat → L2.St → Hp → Prop, (∃ m, Wv 0 m σ H1) ∧ ∀ i m σ H, Wv i m σ H →
      ((Itr lo n).stop i H ∧ Dn.nx σ H) ∨ ((Itr lo n).go i H ∧ ∃ N : L2.St → Hp → Prop, (∀ σ' H', N σ' H' → ∃ m', m' < m ∧ Wv (i + 1) m' σ' H') ∧ ∀ x H', (Itr lo n).yld i H x H' → gU X.K g x σ H' fun σ2 H2 => tS X.K X.mg W b { Dn with nx := N, ct := N, bk := Dn.nx } σ2 H2) := by
  refine ⟨fun i m σ H => m = n - i ∧ i ≤ n ∧ ∃ as env S, Re X.K as H σ env ∧ Rel X.K as S H ∧ GoS X.K X.mg W (forM (fun _ => true) g b ((rngD lo n).drop i) env S) as H Dn,
      ⟨n, by simp, Nat.zero_le _, as1, env1, S1, re1, rel1, by rw [List.drop_zero]; exact g1⟩, ?_⟩
  have hln : (rngD lo n).length = n := by simp [rngD]
  rintro i m σ H ⟨rfl, hi, as, env, S, re, rel, gg⟩
  by_cases hlt : i < n
  · have hlt' : i < (rngD lo n).length := by rw [hln]; exact hlt
    rw [List.drop_eq_getElem_cons hlt'] at gg
    have hgi : (rngD lo n)[i] = D.int (lo + (i : Int)) := by simp [rngD]
    rw [hgi] at gg
    refine .inr ⟨hlt, fun σ' H' => i + 1 ≤ n ∧ ∃ as env S, Re X.K as H' σ' env ∧ Rel X.K as S H' ∧ GoS X.K X.mg W (forM (fun _ => true) g b ((rngD lo n).drop (i + 1)) env S) as H' Dn,
      fun σ' H' q => ⟨n - (i + 1), by omega, rfl, q⟩, fun y H' hy => ?_⟩
    obtain ⟨rfl, rfl⟩ := hy
    unfold forM at gg
    rw [if_pos rfl] at gg
    cases e1 : g (D.int (lo + (i : Int))) env S with
    | none => rw [e1] at gg; exact gg.elim
    | some env1 =>
      rw [e1] at gg
      dsimp only at gg
      refine ⟨as, env, S, _, env1, re, rel, .int _, e1, fun σ' re' => ⟨as, env1, S, re', rel, ?_⟩⟩
      cases e : b env1 S with
      | nx env2 S2 => rw [e] at gg; exact fun as2 H2 σ2 y r q => ⟨hlt, as2, env2, S2, q, r, GoS.later y gg⟩
      | ct env2 S2 => rw [e] at gg; exact fun as2 H2 σ2 y r q => ⟨hlt, as2, env2, S2, q, r, GoS.later y gg⟩
      | bk env2 S2 => rw [e] at gg; exact gg
      | rt d S2 => rw [e] at gg; exact gg
      | ex x env2 S2 => rw [e] at gg; exact gg
      | no => rw [e] at gg; exact gg.elim
  · have hi2 : i = n := by omega
    rw [List.drop_eq_nil_of_le (by rw [hln]; omega)] at gg
    exact .inl ⟨(show n ≤ i by omega), (forM_end re rel gg).2⟩
theorem rng_inv1 {g : MG} {b : MS} {env : Env} {S : Sto} {d : D} {vs : List V} {as : List Addr} {H : Hp} {Dn : Ends} (rv : Rvs X.K as H vs [d]) (g1 : GoS X.K X.mg W (kForR g b env [d] S) as H Dn) :
    ∃ j : Int, d = .int j ∧ vs = [.int j] ∧ -(2 ^ 62) ≤ j ∧ j < 2 ^ 62 ∧ GoS X.K X.mg W (forM (fun _ => true) g b (rngD 0 j.toNat) env S) as H Dn := by
  obtain ⟨v, rfl, r⟩ := rv.sing
  cases d <;> first | exact g1.elim | skip
  rename_i j
  unfold kForR at g1
  dsimp only at g1
  by_cases hj : -(2 ^ 62) ≤ j ∧ j < 2 ^ 62
  · rw [if_pos hj] at g1
    exact ⟨j, rfl, by rw [r.int_], hj.1, hj.2, g1⟩
  · rw [if_neg hj] at g1; exact g1.elim
theorem rng_inv2 {g : MG} {b : MS} {env : Env} {S : Sto} {d e : D} {vs : List V} {as : List Addr} {H : Hp} {Dn : Ends} (rv : Rvs X.K as H vs [d, e]) (g1 : GoS X.K X.mg W (kForR g b env [d, e] S) as H Dn) :
    ∃ i j : Int, vs = [.int i, .int j] ∧ (-(2 ^ 62) ≤ i ∧ i < 2 ^ 62 ∧ -(2 ^ 62) ≤ j ∧ j < 2 ^ 62) ∧ GoS X.K X.mg W (forM (fun _ => true) g b (rngD i (j - i).toNat) env S) as H Dn := by
  obtain ⟨v, u, rfl, r, r'⟩ := rv.pair
  cases d <;> cases e <;> first | exact g1.elim | skip
  rename_i i j
  unfold kForR at g1
  dsimp only at g1
  by_cases hj : -(2 ^ 62) ≤ i ∧ i < 2 ^ 62 ∧ -(2 ^ 62) ≤ j ∧ j < 2 ^ 62
  · rw [if_pos hj] at g1
    exact ⟨i, j, by rw [r.int_, r'.int_], hj, g1⟩
  · rw [if_neg hj] at g1; exact g1.elim
theorem sm_forR1 {tg a0 : Expr} {body : List Stmt} {m : ME} {g : MG} {b : MS} {p pos pos' : Pos} (hp : PassesOwn (model X.prog X.w) X.A X.env X.xe) (hc : X.calm = true) (hr : Gl X "range") (hm : X.mg "range" = none) (hi : EM X W a0 m) (hg : GM X tg g) (hb : BM X W body b)
    (hs : starEach [a0] X.env = [(false, eval a0 X.env)] := by rfl) (hf : ∀ x, foldedSetIterable (.Call (.Name "range" p) [a0] [] pos') X.env x = pure x := by intro _; rfl) : SM X W (.For tg (.Call (.Name "range" p) [a0] [] pos') body [] pos) (sForR (mCons m mNil) g b) :=
  ⟨ps_imp (ps_for hp hc (pi_range1 hr hm (pa_cons hi.pe pa_nil hs) hs) hg.pg hb.ps hf) fun Dn σ H q => by
    obtain ⟨as, env, S, re, rel, g1⟩ := q
    refine ⟨as, env, S, re, rel, ?_⟩
    unfold sForR mCons at g1
    cases e : m env S with
    | no => rw [e] at g1; exact g1.elim
    | ex x S' => rw [e] at g1; exact fun as' H' c dd y r q => g1 as' H' σ c dd y r (re.mono y) q
    | ok d S1 =>
      rw [e] at g1
      intro as1 H1 v x r1 rv
      obtain ⟨j, _, hv, h1, h2, gg⟩ := rng_inv1 (vs := [v]) (.cons rv .nil) (GoS.later x g1)
      exact ⟨j, hv, h1, h2, for_rng (re.mono x) r1 gg⟩⟩
theorem sm_forR2 {tg a0 a1 : Expr} {body : List Stmt} {m m' : ME} {g : MG} {b : MS} {p pos pos' : Pos} (hp : PassesOwn (model X.prog X.w) X.A X.env X.xe) (hc : X.calm = true) (hr : Gl X "range") (hm : X.mg "range" = none) (hi : EM X W a0 m) (hi' : EM X W a1 m') (hg : GM X tg g) (hb : BM X W body b)
    (hs : starEach [a0, a1] X.env = [(false, eval a0 X.env), (false, eval a1 X.env)] := by rfl) (hs2 : starEach [a1] X.env = [(false, eval a1 X.env)] := by rfl) (hf : ∀ x, foldedSetIterable (.Call (.Name "range" p) [a0, a1] [] pos') X.env x = pure x := by intro _; rfl) :
    SM X W (.For tg (.Call (.Name "range" p) [a0, a1] [] pos') body [] pos) (sForR (mCons m (mCons m' mNil)) g b) :=
  ⟨ps_imp (ps_for hp hc (pi_range2 hr hm (pa_cons hi.pe (pa_cons hi'.pe pa_nil hs2) (by rw [hs, hs2])) hs hs2) hg.pg hb.ps hf) fun Dn σ H q => by
    obtain ⟨as, env, S, re, rel, g1⟩ := q
    refine ⟨as, env, S, re, rel, ?_⟩
    unfold sForR mCons at g1
    cases e : m env S with
    | no => rw [e] at g1; exact g1.elim
    | ex x S' => rw [e] at g1; exact fun as' H' c dd y r q => g1 as' H' σ c dd y r (re.mono y) q
    | ok d S1 =>
      rw [e] at g1
      intro as1 H1 v x r1 rv
      refine ⟨as1, env, S1, re.mono x, r1, ?_⟩
      have g2 := GoS.later x g1
      cases e2 : m' env S1 with
      | no =>
        have g3 : GoS X.K X.mg W (RS.of (R.bind (R.bind (m' env S1) fun x S1 => R.bind (mNil env S1) fun xs S2 => R.ok (x :: xs) S2) fun xs S2 => R.ok (d :: xs) S2) env (kForR g b env)) as1 H1 Dn := g2
        rw [e2] at g3; exact g3.elim
      | ex z S' =>
        have g3 : GoS X.K X.mg W (RS.of (R.bind (R.bind (m' env S1) fun x S1 => R.bind (mNil env S1) fun xs S2 => R.ok (x :: xs) S2) fun xs S2 => R.ok (d :: xs) S2) env (kForR g b env)) as1 H1 Dn := g2
        rw [e2] at g3
        exact fun as' H' c dd y r q => g3 as' H' σ c dd y r ((re.mono x).mono y) q
      | ok d2 S2 =>
        have g3 : GoS X.K X.mg W (RS.of (R.bind (R.bind (m' env S1) fun x S1 => R.bind (mNil env S1) fun xs S2 => R.ok (x :: xs) S2) fun xs S2 => R.ok (d :: xs) S2) env (kForR g b env)) as1 H1 Dn := g2
        rw [e2] at g3
        intro as2 H2 v2 x2 r2 rv2
        obtain ⟨i, j, hv, hb', gg⟩ := rng_inv2 (vs := [v, v2]) (.cons (rv.mono x2) (.cons rv2 .nil)) (GoS.later x2 g3)
        exact ⟨i, j, hv, hb', for_rng ((re.mono x).mono x2) r2 gg⟩⟩
end
end Mi

namespace Mi
open PySem PySem.Spec PyProof.Rows L2

/-! ### functions -/
abbrev MFn := List D → Sto → R D
/-- a promise: what the mirror function says -/
def spM (K : PySem.W.Frag) (mg : Str → Option Value) (m : MFn) : Sp := fun vs H Q E => ∃ as ds S, Rvs K as H vs ds ∧ Rel K as S H ∧ Go K mg (fun c d _ H => E c d H) (Rv K) (m ds S) as H [] Q
def fnEnd : RS → R D
  | .nx _ S => .ok .non S
  | .rt d S => .ok d S
  | .ex e _ S => .ex e S
  | _ => .no
/-- a def's mirror from its body's: n parameters, N names -/
def mFn (n N : Nat) (b : MS) : MFn := fun ds S => if ds.length = n then fnEnd (b (ds.map some ++ List.replicate (N - n) none) S) else .no
theorem Re.start {K : PySem.W.Frag} {as : List Addr} {H : Hp} {vs : List V} {ds : List D} {N : List Str} (r : Rvs K as H vs ds) : Re K as H (L2.start N vs) (ds.map some ++ List.replicate (N.length - ds.length) none) := by
  unfold L2.start
  refine ⟨by simp [r.len], fun i d h => ?_⟩
  by_cases hi : i < ds.length
  · rw [List.getElem?_append_left (by simpa using hi), List.getElem?_map] at h
    cases e : ds[i]? with
    | none => rw [e] at h; cases h
    | some d' =>
      rw [e] at h; cases h
      obtain ⟨v, h1, h2⟩ := r.get e
      refine ⟨v, ?_, h2⟩
      rw [List.getElem?_append_left (by simp [r.len]; exact hi), List.getElem?_map, h1]; rfl
  · rw [List.getElem?_append_right (by simpa using hi), List.getElem?_replicate] at h
    split at h <;> cases h
section
variable {P : Program} {w : World} {K : PySem.W.Frag} {mg : Str → Option Value} {base : Heap}
/-- where a def's body runs -/
abbrev ctx (P : Program) (w : World) (K : PySem.W.Frag) (mg : Str → Option Value) (base : Heap) (N : List Str) (qual : Str) (scope : Scope) (f : Addr) (cdv : Value) (A : Around) (outer : List PySem.Env) (s : Shared) (H : Hp) (E : XK) : Cx :=
  cxOf (L2.CX P w) P w K mg base N qual scope f cdv A outer s H E
abbrev wE (E : XK) : WX := fun c d _ H => E c d H
/-- a def's body is mirrored by b, wherever it runs with room k -/
def BodyOk (P : Program) (w : World) (K : PySem.W.Frag) (mg : Str → Option Value) (base : Heap) (k : Nat) (N : List Str) (qual : Str) (scope : Scope) (body : List Stmt) (b : MS) : Prop :=
  ∀ (f : Addr) (cdv : Value) (A : Around) (outer : List PySem.Env) (s : Shared) (H : Hp) (E : XK), Room k (ctx P w K mg base N qual scope f cdv A outer s H E).A → Takes (ctx P w K mg base N qual scope f cdv A outer s H E) (wE E) →
    PassesOwn (model P w) (ctx P w K mg base N qual scope f cdv A outer s H E).A (ctx P w K mg base N qual scope f cdv A outer s H E).env (ctx P w K mg base N qual scope f cdv A outer s H E).xe →
    BM (ctx P w K mg base N qual scope f cdv A outer s H E) (wE E) body b
theorem fn_ok {x qual : Str} {params : Arguments} {body : List Stmt} {scope : Scope} {f : Addr} {fd : FuncData} {N ps : List Str} {k : Nat} {b : MS} (F : FunD K x qual params body scope [] [] f fd) (S : FnScope N ps scope)
    (hb : BodyOk P w K mg base k N qual scope body b) : FnOk P w K mg base (L2.CX P w) (k + 1) f fd ps (spM K mg (mFn ps.length N.length b)) := by
  refine F.ok S (fun vs H Q E h => ?_) (fun cdv A outer s H vs Q E hr h => ?_)
  · obtain ⟨as, ds, S', rv, rel, g⟩ := h
    unfold mFn at g
    by_cases hl : ds.length = ps.length
    · rw [rv.len, hl]
    · rw [if_neg hl] at g; exact g.elim
  · have B := hb f cdv A outer s H E hr (takes_of rfl rfl rfl rfl) (passes_of (K := fun e s'' => L2.CX P w outer H s E e s'') rfl)
    refine ⟨_, B.ps, ?_⟩
    obtain ⟨as, ds, S', rv, rel, g⟩ := h
    unfold mFn at g
    by_cases hl : ds.length = ps.length
    · rw [if_pos hl] at g
      refine ⟨as, _, S', Re.start (N := N) rv, rel, ?_⟩
      rw [hl]
      cases e : b (ds.map some ++ List.replicate (N.length - ps.length) none) S' with
      | nx env S2 => rw [e] at g; exact fun as' H' σ' x r q => g as' H' _ x r .non
      | rt d S2 => rw [e] at g; exact fun as' H' v x r q => g as' H' v x r q
      | bk env S2 => rw [e] at g; exact g.elim
      | ct env S2 => rw [e] at g; exact g.elim
      | ex z env S2 => rw [e] at g; exact fun as' H' σ' c dd x r q q2 => g as' H' c dd x r q2
      | no => rw [e] at g; exact g.elim
    · rw [if_neg hl] at g; exact g.elim
/-- a def of the module that may be called by its name -/
structure Cal (P : Program) (w : World) (K : PySem.W.Frag) (mg : Str → Option Value) (base : Heap) (k : Nat) (x : Str) (m : MFn) : Prop where
  ex : ∃ (f : Addr) (fd : FuncData) (ps : List Str), FnOk P w K mg base (L2.CX P w) k f fd ps (spM K mg m) ∧ mg x = some (.ref f) ∧ PySem.W.keepIn K (.ref f) = true ∧ Binds K fd ps []
theorem Cal.mono {j k : Nat} {x : Str} {m : MFn} (c : Cal P w K mg base j x m) (h : j ≤ k) : Cal P w K mg base k x m := let ⟨f, fd, ps, F, r⟩ := c.ex; ⟨f, fd, ps, F.mono h, r⟩
theorem cal_of {x qual : Str} {params : Arguments} {body : List Stmt} {scope : Scope} {f : Addr} {fd : FuncData} {N ps : List Str} {k : Nat} {b : MS} (F : FunD K x qual params body scope [] [] f fd) (S : FnScope N ps scope)
    (hm : mg x = some (.ref f)) (hbn : Binds K fd ps []) (hb : BodyOk P w K mg base k N qual scope body b) : Cal P w K mg base (k + 1) x (mFn ps.length N.length b) := ⟨f, fd, ps, fn_ok F S hb, hm, F.kp, hbn⟩
end
def mCall (m : MFn) (a : MA) : ME := fun env S => (a env S).bind m
section
variable {X : Cx} {W : WX}
theorem Go.wish {K : PySem.W.Frag} {mg : Str → Option Value} {W' : WX} {out : R D} {as : List Addr} {H : Hp} {σ σ' : L2.St} {Q : VK} (h : Go K mg W (Rv K) out as H σ Q) (i : ∀ c d H, W c d σ H → W' c d σ' H) : Go K mg W' (Rv K) out as H σ' Q := by
  cases out with
  | ok d S' => exact h
  | ex e S' => exact fun as' H' c dd y r q => i _ _ _ (h as' H' c dd y r q)
  | no => exact h
theorem em_call {k j : Nat} {x : Str} {m : MFn} {e : Expr} {es : List Expr} {a : MA} {p pos : Pos} (c : Cal X.prog X.w X.K X.mg X.base k x m) (hr : Room j X.A) (tk : Takes X W) (ha : AM X W (e :: es) a) (hk : k ≤ j := by decide) (hg : Gl X x := by rfl)
    (hdb : (x == ("__debug__" : Str)) = false := by decide) (he : starEach (e :: es) X.env = (false, eval e X.env) :: starEach es X.env := by rfl) (hpl : (backTo pos (starEach es X.env)).any (·.1) = false := by rfl) :
    EM X W (.Call (.Name x p) (e :: es) [] pos) (mCall m a) := by
  obtain ⟨f, fd, ps, F, hm, hkp, hb⟩ := c.ex
  refine ⟨pe_imp (pe_callS F (hr.mono hk) hg hm hkp hb (fun σ => passAt tk σ) ha.pa hdb he hpl) fun σ H Q q => ?_⟩
  exact tU_bind (f := fun _ => m) q fun as env ds S1 as1 H1 vs re rel rv g => ⟨as1, ds, S1, rv, rel, g.wish fun _ _ _ z => z⟩
end
end Mi

namespace Mi
open PySem PySem.Spec PyProof.Rows L2

/-! ### isinstance -/
def tyD (S : Sto) : D → Option String
  | .non => some "NoneType"
  | .bl _ => some "bool"
  | .int _ => some "int"
  | .str _ => some "str"
  | .tup _ => some "tuple"
  | .obj i => match S[i]? with
    | some (.lst _) => some "list"
    | some (.fix _) => some "list"
    | some (.dic _) => some "dict"
    | some .gap => none
    | none => none
def kinds : List String := ["NoneType", "bool", "int", "str", "tuple", "list", "dict"]
def isK (t T : String) : Bool := t == T || (t == "bool" && T == "int")
theorem kit_all : (kinds.all fun t => kinds.tail.all fun T => kitB t T == some (isK t T)) = true := by decide +kernel
theorem kit_is {t T : String} (ht : t ∈ kinds) (hT : T ∈ kinds.tail) : kitB t T = some (isK t T) := by
  have h := List.all_eq_true.mp (List.all_eq_true.mp kit_all t ht) T hT
  exact eq_of_beq h
section
variable {K : PySem.W.Frag} {as : List Addr} {H : Hp} {S : Sto} {v : V} {d : D}
theorem tyX_of {t : String} (rel : Rel K as S H) (r : Rv K as H v d) (h : tyD S d = some t) : TyX K H v (.type t) ∧ t ∈ kinds := by
  cases d with
  | non => cases h; rw [r.non_]; exact ⟨.base .non, by decide⟩
  | bl b => cases h; rw [r.bl_]; exact ⟨.base (.bl b), by decide⟩
  | int i => cases h; rw [r.int_]; exact ⟨.base (.int i), by decide⟩
  | str x => cases h; rw [r.str_]; exact ⟨.base (.str x), by decide⟩
  | tup ds =>
    cases h
    obtain ⟨a, xs, rfl, ha, _⟩ := r.tup_
    refine ⟨?_, by decide⟩
    rcases ha with (ha | ⟨o, ha⟩) | ⟨o, its, n, hk, hc, _⟩
    · exact .base (.tup ha)
    · exact .fTuple ha
    · exact .kTuple hk hc
  | obj i =>
    unfold tyD at h
    dsimp only at h
    cases e : S[i]? with
    | none => rw [e] at h; cases h
    | some o =>
      rw [e] at h
      obtain ⟨a, rfl, ha⟩ := r.obj_
      have q := rel.ob i a o ha e
      cases o with
      | lst es => cases h; obtain ⟨vs, h1, _⟩ := q; exact ⟨.base (.lst h1), by decide⟩
      | gap => cases h
      | dic es => cases h; obtain ⟨vs, h1, _⟩ := q; exact ⟨.base (.dK h1), by decide⟩
      | fix es =>
        cases h
        obtain ⟨vs, h1, _⟩ := q
        refine ⟨?_, by decide⟩
        rcases h1 with ⟨o, h1⟩ | h1
        · exact .base (.frz h1)
        · rcases h1 (fun _ => none) with (h1 | ⟨o, h1⟩) | ⟨o, its, n, hk, hc, _⟩
          · cases h1
          · cases h1
          · exact .kList hk hc
end
/-- isinstance(x, T), isinstance(x, (T1, T2, ..)) -/
def fIsi (Ts : List String) : F1 := fun d S => (tyD S d).map fun t => (.bl (Ts.any fun T => isK t T), S)
section
variable {X : Cx} {W : WX}
theorem em_isi {e : Expr} {m : ME} {T : String} {xT : Str} {p p2 pos : Pos} (he : EM X W e m) (hg : Gl X "isinstance" := by rfl) (hm : X.mg "isinstance" = none) (hgT : Gl X xT := by rfl) (hmT : X.mg xT = none) (hvT : bootBuiltins xT = some (.type T))
    (hT : T ∈ kinds.tail := by decide) (hnT : xT ≠ "__name__" := by decide) (hdT : (xT == ("__debug__" : Str)) = false := by decide)
    (hs : starEach [e, .Name xT p2] X.env = (false, eval e X.env) :: starEach [.Name xT p2] X.env := by rfl) (hpl : (backTo pos (starEach [.Name xT p2] X.env)).any (·.1) = false := by rfl) :
    EM X W (.Call (.Name "isinstance" p) [e, .Name xT p2] [] pos) (m1 (fIsi [T]) m) :=
  ⟨pe_imp (pe_callB call_isi hg hm boot_isinstance (pa_cons he.pe (pa_cons (pe_bltn hgT hmT hvT (v := .ty T) rfl hnT hdT) pa_nil rfl) hs) (by decide) (by decide) hs hpl) fun σ H Q q => tU_bind (f := fun _ x S1 => R.of (fIsi [T] x S1)) q fun as env d S1 as1 H1 x re rel rv g => by
    obtain ⟨z, S', hz, q⟩ := go_of g
    unfold fIsi at hz
    cases e : tyD S1 d with
    | none => rw [e] at hz; cases hz
    | some t =>
      rw [e] at hz
      cases hz
      obtain ⟨ty, ht⟩ := tyX_of rel rv e
      refine ⟨x, .ty T, .type t, .type T, isK t T, rfl, .ty T, ty, kit_ty (kit_is ht hT), ?_⟩
      have e2 : ([T].any fun T => isK t T) = isK t T := by simp
      rw [e2] at q
      exact q as1 H1 _ Ex.refl rel (.bl _)⟩
theorem kitAny_of {K : PySem.W.Frag} {t : String} (ht : t ∈ kinds) : ∀ {Ts : List String}, (∀ T ∈ Ts, T ∈ kinds.tail) → PySem.W.kitAny K (.type t) (Ts.map Value.type) = some (Ts.any fun T => isK t T)
  | [], _ => kitAny_nil
  | T :: Ts, h => by
    have h1 : PySem.W.kitOne K (.type t) (.type T) = some (isK t T) := kit_ty (kit_is ht (h T (by simp)))
    have ih := kitAny_of (K := K) ht (Ts := Ts) fun T' m => h T' (by simp [m])
    refine kitAny_cons h1 (fun hb => ?_) fun hb => ?_
    · rw [List.any_cons, hb, Bool.false_or]; exact ih
    · rw [List.any_cons, hb, Bool.true_or]
theorem em_isiT2 {e : Expr} {m : ME} {T1 T2 : String} {x1 x2 : Str} {k : Nat} {p p1 p2 p3 pos : Pos} (he : EM X W e m) (hg : Gl X "isinstance" := by rfl) (hm : X.mg "isinstance" = none) (hg1 : Gl X x1 := by rfl) (hm1 : X.mg x1 = none) (hv1 : bootBuiltins x1 = some (.type T1))
    (hg2 : Gl X x2 := by rfl) (hm2 : X.mg x2 = none) (hv2 : bootBuiltins x2 = some (.type T2))
    (hT1 : T1 ∈ kinds.tail := by decide) (hT2 : T2 ∈ kinds.tail := by decide) (hn1 : x1 ≠ "__name__" := by decide) (hd1 : (x1 == ("__debug__" : Str)) = false := by decide) (hn2 : x2 ≠ "__name__" := by decide) (hd2 : (x2 == ("__debug__" : Str)) = false := by decide)
    (hs : starEach [e, .Tuple [.Name x1 p1, .Name x2 p2] k p3] X.env = (false, eval e X.env) :: starEach [.Tuple [.Name x1 p1, .Name x2 p2] k p3] X.env := by rfl) (hpl : (backTo pos (starEach [.Tuple [.Name x1 p1, .Name x2 p2] k p3] X.env)).any (·.1) = false := by rfl) :
    EM X W (.Call (.Name "isinstance" p) [e, .Tuple [.Name x1 p1, .Name x2 p2] k p3] [] pos) (m1 (fIsi [T1, T2]) m) :=
  ⟨pe_imp (pe_callB call_isiT hg hm boot_isinstance (pa_cons he.pe (pa_cons (pe_tup (pa_cons (pe_bltn hg1 hm1 hv1 (v := .ty T1) rfl hn1 hd1) (pa_cons (pe_bltn hg2 hm2 hv2 (v := .ty T2) rfl hn2 hd2) pa_nil rfl) rfl)) pa_nil rfl) hs) (by decide) (by decide) hs hpl)
    fun σ H Q q => tU_bind (f := fun _ x S1 => R.of (fIsi [T1, T2] x S1)) q fun as env d S1 as1 H1 x re rel rv g => by
    obtain ⟨z, S', hz, q⟩ := go_of g
    unfold fIsi at hz
    cases e : tyD S1 d with
    | none => rw [e] at hz; cases hz
    | some t =>
      rw [e] at hz
      cases hz
      refine ⟨by show 2 ≤ sizeLine; decide, fun tp htp => ?_⟩
      have x1 : Ex X.K as1 H1 as1 (upd H1 tp (.tup [.ty T1, .ty T2])) := Ex.fresh htp
      obtain ⟨ty, ht⟩ := tyX_of (rel.fresh htp) (rv.mono x1) e
      exact ⟨x, tp, [.ty T1, .ty T2], .type t, [.type T1, .type T2], _, rfl, upd_same, .cons (.ty _) (.cons (.ty _) .nil), ty, kitAny_of (Ts := [T1, T2]) ht (fun T hT => (List.mem_cons.mp hT).elim (fun e => e ▸ hT1) fun h => (List.mem_cons.mp h).elim (fun e => e ▸ hT2) fun z => nomatch z), q as1 _ _ x1 (rel.fresh htp) (.bl _)⟩⟩

/-! ### methods of lists, texts -/
abbrev FM := D → List D → Sto → Option (D × Sto)
def rFM (K : PySem.W.Frag) (f : FM) : V → List V → Hp → VK → Prop := fun x xs H Q => ∃ as S d ds z S', Rel K as S H ∧ Rv K as H x d ∧ Rvs K as H xs ds ∧ f d ds S = some (z, S') ∧ ∀ as' H' v, Ex K as H as' H' → Rel K as' S' H' → Rv K as' H' v z → Q v H'
/-- of that type -/
def tyOk (T : String) (d : D) (S : Sto) : Bool := match d with
  | .str _ => T == "str"
  | .obj i => match S[i]? with
    | some (.lst _) => T == "list"
    | some (.fix _) => T == "list"
    | some (.dic _) => T == "dict"
    | some .gap => false
    | none => false
  | _ => false
theorem ty_of {K : PySem.W.Frag} {as : List Addr} {H : Hp} {S : Sto} {v : V} {d : D} {T : String} (rel : Rel K as S H) (r : Rv K as H v d) (h : tyOk T d S = true) : tyV K T v H := by
  cases d <;> first | (cases h; done) | skip
  case str x => rw [r.str_]; exact eq_of_beq h
  case obj i =>
    unfold tyOk at h
    dsimp only at h
    obtain ⟨a, rfl, ha⟩ := r.obj_
    cases e : S[i]? with
    | none => rw [e] at h; cases h
    | some o =>
      rw [e] at h
      cases o with
      | lst es => obtain ⟨b, vs, eb, _, hq, _⟩ := r.seq_ rel (ds := es) (by unfold lstAt; rw [e]); cases eb; exact .inl ⟨eq_of_beq h, vs, hq⟩
      | fix es => obtain ⟨b, vs, eb, _, hq, _⟩ := r.seq_ rel (ds := es) (by unfold lstAt; rw [e]); cases eb; exact .inl ⟨eq_of_beq h, vs, hq⟩
      | gap => cases h
      | dic es => obtain ⟨b, vs, eb, _, hq, _⟩ := r.dic_ rel e; cases eb; exact .inr (.inr (.inl ⟨eq_of_beq h, .inl ⟨vs, hq⟩⟩))
def mM (T : String) (f : FM) (o : ME) (a : MA) : ME := fun env S => (o env S).bind fun d S1 => if tyOk T d S1 = true then (a env S1).bind fun ds S2 => R.of (f d ds S2) else .no
def mM0 (T : String) (f : FM) (o : ME) : ME := fun env S => (o env S).bind fun d S1 => if tyOk T d S1 = true then R.of (f d [] S1) else .no
theorem em_bm {f : FM} {T id : String} {name : Str} {o e : Expr} {es : List Expr} {m : ME} {a : MA} {apos cpos : Pos} (pa : PlainAttrs T) (slot : Slot T name id) (hty : typeOf (.builtin id) = pure (.type "method_descriptor")) (hm : MtR X id (rFM X.K f)) (ho : EM X W o m) (ha : AM X W (e :: es) a)
    (hbase : attributeBase o name X.env (eval o X.env) = eval o X.env := by rfl)
    (hfew : ((backTo cpos (starEach (e :: es) X.env)).all (fun x => !x.1) && (backToKw cpos (keywordEach [] X.env)).all (fun x => x.1.isSome)
      && decide ((e :: es).length + ([] : List Keyword).length + (if ([] : List Keyword).isEmpty then 0 else 1) < 30)) = true := by rfl) (hline : (apos.endLine == cpos.line) = true := by rfl)
    (hs : starEach (e :: es) X.env = (false, eval e X.env) :: starEach es X.env := by rfl) (hplain : (backTo cpos (starEach es X.env)).any (·.1) = false := by rfl) :
    EM X W (.Call (.Attribute o name apos) (e :: es) [] cpos) (mM T f m a) :=
  ⟨pe_imp (pe_bm pa slot hty hm ho.pe ha.pa hbase hfew hline hs hplain) fun σ H Q q => tU_bind (f := fun env d S1 => if tyOk T d S1 = true then (a env S1).bind fun ds S2 => R.of (f d ds S2) else .no) q fun as env d S1 as1 H1 x re rel rv g => by
    by_cases ht : tyOk T d S1 = true
    · rw [if_pos ht] at g
      refine ⟨ty_of rel rv ht, as1, env, S1, re, rel, Go.bind g fun ds S2 as2 H2 vs x2 r2 rv2 g2 => ?_⟩
      obtain ⟨z, S', hz, q⟩ := go_of g2
      exact ⟨as2, S2, d, ds, z, S', r2, rv.mono x2, rv2, hz, q⟩
    · rw [if_neg ht] at g; exact g.elim⟩
theorem em_bm0 {f : FM} {T id : String} {name : Str} {o : Expr} {m : ME} {apos cpos : Pos} (pa : PlainAttrs T) (slot : Slot T name id) (hty : typeOf (.builtin id) = pure (.type "method_descriptor")) (hm : MtR X id (rFM X.K f)) (ho : EM X W o m)
    (hbase : attributeBase o name X.env (eval o X.env) = eval o X.env := by rfl) (hline : (apos.endLine == cpos.line) = true := by rfl) : EM X W (.Call (.Attribute o name apos) [] [] cpos) (mM0 T f m) :=
  ⟨pe_imp (pe_bm0 pa slot hty hm ho.pe hbase hline) fun σ H Q q => tU_bind (f := fun env d S1 => if tyOk T d S1 = true then R.of (f d [] S1) else .no) q fun as env d S1 as1 H1 x re rel rv g => by
    by_cases ht : tyOk T d S1 = true
    · rw [if_pos ht] at g
      obtain ⟨z, S', hz, q⟩ := go_of g
      exact ⟨ty_of rel rv ht, as1, S1, d, [], z, S', rel, rv, .nil, hz, q⟩
    · rw [if_neg ht] at g; exact g.elim⟩
def fAppend : FM := fun d ds S => match d, ds with
  | .obj i, [e] => match S[i]? with
    | some (.lst xs) => if xs.length < sizeLine then some (.non, S.set i (.lst (xs ++ [e]))) else none
    | _ => none
  | _, _ => none
def fExtend : FM := fun d ds S => match d, ds with
  | .obj i, [.obj j] => match S[i]?, S[j]? with
    | some (.lst xs), some (.lst ys) => if xs.length + ys.length ≤ sizeLine then some (.non, S.set i (.lst (xs ++ ys))) else none
    | _, _ => none
  | _, _ => none
def fPop : FM := fun d ds S => match d, ds with
  | .obj i, [] => match S[i]? with
    | some (.lst xs) => (xs[xs.length - 1]?).map fun z => (z, S.set i (.lst xs.dropLast))
    | _ => none
  | _, _ => none
def fReverse : FM := fun d ds S => match d, ds with
  | .obj i, [] => match S[i]? with
    | some (.lst xs) => some (.non, S.set i (.lst xs.reverse))
    | _ => none
  | _, _ => none
theorem Rvs.dropLast {K : PySem.W.Frag} {as : List Addr} {H : Hp} {vs : List V} {ds : List D} (r : Rvs K as H vs ds) : Rvs K as H vs.dropLast ds.dropLast := by
  rw [List.dropLast_eq_take, List.dropLast_eq_take, r.len]; exact r.take _
theorem mt_fAppend : MtR X "list.append" (rFM X.K fAppend) := by
  refine mt_imp mt_append fun x xs H Q ⟨as, S, d, ds, z, S', rel, rx, rs, hf, q⟩ => ?_
  unfold fAppend at hf
  split at hf
  · rename_i i e
    split at hf
    · rename_i es h0
      by_cases hl : es.length < sizeLine
      · rw [if_pos hl] at hf; cases hf
        obtain ⟨a, vs, rfl, ha, hH, rvs⟩ := rx.lst_ rel h0
        obtain ⟨y, rfl, ry⟩ := rs.sing
        refine ⟨a, vs, y, rfl, rfl, hH, by rw [rvs.len]; exact hl, ?_⟩
        obtain ⟨r1, x1⟩ := put_lst rel ha h0 hH (rvs.append (.cons ry .nil))
        exact q as _ _ x1 r1 .non
      · rw [if_neg hl] at hf; cases hf
    · cases hf
  · cases hf
theorem mt_fExtend : MtR X "list.extend" (rFM X.K fExtend) := by
  refine mt_imp mt_extend fun x xs H Q ⟨as, S, d, ds, z, S', rel, rx, rs, hf, q⟩ => ?_
  unfold fExtend at hf
  split at hf
  · rename_i i j
    split at hf
    · rename_i es us h0 h1
      by_cases hl : es.length + us.length ≤ sizeLine
      · rw [if_pos hl] at hf; cases hf
        obtain ⟨a, vs, rfl, ha, hH, rvs⟩ := rx.lst_ rel h0
        obtain ⟨y, rfl, ry⟩ := rs.sing
        obtain ⟨b, ws, rfl, hb, hB, rws⟩ := ry.lst_ rel h1
        refine ⟨a, b, vs, ws, rfl, rfl, hH, hB, by rw [rvs.len, rws.len]; exact hl, ?_⟩
        obtain ⟨r1, x1⟩ := put_lst rel ha h0 hH (rvs.append rws)
        exact q as _ _ x1 r1 .non
      · rw [if_neg hl] at hf; cases hf
    · cases hf
  · cases hf
theorem mt_fPop : MtR X "list.pop" (rFM X.K fPop) := by
  refine mt_imp mt_pop fun x xs H Q ⟨as, S, d, ds, z, S', rel, rx, rs, hf, q⟩ => ?_
  unfold fPop at hf
  split at hf
  · rename_i i
    split at hf
    · rename_i es h0
      cases e : es[es.length - 1]? with
      | none => rw [e] at hf; cases hf
      | some y =>
        rw [e] at hf; cases hf
        obtain ⟨a, vs, rfl, ha, hH, rvs⟩ := rx.lst_ rel h0
        cases rs
        obtain ⟨v, hv, rv⟩ := rvs.get e
        refine ⟨a, vs, v, rfl, rfl, hH, by rw [rvs.len]; exact hv, ?_⟩
        obtain ⟨r1, x1⟩ := put_lst rel ha h0 hH rvs.dropLast
        exact q as _ _ x1 r1 (rv.mono x1)
    · cases hf
  · cases hf
theorem mt_fReverse : MtR X "list.reverse" (rFM X.K fReverse) := by
  refine mt_imp mt_reverse fun x xs H Q ⟨as, S, d, ds, z, S', rel, rx, rs, hf, q⟩ => ?_
  unfold fReverse at hf
  split at hf
  · rename_i i
    split at hf
    · rename_i es h0
      cases hf
      obtain ⟨a, vs, rfl, ha, hH, rvs⟩ := rx.lst_ rel h0
      cases rs
      refine ⟨a, vs, rfl, rfl, hH, ?_⟩
      obtain ⟨r1, x1⟩ := put_lst rel ha h0 hH rvs.reverse
      exact q as _ _ x1 r1 .non
    · cases hf
  · cases hf
/-- sep.join(list or tuple of texts) -/
def fJoin : FM := fun d ds S => match d, ds with
  | .str a, [e] => match (match e with
      | .obj i => lstAt S i
      | .tup es => some es
      | _ => none) with
    | some es => (toStrs es).bind fun ys => if (ys.map (·.length)).sum + ys.length * a.length ≤ 16777216 then some (.str (Txt.join a ys), S) else none
    | none => none
  | _, _ => none
theorem mt_fJoin : MtR X "str.join" (rFM X.K fJoin) := by
  refine mt_imp mt_join fun x xs H Q ⟨as, S, d, ds, z, S', rel, rx, rs, hf, q⟩ => ?_
  unfold fJoin at hf
  split at hf
  · rename_i a e
    obtain ⟨y, rfl, ry⟩ := rs.sing
    split at hf
    · rename_i es h0
      cases h1 : toStrs es with
      | none => rw [h1] at hf; cases hf
      | some ys =>
        rw [h1, Option.bind_some] at hf
        by_cases hl : (ys.map (·.length)).sum + ys.length * a.length ≤ 16777216
        · rw [if_pos hl] at hf; cases hf
          have fin := q as H _ Ex.refl rel (.str _)
          split at h0
          · obtain ⟨b, vs, rfl, _, hq, rvs⟩ := ry.seq_ rel h0
            rw [toStrs_eq h1] at rvs
            rw [rvs.strs] at hq
            exact ⟨a, b, ys, rx.str_, rfl, .inl hq, hl, fin⟩
          · cases h0
            obtain ⟨b, vs, rfl, hq, rvs⟩ := ry.tup_
            rw [toStrs_eq h1] at rvs
            rw [rvs.strs] at hq
            exact ⟨a, b, ys, rx.str_, rfl, .inr hq, hl, fin⟩
          · cases h0
        · rw [if_neg hl] at hf; cases hf
    · cases hf
  · cases hf
end
end Mi

namespace Mi
open PySem PySem.Spec PyProof.Rows L2

/-- what is written of an own exception class whose __init__ says super().__init__(text) first -/
structure ExcF (K : PySem.W.Frag) (prog : Program) (C fI cc : Addr) (qual : Str) (params : Arguments) (body : List Stmt) (scope : Scope) : Prop where
  ox : OexC K C
  init : PySem.W.findIn K (.ref C) "__init__" = some (some (.ref fI))
  tI : PySem.W.typeIn K (.ref fI) = some (.type "function")
  fn : ∃ (oc : Value) (od : Option Addr) (kV doc pm : Value) (an : Option Addr) (cda : Addr) (ct : Value) (osl : Array (Option Value)) (vs : Array Value) (file : Str) (tf : Tok) (ccl : Value) (cdd : Option Addr) (ccs : Array (Option Value)),
    K.lookup fI = some ⟨oc, od, .func (PySem.W.fnX "__init__" qual params body scope [("__class__", cc)] .none kV doc pm an (.ref cda) ct), osl⟩ ∧ PySem.W.codeIn K (.ref cda) qual = true ∧ K.lookup cda = some ⟨ccl, cdd, .fields vs, ccs⟩ ∧
      vs[2]? = some (.str file tf) ∧ ((prog.main.file : Str) == file) = true
  cell : ∃ (cl : Value) (cld : Option Addr) (csl : Array (Option Value)), K.lookup cc = some ⟨cl, cld, .cell (some (.ref C)), csl⟩
  sub : PySem.W.mroIn K C (.ref C) = some true
  meth : PySem.W.ks_superIn K C C "__init__" = some (some (.builtin "ValueError.__init__"))
  subV : PySem.W.subIn K (.ref C) (.type "ValueError") = some true
  tp : PySem.W.nsIn K cStatics "thirdparty.any" = some none
  top : (prog.main.scope.names.lookup ("super" : Str)).isSome = false

section
variable {X : Cx} {pins : List (Addr × Obj)} {σ : L2.St} {H : Hp} {s : Shared} {a C u : Addr} {A : Around}
/-- the bound built-in __init__, called: nothing of it is told -/
theorem mw_call {us : List Value} {Q : Value → Shared → Prop} {E : Value → Shared → Prop} (T : OexC X.K C) (I : Inv X pins σ H s) (e : H a = some (exo a C none)) (hu : s.heap.get? u = some (PySem.W.kxs_mw "ValueError.__init__" a)) (hl : us.length ≤ sizeLine)
    (h : ∀ s', Inv X pins σ H s' → Q .none s') : wpAny (model X.prog X.w) A (call (.ref u) us) Q E s := by
  obtain ⟨nm, q, N, bs, bm, sn, sub, ab, col, dd, k0, k1, k2, k3, k5, hC, hbm⟩ := T.cls
  obtain ⟨t1, ho⟩ := exo_at I.hok e
  obtain ⟨hp, g, d, t, os⟩ := s
  have hCh := I.kIn _ _ hC
  refine wpAny_call (codeAny_of_tree ?_)
  show wpAny _ A.in1 (callAny (.ref u) ⟨us, []⟩) _ _ _
  simp only [callAny]
  refine wpAny_bind (wpAny_load hu ?_)
  simp only [PySem.W.kxs_mw, show (Value.type "method-wrapper" == Value.type "method" || Value.type "method-wrapper" == Value.type "builtin_function_or_method" || Value.type "method-wrapper" == Value.type "method-wrapper") = true by decide, if_true]
  refine PySem.W.KFB.if_so (by decide) ?_
  refine wpAny_bind (PySem.W.check_bound_init F.excBase_ValueError.toExcCallFacts hCh ho rfl ?_)
  refine wpAny_bind (wpAny_pure (wpAny_pure ?_))
  refine ⟨PySem.plainId_quiet F.excBase_ValueError.init.plain _, codeAny_builtin F.excBase_ValueError.initEntry ?_⟩
  refine PySem.W.exc_init_tree (cls := .ref C) (t0 := t1) (dv := none) (c2 := .none) (c3 := .none) (b4 := .bool false) ho hl fun h' k e' t' => ?_
  have J := I.write (t' := t) (x := a) (e := a) (o := exo a C none) (by rw [e]; exact True.intro) (.inl rfl) k ⟨_, e'⟩ (exo_ok e')
  have eu : upd H a (exo a C none) = H := by
    funext b
    by_cases hb : b = a
    · rw [hb, upd_same, e]
    · rw [upd_ne hb]
  rw [eu] at J
  exact h _ J
end
/-! ### the __init__ -/
section
variable {P : Program} {w : World} {K : PySem.W.Frag} {mg : Str → Option Value} {base : Heap} {C fI cc : Addr} {qual : Str} {params : Arguments} {body : List Stmt} {scope : Scope}
theorem xf_find {K : PySem.W.Frag} {C D : Addr} {n : Str} {v : Value} (h : PySem.W.ks_superIn K C D n = some (some v)) : ∃ cd, PySem.W.clsIn K C = some cd ∧ PySem.W.alongIn K n ((cd.mro.dropWhile (· != .ref D)).drop 1) = some (some v) := by
  unfold PySem.W.ks_superIn at h
  cases hc : PySem.W.clsIn K C with
  | none => rw [hc] at h; cases h
  | some cd => rw [hc] at h; exact ⟨cd, rfl, h⟩
open NdefX in
/-- the first statement of the __init__, then the rest -/
theorem xin_ok {z self : Str} {j k : Nat} {ps : List Str} {p0 p1 p2 p3 p4 p5 : Pos} {rest : List Stmt} {N : List Str} {ts : Addr → TS} {sp : Sp}
    (F : ExcF K P C fI cc qual params body scope) (hbody : body = .Expr (.Call (.Attribute (.Call (.Name "super" p0) [] [] p1) "__init__" p2) [.Constant (.str z) j p3] [] p4) p5 :: rest)
    (hev : ∀ env : PySem.Env, eval (.Call (.Attribute (.Call (.Name "super" p0) [] [] p1) "__init__" p2) [.Constant (.str z) j p3] [] p4) env = (do
      let ov ← attributeBase (.Call (.Name "super" p0) [] [] p1) "__init__" env (eval (.Call (.Name "super" p0) [] [] p1) env)
      standAt p2.atName
      let (f, first) ← holding [ov] (getMethod ov "__init__" (do return (← importBound (.Call (.Name "super" p0) [] [] p1) env).getD true))
      callWith p4 f first (backTo p4 (starEach [.Constant (.str z) j p3] env)) []))
    (S : NScope N (self :: ps) ["__class__"] scope) (hks : scope.names.lookup ("super" : Str) = some .globalImplicit) (hpar : ∃ ar, (params.posonlyargs ++ params.args).head? = some ar ∧ ar.arg = self)
    (hm : mg "super" = none)
    (len : ∀ vs H Q E, sp vs H Q E → vs.length = (self :: ps).length)
    (hsp : ∀ vs H Q E, sp vs H Q E → ∃ a us, vs = .ref a :: us ∧ H a = some (exo a C none) ∧ ts a { nx := fun _ H' => Q .non H', rt := Q } (startF N vs [some (.ref C)]) H)
    (hrest : ∀ (X : Cx) (a : Addr), X.K = K → X.N = N → X.env.scope = scope → PSs X rest (ts a))
    (hbn : ∀ (kV doc pm : Value) (an : Option Addr) (cdv ct : Value) (us : List Value), us.length = (self :: ps).length → bindArgs (PySem.W.fnX "__init__" qual params body scope [("__class__", cc)] .none kV doc pm an cdv ct) ⟨us, []⟩ = pure ((self :: ps).zip us)) :
    ∃ fd : FuncData, FnOk P w K mg base (L2.CX P w) (k + 1) fI fd (self :: ps) sp ∧ Binds K fd (self :: ps) [] := by
  obtain ⟨oc, od, kV, doc, pm, an, cda, ct, osl, vs0, file, tf, ccl, cdd, ccs, lk, hcd, lc, hvs, hfile⟩ := F.fn
  obtain ⟨cl, cld, csl, lcc⟩ := F.cell
  obtain ⟨ar, hp, har⟩ := hpar
  refine ⟨_, ⟨len, fun A outer s H args us vs Q E hr e0 hb r hs => ?_⟩, Binds.all (hbn kV doc pm an (.ref cda) ct)⟩
  have hl := len _ _ _ _ hs
  have KX : K.In s.heap := e0.mod.kin.keeps fun b o e => (e0.bs b o e).1
  have lim : s.heap.NoLimit := e0.mod.nolimit.keeps fun b o e => (e0.bs b o e).1
  refine codeAny_call_function hr.depth (KX _ _ lk) rfl S.co S.gen rfl (PySem.W.codeRec_of KX hcd) (hb _ _ _ _ ?_)
  refine wpAny_newFunctionEnv S.nocell (fun ⟨n, _⟩ hy => S.par n (List.of_mem_zip hy).1) (fun h₁ hns hsb => ⟨lim.fresh _ hsb, ?_⟩) S.kind
  have kp : ∀ b o, s.heap.get? b = some o → h₁.get? b = some o := fun b o e => hsb.extBut b o (Nat.ne_of_lt (Heap.lt_size e)) (Heap.get?_push_of_some _ e)
  let NFi : NF := ⟨"__init__", qual, params, body, scope, [("__class__", cc)], cda⟩
  show codeAny _ _ (.func body (envF NFi fI s.heap.objs.size)) _ _
  refine PySem.ks_codeAny_funcAt ?_
  obtain ⟨a, us', ev, ea, hts⟩ := hsp _ _ _ _ hs
  subst ev
  obtain ⟨ua, ur, rfl⟩ : ∃ ua ur, us = ua :: ur := by
    cases r with
    | cons => exact ⟨_, _, rfl⟩
  obtain rfl : ua = Value.ref a := by
    cases r with
    | cons h _ => exact h
  have hCb := e0.mod.kin _ _ lcc
  have CA : CellsAt NFi.cl ["__class__"] [some (.ref C)] s.heap H := by
    refine ⟨rfl, fun y c e => ?_, fun x y c e1 e2 => ?_, fun i y e => ?_⟩
    · have e' : List.lookup y [(("__class__" : Str), cc)] = some c := e
      simp only [List.lookup] at e'
      split at e'
      · cases e'
        exact ⟨(e0.bs _ _ hCb).2, _, _, (e0.bs _ _ hCb).1, rfl⟩
      · cases e'
    · have e1' : List.lookup x [(("__class__" : Str), cc)] = some c := e1
      have e2' : List.lookup y [(("__class__" : Str), cc)] = some c := e2
      simp only [List.lookup] at e1' e2'
      split at e1'
      · split at e2'
        · rename_i q1 _ q2
          rw [beq_iff_eq] at q1 q2
          rw [q1, q2]
        · cases e2'
      · cases e1'
    · cases i with
      | zero =>
        have e' : (some ("__class__" : Str)) = some y := e
        cases e'
        exact ⟨cc, rfl, fun v ev => by
          have : v = .ref C := by cases ev; rfl
          subst this
          exact ⟨.ref C, rfl, _, (e0.bs _ _ hCb).1, rfl⟩⟩
      | succ i => cases e
  have I : Inv (ncx (L2.CX P w) P w K mg base N NFi fI A outer s H E) [] (startF N (.ref a :: us') [some (.ref C)]) H { s with heap := h₁, toks := s.toks + ((self :: ps).zip (.ref a :: ur)).length } := inv_startN S hr.hd e0 hl r CA hns kp
  have T := F.ox
  obtain ⟨nm, q, Nn, bs, bm, sn, sub, ab, col, dd, k0, k1, k2, k3, k5, hC, hbm⟩ := T.cls
  obtain ⟨cd, hcl, hal⟩ := xf_find F.meth
  have X1 : K.In h₁ := I.kIn
  obtain ⟨t1, hoe⟩ := exo_at I.hok ea
  have IA : PySem.W.InstAt h₁ a _ C none := ⟨hoe, rfl, rfl, trivial⟩
  have hcc : h₁.get? cc = some ⟨cl, cld, .cell (some (.ref C)), csl⟩ := X1 _ _ lcc
  rw [hbody]
  refine PySem.ks_wpAt_execs_cons (PySem.ks_wpAt_Expr_any (PySem.ks_wpAt_MethodCall (he := hev _) ?_) (hi := by unfold interactive; rw [show (envF NFi fI s.heap.objs.size).scope.kind = .function from S.kind]; rfl))
  refine PySem.ks_wpAt_super_base (env := envF NFi fI s.heap.objs.size) hks (S.frk _ (List.mem_singleton.mpr rfl)) (by decide) rfl (X1 _ _ lk) rfl hp rfl (X1 _ _ lc) rfl hvs hfile F.top ?_
  obtain ⟨mb, hmb1, hmb2⟩ := e0.mod.blt
  refine PySem.W.ks_loadName_global S.kind hks (PySem.Calls.loadGlobal_builtin (env := envF NFi fI s.heap.objs.size) (e0.mod.glob.keeps I.bk) hm (hmb1.keeps I.bk) ((hmb2 _ (by decide +kernel)).trans PyProof.Rows.Boot.«super») ⟨rfl, ?_⟩)
  refine wpAny_loadName_free S.kind (S.frk _ (List.mem_singleton.mpr rfl)) rfl ⟨_, hcc, rfl⟩ ?_
  refine wpAny_loadName_local S.kind (by rw [har]; exact S.par _ (List.mem_cons_self ..)) hns (v := .ref a) ?_ ?_
  · rw [har]
    have nd := S.nd.sublist (List.take_sublist ((self :: ps).length + [("__class__" : Str)].length) N)
    rw [S.pre] at nd
    exact zip_look (i := 0) (List.nodup_append.mp nd).1 rfl rfl
  have hCh := X1 _ _ hC
  refine PySem.ks_wpAny_isType_cls hCh rfl ⟨rfl, ?_⟩
  refine PySem.ks_wpAny_call_super hCh rfl hoe rfl (fun c e => by cases e) (PySem.W.looks_mroIn X1 F.sub) (fun h2 e2 k2 => ?_)
  have I2 := I.kept (t' := s.toks + ((self :: ps).zip (.ref a :: ur)).length) k2
  have X2 : K.In h2 := I2.kIn
  obtain ⟨t2, hoe2⟩ := exo_at I2.hok ea
  have IA2 : PySem.W.InstAt h2 a _ C none := ⟨hoe2, rfl, rfl, trivial⟩
  have hI2 : PySem.W.Looks (model P w) h2 (isInstance (.ref a) (.type "ValueError")) true := IA2.type.andThen (PySem.W.looks_subIn X2 F.subV)
  refine PySem.W.kxs_getMethod PySem.W.kxs_ValueError e2 (PySem.W.looks_opaque X2 F.tp) (l₀ := cd.mro) ?_ rfl X2 hal hI2 (PySem.W.ks_ne X2 IA2 hcl) (by decide) ?_
  · exact fun A Q E s k q => wpAny_bind ((PySem.W.looks_clsIn X2 hcl) A _ E s k (wpAny_pure q))
  refine PySem.W.kxs_callWith (i := "ValueError.__init__") (x := a) rfl ?_
  refine PySem.Calls.evalArgs_plain (PySem.Calls.spliced_cons (PySem.Calls.Constant_str (x := z) (k := j) (pos := p3) (env := envF NFi fI s.heap.objs.size) (PySem.Calls.spliced_nil ⟨Heap.get?_push_size _ rfl, ?_⟩)))
  have I3 := I2.kept (h' := h2.push (PySem.W.kxs_mw "ValueError.__init__" a)) (t' := s.toks + ((self :: ps).zip (.ref a :: ur)).length + 1 + 1) fun b o e => Heap.get?_push_of_some _ e
  refine mw_call (X := ncx (L2.CX P w) P w K mg base N NFi fI A outer s H E) T I3 ea (Heap.get?_push_size _ rfl) (by rw [sizeLine_eq]; simp) fun s' J => ?_
  refine PySem.wpAt_of_wpAny (wpAny_mono ((hrest (ncx (L2.CX P w) P w K mg base N NFi fI A outer s H E) a rfl rfl rfl).run [] s' _ H _ J hts) (fun fl s2 hs => ?_) fun e s2 hs => hs)
  have fin : ∀ {σ' : L2.St} {H' : Hp} {v : V} {u : Value}, L2.Inv (ncx (L2.CX P w) P w K mg base N NFi fI A outer s H E) [] σ' H' s2 → L2.RelV v u → Q v H' → L2.CE outer P w H s Q u s2 :=
    fun {σ' H' v u} J rv q => ⟨v, H', J.os, J.bare, J.base, J.hok, rv, q⟩
  cases fl with
  | ret u =>
    obtain ⟨v, σ', H', J, rv, q⟩ := hs
    exact fin J rv q
  | next =>
    obtain ⟨σ', H', J, q⟩ := hs
    exact fin (v := V.non) (u := Value.none) J rfl q
  | brk =>
    obtain ⟨_, _, _, q⟩ := hs
    exact False.elim q
  | cont =>
    obtain ⟨_, _, _, q⟩ := hs
    exact False.elim q
end
end Mi

namespace Mi
open PySem PySem.Spec PyProof.Rows L2 NdefX

/-- what an __init__ promises that lays the fields fs, in their order -/
def spIni (C : Addr) (n : Nat) (fl : List V → List (Str × V)) : Sp := fun vs H Q _ => ∃ a ws, vs = .ref a :: ws ∧ ws.length = n ∧ H a = some (exo a C none) ∧
  ∀ dx, H dx = none → dx ≠ a → Q .non (upd (upd H dx (exd dx (fl ws))) a (exo a C (some dx)))
/-- the expression super().__init__(z) -/
abbrev supE (z : Str) (j : Nat) (p0 p1 p2 p3 p4 : Pos) : Expr := .Call (.Attribute (.Call (.Name "super" p0) [] [] p1) "__init__" p2) [.Constant (.str z) j p3] [] p4
/-- how it runs: at a written place this is rfl -/
def SupEv (z : Str) (j : Nat) (p0 p1 p2 p3 p4 : Pos) : Prop := ∀ env : PySem.Env, eval (supE z j p0 p1 p2 p3 p4) env = (do
      let ov ← attributeBase (.Call (.Name "super" p0) [] [] p1) "__init__" env (eval (.Call (.Name "super" p0) [] [] p1) env)
      standAt p2.atName
      let (f, first) ← holding [ov] (getMethod ov "__init__" (do return (← importBound (.Call (.Name "super" p0) [] [] p1) env).getD true))
      callWith p4 f first (backTo p4 (starEach [.Constant (.str z) j p3] env)) [])
section
variable {P : Program} {w : World} {K : PySem.W.Frag} {mg : Str → Option Value} {base : Heap} {C fI cc : Addr} {qual : Str} {params : Arguments} {body : List Stmt} {scope : Scope}
theorem ini1 {z self p f : Str} {j k : Nat} {p0 p1 p2 p3 p4 p5 q1 q2 q3 q4 : Pos}
    (F : ExcF K P C fI cc qual params body scope) (hbody : body = [.Expr (supE z j p0 p1 p2 p3 p4) p5, .Assign [.Attribute (.Name self q1) f q2] (.Name p q3) q4]) (hev : SupEv z j p0 p1 p2 p3 p4)
    (S : NScope [self, p, "__class__"] [self, p] ["__class__"] scope) (hks : scope.names.lookup ("super" : Str) = some .globalImplicit) (hpar : ∃ ar, (params.posonlyargs ++ params.args).head? = some ar ∧ ar.arg = self)
    (hm : mg "super" = none) (hno : PySem.W.findIn K (.ref C) f = some none)
    (d1 : (self == ("__debug__" : Str)) = false) (d2 : (p == ("__debug__" : Str)) = false) (d3 : (self == ("__classdict__" : Str)) = false) (d4 : (p == ("__classdict__" : Str)) = false)
    (hbn : ∀ (kV doc pm : Value) (an : Option Addr) (cdv ct : Value) (us : List Value), us.length = [self, p].length → bindArgs (PySem.W.fnX "__init__" qual params body scope [("__class__", cc)] .none kV doc pm an cdv ct) ⟨us, []⟩ = pure ([self, p].zip us)) :
    ∃ fd : FuncData, FnOk P w K mg base (L2.CX P w) (k + 1) fI fd [self, p] (spIni C 1 fun ws => [(f, ws.getD 0 .non)]) ∧ Binds K fd [self, p] [] := by
  refine xin_ok (ts := fun _ => tOst K f (tVar 0) (tVar 1)) F hbody hev S hks hpar hm (fun vs H Q E h => ?_) (fun vs H Q E h => ?_) (fun X a eK eN eS => ?_) hbn
  · obtain ⟨a, ws, rfl, hl, _⟩ := h
    simp [hl]
  · obtain ⟨a, ws, rfl, hl, ha, hq⟩ := h
    obtain ⟨v, rfl⟩ : ∃ v, ws = [v] := match ws, hl with | [v], _ => ⟨v, rfl⟩
    exact ⟨a, [v], rfl, ha, v, rfl, .ref a, rfl, a, C, rfl, F.ox, hno, .inl ⟨ha, fun dx n ne => hq dx n ne⟩⟩
  · subst eK eS
    have l0 : X.N[0]? = some self := by rw [eN]; rfl
    have l1 : X.N[1]? = some p := by rw [eN]; rfl
    exact pss_one (ps_ost (pe_var l0 (.inl (S.par _ (List.mem_cons_self ..))) d1 d3) (pe_var l1 (.inl (S.par _ (List.mem_cons_of_mem _ (List.mem_cons_self ..)))) d2 d4))
/-- an own exception class x that may be raised with n arguments; fl: its fields from them -/
structure Rsb (P : Program) (w : World) (K : PySem.W.Frag) (mg : Str → Option Value) (base : Heap) (k : Nat) (x : Str) (n : Nat) (fl : List V → List (Str × V)) : Prop where
  ex : ∃ (C fI : Addr) (fd : FuncData) (ps : List Str), OexC K C ∧ PySem.W.findIn K (.ref C) "__init__" = some (some (.ref fI)) ∧ PySem.W.typeIn K (.ref fI) = some (.type "function") ∧
    FnOk P w K mg base (L2.CX P w) k fI fd ps (spIni C n fl) ∧ Binds K fd ps [] ∧ mg x = some (.ref C)
theorem Rsb.mono {j k n : Nat} {x : Str} {fl : List V → List (Str × V)} (c : Rsb P w K mg base j x n fl) (h : j ≤ k) : Rsb P w K mg base k x n fl := let ⟨C, fI, fd, ps, a, b, c, d, e⟩ := c.ex; ⟨C, fI, fd, ps, a, b, c, d.mono h, e⟩
end
/-- raise x(..): the fields fs get the arguments (in the order of the dict's making, the last one first) -/
def sRaise (x : Str) (n : Nat) (fl : List D → List (Str × D)) (a : MA) : MS := fun env S => RS.of (a env S) env fun ds S1 => if ds.length = n then .ex ⟨x, fl ds⟩ env S1 else .no
/-- the fields are told alike of V's and D's -/
def Flds (n : Nat) (fv : List V → List (Str × V)) (fd : List D → List (Str × D)) : Prop := ∀ (K : PySem.W.Frag) (as : List Addr) (H : Hp) (vs : List V) (ds : List D), Rvs K as H vs ds → ds.length = n → (fv vs).map (·.1) = (fd ds).map (·.1) ∧ Rvs K as H ((fv vs).map (·.2)) ((fd ds).map (·.2))
theorem flds1 {f : Str} : Flds 1 (fun ws => [(f, ws.getD 0 .non)]) (fun ds => [(f, ds.getD 0 .non)]) := fun K as H vs ds r hl => by
  obtain ⟨d, rfl⟩ : ∃ d, ds = [d] := match ds, hl with | [d], _ => ⟨d, rfl⟩
  cases r with
  | cons h t => cases t; exact ⟨rfl, .cons h .nil⟩
section
variable {X : Cx} {W : WX}
theorem sm_raise {k j n : Nat} {x : Str} {fv : List V → List (Str × V)} {fd : List D → List (Str × D)} {e : Expr} {es : List Expr} {a : MA} {p pos pos' : Pos} (c : Rsb X.prog X.w X.K X.mg X.base k x n fv) (hf : Flds n fv fd) (hn : n ≤ 1000) (hr : Room j X.A) (tk : Takes X W) (hc : X.calm = true)
    (ha : AM X W (e :: es) a) (hk : k + 1 ≤ j := by decide) (hg : Gl X x := by rfl) (hdb : (x == ("__debug__" : Str)) = false := by decide)
    (he : starEach (e :: es) X.env = (false, eval e X.env) :: starEach es X.env := by rfl) (hpl : (backTo pos (starEach es X.env)).any (·.1) = false := by rfl) :
    SM X W (.Raise (some (.Call (.Name x p) (e :: es) [] pos)) none pos') (sRaise x n fd a) := by
  obtain ⟨C, fI, fD, ps, T, iC, tI, F, hb, hm⟩ := c.ex
  refine ⟨ps_imp (ps_raise hc tk (pmk_oex (CX := L2.CX X.prog X.w) T iC tI F (hr.mono hk) hb .nil (fun _ _ _ _ _ _ _ h => by obtain ⟨_, _, _, _, _, _, _, _, _, _, _, _, z⟩ := h; exact z.elim) hg hm ha.pa hdb he hpl)) fun Dn σ H q => ?_⟩
  refine tS_of (f := fun env (ds : List D) S1 => if ds.length = n then .ex ⟨x, fd ds⟩ env S1 else .no) q fun as env ds S1 as1 H1 vs re rel rvs g => ?_
  by_cases hl : ds.length = n
  · rw [if_pos hl] at g
    have hlv : vs.length = n := by rw [rvs.len, hl]
    refine ⟨by omega, fun a na => ?_⟩
    rw [List.append_nil]
    refine ⟨a, vs, rfl, hlv, upd_same, fun dx nd ne => ⟨rfl, dx, fv vs, upd_same, ?_, ?_, ?_⟩⟩
    · rw [upd_ne ne, upd_same]
    · rw [upd_ne ne] at nd; exact nd
    · have nd' : H1 dx = none := by rw [upd_ne ne] at nd; exact nd
      have eH : upd (del (upd (upd (upd H1 a (exo a C none)) dx (exd dx (fv vs))) a (exo a C (some dx))) a) dx (.xd (fv vs)) = upd H1 dx (.xd (fv vs)) := by
        funext b
        by_cases hbd : b = dx
        · rw [hbd, upd_same, upd_same]
        · rw [upd_ne hbd, upd_ne hbd]
          by_cases hba : b = a
          · rw [hba, del_same, na]
          · rw [del_ne hba, upd_ne hba, upd_ne hbd, upd_ne hba]
      rw [eH]
      have hex : Ex X.K as1 H1 as1 (upd H1 dx (.xd (fv vs))) := Ex.fresh nd'
      refine g as1 _ σ (.ref C) (some dx) hex (rel.fresh nd') (re.mono hex) ?_
      obtain ⟨f1, f2⟩ := hf X.K as1 _ vs ds (rvs.mono hex) hl
      exact ⟨C, dx, fv vs, rfl, hm, rfl, upd_same, f1, f2⟩
  · rw [if_neg hl] at g; exact g.elim
end
end Mi

namespace Mi
open PySem PySem.Spec PyProof.Rows L2

/-! ### except suites -/
/-- the caught exception e, at slot i -/
def Known (K : PySem.W.Frag) (mg : Str → Option Value) (a : Addr) (cls : Value) (dd : Option Addr) (i : Nat) (as : List Addr) (H : Hp) (σ : L2.St) (e : Xn) : Prop := σ[i]? = some (some (.ref a)) ∧ Rx K mg as H cls dd e
theorem Rx.mono_same {K : PySem.W.Frag} {mg : Str → Option Value} {as as' : List Addr} {H H' : Hp} {cls : Value} {dd : Option Addr} {e : Xn} (x : Ex K as H as' H') (h : ∀ b o, H b = some o → H' b = some o) (r : Rx K mg as H cls dd e) : Rx K mg as' H' cls dd e := by
  obtain ⟨C, d, fs, h1, h2, h3, h4, h5, h6⟩ := r
  exact ⟨C, d, fs, h1, h2, h3, h _ _ h4, h5, h6.mono x⟩
abbrev W0 : WX := fun _ _ _ _ => False
section
variable (X : Cx) (a : Addr) (cls : Value) (dd : Option Addr) (i : Nat)
structure XP (e : Expr) (g : Xn → Option D) : Prop where
  ex : ∃ te : TE, PE X e te ∧ ∀ (as : List Addr) (S : Sto) (H : Hp) (σ : L2.St) (en : Xn) (d : D) (Q : VK), Rel X.K as S H → Known X.K X.mg a cls dd i as H σ en → g en = some d →
    (∀ H' v, Ex X.K as H as H' → (∀ b o, H b = some o → H' b = some o) → Rel X.K as S H' → Rv X.K as H' v d → Q v H') → te σ H Q
structure XPs (es : List Expr) (g : Xn → Option (List D)) : Prop where
  ex : ∃ ta : TA, PA X es ta ∧ ∀ (as : List Addr) (S : Sto) (H : Hp) (σ : L2.St) (en : Xn) (d : List D) (Q : List V → Hp → Prop), Rel X.K as S H → Known X.K X.mg a cls dd i as H σ en → g en = some d →
    (∀ H' v, Ex X.K as H as H' → (∀ b o, H b = some o → H' b = some o) → Rel X.K as S H' → Rvs X.K as H' v d → Q v H') → ta σ H Q
def tSX (m : Xn → MS) : TS := fun Dn σ H => ∃ as env S e, Re X.K as H σ env ∧ Rel X.K as S H ∧ Known X.K X.mg a cls dd i as H σ e ∧ GoS X.K X.mg W0 (m e env S) as H Dn
structure SX (st : Stmt) (m : Xn → MS) : Prop where
  ps : PS X st (tSX X a cls dd i m)
structure BX (st : List Stmt) (m : Xn → MS) : Prop where
  ps : PSs X st (tSX X a cls dd i m)
end
section
variable {X : Cx} {a : Addr} {cls : Value} {dd : Option Addr} {i : Nat}
theorem xp_of {e : Expr} {v : V} {d : D} (h : PE X e (tC v)) (r : ∀ as H, Rv X.K as H v d) : XP X a cls dd i e (fun _ => some d) :=
  ⟨_, h, fun as S H σ en d' Q rel kn e hq => by cases e; exact hq H v Ex.refl (fun _ _ h => h) rel (r as H)⟩
theorem xp_int {n : Int} {j : Nat} {pos : Pos} : XP X a cls dd i (.Constant (.int n) j pos) (fun _ => some (.int n)) := xp_of pe_int fun _ _ => .int n
theorem xp_str {x : Str} {j : Nat} {pos : Pos} : XP X a cls dd i (.Constant (.str x) j pos) (fun _ => some (.str x)) := xp_of pe_str fun _ _ => .str x
theorem xp_bl {b : Bool} {j : Nat} {pos : Pos} : XP X a cls dd i (.Constant (.bool b) j pos) (fun _ => some (.bl b)) := xp_of pe_bl fun _ _ => .bl b
theorem xp_non {j : Nat} {pos : Pos} : XP X a cls dd i (.Constant .none j pos) (fun _ => some .non) := xp_of pe_non fun _ _ => .non
theorem xps_nil : XPs X a cls dd i [] (fun _ => some []) := ⟨_, pa_nil, fun as S H σ en d Q rel kn e hq => by cases e; exact hq H [] Ex.refl (fun _ _ h => h) rel .nil⟩
theorem xps_cons {e : Expr} {es : List Expr} {g : Xn → Option D} {r : Xn → Option (List D)} (h : XP X a cls dd i e g) (hr : XPs X a cls dd i es r) (hs : starEach (e :: es) X.env = (false, eval e X.env) :: starEach es X.env := by rfl) :
    XPs X a cls dd i (e :: es) (fun en => (g en).bind fun d => (r en).map fun ds => d :: ds) := by
  obtain ⟨te, p1, h1⟩ := h.ex
  obtain ⟨ta, p2, h2⟩ := hr.ex
  refine ⟨_, pa_cons p1 p2 hs, fun as S H σ en d Q rel kn e hq => ?_⟩
  cases e1 : g en with
  | none => rw [e1] at e; cases e
  | some d1 =>
    cases e2 : r en with
    | none => rw [e1, e2] at e; cases e
    | some ds =>
      rw [e1, e2] at e
      cases e
      refine h1 as S H σ en d1 _ rel kn e1 fun H1 v x1 k1 r1 v1 => ?_
      refine h2 as S H1 σ en ds _ r1 ⟨kn.1, kn.2.mono_same x1 k1⟩ e2 fun H2 vs x2 k2 r2 v2 => ?_
      exact hq H2 (v :: vs) (x1.trans x2) (fun b o h => k2 b o (k1 b o h)) r2 (.cons (v1.mono x2) v2)
theorem xp_tup {es : List Expr} {g : Xn → Option (List D)} {k : Nat} {pos : Pos} (h : XPs X a cls dd i es g) : XP X a cls dd i (.Tuple es k pos) (fun en => (g en).bind fun ds => if ds.length ≤ sizeLine then some (.tup ds) else none) := by
  obtain ⟨ta, p, h1⟩ := h.ex
  refine ⟨_, pe_tup p, fun as S H σ en d Q rel kn e hq => ?_⟩
  cases e1 : g en with
  | none => rw [e1] at e; cases e
  | some ds =>
    rw [e1] at e
    have e' : (if ds.length ≤ sizeLine then some (D.tup ds) else none) = some d := e
    split at e'
    · rename_i hl
      cases e'
      refine h1 as S H σ en ds _ rel kn e1 fun H1 vs x1 k1 r1 v1 => ⟨by rw [v1.len]; exact hl, fun p hp => ?_⟩
      exact hq _ _ (x1.trans (Ex.fresh hp)) (fun b o q => by rw [upd_ne (ne_of_none (k1 b o q) hp)]; exact k1 b o q) (r1.fresh hp) (.tup (SqT.of upd_same) (v1.mono (Ex.fresh hp)))
    · cases e'
/-- the field f is there to be read at these classes -/
structure Xfk (K : PySem.W.Frag) (mg : Str → Option Value) (f : Str) (l : List Str) : Prop where
  ok : ∀ y ∈ l, ∀ C, mg y = some (.ref C) → XfC K C ∧ PySem.W.findIn K (.ref C) f = some none
theorem lookup_rv {K : PySem.W.Frag} {as : List Addr} {H : Hp} {f : Str} : ∀ {fs : List (Str × V)} {ds : List (Str × D)} {d : D}, fs.map (·.1) = ds.map (·.1) → Rvs K as H (fs.map (·.2)) (ds.map (·.2)) → ds.lookup f = some d → ∃ v, fs.lookup f = some v ∧ Rv K as H v d
  | [], [], _, _, _, e => by cases e
  | [], _ :: _, _, h, _, _ => by cases h
  | _ :: _, [], _, h, _, _ => by cases h
  | (n, v) :: fs, (n', d') :: ds, d, h, r, e => by
    simp only [List.map_cons, List.cons.injEq] at h
    obtain ⟨h1, h2⟩ := h
    subst h1
    cases r with
    | cons r1 r2 =>
      simp only [List.lookup] at e ⊢
      split at e
      · cases e; exact ⟨v, rfl, r1⟩
      · exact lookup_rv h2 r2 e
end
section
variable {X : Cx} {a : Addr} {cls : Value} {dd : Option Addr} {i : Nat} {oe : Obj} {pn : List (Addr × Obj)}
theorem xp_f {f x : Str} {l : List Str} {p pos : Pos} (T : Xfk X.K X.mg f l) (hz : Zc cls dd oe) (hf : ∃ vs, oe.data = .fields vs) (hN : X.N[i]? = some x := by rfl) (hv : Vis X.env.scope x := by first | exact Or.inl rfl | exact Or.inr (Or.inl rfl) | exact Or.inr (Or.inr rfl))
    (hd : (x == ("__debug__" : Str)) = false := by decide) (hcd : (x == ("__classdict__" : Str)) = false := by decide)
    (hb : attributeBase (.Name x p) f X.env (eval (.Name x p) X.env) = eval (.Name x p) X.env := by rfl) :
    XP (X.suite a ((a, oe) :: pn)) a cls dd i (.Attribute (.Name x p) f pos) (fun en => if en.cls ∈ l then en.fs.lookup f else none) := by
  by_cases hC : ∃ C, cls = .ref C ∧ XfC X.K C ∧ PySem.W.findIn X.K (.ref C) f = some none
  · obtain ⟨C, rfl, h1, h2⟩ := hC
    refine ⟨_, pe_xf h1 h2 hz hf (pe_var (X := X.suite a ((a, oe) :: pn)) hN hv hd hcd) hb, fun as S H σ en d Q rel kn e hq => ?_⟩
    by_cases hm : en.cls ∈ l
    · rw [if_pos hm] at e
      obtain ⟨e1, C', d', fs, e2, e3, e4, e5, e6, e7⟩ := kn
      obtain ⟨v, l1, l2⟩ := lookup_rv e6 e7 e
      exact ⟨.ref a, e1, rfl, rfl, d', fs, v, e4, e5, l1, hq H v Ex.refl (fun _ _ h => h) rel l2⟩
    · rw [if_neg hm] at e; cases e
  · refine ⟨fun _ _ _ => False, ⟨fun _ _ _ _ _ _ h => h.elim⟩, fun as S H σ en d Q rel kn e hq => ?_⟩
    by_cases hm : en.cls ∈ l
    · obtain ⟨e1, C', d', fs, e2, e3, e4, e5, e6, e7⟩ := kn
      obtain ⟨h1, h2⟩ := T.ok _ hm C' e3
      exact hC ⟨C', e2, h1, h2⟩
    · rw [if_neg hm] at e; cases e
end
section
variable {X : Cx} {a : Addr} {cls : Value} {dd : Option Addr} {i : Nat}
theorem sx_sm {st : Stmt} {m : MS} (h : SM X W0 st m) : SX X a cls dd i st (fun _ => m) := ⟨ps_imp h.ps fun Dn σ H ⟨as, env, S, e, re, rel, kn, g⟩ => ⟨as, env, S, re, rel, g⟩⟩
theorem bx_bm {st : List Stmt} {m : MS} (h : BM X W0 st m) : BX X a cls dd i st (fun _ => m) := ⟨pss_imp h.ps fun Dn σ H ⟨as, env, S, e, re, rel, kn, g⟩ => ⟨as, env, S, re, rel, g⟩⟩
theorem bx_one {st : Stmt} {m : Xn → MS} (h : SX X a cls dd i st m) : BX X a cls dd i [st] m := ⟨pss_one h.ps⟩
theorem bx_cons {st : Stmt} {rest : List Stmt} {m : Xn → MS} {n : MS} (h : SX X a cls dd i st m) (h2 : BM X W0 rest n) : BX X a cls dd i (st :: rest) (fun e => sSeq (m e) n) :=
  ⟨pss_imp (pss_cons h.ps h2.ps) fun D σ H ⟨as, env, S, e, re, rel, kn, g⟩ => ⟨as, env, S, e, re, rel, kn, GoS.thenS g⟩⟩
def xSet (j : Nat) (g : Xn → Option D) : Xn → MS := fun e env S => match g e with
  | some d => .nx (env.set j (some d)) S
  | none => .no
def xRet (g : Xn → Option D) : Xn → MS := fun e _ S => match g e with
  | some d => .rt d S
  | none => .no
def xSetL (j : Nat) (g : Xn → Option (List D)) : Xn → MS := fun e env S => match g e with
  | some ds => if ds.length ≤ sizeLine then .nx (env.set j (some (.obj S.length))) (S ++ [.lst ds]) else .no
  | none => .no
theorem sx_set (j : Nat) {x : Str} {e : Expr} {g : Xn → Option D} {pos pos' : Pos} (hN : X.N.Nodup) (h : XP X a cls dd i e g) (hi : X.N[j]? = some x := by rfl) (hx : Loc X.env.scope x := by first | exact Or.inl rfl | exact Or.inr rfl)
    (hs : swapsWith e (some (.Name x pos')) pos.line X.env = pure false := by rfl) (hf : X.fn x = true ∨ X.env.scope.names.lookup x = some .local := by first | exact .inl rfl | exact .inr rfl | assumption) :
    SX X a cls dd i (.Assign [.Name x pos'] e pos) (xSet j g) := by
  obtain ⟨te, p, h1⟩ := h.ex
  refine ⟨ps_imp (ps_set hN hi hx p hs hf) fun D σ H ⟨as, env, S, en, re, rel, kn, q⟩ => ?_⟩
  unfold xSet at q
  cases e1 : g en with
  | none => rw [e1] at q; exact q.elim
  | some d =>
    rw [e1] at q
    exact h1 as S H σ en d _ rel kn e1 fun H' v x1 k1 r1 v1 => q as H' _ x1 r1 ((re.mono x1).set v1)
theorem sx_ret {e : Expr} {g : Xn → Option D} {pos : Pos} (h : XP X a cls dd i e g) : SX X a cls dd i (.Return (some e) pos) (xRet g) := by
  obtain ⟨te, p, h1⟩ := h.ex
  refine ⟨ps_imp (ps_ret p) fun D σ H ⟨as, env, S, en, re, rel, kn, q⟩ => ?_⟩
  unfold xRet at q
  cases e1 : g en with
  | none => rw [e1] at q; exact q.elim
  | some d =>
    rw [e1] at q
    exact h1 as S H σ en d _ rel kn e1 fun H' v x1 k1 r1 v1 => q as H' _ x1 r1 v1
theorem sx_setL (j : Nat) {x : Str} {es : List Expr} {g : Xn → Option (List D)} {pos pos' p2 : Pos} (hN : X.N.Nodup) (h : XPs X a cls dd i es g) (hi : X.N[j]? = some x := by rfl) (hx : Loc X.env.scope x := by first | exact Or.inl rfl | exact Or.inr rfl)
    (hs : swapsWith (.List es p2) (some (.Name x pos')) pos.line X.env = pure false := by rfl) (hf : X.fn x = true ∨ X.env.scope.names.lookup x = some .local := by first | exact .inl rfl | exact .inr rfl | assumption) :
    SX X a cls dd i (.Assign [.Name x pos'] (.List es p2) pos) (xSetL j g) := by
  obtain ⟨te, p, h1⟩ := h.ex
  refine ⟨ps_imp (ps_set hN hi hx (pe_lst p) hs hf) fun D σ H ⟨as, env, S, en, re, rel, kn, q⟩ => ?_⟩
  unfold xSetL at q
  cases e1 : g en with
  | none => rw [e1] at q; exact q.elim
  | some ds =>
    rw [e1] at q
    by_cases hl : ds.length ≤ sizeLine
    · simp only [hl, if_true] at q
      refine h1 as S H σ en ds _ rel kn e1 fun H' vs x1 k1 r1 v1 => ⟨by rw [v1.len]; exact hl, fun p hp => ?_⟩
      obtain ⟨r2, x2, e2⟩ := new_lst r1 hp v1
      exact q _ _ _ (x1.trans x2) r2 ((re.mono (x1.trans x2)).set (.obj e2))
    · simp only [hl, if_false] at q
      exact q.elim
end
/-! ### try .. except x as n -/
def unsetEnd (i : Nat) : RS → RS
  | .nx env S => .nx (env.set i none) S
  | .rt d S => .rt d S
  | .bk env S => .bk (env.set i none) S
  | .ct env S => .ct (env.set i none) S
  | _ => .no
def sTryAs (b : MS) (i : Nat) (sub : Str → Option Bool) (su : Xn → MS) : MS := fun env S => match b env S with
  | .ex e env' S' => (match sub e.cls with
    | some true => if i < env'.length then unsetEnd i (su e (env'.set i none) S') else .no
    | some false => .ex e env' S'
    | none => .no)
  | o => o
/-- an except clause that names the class x: which classes it catches -/
structure Exk (K : PySem.W.Frag) (mg : Str → Option Value) (x : Str) (sub : Str → Option Bool) : Prop where
  ex : ∃ C, mg x = some (.ref C) ∧ ∀ y C' b, mg y = some (.ref C') → sub y = some b → PySem.W.exmOne K (.ref C') (.ref C) = some b
section
variable {X : Cx} {W : WX}
theorem sm_try_as {x n : Str} (i : Nat) {body suite : List Stmt} {b₀ : Stmt} {np pos pos' : Pos} {b : MS} {su : Xn → MS} {sub : Str → Option Bool} (T : Exk X.K X.mg x sub) (tk : Takes X W) (hN : X.N.Nodup)
    (hb : ∀ (W : WX) (pn : List (Addr × Obj)) (xe : Value → Shared → Prop), Takes (X.tr pn xe) W → PassesOwn (model X.prog X.w) X.A X.env xe → BM (X.tr pn xe) W body b)
    (hsu : ∀ (a : Addr) (oe : Obj) (cls : Value) (d : Option Addr) (pn : List (Addr × Obj)), Zc cls d oe → (∃ vs, oe.data = .fields vs) → BX (X.suite a ((a, oe) :: pn)) a cls d i (b₀ :: suite) su)
    (hs : X.stack = X.env :: X.outer := by rfl) (hf : X.env.frame = some X.env.locals := by rfl) (hi : X.N[i]? = some n := by rfl) (hln : X.env.kindOf n = some .local := by rfl)
    (hg : Gl X x := by rfl) (hd : (x == ("__debug__" : Str)) = false := by decide) :
    SM X W (.Try body [.ExceptHandler (some (.Name x np)) (some n) (b₀ :: suite) pos'] [] [] pos) (sTryAs b i sub su) := by
  obtain ⟨C, hm, hx⟩ := T.ex
  refine ⟨ps_imp (ps_try_as (tb := fun W => tS X.K X.mg W b) (ts := fun a cls d => tSX (X.suite a ([])) a cls d i su) hs hf hN hi hln ⟨hg, hd, .inl hm⟩ tk (fun W' pn xe tk' po => (hb W' pn xe tk' po).ps) (fun a oe cls d pn hz hv => (hsu a oe cls d pn hz hv).ps)) fun Dn σ H ⟨as, env, S, re, rel, g⟩ => ⟨as, env, S, re, rel, ?_⟩⟩
  unfold sTryAs at g
  cases eb : b env S with
  | nx env S => rw [eb] at g; exact g
  | rt d S => rw [eb] at g; exact g
  | bk env S => rw [eb] at g; exact g
  | ct env S => rw [eb] at g; exact g
  | no => rw [eb] at g; exact g
  | ex e env' S' =>
    rw [eb] at g
    intro as' H' σ' cls dd x1 rel1 re1 rx
    obtain ⟨C', d', fs, e2, e3, r⟩ := id rx
    cases es : sub e.cls with
    | none => simp only [es] at g; exact g.elim
    | some bb =>
      refine ⟨bb, by rw [e2]; exact hx _ _ _ e3 es, fun hbt a na => ?_, fun hbf => ?_⟩
      · subst hbt
        simp only [es] at g
        by_cases hl : i < env'.length
        · rw [if_pos hl] at g
          have hls : i < σ'.length := by rw [re1.len]; exact hl
          have re2 : Re X.K as' H' (σ'.set i (some (.ref a))) (env'.set i none) := by
            refine ⟨by simp [re1.len], fun j d hj => ?_⟩
            by_cases hij : i = j
            · subst hij
              rw [List.getElem?_set_self hl] at hj
              cases hj
            · rw [List.getElem?_set_ne hij] at hj ⊢
              exact re1.at_ j d hj
          refine ⟨as', _, S', e, re2, rel1, ⟨List.getElem?_set_self hls, rx⟩, ?_⟩
          have g' := GoS.later x1 g
          cases eu : su e (env'.set i none) S' with
          | nx en2 S2 => rw [eu] at g'; exact fun as3 H3 σ3 x3 r3 q3 => g' as3 H3 _ x3 r3 q3.unset
          | rt d S2 => rw [eu] at g'; exact g'
          | bk en2 S2 => rw [eu] at g'; exact fun as3 H3 σ3 x3 r3 q3 => g' as3 H3 _ x3 r3 q3.unset
          | ct en2 S2 => rw [eu] at g'; exact fun as3 H3 σ3 x3 r3 q3 => g' as3 H3 _ x3 r3 q3.unset
          | ex _ _ _ => rw [eu] at g'; exact g'.elim
          | no => rw [eu] at g'; exact g'.elim
        · rw [if_neg hl] at g; exact g.elim
      · subst hbf
        simp only [es] at g
        exact g as' H' σ' cls dd x1 rel1 re1 rx
end
end Mi

namespace Mi
open PySem PySem.Spec PyProof.Rows L2

/-! ### iterators -/
/-- a mirror iterator: at most n turns; what turn i finds in the store (some none: the end) -/
structure MIt where
  n : Nat
  f : Nat → Sto → Option (Option D)
structure ItOk (K : PySem.W.Frag) (as1 : List Addr) (H1 : Hp) (J : It) (m : MIt) : Prop where
  stop : ∀ (as : List Addr) (S : Sto) (H : Hp) (i : Nat), Ex K as1 H1 as H → Rel K as S H → m.f i S = some none → J.stop i H
  go : ∀ (as : List Addr) (S : Sto) (H : Hp) (i : Nat) (d : D), Ex K as1 H1 as H → Rel K as S H → m.f i S = some (some d) → J.go i H ∧ ∀ x H', J.yld i H x H' → Ex K as H as H' ∧ Rel K as S H' ∧ Rv K as H' x d
abbrev MI := Env → Sto → R MIt
section
variable (X : Cx) (W : WX)
structure IM (tg iter : Expr) (m : MI) : Prop where
  pi : PI X tg iter (tU X.K X.mg W (ItOk X.K) m)
end
section
variable {X : Cx} {W : WX}
theorem pi_imp {tg it : Expr} {t t' : TI} (h : PI X tg it t) (i : ∀ σ H Q, t' σ H Q → t σ H Q) : PI X tg it t' := ⟨fun pins s σ H R I q => h.run pins s σ H R I (i σ H R q)⟩
def itFix (ds : List D) : MIt := ⟨ds.length, fun i _ => some ds[i]?⟩
def itLst (n j : Nat) : MIt := ⟨n, fun i S => (lstAt S j).map fun ds => ds[i]?⟩
def kSeqI (d : D) (S : Sto) : R MIt := match d with
  | .tup ds => .ok (itFix ds) S
  | .obj j => (match lstAt S j with
    | some ds => .ok (itLst ds.length j) S
    | none => .no)
  | _ => .no
def iSeq (a : ME) : MI := fun env S => (a env S).bind kSeqI
def iSeqT (K : PySem.W.Frag) (tl : TE) : TI := fun σ H R => tl σ H fun x H1 => ∃ a, x = .ref a ∧ (((∃ xs, SqL K H1 a xs) ∧ R (Itl K a) H1) ∨ ((∃ xs, SqT K H1 a xs) ∧ R (Itt K a) H1))
theorem pi_seq {tg l : Expr} {tl : TE} (hl : PE X l tl) : PI X tg l (iSeqT X.K tl) := by
  refine ⟨fun pins s σ H R I h => ?_⟩
  refine thn (hl.run pins s σ H _ I h) fun v s1 ⟨x, H1, I1, r1, q1⟩ => ?_
  obtain ⟨a, e, q1⟩ := q1
  subst e
  cases r1
  rcases q1 with ⟨⟨xs, hq⟩, q⟩ | ⟨⟨xs, hq⟩, q⟩
  · obtain ⟨its, rv, p, hz⟩ := I1.list hq
    refine wpAny_pyIter_list p.isList ?_
    refine ⟨s1.heap.objs.size, [s1.heap.objs.size], _, _, H1, rfl, I1.kept (t' := s1.toks) fun b o e => Heap.get?_push_of_some _ e, turn_list a _, ⟨_, Heap.get?_push_size _ rfl, rfl, rfl⟩, fun b hb => ?_, q⟩
    have e : b = s1.heap.objs.size := by simpa using hb
    subst e
    exact I1.fpOk (Nat.le_refl _) (I1.hok.fresh (Nat.le_refl _))
  · obtain ⟨its, rv, p, hz⟩ := I1.tuple hq
    refine wpAny_pyIter_tuple (show s1.heap.IsTuple a its.toArray from p) ?_
    refine ⟨s1.heap.objs.size, [s1.heap.objs.size], _, _, H1, rfl, I1.kept (t' := s1.toks) fun b o e => Heap.get?_push_of_some _ e, turn_tuple a _, ⟨_, Heap.get?_push_size _ rfl, rfl, rfl⟩, fun b hb => ?_, q⟩
    have e : b = s1.heap.objs.size := by simpa using hb
    subst e
    exact I1.fpOk (Nat.le_refl _) (I1.hok.fresh (Nat.le_refl _))
theorem itl_ok {K : PySem.W.Frag} {as1 : List Addr} {H1 : Hp} {a : Addr} {j n : Nat} (hj : as1[j]? = some a) : ItOk K as1 H1 (Itl K a) (itLst n j) where
  stop := fun as S H i x rel e => by
    have e' : (lstAt S j).map (fun ds => ds[i]?) = some none := e
    cases e2 : lstAt S j with
    | none => rw [e2] at e'; cases e'
    | some ds =>
      rw [e2] at e'
      obtain ⟨a', ys, ea, _, hy, ry⟩ := (Rv.obj (K := K) (H := H) (x.pre _ _ hj)).seq_ rel e2
      cases ea
      have e3 : ds[i]? = none := Option.some.inj e'
      exact ⟨ys, hy, by rw [ry.len]; exact List.getElem?_eq_none_iff.mp e3⟩
  go := fun as S H i d x rel e => by
    have e' : (lstAt S j).map (fun ds => ds[i]?) = some (some d) := e
    cases e2 : lstAt S j with
    | none => rw [e2] at e'; cases e'
    | some ds =>
      rw [e2] at e'
      obtain ⟨a', ys, ea, _, hy, ry⟩ := (Rv.obj (K := K) (H := H) (x.pre _ _ hj)).seq_ rel e2
      cases ea
      have e3 : ds[i]? = some d := Option.some.inj e'
      obtain ⟨v, hv, rv⟩ := ry.get e3
      refine ⟨⟨ys, v, hy, hv⟩, fun y H' hy' => ?_⟩
      obtain ⟨rfl, hy'⟩ := hy'
      have e4 := hy' ys hy
      rw [hv] at e4
      cases e4
      exact ⟨Ex.refl, rel, rv⟩
theorem itt_ok {K : PySem.W.Frag} {as1 : List Addr} {H1 : Hp} {a : Addr} {xs : List V} {ds : List D} (ha : SqT K H1 a xs) (ra : Rvs K as1 H1 xs ds) : ItOk K as1 H1 (Itt K a) (itFix ds) where
  stop := fun as S H i x rel e => ⟨xs, x.tup _ _ ha, by
    have e3 : ds[i]? = none := Option.some.inj e
    rw [ra.len]; exact List.getElem?_eq_none_iff.mp e3⟩
  go := fun as S H i d x rel e => by
    have e3 : ds[i]? = some d := Option.some.inj e
    obtain ⟨v, hv, rv⟩ := (ra.mono x).get e3
    have ha' := x.tup _ _ ha
    refine ⟨⟨xs, v, ha', hv⟩, fun y H' hy' => ?_⟩
    obtain ⟨rfl, hy'⟩ := hy'
    have e4 := hy' xs ha'
    rw [hv] at e4
    cases e4
    exact ⟨Ex.refl, rel, rv⟩
theorem im_seq {tg l : Expr} {m : ME} (h : EM X W l m) : IM X W tg l (iSeq m) :=
  ⟨pi_imp (pi_seq h.pe) fun σ H R q => tU_bind (f := fun _ => kSeqI) q fun as env d S1 as1 H1 v re rel rv g => by
    cases d <;> first | exact g.elim | skip
    · rename_i ds
      obtain ⟨a, xs, rfl, ha, ra⟩ := rv.tup_
      exact ⟨a, rfl, .inr ⟨⟨xs, ha⟩, g as1 H1 _ Ex.refl rel (itt_ok ha ra)⟩⟩
    · rename_i j
      unfold kSeqI at g
      dsimp only at g
      cases e0 : lstAt S1 j with
      | none => rw [e0] at g; exact g.elim
      | some ds =>
        rw [e0] at g
        obtain ⟨a, xs, rfl, hj, ha, ra⟩ := rv.seq_ rel e0
        exact ⟨a, rfl, .inl ⟨⟨xs, ha⟩, g as1 H1 _ Ex.refl rel (itl_ok hj)⟩⟩⟩
/-! ranges -/
def itRng (lo : Int) (n : Nat) : MIt := ⟨n, fun i _ => if i < n then some (some (.int (lo + (i : Int)))) else some none⟩
theorem itr_ok {K : PySem.W.Frag} {as1 : List Addr} {H1 : Hp} {lo : Int} {n : Nat} : ItOk K as1 H1 (Itr lo n) (itRng lo n) where
  stop := fun as S H i x rel e => by
    have e' : (if i < n then some (some (D.int (lo + (i : Int)))) else some none) = some none := e
    split at e'
    · cases e'
    · show n ≤ i; omega
  go := fun as S H i d x rel e => by
    have e' : (if i < n then some (some (D.int (lo + (i : Int)))) else some none) = some (some d) := e
    split at e'
    · rename_i hlt
      cases e'
      exact ⟨hlt, fun y H' hy => by obtain ⟨rfl, rfl⟩ := hy; exact ⟨Ex.refl, rel, .int _⟩⟩
    · cases e'
def kRngI (ds : List D) (S : Sto) : R MIt := match ds with
  | [.int j] => if -(2 ^ 62) ≤ j ∧ j < 2 ^ 62 then .ok (itRng 0 j.toNat) S else .no
  | [.int i, .int j] => if -(2 ^ 62) ≤ i ∧ i < 2 ^ 62 ∧ -(2 ^ 62) ≤ j ∧ j < 2 ^ 62 then .ok (itRng i (j - i).toNat) S else .no
  | _ => .no
def iRng (a : MA) : MI := fun env S => (a env S).bind kRngI
theorem im_rng1 {tg a0 : Expr} {m : ME} {p pos' : Pos} (hm : X.mg "range" = none) (hi : EM X W a0 m) (hr : Gl X "range" := by rfl) (hs : starEach [a0] X.env = [(false, eval a0 X.env)] := by rfl) : IM X W tg (.Call (.Name "range" p) [a0] [] pos') (iRng (mCons m mNil)) :=
  ⟨pi_imp (pi_range1 hr hm (pa_cons hi.pe pa_nil hs) hs) fun σ H R q => by
    obtain ⟨as, env, S, re, rel, g1⟩ := q
    refine ⟨as, env, S, re, rel, ?_⟩
    unfold iRng mCons at g1
    cases e : m env S with
    | no => rw [e] at g1; exact g1.elim
    | ex x S' => rw [e] at g1; exact g1
    | ok d S1 =>
      rw [e] at g1
      intro as1 H1 v x r1 rv
      have g2 : Go X.K X.mg W (ItOk X.K) (kRngI [d] S1) as1 H1 σ R := Go.later x g1
      cases d <;> first | exact g2.elim | skip
      rename_i j
      unfold kRngI at g2
      dsimp only at g2
      by_cases hj : -(2 ^ 62) ≤ j ∧ j < 2 ^ 62
      · rw [if_pos hj] at g2
        refine ⟨j, by rw [rv.int_], hj.1, hj.2, g2 as1 H1 _ Ex.refl r1 ?_⟩
        exact itr_ok
      · rw [if_neg hj] at g2; exact g2.elim⟩
theorem im_rng2 {tg a0 a1 : Expr} {m m' : ME} {p pos' : Pos} (hm : X.mg "range" = none) (hi : EM X W a0 m) (hi' : EM X W a1 m') (hr : Gl X "range" := by rfl)
    (hs : starEach [a0, a1] X.env = [(false, eval a0 X.env), (false, eval a1 X.env)] := by rfl) (hs2 : starEach [a1] X.env = [(false, eval a1 X.env)] := by rfl) : IM X W tg (.Call (.Name "range" p) [a0, a1] [] pos') (iRng (mCons m (mCons m' mNil))) :=
  ⟨pi_imp (pi_range2 hr hm (pa_cons hi.pe (pa_cons hi'.pe pa_nil hs2) (by rw [hs, hs2])) hs hs2) fun σ H Qr q => by
    obtain ⟨as, env, S, re, rel, g1⟩ := q
    refine ⟨as, env, S, re, rel, ?_⟩
    unfold iRng mCons at g1
    cases e : m env S with
    | no => rw [e] at g1; exact g1.elim
    | ex x S' => rw [e] at g1; exact g1
    | ok d S1 =>
      rw [e] at g1
      intro as1 H1 v x r1 rv
      refine ⟨as1, env, S1, re.mono x, r1, ?_⟩
      have g3 : Go X.K X.mg W (ItOk X.K) (R.bind (R.bind (R.bind (m' env S1) fun x S1 => R.bind (mNil env S1) fun xs S2 => R.ok (x :: xs) S2) fun xs S2 => R.ok (d :: xs) S2) kRngI) as1 H1 σ Qr := Go.later x g1
      cases e2 : m' env S1 with
      | no => rw [e2] at g3; exact g3.elim
      | ex z S' => rw [e2] at g3; exact g3
      | ok d2 S2 =>
        rw [e2] at g3
        intro as2 H2 v2 x2 r2 rv2
        have g4 : Go X.K X.mg W (ItOk X.K) (kRngI [d, d2] S2) as2 H2 σ Qr := Go.later x2 g3
        cases d <;> cases d2 <;> first | exact g4.elim | skip
        rename_i i j
        unfold kRngI at g4
        dsimp only at g4
        by_cases hj : -(2 ^ 62) ≤ i ∧ i < 2 ^ 62 ∧ -(2 ^ 62) ≤ j ∧ j < 2 ^ 62
        · rw [if_pos hj] at g4
          refine ⟨i, j, by rw [rv.int_, rv2.int_], hj, g4 as2 H2 _ Ex.refl r2 ?_⟩
          exact itr_ok
        · rw [if_neg hj] at g4; exact g4.elim⟩
/-! enumerate over a list -/
def itEnumL (n j : Nat) : MIt := ⟨n, fun i S => (lstAt S j).map fun ds => ds[i]?.map fun d => .tup [.int (i : Int), d]⟩
def kEnumL (ds : List D) (S : Sto) : R MIt := match ds with
  | [.obj j] => (match lstAt S j with
    | some ds => .ok (itEnumL ds.length j) S
    | none => .no)
  | _ => .no
def iEnumL (a : MA) : MI := fun env S => (a env S).bind kEnumL
theorem ite_ok {K : PySem.W.Frag} {as1 : List Addr} {H1 : Hp} {a : Addr} {j n : Nat} (hj : as1[j]? = some a) : ItOk K as1 H1 (Ite K a) (itEnumL n j) where
  stop := fun as S H i x rel e => by
    have e' : (lstAt S j).map (fun ds => ds[i]?.map fun d => D.tup [.int (i : Int), d]) = some none := e
    cases e2 : lstAt S j with
    | none => rw [e2] at e'; cases e'
    | some ds =>
      rw [e2] at e'
      obtain ⟨a', ys, ea, _, hy, ry⟩ := (Rv.obj (K := K) (H := H) (x.pre _ _ hj)).seq_ rel e2
      cases ea
      have e3 : ds[i]?.map (fun d => D.tup [.int (i : Int), d]) = none := Option.some.inj e'
      exact ⟨ys, hy, by rw [ry.len]; exact List.getElem?_eq_none_iff.mp (Option.map_eq_none_iff.mp e3)⟩
  go := fun as S H i d x rel e => by
    have e' : (lstAt S j).map (fun ds => ds[i]?.map fun d => D.tup [.int (i : Int), d]) = some (some d) := e
    cases e2 : lstAt S j with
    | none => rw [e2] at e'; cases e'
    | some ds =>
      rw [e2] at e'
      obtain ⟨a', ys, ea, _, hy, ry⟩ := (Rv.obj (K := K) (H := H) (x.pre _ _ hj)).seq_ rel e2
      cases ea
      have e3 : ds[i]?.map (fun d => D.tup [.int (i : Int), d]) = some d := Option.some.inj e'
      obtain ⟨d0, e4, e5⟩ := Option.map_eq_some_iff.mp e3
      subst e5
      obtain ⟨v, hv, rv⟩ := ry.get e4
      refine ⟨⟨ys, v, hy, hv⟩, fun y H' hy' => ?_⟩
      obtain ⟨T, x', rfl, hT, rfl, hy'⟩ := hy'
      have e6 := hy' ys hy
      rw [hv] at e6
      cases e6
      exact ⟨Ex.fresh hT, rel.fresh hT, .tup (SqT.of upd_same) (.cons (.int _) (.cons (rv.mono (Ex.fresh hT)) .nil))⟩
theorem im_enumL {e : Expr} {m : ME} {elts : List Expr} {kk : Nat} {p pos tpos : Pos} (hm : X.mg "enumerate" = none) (h : EM X W e m) (hg : Gl X "enumerate" := by rfl) (hs : starEach [e] X.env = [(false, eval e X.env)] := by rfl) :
    IM X W (.Tuple elts kk tpos) (.Call (.Name "enumerate" p) [e] [] pos) (iEnumL (mCons m mNil)) :=
  ⟨pi_imp (pi_enum hg hm (am_cons h am_nil (by rw [hs]; rfl)).pa hs) fun σ H R q => tU_bind (f := fun _ => kEnumL) q fun as env ds S1 as1 H1 vs re rel rvs g => by
    unfold kEnumL at g
    split at g
    · rename_i j
      cases e0 : lstAt S1 j with
      | none => rw [e0] at g; exact g.elim
      | some es =>
        rw [e0] at g
        obtain ⟨v, rfl, r⟩ := rvs.sing
        obtain ⟨a, xs, rfl, hj, ha, ra⟩ := r.seq_ rel e0
        exact ⟨a, xs, rfl, ha, g as1 H1 _ Ex.refl rel (ite_ok hj)⟩
    · exact g.elim⟩
/-! ### for -/
def forI (it : MIt) (g : MG) (b : MS) : Nat → Nat → MS
  | 0, i => fun env S => match it.f i S with
    | some none => .nx env S
    | _ => .no
  | n + 1, i => fun env S => match it.f i S with
    | some none => .nx env S
    | some (some d) => (match g d env S with
      | some env1 => (match b env1 S with
        | .nx env2 S2 => forI it g b n (i + 1) env2 S2
        | .ct env2 S2 => forI it g b n (i + 1) env2 S2
        | .bk env2 S2 => .nx env2 S2
        | o => o)
      | none => .no)
    | none => .no
def sFor (a : MI) (g : MG) (b : MS) : MS := fun env S => RS.of (a env S) env fun it S1 => forI it g b it.n 0 env S1
theorem sm_for {tg it : Expr} {body : List Stmt} {a : MI} {g : MG} {b : MS} {pos : Pos} (hp : PassesOwn (model X.prog X.w) X.A X.env X.xe) (hc : X.calm = true) (hi : IM X W tg it a) (hg : GM X tg g) (hb : BM X W body b)
    (hs : ∀ x, foldedSetIterable it X.env x = pure x := by intro _; rfl) : SM X W (.For tg it body [] pos) (sFor a g b) :=
  ⟨ps_imp (ps_for hp hc hi.pi hg.pg hb.ps hs) fun Dn σ H q => tS_of (f := fun env it S1 => forI it g b it.n 0 env S1) q fun as env m S1 as1 H1 J re rel ok g1 => by
    refine ⟨fun i n σ H => ∃ as env S, Ex X.K as1 H1 as H ∧ Re X.K as H σ env ∧ Rel X.K as S H ∧ GoS X.K X.mg W (forI m g b n i env S) as H Dn, ⟨m.n, as1, env, S1, Ex.refl, re, rel, g1⟩, ?_⟩
    rintro i n σ H ⟨as, env, S, x, re, rel, gg⟩
    cases n with
    | zero =>
      unfold forI at gg
      split at gg
      · rename_i e1
        exact .inl ⟨ok.stop as S H i x rel e1, gg as H σ Ex.refl rel re⟩
      · exact gg.elim
    | succ n =>
      unfold forI at gg
      split at gg
      · rename_i e1
        exact .inl ⟨ok.stop as S H i x rel e1, gg as H σ Ex.refl rel re⟩
      · rename_i d e1
        obtain ⟨h1, h2⟩ := ok.go as S H i d x rel e1
        refine .inr ⟨h1, fun σ' H' => ∃ as env S, Ex X.K as1 H1 as H' ∧ Re X.K as H' σ' env ∧ Rel X.K as S H' ∧ GoS X.K X.mg W (forI m g b n (i + 1) env S) as H' Dn, fun σ' H' q => ⟨n, Nat.lt_succ_self n, q⟩, fun y H' hy => ?_⟩
        obtain ⟨x1, rel1, rv⟩ := h2 y H' hy
        cases e2 : g d env S with
        | none => rw [e2] at gg; exact gg.elim
        | some env1 =>
          rw [e2] at gg
          dsimp only at gg
          have gg' := GoS.later x1 gg
          refine ⟨as, env, S, d, env1, re.mono x1, rel1, rv, e2, fun σ' re' => ⟨as, env1, S, re', rel1, ?_⟩⟩
          cases e : b env1 S with
          | nx env2 S2 => rw [e] at gg'; exact fun as2 H2 σ2 y r q => ⟨as2, env2, S2, (x.trans x1).trans y, q, r, GoS.later y gg'⟩
          | ct env2 S2 => rw [e] at gg'; exact fun as2 H2 σ2 y r q => ⟨as2, env2, S2, (x.trans x1).trans y, q, r, GoS.later y gg'⟩
          | bk env2 S2 => rw [e] at gg'; exact gg'
          | rt d S2 => rw [e] at gg'; exact gg'
          | ex x env2 S2 => rw [e] at gg'; exact gg'
          | no => rw [e] at gg'; exact gg'.elim
      · exact gg.elim⟩
end
end Mi

namespace Mi
open PySem PySem.Spec PyProof.Rows L2

/-! ### comprehensions -/
def noEx {α : Type} : R α → R α
  | .ex _ _ => .no
  | x => x
def wipeE (env : Env) : List Nat → Env
  | [] => env
  | v :: vs => (wipeE env vs).set v none
theorem wipe_get {σ : L2.St} {i : Nat} : ∀ {vs : List Nat}, (wipe σ vs)[i]? = if i ∈ vs ∧ i < σ.length then some none else σ[i]?
  | [] => by simp [wipe]
  | v :: vs => by
    unfold wipe
    by_cases h : v = i
    · subst h
      by_cases hl : v < σ.length
      · rw [List.getElem?_set_self (by rw [wipe_length]; exact hl), if_pos ⟨List.mem_cons_self .., hl⟩]
      · rw [List.getElem?_eq_none (by rw [List.length_set, wipe_length]; omega), if_neg (fun h => hl h.2), List.getElem?_eq_none (by omega)]
    · rw [List.getElem?_set_ne h, wipe_get]
      have : (i ∈ v :: vs) ↔ i ∈ vs := by simp only [List.mem_cons]; exact ⟨fun q => q.elim (fun z => absurd z.symm h) id, .inr⟩
      simp only [this]
theorem wipe_set {σ : L2.St} {i : Nat} {x : Option V} {vs : List Nat} (h : i ∈ vs) : wipe (σ.set i x) vs = wipe σ vs := by
  refine List.ext_getElem? fun j => ?_
  rw [wipe_get, wipe_get, List.length_set]
  by_cases hj : j ∈ vs ∧ j < σ.length
  · rw [if_pos hj, if_pos hj]
  · rw [if_neg hj, if_neg hj]
    by_cases hij : i = j
    · subst hij
      have : ¬ i < σ.length := fun z => hj ⟨h, z⟩
      rw [List.getElem?_eq_none (by rw [List.length_set]; omega), List.getElem?_eq_none (by omega)]
    · rw [List.getElem?_set_ne hij]
theorem wipe_wipe {σ : L2.St} {vs : List Nat} : wipe (wipe σ vs) vs = wipe σ vs := by
  refine List.ext_getElem? fun j => ?_
  rw [wipe_get, wipe_get, wipe_length]
  by_cases hj : j ∈ vs ∧ j < σ.length
  · rw [if_pos hj, if_pos hj]
  · rw [if_neg hj]
theorem Re.wipe {K : PySem.W.Frag} {as : List Addr} {H : Hp} {σ : L2.St} {env : Env} (r : Re K as H σ env) : ∀ vs : List Nat, Re K as H (L2.wipe σ vs) (wipeE env vs)
  | [] => r
  | v :: vs => by unfold L2.wipe wipeE; exact (Re.wipe r vs).unset
section
variable {K : PySem.W.Frag} {mg : Str → Option Value} {W : WX} {as as1 : List Addr} {H H1 : Hp} {S : Sto} {σ σ2 : L2.St}
theorem Go.bind0 {α β γ δ : Type} {Ra : List Addr → Hp → β → α → Prop} {Rc : List Addr → Hp → δ → γ → Prop} {x : R α} {f : α → Sto → R γ} {Q : δ → Hp → Prop} {Q1 : β → Hp → Prop} (h : Go K mg W Rc ((noEx x).bind f) as H σ Q)
    (k : ∀ d S1 as1 H1 v, Ex K as H as1 H1 → Rel K as1 S1 H1 → Ra as1 H1 v d → Go K mg W Rc (f d S1) as1 H1 σ Q → Q1 v H1) : Go K mg W0 Ra x as H σ2 Q1 := by
  cases x with
  | ok d S' => exact fun as' H' v y r q => k d S' as' H' v y r q (Go.later y h)
  | ex e S' => exact h.elim
  | no => exact h
end
/-- a comprehension's target: it sets the slots vs alone -/
def gUc (K : PySem.W.Frag) (g : MG) (vs : List Nat) : TG := fun v σ H Q => ∃ as env S d env', Re K as H σ env ∧ Rel K as S H ∧ Rv K as H v d ∧ g d env S = some env' ∧ ∀ σ', Re K as H σ' env' → L2.wipe σ' vs = L2.wipe σ vs → Q σ' H
def gUcs (K : PySem.W.Frag) (g : MGs) (vs : List Nat) : TGs := fun v σ H Q => ∃ as env S d env', Re K as H σ env ∧ Rel K as S H ∧ Rvs K as H v d ∧ g d env S = some env' ∧ ∀ σ', Re K as H σ' env' → L2.wipe σ' vs = L2.wipe σ vs → Q σ' H
structure GC (X : Cx) (tg : Expr) (g : MG) (vs : List Nat) : Prop where
  pg : PG X tg (gUc X.K g vs)
structure GCs (X : Cx) (tg : List Expr) (g : MGs) (vs : List Nat) : Prop where
  pg : PGs X tg (gUcs X.K g vs)
structure TMs (X : Cx) (W : WX) (ifs : List Expr) (m : MT) : Prop where
  pt : PTs X ifs (tU X.K X.mg W Rb m)
section
variable {X : Cx} {W : WX}
theorem gc_n (i : Nat) {x : Str} {pos : Pos} {vs : List Nat} (hN : X.N.Nodup) (hm : i ∈ vs := by decide) (hi : X.N[i]? = some x := by rfl) (hx : Loc X.env.scope x := by first | exact Or.inl rfl | exact Or.inr rfl) (hf : X.fn x = true ∨ X.env.scope.names.lookup x = some .local := by first | exact .inl rfl | exact .inr rfl | assumption) :
    GC X (.Name x pos) (gN i) vs := ⟨pg_imp (pg_name hN hi hx hf) fun v σ H Q ⟨as, env, S, d, env', re, rel, rv, e, q⟩ => by cases e; exact q _ (re.set rv) (wipe_set hm)⟩
theorem gcs_nil {vs : List Nat} : GCs X [] gsNil vs := ⟨pgs_imp pgs_nil fun _ σ H Q ⟨as, env, S, ds, env', re, rel, rv, e, q⟩ => by
  cases ds with
  | nil => cases rv; cases e; exact ⟨rfl, q _ re rfl⟩
  | cons _ _ => cases e⟩
theorem gcs_cons {e : Expr} {es : List Expr} {g : MG} {r : MGs} {vs : List Nat} (h1 : GC X e g vs) (h2 : GCs X es r vs) (hs : (assignEach (e :: es) X.env).map (·.2) = assign e X.env :: (assignEach es X.env).map (·.2) := by rfl) : GCs X (e :: es) (gsCons g r) vs :=
  ⟨pgs_imp (pgs_cons h1.pg h2.pg hs) fun _ σ H Q ⟨as, env, S, ds, env', re, rel, rv, e0, q⟩ => by
    cases ds with
    | nil => cases e0
    | cons d ds =>
      cases rv with
      | cons r1 r2 =>
        unfold gsCons at e0
        dsimp only at e0
        cases e1 : g d env S with
        | none => rw [e1] at e0; cases e0
        | some env1 =>
          rw [e1] at e0
          exact ⟨_, _, rfl, as, env, S, d, env1, re, rel, r1, e1, fun σ1 re1 w1 => ⟨as, env1, S, ds, env', re1, rel, r2, e0, fun σ' re' w' => q σ' re' (w'.trans w1)⟩⟩⟩
theorem gc_tup {es : List Expr} {k : Nat} {r : MGs} {n : Nat} {pos : Pos} {vs : List Nat} (hc : X.calm = true) (h : GCs X es r vs)
    (hn : (assignEach es X.env).length = n := by rfl) (hst : (assignEach es X.env).findIdx? (·.1) = none := by rfl) : GC X (.Tuple es k pos) (gT n r) vs :=
  ⟨pg_imp (pg_tup hc h.pg hn hst) fun v σ H Q ⟨as, env, S, d, env', re, rel, rv, e, q⟩ => by
    cases d <;> first | (cases e; done) | skip
    rename_i ds
    unfold gT at e
    dsimp only at e
    by_cases hl : ds.length = n
    · rw [if_pos hl] at e
      obtain ⟨a, xs, rfl, ha, ra⟩ := rv.tup_
      exact ⟨a, xs, rfl, ha, by rw [ra.len]; exact hl, as, env, S, ds, env', re, rel, ra, e, q⟩
    · rw [if_neg hl] at e; cases e⟩
def tAll : MT := fun _ S => .ok true S
theorem pts_imp {es : List Expr} {t t' : TT} (h : PTs X es t) (i : ∀ σ H Q, t' σ H Q → t σ H Q) : PTs X es t' := ⟨fun pins s σ H Q I q => h.run pins s σ H Q I (i σ H Q q)⟩
theorem tms_nil : TMs X W [] tAll := ⟨pts_imp pts_nil fun σ H Q ⟨as, env, S, re, rel, g⟩ => g as H true Ex.refl rel rfl⟩
theorem tms_one {c : Expr} {m : MT} (h : TM X W c m) : TMs X W [c] m := ⟨pts_one h.pt⟩
end
/-- the block's turns: j the new list -/
def lcI (it : MIt) (g : MG) (t : MT) (e : ME) (j : Nat) : Nat → Nat → Env → Sto → R D
  | 0, i, _, S => (match it.f i S with
    | some none => .ok (.obj j) S
    | _ => .no)
  | n + 1, i, env, S => (match it.f i S with
    | some none => .ok (.obj j) S
    | some (some d) => (match g d env S with
      | some env1 => (noEx (t env1 S)).bind fun c S2 => if c = true then (noEx (e env1 S2)).bind fun y S3 => (match S3[j]? with
          | some (.lst acc) => if acc.length < sizeLine then lcI it g t e j n (i + 1) env (S3.set j (.lst (acc ++ [y]))) else .no
          | _ => .no) else lcI it g t e j n (i + 1) env S2
      | none => .no)
    | none => .no)
def kLc (g : MG) (t : MT) (e : ME) (vs : List Nat) (env : Env) (it : MIt) (S1 : Sto) : R D := lcI it g t e S1.length it.n 0 (wipeE env vs) (S1 ++ [.lst []])
def mLc (a : MI) (g : MG) (t : MT) (e : ME) (vs : List Nat) : ME := fun env S => (a env S).bind (kLc g t e vs env)
section
variable {X : Cx} {W : WX}
/-- what the rule of a comprehension asks -/
theorem lc_reads {wi : TI} {mi : MI} {g : MG} {t : MT} {e : ME} {vs : List Nat} {σ : L2.St} {H : Hp} {Q : VK} (hw : wi = tU X.K X.mg W (ItOk X.K) mi)
    (q : tU X.K X.mg W (Rv X.K) (mLc mi g t e vs) σ H Q) : tLc wi (gUc X.K g vs) (tU X.K X.mg W0 Rb t) (tU X.K X.mg W0 (Rv X.K) e) vs σ H Q := by
  subst hw
  refine tU_bind (f := kLc g t e vs) q fun as env it S1 as1 H1 J re rel ok gg => ?_
  intro p hp
  obtain ⟨rel0, x0, hj0⟩ := new_lst (vs := []) (ds := []) rel hp .nil
  generalize hj : S1.length = j at *
  unfold kLc at gg
  rw [hj] at gg
  refine ⟨fun i n H => ∃ as S, Ex X.K (as1 ++ [p]) (upd H1 p (.lst [])) as H ∧ Rel X.K as S H ∧ Go X.K X.mg W (Rv X.K) (lcI it g t e j n i (wipeE env vs) S) as H σ Q, ⟨it.n, as1 ++ [p], _, Ex.refl, rel0, Go.later x0 gg⟩, ?_⟩
  rintro i n H ⟨as, S, x, rel, gg⟩
  have xx := x0.trans x
  cases n with
  | zero =>
    unfold lcI at gg
    split at gg
    · rename_i e1
      exact .inl ⟨ok.stop as S H i xx rel e1, gg as H _ Ex.refl rel (.obj (x.pre _ _ hj0))⟩
    · exact gg.elim
  | succ n =>
    unfold lcI at gg
    split at gg
    · rename_i e1
      exact .inl ⟨ok.stop as S H i xx rel e1, gg as H _ Ex.refl rel (.obj (x.pre _ _ hj0))⟩
    · rename_i d e1
      obtain ⟨h1, h2⟩ := ok.go as S H i d xx rel e1
      refine .inr ⟨h1, fun H' => ∃ as S, Ex X.K (as1 ++ [p]) (upd H1 p (.lst [])) as H' ∧ Rel X.K as S H' ∧ Go X.K X.mg W (Rv X.K) (lcI it g t e j n (i + 1) (wipeE env vs) S) as H' σ Q, fun H' q => ⟨n, Nat.lt_succ_self n, q⟩, fun y H' hy => ?_⟩
      obtain ⟨x1, rel1, rv⟩ := h2 y H' hy
      cases e2 : g d (wipeE env vs) S with
      | none => rw [e2] at gg; exact gg.elim
      | some env1 =>
        rw [e2] at gg
        dsimp only at gg
        have reW : Re X.K as H' (L2.wipe σ vs) (wipeE env vs) := (re.mono (xx.trans x1)).wipe vs
        refine ⟨as, _, S, d, env1, reW, rel1, rv, e2, fun σ2 re2 w2 => ⟨w2.trans wipe_wipe, as, env1, S, re2, rel1, ?_⟩⟩
        refine Go.bind0 (Go.later x1 gg) fun c S2 as2 H2 b x2 r2 rb g2 => ?_
        cases rb
        cases c with
        | false =>
          rw [if_neg Bool.false_ne_true] at g2 ⊢
          exact ⟨as2, S2, (x.trans x1).trans x2, r2, g2⟩
        | true =>
          rw [if_pos rfl] at g2 ⊢
          refine ⟨as2, env1, S2, re2.mono x2, r2, ?_⟩
          refine Go.bind0 g2 fun yd S3 as3 H3 yv x3 r3 ry g3 => ?_
          split at g3
          · rename_i acc e4
            have hj3 : as3[j]? = some p := x3.pre _ _ (x2.pre _ _ (x1.pre _ _ (x.pre _ _ hj0)))
            obtain ⟨vacc, hv, ra⟩ := r3.ob j p _ hj3 e4
            refine ⟨vacc, hv, ?_⟩
            by_cases hl : acc.length < sizeLine
            · rw [if_pos hl] at g3
              refine ⟨by rw [ra.len]; exact hl, ?_⟩
              have hmut : L2.Mut (H3 p) := by rw [hv]; exact True.intro
              obtain ⟨r4, x4⟩ := r3.put (u := .lst (acc ++ [yd])) (o := .lst (vacc ++ [yv])) hj3 e4 rfl rfl ⟨_, upd_same, (ra.append (.cons ry .nil)).mono (Ex.mut hmut)⟩
              exact ⟨as3, _, (((x.trans x1).trans x2).trans x3).trans x4, r4, Go.later x4 g3⟩
            · rw [if_neg hl] at g3; exact g3.elim
          · exact g3.elim
    · exact gg.elim
theorem em_lc {elt tg iter : Expr} {ifs : List Expr} {scope : Scope} {own : List (Str × Nat)} {pos : Pos} {mi : MI} {g : MG} {t : MT} {e : ME} (vs : List Nat) (hc : X.calm = true) (hN : X.N.Nodup) (hi : IM X W tg iter mi) (ok : BlkOk X.N X.env.scope scope own)
    (hg : ∀ (s : Shared) (H : Hp) (C : Addr) (cl : List (Str × Addr)) (fp : List Addr), GC (X.blk s H scope (compEnvC scope cl C X.env) fp) tg g vs) (ht : ∀ (s : Shared) (H : Hp) (C : Addr) (cl : List (Str × Addr)) (fp : List Addr), TMs (X.blk s H scope (compEnvC scope cl C X.env) fp) W0 ifs t)
    (he : ∀ (s : Shared) (H : Hp) (C : Addr) (cl : List (Str × Addr)) (fp : List Addr), EM (X.blk s H scope (compEnvC scope cl C X.env) fp) W0 elt e) (hv : own.map (·.2) = vs := by rfl) (hs : ∀ x, foldedSetIterable iter X.env x = pure x := by intro _; rfl) :
    EM X W (.ListComp elt [⟨tg, iter, ifs, 0⟩] scope pos) (mLc mi g t e vs) := by
  subst hv
  exact ⟨pe_imp (pe_lc (g := gUc X.K g (own.map (·.2))) (tt := tU X.K X.mg W0 Rb t) (te := tU X.K X.mg W0 (Rv X.K) e) hc hN hi.pi ok (fun s H C cl fp => (hg s H C cl fp).pg) (fun s H C cl fp => (ht s H C cl fp).pt) (fun s H C cl fp => (he s H C cl fp).pe) hs) fun σ H Q q => lc_reads rfl q⟩
theorem sm_setLc (i : Nat) {y : Str} {py : Pos} {elt tg iter : Expr} {ifs : List Expr} {scope : Scope} {own : List (Str × Nat)} {pos spos : Pos} {mi : MI} {g : MG} {t : MT} {e : ME} (vs : List Nat) (hc : X.calm = true) (hN : X.N.Nodup) (hi : IM X W tg iter mi) (ok : BlkOk X.N X.env.scope scope own)
    (hg : ∀ (s : Shared) (H : Hp) (C : Addr) (cl : List (Str × Addr)) (fp : List Addr), GC (X.blk s H scope (compEnvC scope cl C X.env) fp) tg g vs) (ht : ∀ (s : Shared) (H : Hp) (C : Addr) (cl : List (Str × Addr)) (fp : List Addr), TMs (X.blk s H scope (compEnvC scope cl C X.env) fp) W0 ifs t)
    (he : ∀ (s : Shared) (H : Hp) (C : Addr) (cl : List (Str × Addr)) (fp : List Addr), EM (X.blk s H scope (compEnvC scope cl C X.env) fp) W0 elt e) (hv : own.map (·.2) = vs := by rfl)
    (hy : X.N[i]? = some y := by rfl) (hyl : X.env.scope.names.lookup y = some .local := by rfl) (hk : X.env.scope.kind = .function := by rfl) (hl : (py.line == pos.line) = true := by rfl) (ha : (scope.names.any fun (n, k) => n == y && (k == .local || k == .cell)) = false := by rfl)
    (hs : ∀ x, foldedSetIterable iter X.env x = pure x := by intro _; rfl) :
    SM X W (.Assign [.Name y py] (.ListComp elt [⟨tg, iter, ifs, 0⟩] scope pos) spos) (sSet i (mLc mi g t e vs)) := by
  subst hv
  refine ⟨ps_imp (ps_setLc (g := gUc X.K g (own.map (·.2))) (tt := tU X.K X.mg W0 Rb t) (te := tU X.K X.mg W0 (Rv X.K) e) hc hN hy hyl (sw_true hk hyl hl ha) hi.pi ok (fun s H C cl fp => (hg s H C cl fp).pg) (fun s H C cl fp => (ht s H C cl fp).pt) (fun s H C cl fp => (he s H C cl fp).pe) hs) fun Dn σ H q => ?_⟩
  have q2 : tU X.K X.mg W (Rv X.K) (mLc mi g t e (own.map (·.2))) σ H fun x H1 => gName i x σ H1 Dn.nx := tS_of (f := fun env d S1 => .nx (env.set i (some d)) S1) q fun as env d S1 as1 H1 v re rel rv g => g as1 H1 _ Ex.refl rel (re.set rv)
  exact lc_reads rfl q2
end
end Mi

namespace Mi
open PySem PySem.Spec PyProof.Rows L2
/-! ### a call without arguments -/
section
variable {X : Cx} {W : WX}
def mCall0 (m : MFn) : ME := fun _ S => noEx (m [] S)
theorem em_call0 {k j : Nat} {x : Str} {m : MFn} {p pos : Pos} (c : Cal X.prog X.w X.K X.mg X.base k x m) (hr : Room j X.A) (hk : k ≤ j := by decide) (hg : Gl X x := by rfl)
    (hdb : (x == ("__debug__" : Str)) = false := by decide) : EM X W (.Call (.Name x p) [] [] pos) (mCall0 m) := by
  obtain ⟨f, fd, ps, F, hm, hkp, hb⟩ := c.ex
  refine ⟨pe_imp (pe_call0 (E := fun _ _ _ => False) F (hr.mono hk) hg hm hkp hb .nil (fun _ _ _ _ _ _ _ h => by obtain ⟨_, _, _, _, _, _, _, _, _, _, _, _, z⟩ := h; exact z.elim) hdb) fun σ H Q ⟨as, env, S, re, rel, g⟩ => ?_⟩
  refine ⟨as, [], S, .nil, rel, ?_⟩
  unfold mCall0 at g
  cases e : m [] S with
  | ok d S' => rw [e] at g; exact g
  | ex _ _ => rw [e] at g; exact g.elim
  | no => rw [e] at g; exact g.elim
/-! ### str * int -/
def strMul (x : Str) (n : Nat) : Str := ⟨(List.replicate n x.cps).foldl (· ++ ·) #[]⟩
theorem foldl_size {α : Type} (c : Array α) : ∀ (n : Nat) (a : Array α), ((List.replicate n c).foldl (· ++ ·) a).size = a.size + c.size * n
  | 0, a => by simp
  | n + 1, a => by rw [List.replicate_succ, List.foldl_cons, foldl_size c n, Array.size_append, Nat.mul_succ]; omega
theorem foldl_nil {α : Type} : ∀ (n : Nat) (a : Array α), (List.replicate n (#[] : Array α)).foldl (· ++ ·) a = a
  | 0, a => rfl
  | n + 1, a => by rw [List.replicate_succ, List.foldl_cons, foldl_nil n, Array.append_empty]
theorem strMul_len (x : Str) (n : Nat) : (strMul x n).length = x.length * n := by
  have h := foldl_size x.cps n #[]
  rw [show (#[] : Array Nat).size = 0 from rfl, Nat.zero_add] at h
  exact h
def fMulS : F2 := fun d e S => match d, e with
  | .str x, .int n => if -(2 ^ 63) ≤ n ∧ n < 2 ^ 63 ∧ x.length * n.toNat ≤ sizeLine then some (.str (strMul x n.toNat), S) else none
  | _, _ => none
theorem op_fMulS : OpR X (binaryOp .Mult) (rF X.K fMulS) := by
  intro pins s σ H x y v u Q I r r' ⟨as, S, d, e, z, S', rel, rx, ry, hf, q⟩
  cases d <;> cases e <;> try (cases hf; done)
  case str.int x n =>
    unfold fMulS at hf
    dsimp only at hf
    by_cases hl : -(2 ^ 63) ≤ n ∧ n < 2 ^ 63 ∧ x.length * n.toNat ≤ sizeLine
    · rw [if_pos hl] at hf
      cases hf
      obtain ⟨h1, h2, h3⟩ := hl
      cases rx.str_
      cases ry.int_
      obtain ⟨t, rfl⟩ := r
      obtain ⟨t', rfl⟩ := r'
      have hz : PySem.Builtin.Str.tooLong (x.length * n.toNat) = false := decide_eq_false (Nat.not_lt.mpr h3)
      refine PySem.P.mul_str ?_ (fun hn hx => ?_) (fun _ _ => hz) ?_
      · rw [decide_eq_false (Int.not_lt.mpr h1), decide_eq_false (by omega : ¬ n ≥ 2 ^ 63)] <;> rfl
      · have h5 : (x.length : Int) * n ≤ (sizeLine : Int) := by
          have : n = (n.toNat : Int) := by omega
          rw [this, ← Int.natCast_mul]
          exact Int.ofNat_le.mpr h3
        have h6 : (sizeLine : Int) ≤ 2 ^ 63 - 1 := by rw [sizeLine_eq]; decide
        have h7 : (x.length : Int) ≤ (2 ^ 63 - 1) / n := (Int.le_ediv_iff_mul_le (by omega)).mpr (Int.le_trans h5 h6)
        omega
      · by_cases hn : n < 1
        · rw [if_pos hn]
          have e0 : n.toNat = 0 := by omega
          refine ⟨by decide, .str Str.empty, H, I.tok _, ⟨_, rfl⟩, ?_⟩
          have q0 := q as H (.str (strMul x n.toNat)) Ex.refl rel (.str _)
          rw [e0] at q0
          exact q0
        · rw [if_neg hn]
          by_cases hx : (n == 1 || x.length == 0) = true
          · rw [if_pos hx]
            refine ⟨.str x, H, I, ⟨_, rfl⟩, ?_⟩
            have q0 := q as H (.str (strMul x n.toNat)) Ex.refl rel (.str _)
            have ex : strMul x n.toNat = x := by
              rw [Bool.or_eq_true] at hx
              rcases hx with hx | hx
              · have : n = 1 := by simpa using hx
                subst this
                show (⟨#[] ++ x.cps⟩ : Str) = x
                rw [Array.empty_append]
              · have h0 : x.cps = #[] := Array.eq_empty_of_size_eq_zero (show x.length = 0 by simpa using hx)
                unfold strMul
                obtain ⟨c⟩ := x
                simp only at h0
                subst h0
                rw [foldl_nil]
            rw [ex] at q0
            exact q0
          · rw [if_neg hx]
            exact ⟨by rw [show (Str.length ⟨_⟩ : Nat) = (strMul x n.toNat).length from rfl, strMul_len]; exact h3, .str (strMul x n.toNat), H, I.tok _, ⟨_, rfl⟩, q as H _ Ex.refl rel (.str _)⟩
    · rw [if_neg hl] at hf; cases hf
end
/-! ### list(str) -/
def signsD (z : Str) : List D := z.cps.toList.map fun c => .str ⟨#[c]⟩
def fList2 : F1 := fun d S => match d with
  | .str z => if z.length ≤ sizeLine then some (.obj S.length, S ++ [.lst (signsD z)]) else none
  | d => fList d S
section
variable {X : Cx} {W : WX}
theorem vals_sgn : ∀ (cs : List Nat) (its : List Value), its.length = cs.length → (∀ (j : Nat) (v : Value), its[j]? = some v → ∃ (c : Nat) (u : Tok), cs[j]? = some c ∧ v = Value.str ⟨#[c]⟩ u) → Vals (cs.map fun c => V.str ⟨#[c]⟩) its
  | [], [], _, _ => .nil
  | [], _ :: _, h, _ => by simp at h
  | _ :: _, [], h, _ => by simp at h
  | c :: cs, v :: its, h, hi => by
    obtain ⟨c', u, h1, h2⟩ := hi 0 v rfl
    have h1' : some c = some c' := h1
    cases h1'
    subst h2
    exact .cons ⟨u, rfl⟩ (vals_sgn cs its (by simpa using h) fun j w hj => hi (j + 1) w hj)
theorem call_list_sgn (hc : X.calm = true) : CallR X (.type "list") (fun xs H Q => ∃ z : Str, xs = [.str z] ∧ z.length ≤ sizeLine ∧ ∀ l, H l = none → Q (.ref l) (upd H l (.lst (z.cps.toList.map fun c => .str ⟨#[c]⟩)))) := by
  intro pins s σ H xs us Q I r h
  obtain ⟨z, rfl, hz, q⟩ := h
  obtain ⟨u, rfl, t, rfl⟩ := vals1 r
  refine PySem.call_list_str (I.ok.hd hc) z t (fun h' tk acc' c' k e hi => ?_) hz
  have hn : H s.heap.objs.size = none := I.hok.fresh (Nat.le_refl _)
  have hv : Vals (z.cps.toList.map fun c => V.str ⟨#[c]⟩) acc'.toList := by
    refine vals_sgn _ _ (by rw [Array.length_toList, Array.length_toList]; exact hi.1) fun j v hj => ?_
    obtain ⟨c, u, h1, h2⟩ := hi.2 j v (by rw [← Array.getElem?_toList]; exact hj)
    exact ⟨c, u, by rw [Array.getElem?_toList]; exact h1, h2⟩
  have new : ObjOk X.prog X.w (upd H s.heap.objs.size (.lst (z.cps.toList.map fun c => V.str ⟨#[c]⟩))) h' s.heap.objs.size (.lst (z.cps.toList.map fun c => V.str ⟨#[c]⟩)) :=
    ⟨by rw [List.length_map, Array.length_toList]; exact hz, acc'.toList, c', hv, by simpa using e⟩
  exact ⟨.ref s.heap.objs.size, _, I.laid (t' := tk) k (Nat.le_refl _) new, rfl, q _ hn⟩
theorem call_fList2 (hc : X.calm = true) : CallR X (.type "list") (rFL X.K (f1L fList2)) := by
  refine call_imp (call_or (call_list_sgn hc) (call_fList (X := X))) fun xs H Q ⟨as, S, ds, z, S', rel, rs, hf, q⟩ => ?_
  obtain ⟨x, d, ex, rx, hf'⟩ := f1L_inv rs hf
  cases d with
  | str z0 =>
    unfold fList2 at hf'
    dsimp only at hf'
    by_cases hl : z0.length ≤ sizeLine
    · rw [if_pos hl] at hf'
      cases hf'
      subst ex
      refine .inl ⟨z0, by rw [rx.str_], hl, fun p hp => ?_⟩
      have rv : Rvs X.K as H (z0.cps.toList.map fun c => V.str ⟨#[c]⟩) (signsD z0) := Rvs.map (fun c => .str _) _
      obtain ⟨r1, x1, e1⟩ := new_lst rel hp rv
      exact q _ _ _ x1 r1 (.obj e1)
    · rw [if_neg hl] at hf'; cases hf'
  | _ => subst ex; exact .inr ⟨as, S, [_], z, S', rel, .cons rx .nil, hf', q⟩
end
/-! ### a class's constant, its static method -/
section
variable {X : Cx} {W : WX}
open ClX
/-- C.f is v, wherever it is read -/
theorem em_cval {x f : Str} {C : Addr} {mc : Value} {v : V} {u : Value} {d : D} {p pos : Pos} (r : CRead X.K C mc) (k : CVal X.K C mc f v u) (hm : X.mg x = some (.ref C)) (rd : ∀ as H, Rv X.K as H v d) (hg : Gl X x := by rfl) (hd : (x == ("__debug__" : Str)) = false := by decide)
    (hb : attributeBase (.Name x p) f X.env (eval (.Name x p) X.env) = eval (.Name x p) X.env := by rfl) : EM X W (.Attribute (.Name x p) f pos) (mC d) :=
  ⟨pe_imp (pe_cval (pe_glob (v := .ref C) hg hm rfl hd) hb) fun σ H Q ⟨as, env, S, re, rel, g⟩ => ⟨C, mc, v, u, rfl, r, k, g as H v Ex.refl rel (rd as H)⟩⟩
/-- a static method m of the class x -/
structure Sta (P : Program) (w : World) (K : PySem.W.Frag) (mg : Str → Option Value) (base : Heap) (k : Nat) (x m : Str) (f : MFn) : Prop where
  ex : ∃ (C p g : Addr) (mc : Value) (fd : FuncData) (ps : List Str), CRead K C mc ∧ PySem.W.findCls K (.ref C) mc m = some (.get (.builtin "staticmethod.__get__") (.ref p) .none (.ref C)) ∧ (∃ rest, PySem.W.recIn K p "staticmethod" = some (.ref g :: rest)) ∧
    FnOk P w K mg base (L2.CX P w) k g fd ps (spM K mg f) ∧ mg x = some (.ref C) ∧ PySem.W.keepIn K (.ref g) = true ∧ Binds K fd ps []
theorem em_sta {k j : Nat} {x m : Str} {f : MFn} {e : Expr} {es : List Expr} {a : MA} {p apos pos : Pos} {pl : Sem Bool} (c : Sta X.prog X.w X.K X.mg X.base k x m f) (hr : Room j X.A) (tk : Takes X W) (ha : AM X W (e :: es) a) (hk : k ≤ j := by decide) (hg : Gl X x := by rfl)
    (hdb : (x == ("__debug__" : Str)) = false := by decide) (hst : starEach (e :: es) X.env = (false, eval e X.env) :: starEach es X.env := by rfl) (hpl : (backTo pos (starEach es X.env)).any (·.1) = false := by rfl)
    (ht : eval (.Call (.Attribute (.Name x p) m apos) (e :: es) [] pos) X.env = (do
      let ov ← eval (.Name x p) X.env
      standAt apos.atName
      let (f, first) ← holding [ov] (getMethod ov m pl)
      callWith pos f first (backTo pos (starEach (e :: es) X.env)) (backToKw pos (keywordEach [] X.env))) := by rfl) :
    EM X W (.Call (.Attribute (.Name x p) m apos) (e :: es) [] pos) (mCall f a) := by
  obtain ⟨C, q, g, mc, fd, ps, r, hf, ⟨rest, hrc⟩, F, hm, hkp, hb⟩ := c.ex
  refine ⟨⟨fun pins s σ H Q I h => ?_⟩⟩
  refine PySem.W.methodCall_KW (pl := pl) (ld_glob I hg hm ?_ hdb) ht
  refine PySem.W.method_cls I.kIn r.ga (PySem.W.cls_bind I.kIn r.rd hf ?_)
  refine wpAny_call (PySem.W.sm_get (s := { s with toks := s.toks + 1 }) I.kIn hrc (PySem.W.handed_on rfl ?_))
  have I1 := I.tok (s.toks + 1)
  have hq : tU X.K X.mg W (Rvs X.K) a σ H (fun vs H1 => spM X.K X.mg f vs H1 Q (WE W σ)) := tU_bind (f := fun _ => f) h fun as env ds S1 as1 H1 vs re rel rv gg => ⟨as1, ds, S1, rv, rel, gg.wish fun _ _ _ z => z⟩
  refine PySem.W.callWith_K (h₀ := X.base) I.ok.mod.kin hkp (thn (ha.pa.run pos pins _ σ H _ I1 hq) fun us s1 ⟨vs, H1, I2, rv, q2⟩ => ⟨I2.kIn, ?_⟩) hst hpl
  exact run_fnS F (hr.mono hk) hb (passAt tk σ) I2 rv q2
end
end Mi

namespace Mi
open PySem PySem.Spec PyProof.Rows L2

/-! ### the head's facts, read off a part of the heap -/
abbrev ga := He.ga
abbrev FnV : Type := Option (Str × Str × Arguments × FuncBody × Scope × Addr × Addr × List Str)
/-- the function object at a, without its cells -/
def fnV (K : PySem.W.Frag) (a : Addr) : FnV := match K.lookup a with
  | some ⟨_, _, .func fd, _⟩ => some (fd.name, fd.qualname, fd.params, fd.body, fd.scope, fd.globals, fd.builtins, fd.closure.map (·.1))
  | _ => none
/-- one def: where it stands, what the text says of it -/
structure FnM where
  adr : PySem.W.Frag → Addr
  name : Str
  qual : Str
  params : Arguments
  body : List Stmt
  scope : Scope
  clo : List Str := []
def FnM.val (d : FnM) : FnV := some (d.name, d.qual, d.params, .stmts d.body, d.scope, mainGlobals, builtinsNs, d.clo)
def noneB : Value → Bool
  | .none => true
  | _ => false
theorem noneB_ok {v : Value} (h : noneB v = true) : v = .none := by
  cases v <;> first | rfl | cases h
def FnM.ok (K : PySem.W.Frag) (d : FnM) : Bool := match K.lookup (d.adr K) with
  | some ⟨_, _, .func fd, _⟩ => PySem.W.codeIn K fd.code d.qual && noneB fd.defaults
  | _ => false
theorem ba {a b : Bool} (h : (a && b) = true) : a = true ∧ b = true := Bool.and_eq_true_iff.mp h
theorem FnM.at_ {K : PySem.W.Frag} {d : FnM} (e : fnV K (d.adr K) = d.val) (c : d.ok K = true) : ∃ (oc : Value) (od : Option Addr) (cl : List (Str × Addr)) (kV doc pm : Value) (an : Option Addr) (cdv ct : Value) (osl : Array (Option Value)),
    cl.map (·.1) = d.clo ∧ K.lookup (d.adr K) = some ⟨oc, od, .func (PySem.W.fnX d.name d.qual d.params d.body d.scope cl .none kV doc pm an cdv ct), osl⟩ ∧ PySem.W.codeIn K cdv d.qual = true := by
  unfold fnV at e
  unfold FnM.ok at c
  cases q : K.lookup (d.adr K) with
  | none => rw [q] at c; cases c
  | some o =>
    obtain ⟨oc, od, dt, osl⟩ := o
    rw [q] at c e
    cases dt with
    | func fd =>
      obtain ⟨n1, n2, n3, n4, n5, n6, n7, n8, n9, n10, n11, n12, n13, n14, n15⟩ := fd
      have e2 : (some (n1, n2, n3, n4, n5, n6, n15, n7.map (·.1)) : FnV) = some (d.name, d.qual, d.params, .stmts d.body, d.scope, mainGlobals, builtinsNs, d.clo) := e
      simp only [Option.some.injEq, Prod.mk.injEq] at e2
      obtain ⟨h1, h2, h3, h4, h5, h6, h7, h8⟩ := e2
      subst h1 h2 h3 h4 h5 h6 h7
      obtain ⟨c1, c2⟩ := ba c
      have h9 : n8 = .none := noneB_ok c2
      subst h9
      exact ⟨oc, od, n7, n9, n10, n11, n12, n13, n14, osl, h8, rfl, c1⟩
    | _ => cases c
theorem FnM.funD {K : PySem.W.Frag} {d : FnM} (e : fnV K (d.adr K) = d.val) (c : d.ok K = true) (hk : PySem.W.keepIn K (.ref (d.adr K)) = true) (h0 : d.clo = []) : ∃ fd, FunD K d.name d.qual d.params d.body d.scope [] [] (d.adr K) fd := by
  obtain ⟨oc, od, cl, kV, doc, pm, an, cdv, ct, osl, h1, h2, h3⟩ := d.at_ e c
  rw [h0] at h1
  have hcl : cl = [] := List.map_eq_nil_iff.mp h1
  subst hcl
  exact ⟨_, ⟨oc, od, .none, kV, doc, pm, an, cdv, ct, osl, rfl, h2, h3, .inl ⟨rfl, rfl⟩, .inl rfl⟩, hk⟩
/-! exceptions -/
def oexB (K : PySem.W.Frag) (C : Addr) : Bool := match K.lookup C with
  | some ⟨.type "type", _, .cls cd, sl⟩ => (match cd.mro, sl.toList with
    | .ref C' :: bm, [_, _, _, _, some (.builtin n), _] => C' == C && n == "ValueError.__new__" && !cd.hasDel && PySem.HandSPX.refsVE bm && cd.hasDict
    | _, _ => false)
  | _ => false
theorem oexB_ok {K : PySem.W.Frag} {C : Addr} (q : oexB K C = true) : ∃ nm q N bs bm sn sub ab col dd k0 k1 k2 k3 k5, K.lookup C = some (excClassObj nm q C N bs bm true sn sub ab col dd k0 k1 k2 k3 k5 "ValueError.__new__") ∧ PySem.HandSPX.refsVE bm = true := by
  unfold oexB at q
  split at q
  · rename_i dd cd sl ho
    split at q
    · rename_i C' bm k0 k1 k2 k3 n k5 hm hs
      simp only [Bool.and_eq_true, beq_iff_eq, Bool.not_eq_true'] at q
      obtain ⟨⟨⟨⟨rfl, rfl⟩, hdel⟩, ht⟩, hd'⟩ := q
      obtain ⟨nm, bs, mro, ns, qn, hd, sn, sub, ab, col, del⟩ := cd
      dsimp only at hm hdel hd'
      subst hm hdel hd'
      have hsl : sl = #[k0, k1, k2, k3, some (.builtin "ValueError.__new__"), k5] := by
        obtain ⟨l⟩ := sl
        simp only at hs
        rw [hs]
      subst hsl
      exact ⟨nm, qn, ns, bs, bm, sn, sub, ab, col, dd, k0, k1, k2, k3, k5, ho, ht⟩
    · cases q
  · cases q
def OexB (K : PySem.W.Frag) (C : Addr) : Bool := oexB K C && (decide (PySem.W.findIn K (.ref C) "__setattr__" = some (some (.builtin "object.__setattr__"))) && (decide (PySem.W.subIn K (.ref C) (.type "BaseException") = some true) && (decide (PySem.W.typeIn K (.ref C) = some (.type "type")) && PySem.W.keepIn K (.ref C))))
theorem OexB_ok {K : PySem.W.Frag} {C : Addr} (h : OexB K C = true) : OexC K C := by
  obtain ⟨h1, h⟩ := ba h
  obtain ⟨h2, h⟩ := ba h
  obtain ⟨h3, h⟩ := ba h
  obtain ⟨h4, h5⟩ := ba h
  exact ⟨oexB_ok h1, of_decide_eq_true h2, of_decide_eq_true h3, of_decide_eq_true h4, h5⟩
/-- where the __init__ of the class x stands -/
def iniA (x : Str) (K : PySem.W.Frag) : Addr := He.ma K (ga K x) "__init__"
def cellB (K : PySem.W.Frag) (a C : Addr) : Bool := match K.lookup a with
  | some ⟨_, _, .cell (some (.ref C')), _⟩ => C' == C
  | _ => false
def fileB (K : PySem.W.Frag) (cdv : Value) (file : Str) : Bool := match cdv with
  | .ref c => (match K.lookup c with
    | some ⟨_, _, .fields vs, _⟩ => (match (vs[2]? : Option Value) with
      | some (Value.str f _) => file == f
      | _ => false)
    | _ => false)
  | _ => false
/-- what is asked of the class x with an __init__ of its own -/
def iniB (K : PySem.W.Frag) (file x : Str) : Bool := OexB K (ga K x) && (decide (PySem.W.findIn K (.ref (ga K x)) "__init__" = some (some (.ref (iniA x K)))) && (decide (PySem.W.typeIn K (.ref (iniA x K)) = some (.type "function")) && (
  decide (PySem.W.mroIn K (ga K x) (.ref (ga K x)) = some true) && (decide (PySem.W.ks_superIn K (ga K x) (ga K x) "__init__" = some (some (.builtin "ValueError.__init__"))) && (decide (PySem.W.subIn K (.ref (ga K x)) (.type "ValueError") = some true) && (
  decide (PySem.W.nsIn K cStatics "thirdparty.any" = some none) && (match K.lookup (iniA x K) with
    | some ⟨_, _, .func fd, _⟩ => fileB K fd.code file && (match fd.closure with
      | [(_, cc)] => cellB K cc (ga K x)
      | _ => false)
    | _ => false)))))))
theorem iniB_ok {K : PySem.W.Frag} {P : Program} {x : Str} {d : FnM} (e : fnV K (d.adr K) = d.val) (c : d.ok K = true) (hd : d.adr K = iniA x K) (hn : d.name = "__init__") (hc : d.clo = [("__class__" : Str)]) (h : iniB K P.main.file x = true) (htop : (P.main.scope.names.lookup ("super" : Str)).isSome = false) :
    ∃ cc, ExcF K P (ga K x) (iniA x K) cc d.qual d.params d.body d.scope := by
  obtain ⟨h1, h⟩ := ba h
  obtain ⟨h2, h⟩ := ba h
  obtain ⟨h3, h⟩ := ba h
  obtain ⟨h4, h⟩ := ba h
  obtain ⟨h5, h⟩ := ba h
  obtain ⟨h6, h⟩ := ba h
  obtain ⟨h7, h⟩ := ba h
  obtain ⟨oc, od, cl, kV, doc, pm, an, cdv, ct, osl, g1, g2, g3⟩ := d.at_ e c
  rw [hd] at g2
  rw [g2] at h
  obtain ⟨h8, h9⟩ := ba h
  rw [hc] at g1
  obtain ⟨⟨nm, cc⟩, rfl⟩ : ∃ p, cl = [p] := by
    match cl, g1 with
    | [p], _ => exact ⟨p, rfl⟩
  have e1 : nm = "__class__" := by simpa using g1
  subst e1
  rw [hn] at g2
  have h9' : cellB K cc (ga K x) = true := h9
  have h8' : fileB K cdv P.main.file = true := h8
  unfold cellB at h9'
  unfold fileB at h8'
  split at h8'
  · rename_i cd
    split at h8'
    · rename_i ccl cdd vs ccs hcd
      split at h8'
      · rename_i f tf hf
        split at h9'
        · rename_i a1 a2 C' a3 hcell
          have hC : C' = ga K x := by simpa using h9'
          rw [hC] at hcell
          exact ⟨cc, ⟨OexB_ok h1, of_decide_eq_true h2, of_decide_eq_true h3, ⟨oc, od, kV, doc, pm, an, cd, ct, osl, vs, f, tf, ccl, cdd, ccs, g2, g3, hcd, hf, h8'⟩, ⟨_, _, _, hcell⟩, of_decide_eq_true h4, of_decide_eq_true h5, of_decide_eq_true h6, of_decide_eq_true h7, htop⟩⟩
        · cases h9'
      · cases h8'
    · cases h8'
  · cases h8'
/-! ### the Hook -/
def asM (g : Addr → Option Obj) : Nat → List Addr
  | 0 => [mainGlobals, cStatics]
  | n + 1 => He.growD g (asM g n)
abbrev AlM : Type := Bool × List FnV
def obsM (fa : List (PySem.W.Frag → Bool)) (fn : List FnM) (K : PySem.W.Frag) : AlM := ((fa.all fun f => f K) && fn.all fun d => d.ok K, fn.map fun d => fnV K (d.adr K))
def valM (fn : List FnM) : AlM := (true, fn.map FnM.val)
def SaysM (fa : List (PySem.W.Frag → Bool)) (fn : List FnM) (K : PySem.W.Frag) : Prop := obsM fa fn K = valM fn
def obsMG (n : Nat) (fa : List (PySem.W.Frag → Bool)) (fn : List FnM) (g : Addr → Option Obj) : AlM := obsM fa fn (He.frG g (asM g n))
def hookM (n : Nat) (fa : List (PySem.W.Frag → Bool)) (fn : List FnM) : PySem.W.Hook where
  α := AlM
  obs := fun s => obsMG n fa fn s.heap.get?
  val := fun _ => valM fn
  says := fun _ h => ∃ K : PySem.W.Frag, K.In h ∧ SaysM fa fn K
  of := fun _ _ e => ⟨_, He.frG_in, e⟩
  keeps := fun _ _ _ ⟨K, hK, c⟩ k => ⟨K, PySem.W.Frag.In.keeps hK k, c⟩
theorem obsMG_eq {n : Nat} {fa : List (PySem.W.Frag → Bool)} {fn : List FnM} {g : Addr → Option Obj} {s : Shared} (h : ∀ a, g a = s.heap.get? a) : obsMG n fa fn g = (hookM n fa fn).obs s := by
  have e : g = s.heap.get? := funext h
  rw [e] <;> rfl
section
variable {fa : List (PySem.W.Frag → Bool)} {fn : List FnM} {K : PySem.W.Frag}
theorem SaysM.fact (c : SaysM fa fn K) (i : Nat) {f : PySem.W.Frag → Bool} (h : fa[i]? = some f := by rfl) : f K = true := by
  have c1 := (ba (show ((fa.all fun f => f K) && fn.all fun d => d.ok K) = true from congrArg (fun z : AlM => z.1) c)).1
  exact List.all_eq_true.mp c1 f (List.mem_of_getElem? h)
theorem SaysM.fn_ (c : SaysM fa fn K) (i : Nat) {d : FnM} (h : fn[i]? = some d := by rfl) : fnV K (d.adr K) = d.val ∧ d.ok K = true := by
  have c2 := (ba (show ((fa.all fun f => f K) && fn.all fun d => d.ok K) = true from congrArg (fun z : AlM => z.1) c)).2
  have e : fn.map (fun d => fnV K (d.adr K)) = fn.map FnM.val := congrArg (fun z : AlM => z.2) c
  have e2 : (fn.map fun d => fnV K (d.adr K))[i]? = (fn.map FnM.val)[i]? := by rw [e]
  rw [List.getElem?_map, List.getElem?_map, h] at e2
  exact ⟨Option.some.inj e2, List.all_eq_true.mp c2 d (List.mem_of_getElem? h)⟩
end
end Mi

namespace Mi
open PySem PySem.Spec PyProof.Rows L2

def fMulA : F2 := fun d e S => match d with
  | .str _ => fMulS d e S
  | _ => fMul d e S
section
variable {X : Cx} {W : WX}
theorem op_fMulA : OpR X (binaryOp .Mult) (rF X.K fMulA) := by
  refine op_imp (OpR.or op_fMulS op_fMul) fun x y H Q ⟨as, S, d, e, z, S', rel, rx, ry, hf, q⟩ => ?_
  cases d with
  | str s => exact .inl ⟨as, S, _, e, z, S', rel, rx, ry, hf, q⟩
  | _ => exact .inr ⟨as, S, _, e, z, S', rel, rx, ry, hf, q⟩
theorem em_neg {a : Expr} {ma : ME} {pos : Pos} (ha : EM X W a ma) : EM X W (.UnaryOp .USub a pos) (m1 fNeg ma) := em_un un_fNeg ha pe_un
/-- a constant of the module -/
structure Gc (K : PySem.W.Frag) (mg : Str → Option Value) (x : Str) (d : D) : Prop where
  ex : ∃ (v : V) (u : Value), mg x = some u ∧ RelV v u ∧ ∀ as H, Rv K as H v d
theorem em_gc {x : Str} {d : D} {pos : Pos} (c : Gc X.K X.mg x d) (hg : Gl X x := by rfl) (hd : (x == ("__debug__" : Str)) = false := by decide) : EM X W (.Name x pos) (mC d) := by
  obtain ⟨v, u, h1, h2, h3⟩ := c.ex
  exact em_g hg h1 h2 h3 hd
open ClX in
/-- a constant of a class -/
structure Cc (K : PySem.W.Frag) (mg : Str → Option Value) (x f : Str) (d : D) : Prop where
  ex : ∃ (C : Addr) (mc : Value) (v : V) (u : Value), CRead K C mc ∧ CVal K C mc f v u ∧ mg x = some (.ref C) ∧ ∀ as H, Rv K as H v d
theorem em_cc {x f : Str} {d : D} {p pos : Pos} (c : Cc X.K X.mg x f d) (hg : Gl X x := by rfl) (hd : (x == ("__debug__" : Str)) = false := by decide)
    (hb : attributeBase (.Name x p) f X.env (eval (.Name x p) X.env) = eval (.Name x p) X.env := by rfl) : EM X W (.Attribute (.Name x p) f pos) (mC d) := by
  obtain ⟨C, mc, v, u, h1, h2, h3, h4⟩ := c.ex
  exact em_cval h1 h2 h3 h4 hg hd hb
end
/-- the def st stands as the module's name x -/
structure Fun1 (K : PySem.W.Frag) (mg : Str → Option Value) (x : Str) (st : Stmt) : Prop where
  ex : ∃ (f : Addr) (fd : FuncData), FunD K x x (defArgs st) (defBody st) (defScope st) [] [] f fd ∧ mg x = some (.ref f)
section
variable {P : Program} {w : World} {K : PySem.W.Frag} {mg : Str → Option Value} {base : Heap}
theorem cal1 {x : Str} {st : Stmt} {N ps : List Str} {k : Nat} {b : MS} (F : Fun1 K mg x st) (S : FnScope N ps (defScope st))
    (hbn : ∀ (kV doc pm : Value) (an : Option Addr) (cdv ct : Value) (us : List Value), us.length = ps.length → bindArgs (PySem.W.fnOf x x (defArgs st) (defBody st) (defScope st) .none kV doc pm an cdv ct) ⟨us, []⟩ = pure (ps.zip us))
    (hb : BodyOk P w K mg base k N x (defScope st) (defBody st) b) : Cal P w K mg base (k + 1) x (mFn ps.length N.length b) := by
  obtain ⟨f, fd, h1, h2⟩ := F.ex
  exact cal_of h1 S h2 (h1.bindsN hbn) hb
end
/-- the def st stands as the static method m of the class x -/
structure Sta1 (K : PySem.W.Frag) (mg : Str → Option Value) (x m qual : Str) (st : Stmt) : Prop where
  ex : ∃ (C p g : Addr) (mc : Value) (fd : FuncData), ClX.CRead K C mc ∧ PySem.W.findCls K (.ref C) mc m = some (.get (.builtin "staticmethod.__get__") (.ref p) .none (.ref C)) ∧ (∃ rest, PySem.W.recIn K p "staticmethod" = some (.ref g :: rest)) ∧
    FunD K m qual (defArgs st) (defBody st) (defScope st) [] [] g fd ∧ mg x = some (.ref C)
theorem sta1 {P : Program} {w : World} {K : PySem.W.Frag} {mg : Str → Option Value} {base : Heap} {x m qual : Str} {st : Stmt} {N ps : List Str} {k : Nat} {b : MS} (F : Sta1 K mg x m qual st) (S : FnScope N ps (defScope st))
    (hbn : ∀ (kV doc pm : Value) (an : Option Addr) (cdv ct : Value) (us : List Value), us.length = ps.length → bindArgs (PySem.W.fnOf m qual (defArgs st) (defBody st) (defScope st) .none kV doc pm an cdv ct) ⟨us, []⟩ = pure (ps.zip us))
    (hb : BodyOk P w K mg base k N qual (defScope st) (defBody st) b) : Sta P w K mg base (k + 1) x m (mFn ps.length N.length b) := by
  obtain ⟨C, p, g, mc, fd, h1, h2, h3, h4, h5⟩ := F.ex
  exact ⟨C, p, g, mc, fd, ps, h1, h2, h3, fn_ok h4 S hb, h5, h4.kp, h4.bindsN hbn⟩
def clsBody : Stmt → List Stmt
  | .ClassDef (body := b) .. => b
  | _ => []
def inCls (st : Stmt) (j : Nat) : Stmt := (clsBody st).getD j (.Pass ⟨0, 0, 0, 0⟩)
/-- the room that an equality asks -/
theorem uRoom {X : Cx} {j : Nat} (h : Room j X.A) : X.A.units + 64 < cLine := by have := h.un; omega
end Mi

namespace Mi
open PySem PySem.Spec PyProof.Rows L2

/-! ### constants, read off K -/
def all2 {α β : Type} (f : α → β → Bool) : List α → List β → Bool
  | [], [] => true
  | a :: as, b :: bs => f a b && all2 f as bs
  | _, _ => false
def constB (K : PySem.W.Frag) : Nat → Value → D → Bool
  | 0, _, _ => false
  | n + 1, u, d => match d, u with
    | .non, .none => true
    | .bl b, .bool c => b == c
    | .int i, .int j _ => decide (i = j)
    | .str x, .str y _ => decide (x = y)
    | .tup ds, .ref a => (match K.lookup a with
      | some ⟨.type c, _, .seq its _, _⟩ => decide (c = "tuple") && (decide (its.size ≤ sizeLine) && all2 (constB K n) its.toList ds)
      | _ => false)
    | _, _ => false
theorem all2_ok {K : PySem.W.Frag} {f : Value → D → Bool} (hf : ∀ u d, f u d = true → ∃ v, RelV v u ∧ ∀ as H, Rv K as H v d) : ∀ {us : List Value} {ds : List D}, all2 f us ds = true → ∃ vs, Vals vs us ∧ ∀ as H, Rvs K as H vs ds
  | [], [], _ => ⟨[], .nil, fun _ _ => .nil⟩
  | [], _ :: _, h => by cases h
  | _ :: _, [], h => by cases h
  | u :: us, d :: ds, h => by
    obtain ⟨h1, h2⟩ := ba (show (f u d && all2 f us ds) = true from h)
    obtain ⟨v, r1, r2⟩ := hf u d h1
    obtain ⟨vs, q1, q2⟩ := all2_ok hf h2
    exact ⟨v :: vs, .cons r1 q1, fun as H => .cons (r2 as H) (q2 as H)⟩
theorem constB_ok {K : PySem.W.Frag} : ∀ (n : Nat) (u : Value) (d : D), constB K n u d = true → ∃ v, RelV v u ∧ ∀ as H, Rv K as H v d
  | 0, _, _, h => by cases h
  | n + 1, u, d, h => by
    unfold constB at h
    split at h
    · exact ⟨.non, rfl, fun _ _ => .non⟩
    · rename_i b c
      have e : b = c := eq_of_beq h
      subst e
      exact ⟨.bl b, rfl, fun _ _ => .bl b⟩
    · rename_i i j t
      have e : i = j := of_decide_eq_true h
      subst e
      exact ⟨.int i, ⟨t, rfl⟩, fun _ _ => .int i⟩
    · rename_i x y t
      have e : x = y := of_decide_eq_true h
      subst e
      exact ⟨.str x, ⟨t, rfl⟩, fun _ _ => .str x⟩
    · rename_i ds a
      split at h
      · rename_i c x1 its x2 x3 hl
        obtain ⟨h1, h2⟩ := ba h
        obtain ⟨h3, h4⟩ := ba h2
        have e : c = "tuple" := of_decide_eq_true h1
        subst e
        obtain ⟨vs, q1, q2⟩ := all2_ok (fun u d => constB_ok n u d) h4
        exact ⟨.ref a, rfl, fun as H => .tup (.inr ⟨_, its, _, hl, rfl, rfl, of_decide_eq_true h3, q1⟩) (q2 as H)⟩
      · cases h
    · cases h
def gcB (x : Str) (d : D) (K : PySem.W.Frag) : Bool := match PySem.W.nsIn K mainGlobals x with
  | some (some u) => constB K 6 u d
  | _ => false
def creadB (K : PySem.W.Frag) (C : Addr) : Bool := PySem.W.readsIn K C (.type "type") && decide (PySem.W.specialIn K (.ref C) "__getattribute__" = some (some (.builtin "type.__getattribute__")))
theorem creadB_ok {K : PySem.W.Frag} {C : Addr} (h : creadB K C = true) : ClX.CRead K C (.type "type") := by
  obtain ⟨h1, h2⟩ := ba h
  exact ⟨h1, of_decide_eq_true h2⟩
def gloB (x : Str) (K : PySem.W.Frag) : Bool := (He.Fa.glo x).ok K
def freeB (x : Str) (K : PySem.W.Frag) : Bool := (He.Fa.free x).ok K
def ccB (x f : Str) (d : D) (K : PySem.W.Frag) : Bool := gloB x K && (creadB K (ga K x) && (match PySem.W.findCls K (.ref (ga K x)) (.type "type") f with
  | some (.val u) => constB K 6 u d
  | _ => false))
def funB (x : Str) (K : PySem.W.Frag) : Bool := gloB x K && PySem.W.keepIn K (.ref (ga K x))
/-- the function of the static method m of the class x -/
def staA (x m : Str) (K : PySem.W.Frag) : Addr := match PySem.W.findCls K (.ref (ga K x)) (.type "type") m with
  | some (.get _ (.ref p) _ _) => (match PySem.W.recIn K p "staticmethod" with
    | some (.ref g :: _) => g
    | _ => 0)
  | _ => 0
def staB (x m : Str) (K : PySem.W.Frag) : Bool := gloB x K && (creadB K (ga K x) && (PySem.W.keepIn K (.ref (staA x m K)) && (match PySem.W.findCls K (.ref (ga K x)) (.type "type") m with
  | some (.get (.builtin i) (.ref p) .none (.ref C)) => i == "staticmethod.__get__" && (C == ga K x && (match PySem.W.recIn K p "staticmethod" with
    | some (.ref _ :: _) => true
    | _ => false))
  | _ => false)))
def exmB (x y : Str) (b : Bool) (K : PySem.W.Frag) : Bool := (He.Fa.exm x y b).ok K && (gloB x K && gloB y K)
def xfkB (x f : Str) (K : PySem.W.Frag) : Bool := gloB x K && (xfB K (ga K x) && (He.Fa.noat x f).ok K)
def excB (file x : Str) (fs : List Str) (K : PySem.W.Frag) : Bool := gloB x K && (iniB K file x && fs.all fun f => (He.Fa.noat x f).ok K)
section
variable {K : PySem.W.Frag} {h : Heap} {mg : Str → Option Value} (X : K.In h) (G : h.Ns mainGlobals mg)
include X G
theorem gc_ok {x : Str} {d : D} (c : gcB x d K = true) : Gc K mg x d := by
  unfold gcB at c
  split at c
  · rename_i u e
    obtain ⟨v, r1, r2⟩ := constB_ok 6 u d c
    exact ⟨v, u, PySem.W.mg_of X G e, r1, r2⟩
  · cases c
theorem free_ok {x : Str} (c : freeB x K = true) : mg x = none := He.free_ok X G c
theorem glo_ok {x : Str} (c : gloB x K = true) : mg x = some (.ref (ga K x)) := He.glo_ok X G c
theorem cc_ok {x f : Str} {d : D} (c : ccB x f d K = true) : Cc K mg x f d := by
  obtain ⟨c1, c⟩ := ba c
  obtain ⟨c2, c⟩ := ba c
  split at c
  · rename_i u e
    obtain ⟨v, r1, r2⟩ := constB_ok 6 u d c
    exact ⟨ga K x, .type "type", v, u, creadB_ok c2, ⟨e, r1⟩, glo_ok X G c1, r2⟩
  · cases c
theorem fun_ok {x : Str} {st : Stmt} {d : FnM} (c : funB x K = true) (e : fnV K (d.adr K) = d.val ∧ d.ok K = true) (hd : d = ⟨fun K => ga K x, x, x, defArgs st, defBody st, defScope st, []⟩) : Fun1 K mg x st := by
  obtain ⟨c1, c2⟩ := ba c
  subst hd
  obtain ⟨fd, F⟩ := FnM.funD e.1 e.2 c2 rfl
  exact ⟨ga K x, fd, F, glo_ok X G c1⟩
theorem sta_ok {x m qual : Str} {st : Stmt} {d : FnM} (c : staB x m K = true) (e : fnV K (d.adr K) = d.val ∧ d.ok K = true) (hd : d = ⟨staA x m, m, qual, defArgs st, defBody st, defScope st, []⟩) : Sta1 K mg x m qual st := by
  obtain ⟨c1, c⟩ := ba c
  obtain ⟨c2, c⟩ := ba c
  obtain ⟨c3, c⟩ := ba c
  subst hd
  obtain ⟨fd, F⟩ := FnM.funD e.1 e.2 c3 rfl
  split at c
  · rename_i i p C hf
    obtain ⟨c4, c6⟩ := ba c
    obtain ⟨c5, c7⟩ := ba c6
    clear c c6
    have e1 : i = "staticmethod.__get__" := by simpa using c4
    have e2 : C = ga K x := by simpa using c5
    subst e1 e2
    cases hr : PySem.W.recIn K p "staticmethod" with
    | none => rw [hr] at c7; cases c7
    | some l =>
      rw [hr] at c7
      cases l with
      | nil => cases c7
      | cons v rest =>
        cases v <;> first | (cases c7; done) | skip
        rename_i g
        have eg : staA x m K = g := by
          unfold staA
          rw [hf]
          dsimp only
          rw [hr]
        have F' : FunD K m qual (defArgs st) (defBody st) (defScope st) [] [] g fd := by rw [← eg]; exact F
        exact ⟨ga K x, p, g, .type "type", fd, creadB_ok c2, hf, ⟨rest, hr⟩, F', glo_ok X G c1⟩
  · cases c
theorem exm_ok {x y : Str} {b : Bool} (c : exmB x y b K = true) : ∃ C C', mg x = some (.ref C) ∧ mg y = some (.ref C') ∧ PySem.W.exmOne K (.ref C) (.ref C') = some b := by
  obtain ⟨c1, c⟩ := ba c
  obtain ⟨c2, c3⟩ := ba c
  exact ⟨_, _, glo_ok X G c2, glo_ok X G c3, He.exm_ok c1⟩
/-- the except clauses that name x: l the classes it may meet -/
theorem exk_ok {x : Str} (l : List (Str × Bool)) (c1 : gloB x K = true) (c : ∀ p ∈ l, exmB p.1 x p.2 K = true) : Exk K mg x (fun y => l.lookup y) := by
  refine ⟨ga K x, glo_ok X G c1, fun y C' b hy hb => ?_⟩
  have hmem : ∀ {l : List (Str × Bool)}, l.lookup y = some b → (y, b) ∈ l := by
    intro l
    induction l with
    | nil => intro h; cases h
    | cons p l ih =>
      intro h
      obtain ⟨z, b'⟩ := p
      simp only [List.lookup] at h
      split at h
      · rename_i hz
        cases h
        rw [beq_iff_eq] at hz
        subst hz
        exact List.mem_cons_self ..
      · exact List.mem_cons_of_mem _ (ih h)
  obtain ⟨C, C2, e1, e2, e3⟩ := exm_ok X G (c _ (hmem hb))
  rw [hy] at e1
  cases e1
  rw [glo_ok X G c1] at e2
  cases e2
  exact e3
theorem exkB_ok {x : Str} {l : List (Str × Bool)} (c : (gloB x K && l.all fun p => exmB p.1 x p.2 K) = true) : Exk K mg x (fun y => l.lookup y) := by
  obtain ⟨c1, c2⟩ := ba c
  exact exk_ok X G l c1 (List.all_eq_true.mp c2)
theorem xfk_ok {f : Str} (l : List Str) (c : ∀ y ∈ l, xfkB y f K = true) : Xfk K mg f l := by
  refine ⟨fun y hy C hC => ?_⟩
  obtain ⟨c1, c2⟩ := ba (c y hy)
  obtain ⟨c3, c4⟩ := ba c2
  have e := glo_ok X G c1
  rw [hC] at e
  cases e
  exact ⟨xfB_ok c3, He.noat_ok c4⟩
theorem xfkB_ok {f : Str} {l : List Str} (c : (l.all fun y => xfkB y f K) = true) : Xfk K mg f l := xfk_ok X G l (List.all_eq_true.mp c)
theorem rsb1 {P : Program} {w : World} {base : Heap} {x qual z self p f : Str} {j : Nat} {st : Stmt} {d : FnM} {p0 p1 p2 p3 p4 p5 q1 q2 q3 q4 : Pos} (c : excB P.main.file x [f] K = true) (e : fnV K (d.adr K) = d.val ∧ d.ok K = true)
    (hd : d = ⟨iniA x, "__init__", qual, defArgs st, defBody st, defScope st, ["__class__"]⟩) (hs : freeB "super" K = true) (htop : (P.main.scope.names.lookup ("super" : Str)).isSome = false)
    (hbody : defBody st = [.Expr (supE z j p0 p1 p2 p3 p4) p5, .Assign [.Attribute (.Name self q1) f q2] (.Name p q3) q4]) (hev : SupEv z j p0 p1 p2 p3 p4)
    (S : NdefX.NScope [self, p, "__class__"] [self, p] ["__class__"] (defScope st)) (hks : (defScope st).names.lookup ("super" : Str) = some .globalImplicit) (hpar : ∃ ar, ((defArgs st).posonlyargs ++ (defArgs st).args).head? = some ar ∧ ar.arg = self)
    (d1 : (self == ("__debug__" : Str)) = false) (d2 : (p == ("__debug__" : Str)) = false) (d3 : (self == ("__classdict__" : Str)) = false) (d4 : (p == ("__classdict__" : Str)) = false)
    (hbn : ∀ (cc : Addr) (kV doc pm : Value) (an : Option Addr) (cdv ct : Value) (us : List Value), us.length = [self, p].length → bindArgs (PySem.W.fnX "__init__" qual (defArgs st) (defBody st) (defScope st) [("__class__", cc)] .none kV doc pm an cdv ct) ⟨us, []⟩ = pure ([self, p].zip us)) :
    Rsb P w K mg base 1 x 1 (fun ws => [(f, ws.getD 0 .non)]) := by
  obtain ⟨c1, c⟩ := ba c
  obtain ⟨c2, c3⟩ := ba c
  have c4 := He.noat_ok (List.all_eq_true.mp c3 f (List.mem_singleton.mpr rfl))
  subst hd
  obtain ⟨cc, F⟩ := iniB_ok e.1 e.2 rfl rfl rfl c2 htop
  obtain ⟨fd, H1, H2⟩ := ini1 (w := w) (mg := mg) (base := base) (k := 0) F hbody hev S hks hpar (free_ok X G hs) c4 d1 d2 d3 d4 (hbn cc)
  exact ⟨ga K x, iniA x K, fd, [self, p], F.ox, F.init, F.tI, H1, H2, glo_ok X G c1⟩
end
/-! ### the end -/
def script0 (ns : List Int) : Sto := [.fix (ns.map D.int)]
/-- the plain law: what is left to be shown of the mirror -/
def Plain (m : MFn) : Prop := ∀ ns : List Int, ns.length ≤ 63 → ∃ S', m [.obj 0] (script0 ns) = .ok (.bl true) S'
theorem spM_plain {K : PySem.W.Frag} {mg : Str → Option Value} {m : MFn} (h : Plain m) {H : Hp} {a : Addr} {ns : List Int} {E : XK} (hl : ns.length ≤ 63) (hO : Only H) (hS : SqL K H a (ns.map V.int)) : spM K mg m [.ref a] H (fun v _ => v = .bl true) E := by
  have rv : Rvs K [a] H (ns.map V.int) (ns.map D.int) := Rvs.map (fun i => .int i) ns
  have rel : Rel K [a] (script0 ns) H := by
    refine ⟨rfl, fun i b o hi ho => ?_, fun i j b o u hi hj ho hu mo mu => ?_⟩
    · match i, hi with
      | 0, hi =>
        cases hi
        cases ho
        refine ⟨ns.map V.int, ?_, rv⟩
        rcases hS with hS | hS
        · rcases hS with hS | hS
          · rcases hO a with z | ⟨o, xs, z⟩
            · rw [z] at hS; cases hS
            · rw [z] at hS; cases hS
          · exact .inl hS
        · exact .inr fun _ => .inr hS
      | _ + 1, hi => cases hi
    · match i, ho with
      | 0, ho => cases ho; cases mo
      | _ + 1, ho => cases ho
  refine ⟨[a], [.obj 0], script0 ns, .cons (.obj rfl) .nil, rel, ?_⟩
  obtain ⟨S', e⟩ := h ns hl
  rw [e]
  intro as' H' v x r q
  cases q
  rfl
/-- the law's end, an own exception let out of a call being no end -/
theorem walk_ofW {lw : PySem.W.OpenLaw} {m lv : Nat} {qv : Program} {lo : List Str} {XPr : (Str → Option Value) → Heap → Prop} {YPr : World → Heap → Prop} {df : DefRec} {x : Str} (h1 : lw.most = some m) (h2 : m ≤ sizeLine) (h3 : df.params.defaults = []) (h4 : Room lv callerA)
    (F : ∀ (w : World) (mg : Str → Option Value) (fa : Addr) (h : Heap), YPr w h → h.Ns mainGlobals mg → mg df.name = some (.ref fa) → ∃ (K : PySem.W.Frag) (fd : FuncData) (sp : Sp), K.In h ∧ (∀ (s : Shared) (u : Value), BindsTo s fd ⟨[u], []⟩ [(x, u)]) ∧
      (∀ (H : Hp) (a : Addr) (ns : List Int), ns.length ≤ m → Only H → SqL K H a (ns.map V.int) → sp [.ref a] H (fun v _ => v = .bl true) fun _ _ _ => False) ∧ ∀ base : Heap, K.In base → base.Ns mainGlobals mg → FnOk lw.prog w K mg base (L2.CX lw.prog w) lv fa fd [x] sp) :
    PySem.W.WalkO qv lo XPr YPr lw.row.toRowW df [] (fun f vs => PySem.call f vs) := by
  refine Att.attach_call h1 h3 fun w s0 s1 mg mb fa ob pm cd doc a us ns G Y z1 z2 z3 z4 z5 z6 z7 z8 => ?_
  obtain ⟨K, fd, sp, kx, q1, q2, q3⟩ := F w mg fa _ Y G.T.g z4
  refine law_call kx G.T.g G.T.b G.T.builtins G.T.nolimit z8 z5 z6 (Nat.le_trans z7 h2) h4 q3 q1 (fun H u v => q2 H a ns z7 u v) fun H e s' c => ?_
  obtain ⟨_, _, _, _, _, _, _, _, _, _, _, _, bad⟩ := c
  exact bad
end Mi

namespace Mi
open PySem PySem.Spec PyProof.Rows L2

/-! ### the mirror, evaluated -/
abbrev st (l : List Nat) : Str := ⟨l.toArray⟩
abbrev sD (l : List Nat) : D := .str (st l)
abbrev nD (n : Nat) : D := .int (n : Int)
theorem st_len (l : List Nat) : (st l).length = l.length := (rfl)
theorem st_eq {a b : List Nat} : (st a = st b) = (a = b) := by
  refine propext ⟨fun h => ?_, fun h => by rw [h]⟩
  have h1 : a.toArray = b.toArray := congrArg Str.cps h
  simpa using congrArg Array.toList h1
theorem st_app (a b : List Nat) : st a ++ st b = st (a ++ b) := by
  show (⟨a.toArray ++ b.toArray⟩ : Str) = _
  simp
section
variable {α β : Type} {env : Env} {S S1 : Sto}
theorem bind_ok {a : α} {f : α → Sto → R β} : (R.ok a S).bind f = f a S := (rfl)
theorem bind_ex {e : Xn} {f : α → Sto → R β} : (R.ex e S).bind f = R.ex e S := (rfl)
theorem bind_no {f : α → Sto → R β} : (R.no).bind f = R.no := (rfl)
theorem of_some {d : α} : R.of (some (d, S)) = R.ok d S := (rfl)
theorem rs_ok {a : α} {f : α → Sto → RS} : RS.of (.ok a S) env f = f a S := (rfl)
theorem rs_ex {e : Xn} {f : α → Sto → RS} : RS.of (.ex e S) env f = .ex e env S := (rfl)
theorem rs_bind {x : R α} {f : α → Sto → R β} {g : β → Sto → RS} : RS.of (x.bind f) env g = RS.of x env fun a S1 => RS.of (f a S1) env g := by
  cases x <;> rfl
theorem then_nx {f : Env → Sto → RS} : (RS.nx env S).then f = f env S := (rfl)
theorem then_rt {d : D} {f : Env → Sto → RS} : (RS.rt d S).then f = .rt d S := (rfl)
theorem then_ex {e : Xn} {f : Env → Sto → RS} : (RS.ex e env S).then f = .ex e env S := (rfl)
theorem then_bk {f : Env → Sto → RS} : (RS.bk env S).then f = .bk env S := (rfl)
theorem then_ct {f : Env → Sto → RS} : (RS.ct env S).then f = .ct env S := (rfl)
theorem mV0 {d : D} : mV 0 (some d :: env) S = .ok d S := (rfl)
theorem mVs {n : Nat} {x : Option D} : mV (n + 1) (x :: env) S = mV n env S := (rfl)
theorem mC_ {d : D} : mC d env S = .ok d S := (rfl)
theorem m2_ {f : F2} {a b : ME} : m2 f a b env S = (a env S).bind fun x S1 => (b env S1).bind fun y S2 => R.of (f x y S2) := (rfl)
theorem m1_ {f : F1} {a : ME} : m1 f a env S = (a env S).bind fun x S1 => R.of (f x S1) := (rfl)
def kB (x : D) (S : Sto) : R Bool := match x with
  | .bl b => .ok b S
  | _ => .no
theorem mB_ {a : ME} : mB a env S = (a env S).bind kB := (rfl)
theorem kB_bl {b : Bool} : kB (.bl b) S = .ok b S := (rfl)
theorem mB1_ {f : FL} {a : MA} : mB1 f a env S = (a env S).bind fun xs S1 => R.of (f xs S1) := (rfl)
theorem mNil_ : mNil env S = .ok [] S := (rfl)
theorem mCons_ {a : ME} {r : MA} : mCons a r env S = (a env S).bind fun x S1 => (r env S1).bind fun xs S2 => .ok (x :: xs) S2 := (rfl)
theorem f1L_ {f : F1} {d : D} : f1L f [d] S = f d S := (rfl)
theorem f2L_ {f : D → D → Sto → Option (D × Sto)} {d e : D} : f2L f [d, e] S = f d e S := (rfl)
theorem mTup_ {a : MA} : mTup a env S = (a env S).bind kTup := (rfl)
theorem mLst_ {a : MA} : mLst a env S = (a env S).bind kLst := (rfl)
theorem mCall_ {m : MFn} {a : MA} : mCall m a env S = (a env S).bind m := (rfl)
theorem mNotT_ {a : MT} : mNotT a env S = (a env S).bind fun b S1 => .ok (!b) S1 := (rfl)
theorem mAndT_ {a b : MT} : mAndT a b env S = (a env S).bind fun c S1 => if c = true then b env S1 else .ok false S1 := (rfl)
theorem mOrT_ {a b : MT} : mOrT a b env S = (a env S).bind fun c S1 => if c = true then .ok true S1 else b env S1 := (rfl)
theorem mIf_ {t : MT} {a b : ME} : mIf t a b env S = (t env S).bind fun c S1 => if c = true then a env S1 else b env S1 := (rfl)
def kAndV (b : ME) (env : Env) (c : D) (S : Sto) : R D := match c with
  | .bl true => b env S
  | .bl false => .ok (.bl false) S
  | _ => .no
def kOrV (b : ME) (env : Env) (c : D) (S : Sto) : R D := match c with
  | .bl false => b env S
  | .bl true => .ok (.bl true) S
  | _ => .no
def kNotV (c : D) (S : Sto) : R D := match c with
  | .bl b => .ok (.bl (!b)) S
  | _ => .no
theorem mAndV_ {a b : ME} : mAndV a b env S = (a env S).bind (kAndV b env) := by
  unfold mAndV; congr 1
theorem mOrV_ {a b : ME} : mOrV a b env S = (a env S).bind (kOrV b env) := by
  unfold mOrV; congr 1
theorem mNotV_ {a : ME} : mNotV a env S = (a env S).bind kNotV := (rfl)
theorem kAndV_bl {b : ME} {c : Bool} : kAndV b env (.bl c) S = if c = true then b env S else .ok (.bl false) S := by cases c <;> rfl
theorem kOrV_bl {b : ME} {c : Bool} : kOrV b env (.bl c) S = if c = true then .ok (.bl true) S else b env S := by cases c <;> rfl
theorem kNotV_bl {b : Bool} : kNotV (.bl b) S = .ok (.bl (!b)) S := (rfl)
theorem mSl_ {a : ME} {lo hi : MO'} : mSl a lo hi env S = (a env S).bind fun x S1 => (lo env S1).bind fun l S2 => (hi env S2).bind fun u S3 => R.of (fSl x l u S3) := (rfl)
theorem mPart_ {a : ME} : mPart a env S = (a env S).bind kPart := (rfl)
theorem kPart_ {i : Int} : kPart (.int i) S = .ok (some i) S := (rfl)
theorem mNoPart_ : mNoPart env S = .ok none S := (rfl)
theorem kTup_ {xs : List D} (h : xs.length ≤ sizeLine) : kTup xs S = .ok (.tup xs) S := if_pos h
theorem kLst_ {xs : List D} (h : xs.length ≤ sizeLine) : kLst xs S = .ok (.obj S.length) (S ++ [.lst xs]) := if_pos h
theorem kTu1 {x0 : D} : kTup [x0] S = .ok (.tup [x0]) S := kTup_ (by rw [sizeLine_eq]; simp)
theorem kLs1 {x0 : D} : kLst [x0] S = .ok (.obj S.length) (S ++ [.lst [x0]]) := kLst_ (by rw [sizeLine_eq]; simp)
theorem kTu2 {x0 x1 : D} : kTup [x0, x1] S = .ok (.tup [x0, x1]) S := kTup_ (by rw [sizeLine_eq]; simp)
theorem kLs2 {x0 x1 : D} : kLst [x0, x1] S = .ok (.obj S.length) (S ++ [.lst [x0, x1]]) := kLst_ (by rw [sizeLine_eq]; simp)
theorem kTu3 {x0 x1 x2 : D} : kTup [x0, x1, x2] S = .ok (.tup [x0, x1, x2]) S := kTup_ (by rw [sizeLine_eq]; simp)
theorem kLs3 {x0 x1 x2 : D} : kLst [x0, x1, x2] S = .ok (.obj S.length) (S ++ [.lst [x0, x1, x2]]) := kLst_ (by rw [sizeLine_eq]; simp)
theorem kTu4 {x0 x1 x2 x3 : D} : kTup [x0, x1, x2, x3] S = .ok (.tup [x0, x1, x2, x3]) S := kTup_ (by rw [sizeLine_eq]; simp)
theorem kLs4 {x0 x1 x2 x3 : D} : kLst [x0, x1, x2, x3] S = .ok (.obj S.length) (S ++ [.lst [x0, x1, x2, x3]]) := kLst_ (by rw [sizeLine_eq]; simp)
theorem kTu5 {x0 x1 x2 x3 x4 : D} : kTup [x0, x1, x2, x3, x4] S = .ok (.tup [x0, x1, x2, x3, x4]) S := kTup_ (by rw [sizeLine_eq]; simp)
theorem kLs5 {x0 x1 x2 x3 x4 : D} : kLst [x0, x1, x2, x3, x4] S = .ok (.obj S.length) (S ++ [.lst [x0, x1, x2, x3, x4]]) := kLst_ (by rw [sizeLine_eq]; simp)
theorem kLs0 : kLst [] S = .ok (.obj S.length) (S ++ [.lst []]) := kLst_ (by rw [sizeLine_eq]; simp)
/-! statements -/
theorem sSeq_ {m n : MS} : sSeq m n env S = (m env S).then n := (rfl)
theorem sSet_ {i : Nat} {a : ME} : sSet i a env S = RS.of (a env S) env fun d S1 => .nx (env.set i (some d)) S1 := (rfl)
theorem sRet_ {a : ME} : sRet a env S = RS.of (a env S) env fun d S1 => .rt d S1 := (rfl)
theorem sIf_ {t : MT} {a b : MS} : sIf t a b env S = RS.of (t env S) env fun c S1 => if c = true then a env S1 else b env S1 := (rfl)
theorem sExpr_ {a : ME} : sExpr a env S = RS.of (a env S) env fun _ S1 => .nx env S1 := (rfl)
theorem sNil_ : sNil env S = .nx env S := (rfl)
theorem sBreak_ : sBreak env S = .bk env S := (rfl)
theorem sCont_ : sCont env S = .ct env S := (rfl)
theorem sAug_ {i : Nat} {f : F2} {a : ME} {x : D} (h : env[i]? = some (some x)) : sAug i f a env S = RS.of ((a env S).bind fun y S1 => R.of (f x y S1)) env fun z S2 => .nx (env.set i (some z)) S2 := by
  unfold sAug
  rw [h]
  cases a env S with
  | ok y S1 =>
    show (match f x y S1 with | some (z, S2) => RS.nx (env.set i (some z)) S2 | none => .no) = RS.of (R.of (f x y S1)) env _
    cases f x y S1 <;> rfl
  | ex e S1 => rfl
  | no => rfl
theorem aug_int {i : Nat} {k v : Int} (h : env[i]? = some (some (.int v))) : sAug i fIAdd (mC (.int k)) env S = .nx (env.set i (some (.int (v + k)))) S := by
  rw [sAug_ h]; rfl
/-! while -/
theorem wh_eq {t : MT} {b : MS} {n : Nat} : whileM t b (n + 1) env S = RS.of (t env S) env fun c S1 => if c = true then (match b env S1 with
      | .nx env2 S2 => whileM t b n env2 S2
      | .ct env2 S2 => whileM t b n env2 S2
      | .bk env2 S2 => .nx env2 S2
      | o => o) else .nx env S1 := (rfl)
theorem wh_stop {t : MT} {b : MS} {n : Nat} (h : t env S = .ok false S1) : whileM t b (n + 1) env S = .nx env S1 := by unfold whileM; rw [h]; rfl
theorem wh_next {t : MT} {b : MS} {n : Nat} {env2 : Env} {S2 : Sto} (h : t env S = .ok true S1) (h2 : b env S1 = .nx env2 S2) : whileM t b (n + 1) env S = whileM t b n env2 S2 := by
  rw [wh_eq, h, rs_ok]; simp only [if_true, h2]
theorem wh_brk {t : MT} {b : MS} {n : Nat} {env2 : Env} {S2 : Sto} (h : t env S = .ok true S1) (h2 : b env S1 = .bk env2 S2) : whileM t b (n + 1) env S = .nx env2 S2 := by
  rw [wh_eq, h, rs_ok]; simp only [if_true, h2]
theorem wh_ex {t : MT} {b : MS} {n : Nat} {e : Xn} {env2 : Env} {S2 : Sto} (h : t env S = .ok true S1) (h2 : b env S1 = .ex e env2 S2) : whileM t b (n + 1) env S = .ex e env2 S2 := by
  rw [wh_eq, h, rs_ok]; simp only [if_true, h2]
theorem wh_rt {t : MT} {b : MS} {n : Nat} {d : D} {S2 : Sto} (h : t env S = .ok true S1) (h2 : b env S1 = .rt d S2) : whileM t b (n + 1) env S = .rt d S2 := by
  rw [wh_eq, h, rs_ok]; simp only [if_true, h2]
/-! operations -/
theorem e_len {l : List Nat} (h : l.length ≤ sizeLine) : fLen (sD l) S = some (.int (l.length : Int), S) := if_pos h
theorem e_lenL {i : Nat} {ds : List D} (h : S[i]? = some (.lst ds)) : fLen (.obj i) S = some (.int (ds.length : Int), S) := by unfold fLen; simp only [h]
theorem e_lenT {ds : List D} : fLen (.tup ds) S = some (.int (ds.length : Int), S) := (rfl)
theorem e_lt {a b : Int} : fLt (.int a) (.int b) S = some (.bl (decide (a < b)), S) := (rfl)
theorem e_le {a b : Int} : fLe (.int a) (.int b) S = some (.bl (decide (a ≤ b)), S) := (rfl)
theorem e_gt {a b : Int} : fGt (.int a) (.int b) S = some (.bl (decide (b < a)), S) := (rfl)
theorem e_ge {a b : Int} : fGe (.int a) (.int b) S = some (.bl (decide (b ≤ a)), S) := (rfl)
theorem e_eqI {a b : Int} : fEq (.int a) (.int b) S = some (.bl (decide (a = b)), S) := (rfl)
theorem e_neI {a b : Int} : fNe (.int a) (.int b) S = some (.bl (!decide (a = b)), S) := (rfl)
theorem e_eqS {a b : Str} : fEq (.str a) (.str b) S = some (.bl (decide (a = b)), S) := (rfl)
theorem e_neS {a b : Str} : fNe (.str a) (.str b) S = some (.bl (!decide (a = b)), S) := (rfl)
theorem e_add {a b : Int} : fAdd (.int a) (.int b) S = some (.int (a + b), S) := (rfl)
theorem e_sub {a b : Int} : fSub (.int a) (.int b) S = some (.int (a - b), S) := (rfl)
theorem e_addS {a b : List Nat} (h : a.length + b.length ≤ sizeLine) : fAdd (sD a) (sD b) S = some (sD (a ++ b), S) := by
  unfold fAdd
  dsimp only
  rw [st_len, st_len, if_pos h, st_app]
theorem nat_lt {c d : Nat} : decide ([c] < [d]) = decide (c < d) := by
  have : ([c] < [d]) ↔ c < d := by
    constructor
    · intro h
      cases h with
      | rel h => exact h
      | cons h => cases h
    · intro h; exact List.Lex.rel h
  simp only [this]
theorem e_ltS {c d : Nat} : fLt (sD [c]) (sD [d]) S = some (.bl (decide (c < d)), S) := by
  show some (D.bl (decide ((st [c]).cps.toList < (st [d]).cps.toList)), S) = _
  rw [show (st [c]).cps.toList = [c] from rfl, show (st [d]).cps.toList = [d] from rfl, nat_lt]
theorem e_gtS {c d : Nat} : fGt (sD [c]) (sD [d]) S = some (.bl (decide (d < c)), S) := by
  show some (D.bl (decide ((st [d]).cps.toList < (st [c]).cps.toList)), S) = _
  rw [show (st [c]).cps.toList = [c] from rfl, show (st [d]).cps.toList = [d] from rfl, nat_lt]
theorem e_leS {c d : Nat} : fLe (sD [c]) (sD [d]) S = some (.bl (decide (c ≤ d)), S) := by
  show some (D.bl (!decide ((st [d]).cps.toList < (st [c]).cps.toList)), S) = _
  rw [show (st [c]).cps.toList = [c] from rfl, show (st [d]).cps.toList = [d] from rfl, nat_lt]
  congr 3
  by_cases h : d < c <;> simp [h] <;> omega
theorem e_inS {c : Nat} {g : List Nat} : fIn (sD [c]) (sD g) S = some (.bl (decide (c ∈ g)), S) := by
  unfold fIn inB
  simp
theorem e_notinS {c : Nat} {g : List Nat} : fNotIn (sD [c]) (sD g) S = some (.bl (!decide (c ∈ g)), S) := by
  unfold fNotIn inB
  simp
theorem ixN_nat {n i : Nat} (h : i < n) : ixN n (i : Int) = some i := by
  unfold ixN
  rw [if_pos (by omega), if_pos (by omega)]
  simp
theorem e_at {pre suf : List Nat} {c : Nat} (h : (pre ++ c :: suf).length ≤ sizeLine) : fIx (sD (pre ++ c :: suf)) (.int (pre.length : Int)) S = some (sD [c], S) := by
  unfold fIx
  dsimp only
  rw [st_len, if_pos h]
  unfold atI
  rw [ixN_nat (by simp)]
  simp
theorem e_ixL {i k : Nat} {ds : List D} {d : D} (h : S[i]? = some (.lst ds)) (h2 : ds[k]? = some d) : fIx (.obj i) (.int (k : Int)) S = some (d, S) := by
  have e0 : lstAt S i = some ds := by unfold lstAt; rw [h]
  unfold fIx
  dsimp only
  rw [e0]
  show Option.map (fun z => (z, S)) (atI ds (k : Int)) = _
  unfold atI
  have hk : k < ds.length := by
    rcases Nat.lt_or_ge k ds.length with z | z
    · exact z
    · rw [List.getElem?_eq_none z] at h2; cases h2
  rw [ixN_nat hk]
  simp [h2]
theorem e_ixT {k : Nat} {ds : List D} {d : D} (h2 : ds[k]? = some d) : fIx (.tup ds) (.int (k : Int)) S = some (d, S) := by
  unfold fIx
  dsimp only
  unfold atI
  have hk : k < ds.length := by
    rcases Nat.lt_or_ge k ds.length with z | z
    · exact z
    · rw [List.getElem?_eq_none z] at h2; cases h2
  rw [ixN_nat hk]
  simp [h2]
theorem e_cut {a b c : List Nat} (h : (a ++ b ++ c).length ≤ sizeLine) : fSl (sD (a ++ b ++ c)) (some (a.length : Int)) (some ((a.length + b.length : Nat) : Int)) S = some (sD b, S) := by
  unfold fSl
  dsimp only
  rw [st_len, if_pos h]
  unfold cutS
  rw [st_len]
  rw [HT.sIx_nat, HT.sIx_nat]
  simp only [List.toList_toArray]
  have e1 : min a.length (a ++ b ++ c).length = a.length := by simp
  have e2 : min (a.length + b.length) (a ++ b ++ c).length = a.length + b.length := by simp
  rw [e1, e2]
  simp
theorem e_append {i : Nat} {ds : List D} {d : D} (h : S[i]? = some (.lst ds)) (hl : ds.length < sizeLine) : fAppend (.obj i) [d] S = some (.non, S.set i (.lst (ds ++ [d]))) := by
  unfold fAppend
  simp only [h, if_pos hl]
theorem mM_lst {f : FM} {o : ME} {a : MA} {i : Nat} {ds : List D} (ho : o env S = .ok (.obj i) S1) (h : S1[i]? = some (.lst ds)) : mM "list" f o a env S = (a env S1).bind fun xs S2 => R.of (f (.obj i) xs S2) := by
  unfold mM
  rw [ho, bind_ok]
  have : tyOk "list" (.obj i) S1 = true := by unfold tyOk; simp only [h]; rfl
  rw [if_pos this]
theorem e_cutK {pre suf : List Nat} {k : Nat} (h : (pre ++ suf).length ≤ sizeLine) : fSl (sD (pre ++ suf)) (some (pre.length : Int)) (some ((pre.length + k : Nat) : Int)) S = some (sD (suf.take k), S) := by
  unfold fSl
  dsimp only
  rw [st_len, if_pos h]
  unfold cutS
  rw [st_len, HT.sIx_nat, HT.sIx_nat]
  simp only [List.toList_toArray]
  have e1 : min pre.length (pre ++ suf).length = pre.length := by simp
  rw [e1, List.drop_left]
  rcases Nat.le_total (pre.length + k) (pre ++ suf).length with h2 | h2
  · rw [Nat.min_eq_left h2]
    simp
  · rw [Nat.min_eq_right h2]
    rw [List.length_append] at h2 ⊢
    rw [List.take_of_length_le (by omega), List.take_of_length_le (by omega)]
theorem flat_strs (ys : List (List Nat)) : (ys.map sD).all flatD = true := by
  rw [List.all_eq_true]
  intro d hd
  obtain ⟨y, _, rfl⟩ := List.mem_map.mp hd
  rfl
theorem in_strs (x : List Nat) (ys : List (List Nat)) : inFlat (sD x) (ys.map sD) = some (decide (x ∈ ys)) := by
  unfold inFlat
  rw [if_pos ⟨rfl, flat_strs ys⟩]
  congr 1
  unfold inD
  rw [List.any_map]
  induction ys with
  | nil => rfl
  | cons y ys ih =>
    rw [List.any_cons, ih]
    have e : eqF (sD y) (sD x) = decide (y = x) := by
      show (st y == st x) = decide (y = x)
      by_cases h : y = x
      · subst h; simp
      · have : ¬ st y = st x := by rw [st_eq]; exact h
        simp [h, this]
    show (eqF (sD y) (sD x) || decide (x ∈ ys)) = decide (x ∈ y :: ys)
    rw [e]
    by_cases h : y = x
    · subst h; simp
    · have : ¬ x = y := fun z => h z.symm
      simp [h, this]
theorem e_inT {x : List Nat} {ys : List (List Nat)} : fIn (sD x) (.tup (ys.map sD)) S = some (.bl (decide (x ∈ ys)), S) := by
  unfold fIn inB
  dsimp only
  rw [in_strs]; rfl
theorem e_inL {x : List Nat} {ys : List (List Nat)} {i : Nat} (h : S[i]? = some (.lst (ys.map sD))) : fIn (sD x) (.obj i) S = some (.bl (decide (x ∈ ys)), S) := by
  have e0 : lstAt S i = some (ys.map sD) := by unfold lstAt; rw [h]
  unfold fIn inB
  dsimp only
  rw [e0]
  show Option.map _ (inFlat (sD x) (ys.map sD)) = _
  rw [in_strs]; rfl
theorem e_notinL {x : List Nat} {ys : List (List Nat)} {i : Nat} (h : S[i]? = some (.lst (ys.map sD))) : fNotIn (sD x) (.obj i) S = some (.bl (!decide (x ∈ ys)), S) := by
  have e0 : lstAt S i = some (ys.map sD) := by unfold lstAt; rw [h]
  unfold fNotIn inB
  dsimp only
  rw [e0]
  show Option.map _ (inFlat (sD x) (ys.map sD)) = _
  rw [in_strs]; rfl
theorem mM_ {T : String} {f : FM} {o : ME} {a : MA} : mM T f o a env S = (o env S).bind fun d S1 => if tyOk T d S1 = true then (a env S1).bind fun ds S2 => R.of (f d ds S2) else .no := (rfl)
theorem mM0_ {T : String} {f : FM} {o : ME} : mM0 T f o env S = (o env S).bind fun d S1 => if tyOk T d S1 = true then R.of (f d [] S1) else .no := (rfl)
theorem tyL {i : Nat} {ds : List D} (h : S[i]? = some (.lst ds)) : tyOk "list" (.obj i) S = true := by unfold tyOk; simp only [h]; rfl
theorem tyS {z : Str} : tyOk "str" (.str z) S = true := (rfl)
theorem ga0 {T : Sto} {x : MO} : (S ++ x :: T)[S.length]? = some x := by simp
theorem ga1 {T : Sto} {x y : MO} : (S ++ x :: y :: T)[S.length + 1]? = some y := by simp
theorem sa0 {T : Sto} {x x' : MO} : (S ++ x :: T).set S.length x' = S ++ x' :: T := by simp
theorem sa1 {T : Sto} {x y y' : MO} : (S ++ x :: y :: T).set (S.length + 1) y' = S ++ x :: y' :: T := by simp
theorem sAsg_ {a : ME} {g : MG} : sAsg a g env S = RS.of (a env S) env (kAsg g env) := (rfl)
/-! for -/
theorem sFor_ {a : MI} {g : MG} {b : MS} : sFor a g b env S = RS.of (a env S) env fun it S1 => forI it g b it.n 0 env S1 := (rfl)
theorem iRng_ {a : MA} : iRng a env S = (a env S).bind kRngI := (rfl)
theorem kRng1 {j : Int} (h : -(2 ^ 62) ≤ j ∧ j < 2 ^ 62) : kRngI [.int j] S = .ok (itRng 0 j.toNat) S := if_pos h
theorem kRng2 {i j : Int} (h : -(2 ^ 62) ≤ i ∧ i < 2 ^ 62 ∧ -(2 ^ 62) ≤ j ∧ j < 2 ^ 62) : kRngI [.int i, .int j] S = .ok (itRng i (j - i).toNat) S := if_pos h
theorem fr_end {lo : Int} {n k : Nat} {g : MG} {b : MS} : forI (itRng lo n) g b k n env S = .nx env S := by
  have e : (itRng lo n).f n S = some none := if_neg (Nat.lt_irrefl n)
  cases k <;> (unfold forI; simp only [e])
theorem fr_at {lo : Int} {n i : Nat} (h : i < n) : (itRng lo n).f i S = some (some (.int (lo + (i : Int)))) := if_pos h
theorem fr_nx {lo : Int} {n i j k : Nat} {b : MS} {env2 : Env} {S2 : Sto} (h : i < n) (hb : b (env.set j (some (.int (lo + (i : Int))))) S = .nx env2 S2) : forI (itRng lo n) (gN j) b (k + 1) i env S = forI (itRng lo n) (gN j) b k (i + 1) env2 S2 := by
  rw [forI]; simp only [fr_at h, gN, hb]
theorem fr_rt {lo : Int} {n i j k : Nat} {b : MS} {d : D} {S2 : Sto} (h : i < n) (hb : b (env.set j (some (.int (lo + (i : Int))))) S = .rt d S2) : forI (itRng lo n) (gN j) b (k + 1) i env S = .rt d S2 := by
  rw [forI]; simp only [fr_at h, gN, hb]
theorem fr_ex {lo : Int} {n i j k : Nat} {b : MS} {e : Xn} {env2 : Env} {S2 : Sto} (h : i < n) (hb : b (env.set j (some (.int (lo + (i : Int))))) S = .ex e env2 S2) : forI (itRng lo n) (gN j) b (k + 1) i env S = .ex e env2 S2 := by
  rw [forI]; simp only [fr_at h, gN, hb]
/-- turns over a fixed row -/
theorem fx_end {ds : List D} {k : Nat} {g : MG} {b : MS} : forI (itFix ds) g b k ds.length env S = .nx env S := by
  have e : (itFix ds).f ds.length S = some none := by show some (ds[ds.length]?) = some none; simp
  cases k <;> (unfold forI; simp only [e])
theorem fx_nx {ds : List D} {d : D} {i k : Nat} {g : MG} {b : MS} {env1 env2 : Env} {S2 : Sto} (h : ds[i]? = some d) (hg : g d env S = some env1) (hb : b env1 S = .nx env2 S2) : forI (itFix ds) g b (k + 1) i env S = forI (itFix ds) g b k (i + 1) env2 S2 := by
  have e : (itFix ds).f i S = some (some d) := by show some (ds[i]?) = some (some d); rw [h]
  rw [forI]; simp only [e, hg, hb]
theorem fx_rt {ds : List D} {d d' : D} {i k : Nat} {g : MG} {b : MS} {env1 : Env} {S2 : Sto} (h : ds[i]? = some d) (hg : g d env S = some env1) (hb : b env1 S = .rt d' S2) : forI (itFix ds) g b (k + 1) i env S = .rt d' S2 := by
  have e : (itFix ds).f i S = some (some d) := by show some (ds[i]?) = some (some d); rw [h]
  rw [forI]; simp only [e, hg, hb]
/-- turns over a list in the store -/
theorem fl_end {ds : List D} {n j k : Nat} {g : MG} {b : MS} (h : S[j]? = some (.lst ds)) : forI (itLst n j) g b k ds.length env S = .nx env S := by
  have e : (itLst n j).f ds.length S = some none := by show (lstAt S j).map _ = some none; unfold lstAt; rw [h]; simp
  cases k <;> (unfold forI; simp only [e])
theorem fl_at {ds : List D} {d : D} {n j i : Nat} (h : S[j]? = some (.lst ds)) (h2 : ds[i]? = some d) : (itLst n j).f i S = some (some d) := by
  show (lstAt S j).map _ = some (some d); unfold lstAt; rw [h]; simp [h2]
theorem fl_nx {ds : List D} {d : D} {n j i k : Nat} {g : MG} {b : MS} {env1 env2 : Env} {S2 : Sto} (h : S[j]? = some (.lst ds)) (h2 : ds[i]? = some d) (hg : g d env S = some env1) (hb : b env1 S = .nx env2 S2) : forI (itLst n j) g b (k + 1) i env S = forI (itLst n j) g b k (i + 1) env2 S2 := by
  rw [forI]; simp only [fl_at h h2, hg, hb]
theorem fl_rt {ds : List D} {d d' : D} {n j i k : Nat} {g : MG} {b : MS} {env1 : Env} {S2 : Sto} (h : S[j]? = some (.lst ds)) (h2 : ds[i]? = some d) (hg : g d env S = some env1) (hb : b env1 S = .rt d' S2) : forI (itLst n j) g b (k + 1) i env S = .rt d' S2 := by
  rw [forI]; simp only [fl_at h h2, hg, hb]
theorem iSeq_ {a : ME} : iSeq a env S = (a env S).bind kSeqI := (rfl)
theorem kSeqT {ds : List D} : kSeqI (.tup ds) S = .ok (itFix ds) S := (rfl)
theorem kSeqL {ds : List D} {j : Nat} (h : S[j]? = some (.lst ds)) : kSeqI (.obj j) S = .ok (itLst ds.length j) S := by
  unfold kSeqI lstAt; simp only [h]
end
end Mi

namespace Mi
open PySem PySem.Spec PyProof.Rows L2
/-! ### dicts whose keys are ints and texts -/
def keyD : D → Option Key
  | .int i => some (.inl i)
  | .str x => some (.inr x)
  | _ => none
def valD (kds : List (Key × D)) (k : Key) : Option D := (kds.find? fun kv => decide (kv.1 = k)).map (·.2)
def putD (kds : List (Key × D)) (k : Key) (v : D) : List (Key × D) := if (kds.any fun kv => decide (kv.1 = k)) then kds.map fun kv => if kv.1 = k then (kv.1, v) else kv else kds ++ [(k, v)]
theorem valD_pos {p : Key × D} {r : List (Key × D)} {k : Key} (e : p.1 = k) : valD (p :: r) k = some p.2 := by simp [valD, List.find?_cons, e]
theorem valD_neg {p : Key × D} {r : List (Key × D)} {k : Key} (e : ¬ p.1 = k) : valD (p :: r) k = valD r k := by simp [valD, List.find?_cons, e]
section
variable {K : PySem.W.Frag} {as : List Addr} {S : Sto} {H : Hp}
theorem key_v {v : V} {d : D} {k : Key} (r : Rv K as H v d) (h : keyD d = some k) : v = kV k := by
  cases d <;> first | (cases h; done) | skip
  case int i => cases h; exact r.int_
  case str x => cases h; exact r.str_
theorem Rvs.appx {vs us : List V} {ds es : List D} (r : Rvs K as H vs ds) (t : Rvs K as H us es) : Rvs K as H (vs ++ us) (ds ++ es) := by
  induction vs generalizing ds with
  | nil => cases r; exact t
  | cons v vs ih => cases r with | cons h q => exact .cons h (ih q)
theorem rkv_val : ∀ {kvs : List (Key × V)} {kds : List (Key × D)} (k : Key), Rkv K as H kvs kds → (valV kvs k = none ∧ valD kds k = none) ∨ ∃ v d, valV kvs k = some v ∧ valD kds k = some d ∧ Rv K as H v d
  | [], [], k, _ => .inl ⟨rfl, rfl⟩
  | [], _ :: _, k, h => by cases h.1
  | _ :: _, [], k, h => by cases h.1
  | p :: kvs, q :: kds, k, h => by
    obtain ⟨h1, h2⟩ := h
    have e1 : p.1 = q.1 := (List.cons.inj h1).1
    have e2 := (List.cons.inj h1).2
    cases h2 with
    | cons r t =>
      by_cases e : p.1 = k
      · exact .inr ⟨p.2, q.2, valV_pos e, valD_pos (e1 ▸ e), r⟩
      · rw [valV_neg e, valD_neg (fun z => e (e1.trans z))]
        exact rkv_val k ⟨e2, t⟩
theorem rkv_any (k : Key) {kvs : List (Key × V)} {kds : List (Key × D)} (h : Rkv K as H kvs kds) : (kvs.any fun kv => decide (kv.1 = k)) = kds.any fun kv => decide (kv.1 = k) := by
  have e : ∀ {β : Type} (l : List (Key × β)), (l.any fun kv => decide (kv.1 = k)) = (l.map (·.1)).any fun x => decide (x = k) := by
    intro β l; rw [List.any_map]; rfl
  rw [e, e, h.1]
theorem rkv_repl (k : Key) {v : V} {d : D} (r : Rv K as H v d) : ∀ {kvs : List (Key × V)} {kds : List (Key × D)}, Rkv K as H kvs kds → Rkv K as H (kvs.map fun kv => if kv.1 = k then (kv.1, v) else kv) (kds.map fun kv => if kv.1 = k then (kv.1, d) else kv)
  | [], [], h => h
  | [], _ :: _, h => by cases h.1
  | _ :: _, [], h => by cases h.1
  | p :: kvs, q :: kds, h => by
    obtain ⟨h1, h2⟩ := h
    have e1 : p.1 = q.1 := (List.cons.inj h1).1
    have e2 := (List.cons.inj h1).2
    cases h2 with
    | cons r1 t =>
      obtain ⟨i1, i2⟩ := rkv_repl k r ⟨e2, t⟩
      by_cases e : p.1 = k
      · have e' : q.1 = k := e1 ▸ e
        refine ⟨?_, ?_⟩
        · simp only [List.map_cons, if_pos e, if_pos e', e1]
          rw [i1]
        · simp only [List.map_cons, if_pos e, if_pos e']
          exact .cons r i2
      · have e' : ¬ q.1 = k := fun z => e (e1.trans z)
        refine ⟨?_, ?_⟩
        · simp only [List.map_cons, if_neg e, if_neg e', e1]
          rw [i1]
        · simp only [List.map_cons, if_neg e, if_neg e']
          exact .cons r1 i2
theorem rkv_put (k : Key) {v : V} {d : D} {kvs : List (Key × V)} {kds : List (Key × D)} (r : Rv K as H v d) (h : Rkv K as H kvs kds) : Rkv K as H (putK kvs k v) (putD kds k d) := by
  unfold putK putD
  rw [rkv_any k h]
  cases e : kds.any fun kv => decide (kv.1 = k) with
  | true => exact rkv_repl k r h
  | false =>
    obtain ⟨h1, h2⟩ := h
    refine ⟨?_, ?_⟩
    · show (kvs ++ [(k, v)]).map _ = (kds ++ [(k, d)]).map _
      rw [List.map_append, List.map_append, h1]; rfl
    · show Rvs K as H ((kvs ++ [(k, v)]).map _) ((kds ++ [(k, d)]).map _)
      rw [List.map_append, List.map_append]
      exact h2.appx (.cons r .nil)
theorem rkv_len {kvs : List (Key × V)} {kds : List (Key × D)} (h : Rkv K as H kvs kds) : kvs.length = kds.length := by
  have := congrArg List.length h.1
  rwa [List.length_map, List.length_map] at this
end
/-- {} -/
def mDNew : ME := fun _ S => .ok (.obj S.length) (S ++ [.dic []])
def fGet : FM := fun d ds S => match d, ds with
  | .obj i, [e] => match S[i]? with
    | some (.dic kds) => (keyD e).map fun k => ((valD kds k).getD .non, S)
    | _ => none
  | .obj i, [e, z] => match S[i]? with
    | some (.dic kds) => (keyD e).map fun k => ((valD kds k).getD z, S)
    | _ => none
  | _, _ => none
def fDPut (o i v : D) (S : Sto) : Option Sto := match o with
  | .obj j => (match S[j]? with
    | some (.dic kds) => (keyD i).bind fun k => if kds.length < sizeLine then some (S.set j (.dic (putD kds k v))) else none
    | _ => none)
  | _ => none
def sDPut (o i e : ME) : MS := fun env S => RS.of (e env S) env fun v S1 => RS.of (o env S1) env fun x S2 => RS.of (i env S2) env fun y S3 => match fDPut x y v S3 with
  | some S4 => .nx env S4
  | none => .no
section
variable {X : Cx} {W : WX}
theorem em_dnew {pos : Pos} : EM X W (.Dict [] [] pos) mDNew :=
  ⟨pe_imp pe_dnewK fun σ H Q ⟨as, env, S, re, rel, g⟩ p hp => by
    obtain ⟨rel', x, hj⟩ := rel.new (u := .dic []) hp ⟨[], upd_same, rfl, .nil⟩ rfl
    exact g (as ++ [p]) _ _ x rel' (.obj hj)⟩
theorem mt_fGet (hu : X.A.units + 64 < cLine) : MtR X "dict.get" (rFM X.K fGet) := by
  intro pins s σ H x xs v us Q I rx rxs ⟨as, S, d, ds, z, S', rel, rv, rvs, hf, q⟩
  have hu1 : X.A.units + 1 < cLine := by omega
  cases d <;> first | (cases hf; done) | skip
  case obj i =>
    match ds, rvs, hf with
    | [e], rvs, hf =>
      unfold fGet at hf
      dsimp only at hf
      split at hf
      · rename_i kds e0
        obtain ⟨k, hk, e2⟩ := Option.map_eq_some_iff.mp hf
        cases e2
        obtain ⟨a, kvs, rfl, ha, hH, rk⟩ := rv.dic_ rel e0
        obtain ⟨y, rfl, ry⟩ := rvs.sing
        cases key_v ry hk
        obtain rfl : v = Value.ref a := rx
        cases rxs with
        | cons r1 rr =>
          cases rr
          refine d_get1 hu1 I (DGet.k hH) r1 fun w' s' I' rw' => ?_
          rcases rkv_val k rk with ⟨q1, q2⟩ | ⟨v', d', q1, q2, r'⟩
          · rw [q1] at rw'; rw [q2] at q
            exact ⟨_, H, I', rw', q as H _ Ex.refl rel .non⟩
          · rw [q1] at rw'; rw [q2] at q
            exact ⟨_, H, I', rw', q as H _ Ex.refl rel r'⟩
      · cases hf
    | [e, z0], rvs, hf =>
      unfold fGet at hf
      dsimp only at hf
      split at hf
      · rename_i kds e0
        obtain ⟨k, hk, e2⟩ := Option.map_eq_some_iff.mp hf
        cases e2
        obtain ⟨a, kvs, rfl, ha, hH, rk⟩ := rv.dic_ rel e0
        obtain ⟨y, y2, rfl, ry, ry2⟩ := rvs.pair
        cases key_v ry hk
        obtain rfl : v = Value.ref a := rx
        cases rxs with
        | cons r1 rr =>
          cases rr with
          | cons r2 rr2 =>
            cases rr2
            refine d_get2 hu1 I (DGet.k hH) r1 r2 fun w' s' I' rw' => ?_
            rcases rkv_val k rk with ⟨q1, q2⟩ | ⟨v', d', q1, q2, r'⟩
            · rw [q1] at rw'; rw [q2] at q
              exact ⟨_, H, I', rw', q as H _ Ex.refl rel ry2⟩
            · rw [q1] at rw'; rw [q2] at q
              exact ⟨_, H, I', rw', q as H _ Ex.refl rel r'⟩
      · cases hf
    | [], _, hf => cases hf
    | _ :: _ :: _ :: _, _, hf => cases hf
theorem put_dic {K : PySem.W.Frag} {as : List Addr} {S : Sto} {H : Hp} {i : Nat} {a : Addr} {kds kds' : List (Key × D)} {kvs kvs' : List (Key × V)} (rel : Rel K as S H) (ha : as[i]? = some a) (hs : S[i]? = some (.dic kds)) (hH : H a = some (.dK kvs)) (ru : Rkv K as H kvs' kds') :
    Rel K as (S.set i (.dic kds')) (upd H a (.dK kvs')) ∧ Ex K as H as (upd H a (.dK kvs')) := by
  have x : Ex K as H as (upd H a (.dK kvs')) := Ex.mut (by rw [hH]; trivial)
  exact rel.put ha hs rfl rfl ⟨kvs', upd_same, ru.1, ru.2.mono x⟩
theorem sm_dput {o i e : Expr} {mo mi me : ME} {pos pos' : Pos} (hu : X.A.units + 64 < cLine) (ho : EM X W o mo) (hi : EM X W i mi) (he : EM X W e me) (hs : swapsWith e (some (.Subscript o i pos')) pos.line X.env = pure false := by rfl) :
    SM X W (.Assign [.Subscript o i pos'] e pos) (sDPut mo mi me) :=
  ⟨ps_imp (ps_dput (by omega) ho.pe hi.pe he.pe hs) fun Dn σ H q => tS_of (f := fun env v S1 => RS.of (mo env S1) env fun x S2 => RS.of (mi env S2) env fun y S3 => match fDPut x y v S3 with
    | some S4 => .nx env S4
    | none => .no) q fun as env d S1 as1 H1 v re rel rv g1 =>
    ⟨as1, env, S1, re, rel, GoS.ofE re g1 fun x S2 as2 H2 xv x2 r2 rx g2 => ⟨as2, env, S2, re.mono x2, r2, GoS.ofE (re.mono x2) g2 fun y S3 as3 H3 yv x3 r3 ry g3 => by
      cases e0 : fDPut x y d S3 with
      | none => rw [e0] at g3; exact g3.elim
      | some S4 =>
        rw [e0] at g3
        cases x <;> first | (cases e0; done) | skip
        rename_i j
        unfold fDPut at e0
        dsimp only at e0
        split at e0
        · rename_i kds e1
          obtain ⟨k, hk, e2⟩ := Option.bind_eq_some_iff.mp e0
          split at e2
          · rename_i hl
            cases e2
            obtain ⟨a, kvs, rfl, ha, hH, rk⟩ := (rx.mono x3).dic_ r3 e1
            cases key_v ry hk
            obtain ⟨r4, x4⟩ := put_dic r3 ha e1 hH (rkv_put k ((rv.mono x2).mono x3) rk)
            exact ⟨a, _, rfl, DPut.k hH (by rw [rkv_len rk]; exact hl), g3 as3 _ σ x4 r4 (((re.mono x2).mono x3).mono x4)⟩
          · cases e2
        · cases e0⟩⟩⟩
end
end Mi

namespace Mi
open PySem PySem.Spec PyProof.Rows L2
/-! ### enumerate over a tuple -/
theorem meets_enumB {v : Value} {o : Obj} {H : Heap → Prop} (B : Begins v o H) :
    Meets (Builtin.«enumerate.__new__» ⟨[.type "enumerate", v], []⟩) (fun _ R s => H s.heap ∧
      R (.ok (.ret (.ref (s.heap.push o).objs.size))) { s with heap := (s.heap.push o).push { cls := .type "enumerate", data := .fields #[.none, .bool false, .ref s.heap.objs.size, rawInt 0, .none, .none] } }) :=
  .of_wp fun prog w A R s h => by
    obtain ⟨hp, g, d, tk, os⟩ := s; obtain ⟨h1, h⟩ := h
    have hsub := sub_enumerate
    have q1 : ∀ {A' : Around} {E : Value → Shared → Prop} {Q : Value → Shared → Prop}, Q (.ref hp.objs.size) ⟨hp.push o, g, d, tk, os⟩ → wpAny (model prog w) A' (pyIter v) Q E ⟨hp, g, d, tk, os⟩ :=
      fun q => B.iter prog w _ _ ⟨hp, g, d, tk, os⟩ _ h1 q
    wp_walk using q1
    refine wpAny_stack_any fun st => wpAny_pure ?_
    split
    · rename_i c _ _ _ _ _
      cases (c == Value.type "enumerate")
      · wp_walk using q1
        exact ⟨_, rfl, h⟩
      · wp_walk using q1
        exact ⟨_, rfl, h⟩
    · wp_walk using q1
      exact ⟨_, rfl, h⟩
theorem call_enumB {prog : Program} {w : World} {A : Around} {E : Value → Shared → Prop} {s : Shared} {v : Value} {o : Obj} {H : Heap → Prop} {Q : Value → Shared → Prop} (B : Begins v o H) (h1 : H s.heap)
    (h : ∀ h', IsEnum h' (s.heap.objs.size + 1) s.heap.objs.size 0 .none → h'.get? s.heap.objs.size = some o → h'.objs.size = s.heap.objs.size + 2 →
      (∀ b o, s.heap.get? b = some o → h'.get? b = some o) → Q (.ref (s.heap.objs.size + 1)) { s with heap := h' }) :
    wpAny (model prog w) A (call (.type "enumerate") [v]) Q E s := by
  refine callType_new F.called_enumerate (by decide) (F.typeCall_enumerate_1 _) (F.newCall_enumerate_1 _) (fun obj => F.args_object_init_2 obj _) F.entry_enumerate_new
    (meets_enumB B) ⟨h1, ?_⟩
  have hz : (s.heap.push o).objs.size = s.heap.objs.size + 1 := Heap.size_push ..
  show _ ∧ _
  rw [hz]
  have he : IsEnum ((s.heap.push o).push { cls := .type "enumerate", data := .fields #[.none, .bool false, .ref s.heap.objs.size, rawInt 0, .none, .none] }) (s.heap.objs.size + 1) s.heap.objs.size 0 .none := by
    have := Heap.get?_push_size (s.heap.push o) (o := { cls := .type "enumerate", data := .fields #[.none, .bool false, .ref s.heap.objs.size, rawInt 0, .none, .none] }) rfl
    rw [hz] at this; exact this
  refine ⟨⟨_, he, rfl⟩, h _ he (Heap.get?_push_of_some _ (Heap.get?_push_size _ B.free)) (by rw [Heap.size_push, hz]) fun b o x => Heap.get?_push_of_some _ (Heap.get?_push_of_some _ x)⟩
/-- the tuple at a, each item in a new pair -/
def IteT (K : PySem.W.Frag) (a : Addr) : It :=
  ⟨fun i H => ∃ (xs : List V) (x : V), SqT K H a xs ∧ xs[i]? = some x, fun i H v H' => ∃ T x, v = .ref T ∧ H T = none ∧ H' = upd H T (.tup [.int (i : Nat), x]) ∧ ∀ xs, SqT K H a xs → xs[i]? = some x, fun i H => ∃ xs : List V, SqT K H a xs ∧ xs.length ≤ i⟩
theorem enumT_end {prog : Program} {w : World} {A : Around} {E : Value → Shared → Prop} {s : Shared} {e it a : Addr} {i : Nat} {items : Array Value} {old : Value} {Q : Option Value → Shared → Prop} (hh : A.handled = none)
    (he : IsEnum s.heap e it ((i : Nat) : Int) old) (hit : s.heap.IsTupleIter it a i) (hl : s.heap.IsTuple a items) (hx : items[i]? = none)
    (hQ : ∀ h', Heap.ExtBut it s.heap h' → Q none { s with heap := h' }) : wpAny (model prog w) A (pyNext (.ref e)) Q E s := by
  have hT : s.TypeIs (.ref e) "enumerate" := ⟨_, he, rfl⟩
  unfold pyNext
  refine wpAny_bind (wpAny_attempt (wpAny_callSpecial?_slot (name := Str.ofString "__next__") hT F.slot_enumerate_next
    (wpAny_call_entry F.slot_enumerate_next hT F.entry_enumerate_next ?_ (F.args_enumerate_next_1 _))))
  show wpAny _ _ (field (.ref e) 2 >>= _) _ _ _
  refine wpAny_bind (wpAny_field he rfl (x := .ref it) rfl ?_)
  refine wpAny_bind (wpAny_nextOf_tuple_end (show A.in1.handled = none from hh) hit hl hx fun h' x he' hx' => ?_)
  obtain ⟨o, ho, hc⟩ := hx'
  refine wpAny_bind (wpAny_isInstance (T := "StopIteration") (b := true) ⟨o, ho, hc⟩ isSubtype_stop ?_)
  exact wpAny_pure (hQ _ he')
theorem turn_enumT {P : Program} {w : World} {K : PySem.W.Frag} {elts : List Expr} {kk : Nat} {tpos : Pos} (a e it : Addr) (hea : e ≠ a) (hai : a ≠ it) :
    Turn P w K (.Tuple elts kk tpos) (IteT K a) [e, it] e (fun i h => (∃ old, IsEnum h e it ((i : Nat) : Int) old) ∧ h.IsTupleIter it a i ∧ e ≠ it) where
  mem := by simp
  obj := fun i h st b hb => by
    obtain ⟨⟨old, he⟩, ⟨o, ho, hc, hd⟩, _⟩ := st
    have e' : b = e ∨ b = it := by simpa using hb
    rcases e' with z | z
    · rw [z]; exact ⟨_, he, fun v q => nomatch q⟩
    · rw [z]; exact ⟨o, ho, fun v q => by rw [hd] at q; cases q⟩
  keep := fun i h h' st k => let ⟨⟨old, he⟩, hi, hne⟩ := st; ⟨⟨old, k e (by simp) _ he⟩, hi.at fun o q => k it (by simp) o q, hne⟩
  item := by
    intro X hP hw hK hc i pins s σ H E I hf st hg
    subst hP hw hK
    obtain ⟨⟨old, he⟩, hit, hne⟩ := st
    obtain ⟨xs, x, hq, hx⟩ := hg
    obtain ⟨its, rv, p, hz⟩ := I.tuple hq
    obtain ⟨u, hu, ru⟩ := rv.get hx
    have hel : e < s.heap.objs.size := Heap.lt_size he
    have hil : it < s.heap.objs.size := by obtain ⟨_, q, _⟩ := hit; exact Heap.lt_size q
    have D := Draws.tuple (prog := X.prog) (w := X.w) (A := X.A.in1) (show X.A.in1.handled = none from I.ok.hd hc) it a hai its.toArray
    have hef : e ∉ [it, a] := by simp only [List.mem_cons, List.not_mem_nil, or_false]; rintro (z | z); exact hne z; exact hea z
    have hlt : i < its.toArray.size := by
      have := (List.getElem?_eq_some_iff.mp hu).1
      simpa using this
    refine wpAny_pyNext_enum_itemD D he ⟨hit, p⟩ hlt hne hef fun u' h' tk hP ho hit' hT hsz hk => ?_
    have hu' : u' = u := by
      have : its[i]? = some u' := by simpa using hP
      rw [hu] at this; exact (Option.some.inj this).symm
    subst hu'
    refine ⟨_, rfl, wpAny_letOwnedTupleGo_enum (s := { s with heap := h', toks := tk + 1 }) ho fun h'' he' sb => ?_⟩
    have hT2 : h''.get? s.heap.objs.size = some { cls := .type "tuple", data := .seq #[.int i tk, u'] } := (sb.2 _ (Nat.ne_of_gt hel)).trans hT
    have new : ObjOk X.prog X.w (upd H s.heap.objs.size (.tup [.int (i : Nat), x])) h'' s.heap.objs.size (.tup [.int (i : Nat), x]) :=
      ⟨by show 2 ≤ sizeLine; decide, [.int i tk, u'], .cons ⟨_, rfl⟩ (.cons ru .nil), ⟨_, hT2, rfl, _, rfl⟩⟩
    have I1 : Inv X pins σ (upd H s.heap.objs.size (.tup [.int (i : Nat), x])) { s with heap := h'', toks := tk + 1 } :=
      I.turnedNew (ch := [e, it]) (fun b ob hb q => (sb.2 b (fun z => hb (by simp [z]))).trans (hk b ob (fun z => hb (by simp [z])) (fun z => hb (by simp [z])) q)) hf (Nat.le_refl _) new
    refine ⟨.ref s.heap.objs.size, _, I1, rfl, ⟨_, x, rfl, I.hok.fresh (Nat.le_refl _), rfl, fun ys hy => by rw [I.tuple_inj hy hq]; exact hx⟩, ⟨⟨u', ?_⟩, hit'.1.at fun o q => (sb.2 it (Ne.symm hne)).trans q, hne⟩, fun b hb => ?_⟩
    · have e1 : ((i + 1 : Nat) : Int) = (i : Int) + 1 := by omega
      rw [e1]; exact he'
    · have hb' : b < s.heap.objs.size := by
        have e' : b = e ∨ b = it := by simpa using hb
        rcases e' with z | z
        · rw [z]; exact hel
        · rw [z]; exact hil
      rw [upd_ne (Nat.ne_of_lt hb')]
      exact (hf b hb).1
  done := by
    intro X hP hw hK hc i pins s σ H E I hf st hg
    subst hP hw hK
    obtain ⟨⟨old, he⟩, hit, hne⟩ := st
    obtain ⟨xs, hq, hx⟩ := hg
    obtain ⟨its, rv, p, hz⟩ := I.tuple hq
    obtain ⟨f0, f1, f2, f3, f4, f5⟩ := hf it (by simp)
    have hl := rv.length
    exact enumT_end (I.ok.hd hc) he hit p (by simp; omega) fun h' eb => ⟨rfl, I.turned (t' := s.toks) (fun b o hb q => eb b o hb q) f0 f1 f3 f4 f5⟩
  self := fun A i s Q E st h => let ⟨⟨_, he⟩, _⟩ := st; wpAny_pyIter_enum he h

def iEnumT2 (K : PySem.W.Frag) (ta : TA) : TI := fun σ H R => ta σ H fun vs H1 => ∃ a, vs = [.ref a] ∧ (((∃ xs, SqL K H1 a xs) ∧ R (Ite K a) H1) ∨ ((∃ xs, SqT K H1 a xs) ∧ R (IteT K a) H1))
theorem pi_enum2 {X : Cx} {e : Expr} {ta : TA} {p pos tpos : Pos} {elts : List Expr} {kk : Nat} (hg : Gl X "enumerate") (hm : X.mg "enumerate" = none) (ha : PA X [e] ta) (hs : starEach [e] X.env = [(false, eval e X.env)] := by rfl) :
    PI X (.Tuple elts kk tpos) (.Call (.Name "enumerate" p) [e] [] pos) (iEnumT2 X.K ta) := by
  refine ⟨fun pins s σ H R I h => ?_⟩
  refine Call_ (ld_blt I hg hm boot_enumerate (PyProof.Rows.callWith_type1 (thn (ha.run pos pins s σ H _ I h) fun us s1 ⟨vs, H1, I1, r1, q1⟩ => ?_) hs rfl))
  obtain ⟨a, ex, q1⟩ := q1
  subst ex
  cases r1 with
  | cons r rr =>
    cases rr
    cases r
    rcases q1 with ⟨⟨xs, hq⟩, q⟩ | ⟨⟨xs, hq⟩, q⟩
    · obtain ⟨its, rv, p', hz⟩ := I1.list hq
      refine call_enumerate_list p'.isList fun h' he hit hsz hk => wpAny_pyIter_enum he ?_
      have I2 : Inv X pins σ H1 { s1 with heap := h' } := I1.kept (t' := s1.toks) hk
      refine ⟨s1.heap.objs.size + 1, [s1.heap.objs.size + 1, s1.heap.objs.size], _, _, H1, rfl, I2, turn_enum a (s1.heap.objs.size + 1) s1.heap.objs.size, ⟨⟨.none, he⟩, hit, Nat.succ_ne_self _⟩, fun b hb => ?_, q⟩
      have e' : b = s1.heap.objs.size + 1 ∨ b = s1.heap.objs.size := by simpa using hb
      have hle : s1.heap.objs.size ≤ b := by
        rcases e' with z | z
        · rw [z]; exact Nat.le_add_right _ _
        · rw [z]; exact Nat.le_refl _
      exact I1.fpOk hle (I1.hok.fresh hle)
    · obtain ⟨its, rv, p', hz⟩ := I1.tuple hq
      have hlt : a < s1.heap.objs.size := by obtain ⟨o, e, _⟩ := p'; exact Heap.lt_size e
      refine call_enumB (begins_tuple a its.toArray) (show s1.heap.IsTuple a its.toArray from p') fun h' he hit hsz hk => wpAny_pyIter_enum he ?_
      have I2 : Inv X pins σ H1 { s1 with heap := h' } := I1.kept (t' := s1.toks) hk
      refine ⟨s1.heap.objs.size + 1, [s1.heap.objs.size + 1, s1.heap.objs.size], _, _, H1, rfl, I2, turn_enumT a (s1.heap.objs.size + 1) s1.heap.objs.size (Nat.ne_of_gt (Nat.lt_succ_of_lt hlt)) (Nat.ne_of_lt hlt), ⟨⟨.none, he⟩, ⟨_, hit, rfl, rfl⟩, Nat.succ_ne_self _⟩, fun b hb => ?_, q⟩
      have e' : b = s1.heap.objs.size + 1 ∨ b = s1.heap.objs.size := by simpa using hb
      have hle : s1.heap.objs.size ≤ b := by
        rcases e' with z | z
        · rw [z]; exact Nat.le_add_right _ _
        · rw [z]; exact Nat.le_refl _
      exact I1.fpOk hle (I1.hok.fresh hle)
def itEnumT (es : List D) : MIt := ⟨es.length, fun i _ => some (es[i]?.map fun d => .tup [.int (i : Int), d])⟩
def kEnumA (ds : List D) (S : Sto) : R MIt := match ds with
  | [.obj j] => (match lstAt S j with
    | some ds => .ok (itEnumL ds.length j) S
    | none => .no)
  | [.tup es] => .ok (itEnumT es) S
  | _ => .no
def iEnumA (a : MA) : MI := fun env S => (a env S).bind kEnumA
theorem iteT_ok {K : PySem.W.Frag} {as1 : List Addr} {H1 : Hp} {a : Addr} {xs : List V} {ds : List D} (ha : SqT K H1 a xs) (ra : Rvs K as1 H1 xs ds) : ItOk K as1 H1 (IteT K a) (itEnumT ds) where
  stop := fun as S H i x rel e => ⟨xs, x.tup _ _ ha, by
    have e3 : ds[i]?.map (fun d => D.tup [.int (i : Int), d]) = none := Option.some.inj e
    rw [ra.len]; exact List.getElem?_eq_none_iff.mp (Option.map_eq_none_iff.mp e3)⟩
  go := fun as S H i d x rel e => by
    have e3 : ds[i]?.map (fun d => D.tup [.int (i : Int), d]) = some d := Option.some.inj e
    obtain ⟨d0, e4, e5⟩ := Option.map_eq_some_iff.mp e3
    subst e5
    obtain ⟨v, hv, rv⟩ := (ra.mono x).get e4
    have ha' := x.tup _ _ ha
    refine ⟨⟨xs, v, ha', hv⟩, fun y H' hy' => ?_⟩
    obtain ⟨T, x', rfl, hT, rfl, hy'⟩ := hy'
    have e6 := hy' xs ha'
    rw [hv] at e6
    cases e6
    exact ⟨Ex.fresh hT, rel.fresh hT, .tup (SqT.of upd_same) (.cons (.int _) (.cons (rv.mono (Ex.fresh hT)) .nil))⟩
section
variable {X : Cx} {W : WX}
theorem im_enumA {e : Expr} {m : ME} {elts : List Expr} {kk : Nat} {p pos tpos : Pos} (hm : X.mg "enumerate" = none) (h : EM X W e m) (hg : Gl X "enumerate" := by rfl) (hs : starEach [e] X.env = [(false, eval e X.env)] := by rfl) :
    IM X W (.Tuple elts kk tpos) (.Call (.Name "enumerate" p) [e] [] pos) (iEnumA (mCons m mNil)) :=
  ⟨pi_imp (pi_enum2 hg hm (am_cons h am_nil (by rw [hs]; rfl)).pa hs) fun σ H R q => tU_bind (f := fun _ => kEnumA) q fun as env ds S1 as1 H1 vs re rel rvs g => by
    unfold kEnumA at g
    split at g
    · rename_i j
      cases e0 : lstAt S1 j with
      | none => rw [e0] at g; exact g.elim
      | some es =>
        rw [e0] at g
        obtain ⟨v, rfl, r⟩ := rvs.sing
        obtain ⟨a, xs, rfl, hj, ha, ra⟩ := r.seq_ rel e0
        exact ⟨a, rfl, .inl ⟨⟨xs, ha⟩, g as1 H1 _ Ex.refl rel (ite_ok hj)⟩⟩
    · rename_i es
      obtain ⟨v, rfl, r⟩ := rvs.sing
      obtain ⟨a, xs, rfl, ha, ra⟩ := r.tup_
      exact ⟨a, rfl, .inr ⟨⟨xs, ha⟩, g as1 H1 _ Ex.refl rel (iteT_ok ha ra)⟩⟩
    · exact g.elim⟩
end
end Mi

namespace Mi
open PySem PySem.Spec PyProof.Rows L2
/-! ### list(enumerate(row)): each pair is kept by the list -/
theorem en_nolen : typeLookup (.type "enumerate") "__len__" = pure none := by rw [typeLookup_type, builtinLookup_eq_fast]; kernel_rfl
theorem en_nohint : typeLookup (.type "enumerate") "__length_hint__" = pure none := by rw [typeLookup_type, builtinLookup_eq_fast]; kernel_rfl
/-- the numbering stands ahead of item i: nothing was given yet, or the last pair T is kept -/
def EnAt (h : Heap) (e it : Addr) (i : Nat) : Prop := (∃ old, IsEnum h e it ((i : Nat) : Int) old) ∨ ∃ old T f o, IsEnumHeld h e it ((i : Nat) : Int) old T f ∧ h.get? T = some o ∧ T ≠ e ∧ T ≠ it
theorem EnAt.get {h : Heap} {e it : Addr} {i : Nat} (a : EnAt h e it i) : ∃ o, h.get? e = some o ∧ o.cls = .type "enumerate" ∧ (∀ v, o.data ≠ .cell v) := by
  rcases a with ⟨old, he⟩ | ⟨old, T, f, o, he, _⟩
  · exact ⟨_, he, rfl, fun v q => nomatch q⟩
  · exact ⟨_, he, rfl, fun v q => nomatch q⟩
theorem EnAt.keep {h h' : Heap} {e it Sa : Addr} {i : Nat} (a : EnAt h e it i) (he : e ≠ Sa) (k : ∀ b o, b ≠ Sa → h.get? b = some o → h'.get? b = some o) (kS : ∀ o, h.get? Sa = some o → ∃ o', h'.get? Sa = some o') : EnAt h' e it i := by
  rcases a with ⟨old, q⟩ | ⟨old, T, f, o, q, hT, h1, h2⟩
  · exact .inl ⟨old, k e _ he q⟩
  · by_cases z : T = Sa
    · subst z
      obtain ⟨o', q'⟩ := kS o hT
      exact .inr ⟨old, T, f, o', k e _ he q, q', h1, h2⟩
    · exact .inr ⟨old, T, f, o, k e _ he q, k T o z hT, h1, h2⟩
section
variable {prog : Program} {w : World} {A : Around} {E : Value → Shared → Prop} {s : Shared} {e it : Addr} {fp : List Addr} {n i : Nat} {P : Nat → Value → Prop} {St : Nat → Heap → Prop}
theorem next_held {old : Value} {T : Addr} {f : Bool} {oT : Obj} {Q : Value → Shared → Prop} (D : Draws prog w A it fp n P St) (he : IsEnumHeld s.heap e it ((i : Nat) : Int) old T f) (hT : s.heap.get? T = some oT) (hTe : T ≠ e) (hTi : T ≠ it) (hst : St i s.heap) (hlt : i < n) (hne : e ≠ it) (hef : e ∉ fp)
    (hQ : ∀ x h' tk, P i x → IsEnumHeld h' e it ((i : Int) + 1) old T true → St (i + 1) h' → h'.get? s.heap.objs.size = some { cls := .type "tuple", data := .seq #[.int i tk, x] } → h'.objs.size = s.heap.objs.size + 1 →
      (∀ b o, b ≠ e → b ≠ it → s.heap.get? b = some o → h'.get? b = some o) → Q (.ref s.heap.objs.size) { s with heap := h', toks := tk + 1 }) :
    wpAny (model prog w) A (Builtin.«enumerate.__next__» ⟨[.ref e], []⟩) (fun fin s' => ∃ v, fin = .done (.ret v) ∧ Q v s') E s := by
  obtain ⟨hp, g, d, tk₀, os⟩ := s
  show wpAny _ _ (field (.ref e) 2 >>= _) _ _ _
  refine wpAny_bind (wpAny_field he rfl (x := .ref it) rfl ?_)
  refine wpAny_bind (D.item i _ _ _ hlt hst fun x a1 tk px st1 sb1 => ?_)
  have e1 : IsEnumHeld a1 e it i old T f := (sb1.2 e hne).trans he
  show wpAny _ _ (field (.ref e) 3 >>= _) _ _ ⟨a1, g, d, tk, os⟩
  refine wpAny_bind (wpAny_field e1 rfl (x := rawInt i) rfl ?_)
  show wpAny _ _ (field (.ref e) 4 >>= _) _ _ ⟨a1, g, d, tk, os⟩
  refine wpAny_bind (wpAny_field e1 rfl (x := .none) rfl ?_)
  show wpAny _ _ (mkInt i >>= _) _ _ ⟨a1, g, d, tk, os⟩
  refine wpAny_bind (wpAny_mkInt ?_)
  show wpAny _ _ (setField (.ref e) 3 (rawInt ((i : Int) + 1)) >>= _) _ _ ⟨a1, g, d, tk + 1, os⟩
  refine wpAny_bind (wpAny_setField_rec e1 (by simp) fun a2 e2 sb2 => ?_)
  show wpAny _ _ (setField (.ref e) 4 .none >>= _) _ _ ⟨a2, g, d, tk + 1, os⟩
  refine wpAny_bind (wpAny_setField_rec e2 (by simp) fun a3 e3 sb3 => ?_)
  show wpAny _ _ (newTuple [.int i tk, x] >>= _) _ _ ⟨a3, g, d, tk + 1, os⟩
  have z3 : a3.objs.size = hp.objs.size := sb3.1.trans (sb2.1.trans sb1.1)
  have k3 : ∀ b o, b ≠ e → b ≠ it → hp.get? b = some o → a3.get? b = some o := fun b o n1 n2 q => sb3.extBut b o n1 (sb2.extBut b o n1 (sb1.extBut b o n2 q))
  have e3' : IsEnumHeld a3 e it ((i : Int) + 1) old T f := e3
  refine wpAny_bind (wpAny_newTuple ?_)
  have e4 : IsEnumHeld (a3.push { cls := .type "tuple", data := .seq #[.int i tk, x] }) e it ((i : Int) + 1) old T f := Heap.get?_push_of_some _ e3'
  have t4 := Heap.get?_push_size a3 (o := { cls := .type "tuple", data := .seq #[.int i tk, x] }) rfl
  have s4 := Heap.size_push a3 { cls := .type "tuple", data := .seq #[.int i tk, x] }
  have k4 : ∀ b o, b ≠ e → b ≠ it → hp.get? b = some o → (a3.push { cls := .type "tuple", data := .seq #[.int i tk, x] }).get? b = some o := fun b o n1 n2 q => Heap.get?_push_of_some _ (k3 b o n1 n2 q)
  have st4 : St (i + 1) (a3.push { cls := .type "tuple", data := .seq #[.int i tk, x] }) := D.frame _ _ _ st1 fun b hb o q => by
    have n1 : b ≠ e := fun z => hef (z ▸ hb)
    exact Heap.get?_push_of_some _ (sb3.extBut b o n1 (sb2.extBut b o n1 q))
  generalize a3.push { cls := .type "tuple", data := .seq #[.int i tk, x] } = a4 at e4 t4 s4 k4 st4
  rw [z3] at t4 s4
  show wpAny _ _ (Builtin.SmallTypes.ownedTupleIsFree (.ref e) >>= _) _ _ ⟨a4, g, d, tk + 1, os⟩
  rw [z3]
  have hel : e < hp.objs.size := Heap.lt_size he
  refine wpAny_bind (wpAny_tupleHeld_enum (s := ⟨a4, g, d, tk + 1, os⟩) e4 (k4 T oT hTe hTi hT) fun a5 e5 sb5 => ?_)
  have sb5' : Heap.SameBut e a4 a5 := sb5
  simp only [Bool.false_eq_true, if_false]
  refine wpAny_pure ⟨_, rfl, hQ x a5 tk px e5 ?_ (sb5'.extBut _ _ (Nat.ne_of_gt hel) t4) (sb5'.1.trans s4) fun b o n1 n2 q => sb5'.extBut b o n1 (k4 b o n1 n2 q)⟩
  exact D.frame _ _ _ st4 fun b hb o q => sb5'.extBut b o (fun z => hef (z ▸ hb)) q
theorem next_en {Q : Option Value → Shared → Prop} (D : Draws prog w A.in1 it fp n P St) (a : EnAt s.heap e it i) (hst : St i s.heap) (hlt : i < n) (hne : e ≠ it) (hef : e ∉ fp) (hil : it < s.heap.objs.size)
    (hQ : ∀ x h' tk, P i x → EnAt h' e it (i + 1) → St (i + 1) h' → h'.get? s.heap.objs.size = some { cls := .type "tuple", data := .seq #[.int i tk, x] } → h'.objs.size = s.heap.objs.size + 1 →
      (∀ b o, b ≠ e → b ≠ it → s.heap.get? b = some o → h'.get? b = some o) → Q (some (.ref s.heap.objs.size)) { s with heap := h', toks := tk + 1 }) : wpAny (model prog w) A (pyNext (.ref e)) Q E s := by
  have ei : ((i + 1 : Nat) : Int) = (i : Int) + 1 := by omega
  rcases a with ⟨old, he⟩ | ⟨old, T, f, o, he, hT, h1, h2⟩
  · have hel : e < s.heap.objs.size := Heap.lt_size he
    refine wpAny_pyNext_enum_itemD D he hst hlt hne hef fun x h' tk px out st t z k => hQ x h' tk px (.inr ⟨x, s.heap.objs.size, false, _, by rw [ei]; exact out, t, Nat.ne_of_gt hel, Nat.ne_of_gt hil⟩) st t z k
  · have hTy : s.TypeIs (.ref e) "enumerate" := ⟨_, he, rfl⟩
    unfold pyNext
    refine wpAny_bind (wpAny_attempt (wpAny_callSpecial?_slot (name := Str.ofString "__next__") hTy F.slot_enumerate_next
      (wpAny_call_entry F.slot_enumerate_next hTy F.entry_enumerate_next (next_held D he hT h1 h2 hst hlt hne hef fun x h' tk px hh st t z k => wpAny_pure ?_) (F.args_enumerate_next_1 _))))
    exact hQ x h' tk px (.inr ⟨old, T, true, o, by rw [ei]; exact hh, k T o h1 h2 hT, h1, h2⟩) st t z k
theorem end_en {Q : Option Value → Shared → Prop} (D : Draws prog w A.in1 it fp n P St) (a : EnAt s.heap e it i) (hst : St n s.heap)
    (hQ : ∀ h', Heap.ExtBut it s.heap h' → Q none { s with heap := h' }) : wpAny (model prog w) A (pyNext (.ref e)) Q E s := by
  rcases a with ⟨old, he⟩ | ⟨old, T, f, o, he, _⟩
  · exact wpAny_pyNext_enum_endD D he hst hQ
  · have hTy : s.TypeIs (.ref e) "enumerate" := ⟨_, he, rfl⟩
    unfold pyNext
    refine wpAny_bind (wpAny_attempt (wpAny_callSpecial?_slot (name := Str.ofString "__next__") hTy F.slot_enumerate_next
      (wpAny_call_entry F.slot_enumerate_next hTy F.entry_enumerate_next ?_ (F.args_enumerate_next_1 _))))
    show wpAny _ _ (field (.ref e) 2 >>= _) _ _ _
    refine wpAny_bind (wpAny_field he rfl (x := .ref it) rfl ?_)
    refine wpAny_bind (D.done _ _ _ hst fun h' u hx ⟨o', q1, q2⟩ => ?_)
    exact wpAny_bind (wpAny_isInstance (T := "StopIteration") (b := true) ⟨o', q1, q2⟩ isSubtype_stop (wpAny_pure (hQ _ hx)))
end
/-! the loop -/
def enD : Nat → List D → List D
  | _, [] => []
  | i, d :: ds => .tup [.int (i : Int), d] :: enD (i + 1) ds
theorem enD_len : ∀ (i : Nat) (ds : List D), (enD i ds).length = ds.length
  | _, [] => rfl
  | i, _ :: ds => congrArg (· + 1) (enD_len (i + 1) ds)
theorem enD_snoc : ∀ (i : Nat) (ds : List D) (d : D), enD i (ds ++ [d]) = enD i ds ++ [.tup [.int ((i + ds.length : Nat) : Int), d]]
  | i, [], d => rfl
  | i, x :: ds, d => by
    show _ :: enD (i + 1) (ds ++ [d]) = _ :: (enD (i + 1) ds ++ _)
    rw [enD_snoc (i + 1) ds d, show i + 1 + ds.length = i + (x :: ds).length by simp; omega]
section
variable {X : Cx} {pins : List (Addr × Obj)} {σ : L2.St} {as1 : List Addr} {S0 : Sto} {H1 : Hp} {e it Sa : Addr} {fp : List Addr} {xs : List V} {ds : List D} {its : List Value} {A : Around} {St : Nat → Heap → Prop} {res : Value} {R : Result → Shared → Prop}
theorem ext_loop (D : Draws X.prog X.w A.in1.in1 it fp its.length (fun i v => its[i]? = some v) St) (hif : it ∈ fp) (hne : e ≠ it) (hef : e ∉ fp) (hSe : e ≠ Sa) (hSf : Sa ∉ fp) (rv : Vals xs its) (rd : Rvs X.K as1 H1 xs ds) (hz : its.length ≤ sizeLine) (hSn : S0.length = as1.length)
    (hR : ∀ s' H', L2.Inv X pins σ H' s' → Rel X.K (as1 ++ [Sa]) (S0 ++ [.lst (enD 0 ds)]) H' → Ex X.K as1 H1 (as1 ++ [Sa]) H' → R (.ok (.ret res)) s') :
    ∀ (k i : Nat) (s : Shared) (H : Hp), its.length = i + k → L2.Inv X pins σ H s → St i s.heap → EnAt s.heap e it i → Rel X.K (as1 ++ [Sa]) (S0 ++ [.lst (enD 0 (ds.take i))]) H → Ex X.K as1 H1 (as1 ++ [Sa]) H → (∀ b ∈ [e, it], FpOk X pins H b) →
      codeAny (model X.prog X.w) A (.builtin "list.extend.loop" ⟨[.ref Sa, .ref e, res], []⟩) R s := by
  have hl1 : xs.length = its.length := rv.length
  have hl2 : xs.length = ds.length := rd.len
  have hSi : Sa ≠ it := fun z => hSf (z ▸ hif)
  have hSat : (as1 ++ [Sa])[S0.length]? = some Sa := by rw [hSn]; simp
  intro k
  induction k with
  | zero =>
    intro i s H hn I hst hen rel ex hf
    have hi : i = its.length := by omega
    subst hi
    refine codeAny_builtin F.entry_extend_loop ?_
    rw [Around.under_plainId F.plain_extend_loop _]
    show wpAny _ A.in1 (pyNext (.ref e) >>= _) _ _ s
    refine wpAny_bind (end_en D hen hst fun h' hx => ?_)
    obtain ⟨f0, f1, f2, f3, f4, f5⟩ := hf it (by simp)
    have I' : L2.Inv X pins σ H { s with heap := h' } := I.turned (t' := s.toks) (fun b o hb q => hx b o hb q) f0 f1 f3 f4 f5
    rw [List.take_of_length_le (by omega)] at rel
    exact wpAny_pure (hR _ H I' rel ex)
  | succ k ih =>
    intro i s H hn I hst hen rel ex hf
    have hlt : i < its.length := by omega
    refine codeAny_builtin F.entry_extend_loop ?_
    rw [Around.under_plainId F.plain_extend_loop _]
    show wpAny _ A.in1 (pyNext (.ref e) >>= _) _ _ s
    have hil : it < s.heap.objs.size := by obtain ⟨o, q⟩ := D.live _ _ hst; exact Heap.lt_size q
    have hel : e < s.heap.objs.size := by obtain ⟨o, q, _⟩ := hen.get; exact Heap.lt_size q
    refine wpAny_bind (next_en D hen hst hlt hne hef hil fun u h' tk hu hen' hst' hT hsz hk => ?_)
    have hiv : i < xs.length := by omega
    obtain ⟨d, hd⟩ : ∃ d, ds[i]? = some d := ⟨_, List.getElem?_eq_getElem (by omega)⟩
    obtain ⟨x, hx, rx⟩ := rd.get hd
    obtain ⟨u', hu', ru⟩ := rv.get hx
    have hu : its[i]? = some u := hu
    rw [hu] at hu'
    cases hu'
    have hNS : H s.heap.objs.size = none := I.hok.fresh (Nat.le_refl _)
    have new : ObjOk X.prog X.w (upd H s.heap.objs.size (.tup [.int (i : Nat), x])) h' s.heap.objs.size (.tup [.int (i : Nat), x]) :=
      ⟨by show 2 ≤ sizeLine; decide, [.int i tk, u], .cons ⟨_, rfl⟩ (.cons ru .nil), ⟨_, hT, rfl, _, rfl⟩⟩
    have I1 : L2.Inv X pins σ (upd H s.heap.objs.size (.tup [.int (i : Nat), x])) { s with heap := h', toks := tk + 1 } :=
      I.turnedNew (ch := [e, it]) (fun b ob hb q => hk b ob (fun z => hb (by simp [z])) (fun z => hb (by simp [z])) q) hf (Nat.le_refl _) new
    have rel1 := rel.fresh (o := .tup [.int (i : Nat), x]) hNS
    have ex1 : Ex X.K as1 H1 (as1 ++ [Sa]) (upd H s.heap.objs.size (.tup [.int (i : Nat), x])) := ex.trans (Ex.fresh hNS)
    have hSs : (S0 ++ [MO.lst (enD 0 (ds.take i))])[S0.length]? = some (.lst (enD 0 (ds.take i))) := by simp
    obtain ⟨vs, hHS, rvs⟩ := rel1.ob _ _ _ hSat hSs
    obtain ⟨zS, itS, nS, rS, lS, eS⟩ := I1.lstM hHS
    have hvl : vs.length = i := by rw [rvs.len, enD_len, List.length_take]; omega
    show wpAny _ A.in1 (updateSeq Sa (·.push (.ref s.heap.objs.size)) >>= _) _ _ _
    have hDo : Rv X.K (as1 ++ [Sa]) (upd H s.heap.objs.size (.tup [.int (i : Nat), x])) (.ref s.heap.objs.size) (.tup [.int (i : Int), d]) := .tup (SqT.of upd_same) (.cons (.int _) (.cons (rx.mono ex1) .nil))
    have rvs2 := rvs.appx (.cons hDo .nil)
    obtain ⟨rel2, ex2⟩ := put_lst rel1 hSat hSs hHS rvs2
    have hset : (S0 ++ [MO.lst (enD 0 (ds.take i))]).set S0.length (.lst (enD 0 (ds.take i) ++ [.tup [.int (i : Int), d]])) = S0 ++ [.lst (enD 0 (ds.take (i + 1)))] := by
      have et : ds.take (i + 1) = ds.take i ++ [d] := by rw [List.take_add_one, hd]; rfl
      rw [et, enD_snoc, List.length_take, Nat.zero_add, Nat.min_eq_left (by omega)]
      simp
    rw [hset] at rel2
    have I2 := I1.lset (its' := itS ++ [.ref s.heap.objs.size]) (ys := vs ++ [.ref s.heap.objs.size]) (f := (·.push (.ref s.heap.objs.size))) (t' := tk + 1) hHS eS (by simp) (rS.append (.cons (show L2.RelV (.ref s.heap.objs.size) (.ref s.heap.objs.size) from rfl) .nil)) (by rw [List.length_append, List.length_singleton]; omega)
    have oth : ∀ b o, b ≠ Sa → h'.get? b = some o → (h'.update Sa (Obj.mapSeq (·.push (.ref s.heap.objs.size)))).get? b = some o := fun b o hb q => (Heap.get?_update_other _ _ (Ne.symm hb)).trans q
    refine wpAny_bind ?_
    refine wpAny_updateSeq (s := { s with heap := h', toks := tk + 1 }) eS rfl (wpAny_pure ⟨plainId_quiet F.plain_extend_loop _, ih (i + 1) _ _ (by omega) I2 (D.frame _ _ _ hst' fun b hb o q => oth b o (fun z => hSf (z ▸ hb)) q) (hen'.keep hSe oth fun o q => ⟨_, Heap.get?_update_self _ eS rfl⟩) rel2 (ex1.trans ex2) fun b hb => ?_⟩) (by rw [List.size_toArray]; omega) (by show (itS.toArray.push _).size ≤ _; rw [Array.size_push, List.size_toArray]; omega)
    have hb' : b < s.heap.objs.size ∧ b ≠ Sa := by
      have e' : b = e ∨ b = it := by simpa using hb
      rcases e' with z | z
      · rw [z]; exact ⟨hel, hSe⟩
      · rw [z]; exact ⟨hil, Ne.symm hSi⟩
    refine ⟨?_, (hf b hb).2⟩
    rw [upd_ne hb'.2, upd_ne (Nat.ne_of_lt hb'.1)]
    exact (hf b hb).1
end
section
variable {X : Cx} {pins : List (Addr × Obj)} {σ : L2.St} {as1 : List Addr} {S0 : Sto} {H1 : Hp} {s : Shared} {e it : Addr} {fp : List Addr} {xs : List V} {ds : List D} {its : List Value} {A : Around} {St : Nat → Heap → Prop} {E : Value → Shared → Prop} {Q : Value → Shared → Prop}
theorem call_listEn (hh : A.handled = none) (I : L2.Inv X pins σ H1 s) (rel : Rel X.K as1 S0 H1) (D : ∀ A' : Around, A'.handled = none → Draws X.prog X.w A' it fp its.length (fun i v => its[i]? = some v) St) (hif : it ∈ fp) (hne : e ≠ it) (hef : e ∉ fp) (hfl : ∀ b ∈ fp, b < s.heap.objs.size) (rv : Vals xs its) (rd : Rvs X.K as1 H1 xs ds) (hz : its.length ≤ sizeLine)
    (hst : St 0 s.heap) (hen : IsEnum s.heap e it 0 .none) (hf : ∀ b ∈ [e, it], FpOk X pins H1 b)
    (hQ : ∀ s' H' Sa, L2.Inv X pins σ H' s' → Rel X.K (as1 ++ [Sa]) (S0 ++ [.lst (enD 0 ds)]) H' → Ex X.K as1 H1 (as1 ++ [Sa]) H' → Q (.ref Sa) s') : wpAny (model X.prog X.w) A (call (.type "list") [.ref e]) Q E s := by
  have hel : e < s.heap.objs.size := Heap.lt_size hen
  have hSf : s.heap.objs.size ∉ fp := fun z => Nat.lt_irrefl _ (hfl _ z)
  have hSe : s.heap.objs.size ≠ e := Nat.ne_of_gt hel
  refine callType_codes (Q₁ := fun obj s₁ => obj = .ref s.heap.objs.size ∧ s₁ = { s with heap := s.heap.push { cls := .type "list", data := .seq #[] } }) F.called_list (F.typeCall_list_1 _) F.entry_list_init
    (code_list_new _ ⟨rfl, rfl⟩) fun obj s₁ h₁ => ?_
  obtain ⟨rfl, rfl⟩ := h₁
  have c1 := Heap.get?_push_size s.heap (o := { cls := .type "list", data := .seq #[] }) rfl
  refine ⟨⟨_, c1, rfl⟩, F.args_list_init_2 _ _, ?_⟩
  show wpAny _ A.in1.in1 (do let old ← Builtin.List.listItems (.ref s.heap.objs.size); Builtin.List.listUpdate (.ref s.heap.objs.size) (fun _ => #[]); letGo old.toList.reverse; Builtin.List.listExtendWith (.ref s.heap.objs.size) (.ref e) .none) _ _ _
  refine wpAny_bind ?_
  unfold Builtin.List.listItems
  refine wpAny_bind (wpAny_seqItems c1 rfl (wpAny_pure ?_))
  show wpAny _ A.in1.in1 (updateSeq s.heap.objs.size (fun _ => #[]) >>= fun _ => letGo (#[] : Array Value).toList.reverse >>= fun _ => Builtin.List.listExtendWith (.ref s.heap.objs.size) (.ref e) .none) _ _ _
  refine wpAny_bind (wpAny_updateSeq c1 rfl ?_)
  have c2 := Heap.get?_update_self (Obj.mapSeq (fun _ => (#[] : Array Value))) c1 rfl
  refine wpAny_bind (wpAny_letGo ?_)
  unfold Builtin.List.listExtendWith
  have up : ∀ (h : Heap) (f : Obj → Obj), (∀ b o, s.heap.get? b = some o → h.get? b = some o) → ∀ b o, s.heap.get? b = some o → (h.update s.heap.objs.size f).get? b = some o := fun h f q b o z =>
    (Heap.get?_update_other _ _ (Ne.symm (Nat.ne_of_lt (Heap.lt_size z)))).trans (q b o z)
  have k1 : ∀ b o, s.heap.get? b = some o → (s.heap.push { cls := .type "list", data := .seq #[] }).get? b = some o := fun b o z => Heap.get?_push_of_some _ z
  have k2 := up _ (Obj.mapSeq (fun _ => (#[] : Array Value))) k1
  have ty2 : Shared.TypeIs { s with heap := (s.heap.push { cls := .type "list", data := .seq #[] }).update s.heap.objs.size (Obj.mapSeq (fun _ => (#[] : Array Value))) } (.ref e) "enumerate" := ⟨_, k2 _ _ hen, rfl⟩
  refine wpAny_bind (wpAny_typeOf ty2 ?_)
  have n1 : Builtin.List.listSameRef (.ref s.heap.objs.size) (.ref e) = false := by simp [Builtin.List.listSameRef, hSe]
  have n2 : (Value.type "enumerate" == Value.type "list") = false := by decide
  have n3 : (Value.type "enumerate" == Value.type "tuple") = false := by decide
  simp only [n1, n2, n3, Bool.or_false, Bool.false_eq_true, if_false]
  refine wpAny_bind (wpAny_pyIter_enum (s := { s with heap := _ }) (k2 _ _ hen) ?_)
  refine wpAny_bind (wpAny_holding ?_)
  unfold Builtin.List.listLengthHint
  refine wpAny_bind (wpAny_specialOf ty2 en_nolen ?_)
  show wpAny _ A.in1.in1 (specialOf (Value.ref e) (Str.ofString "__length_hint__") >>= _) _ _ _
  refine wpAny_bind (wpAny_specialOf ty2 en_nohint ?_)
  refine wpAny_pure ?_
  show wpAny _ A.in1.in1 (rule "list.extend.makes-room" >>= fun _ => Builtin.List.listTouch (.ref s.heap.objs.size) >>= fun _ =>
    again (.builtin "list.extend.loop" ⟨[.ref s.heap.objs.size, .ref e, .none], []⟩)) _ _ _
  refine wpAny_bind (wpAny_rule ?_)
  refine wpAny_bind ?_
  show wpAny _ A.in1.in1 (updateSeq s.heap.objs.size (·.push .none) >>= fun _ => updateSeq s.heap.objs.size (·.pop)) _ _ _
  refine wpAny_bind (wpAny_updateSeq c2 rfl ?_)
  have c3 := Heap.get?_update_self (Obj.mapSeq (·.push Value.none)) c2 rfl
  refine wpAny_updateSeq (hz := by seq_fits) c3 rfl ?_
  have c4 := Heap.get?_update_self (Obj.mapSeq (·.pop)) c3 rfl
  have k4 := up _ (Obj.mapSeq (·.pop)) (up _ (Obj.mapSeq (·.push Value.none)) k2)
  have hSn : H1 s.heap.objs.size = none := I.hok.fresh (Nat.le_refl _)
  have I2 := I.laid (a := s.heap.objs.size) (o := .lst []) (t' := s.toks) k4 (Nat.le_refl _) ⟨Nat.zero_le _, [], _, .nil, c4⟩
  obtain ⟨rel2, ex2, _⟩ := new_lst (K := X.K) (ds := []) (vs := []) rel hSn .nil
  refine wpAny_pure ⟨plainId_quiet F.plain_extend_loop _, ext_loop (X := X) (pins := pins) (σ := σ) (as1 := as1) (S0 := S0) (H1 := H1) (it := it) (fp := fp) (xs := xs) (ds := ds) (its := its) (A := A.in1) (St := St) (D _ (show A.handled = none from hh)) hif hne hef (Ne.symm hSe) hSf rv rd hz rel.len.symm (fun s' H' i1 r1 x1 => ⟨rfl, hQ s' H' _ i1 r1 x1⟩)
    its.length 0 _ _ (by omega) I2 ((D A hh).frame _ _ _ hst fun b _ o q => k4 b o q) (.inl ⟨_, k4 _ _ hen⟩) rel2 ex2 fun b hb => ?_⟩
  refine ⟨?_, (hf b hb).2⟩
  have hb' : b < s.heap.objs.size := by
    have e' : b = e ∨ b = it := by simpa using hb
    rcases e' with z | z
    · rw [z]; exact hel
    · rw [z]; exact hfl _ hif
  rw [upd_ne (Nat.ne_of_lt hb')]
  exact (hf b hb).1
end
def tLE (K : PySem.W.Frag) (te : TE) : TE := fun σ H Q => te σ H fun x H1 => ∃ (a : Addr) (xs : List V) (as1 : List Addr) (S0 : Sto) (ds : List D), x = .ref a ∧ (SqL K H1 a xs ∨ SqT K H1 a xs) ∧ Rel K as1 S0 H1 ∧ Rvs K as1 H1 xs ds ∧
  ∀ H' Sa, Rel K (as1 ++ [Sa]) (S0 ++ [.lst (enD 0 ds)]) H' → Ex K as1 H1 (as1 ++ [Sa]) H' → Q (.ref Sa) H'
theorem pe_listEn {X : Cx} {e : Expr} {te : TE} {p p2 pos pos2 : Pos} (hc : X.calm = true) (he : PE X e te) (hg : Gl X "list") (hm : X.mg "list" = none) (hg2 : Gl X "enumerate") (hm2 : X.mg "enumerate" = none)
    (na : starEach [e] X.env = (false, eval e X.env) :: starEach [] X.env := by rfl) (nb : starEach [.Call (.Name "enumerate" p2) [e] [] pos2] X.env = (false, eval (.Call (.Name "enumerate" p2) [e] [] pos2) X.env) :: starEach [] X.env := by rfl) :
    PE X (.Call (.Name "list" p) [.Call (.Name "enumerate" p2) [e] [] pos2] [] pos) (tLE X.K te) := by
  refine ⟨fun pins s σ H Q I h => ?_⟩
  have fp2 : ∀ {H1 : Hp} {s1 : Shared}, L2.Inv X pins σ H1 s1 → ∀ b ∈ [s1.heap.objs.size + 1, s1.heap.objs.size], FpOk X pins H1 b := fun {H1 s1} I1 b hb => by
    have e' : b = s1.heap.objs.size + 1 ∨ b = s1.heap.objs.size := by simpa using hb
    rcases e' with z | z
    · rw [z]; exact I1.fpOk (Nat.le_succ _) (I1.hok.fresh (Nat.le_succ _))
    · rw [z]; exact I1.fpOk (Nat.le_refl _) (I1.hok.fresh (Nat.le_refl _))
  have inner : wpAny (model X.prog X.w) X.A (eval (.Call (.Name "enumerate" p2) [e] [] pos2) X.env) (fun v s2 => ∃ (ea it : Addr) (fp : List Addr) (H1 : Hp) (xs : List V) (its : List Value) (as1 : List Addr) (S0 : Sto) (ds : List D) (St : Nat → Heap → Prop), v = .ref ea ∧ L2.Inv X pins σ H1 s2 ∧ Rel X.K as1 S0 H1 ∧ Rvs X.K as1 H1 xs ds ∧ Vals xs its ∧ its.length ≤ sizeLine ∧
      (∀ A' : Around, A'.handled = none → Draws X.prog X.w A' it fp its.length (fun i v => its[i]? = some v) St) ∧ it ∈ fp ∧ ea ≠ it ∧ ea ∉ fp ∧ (∀ b ∈ fp, b < s2.heap.objs.size) ∧ St 0 s2.heap ∧ IsEnum s2.heap ea it 0 .none ∧ (∀ b ∈ [ea, it], FpOk X pins H1 b) ∧
      ∀ H' Sa, Rel X.K (as1 ++ [Sa]) (S0 ++ [.lst (enD 0 ds)]) H' → Ex X.K as1 H1 (as1 ++ [Sa]) H' → Q (.ref Sa) H') X.xe s := by
    refine Call_ (ld_blt I hg2 hm2 boot_enumerate (PyProof.Rows.callWith_type1 (args_cons (thn (he.run pins s σ H _ I h) fun v s1 ⟨x, H1, I1, r1, a, xs, as1, S0, ds, ex, hq, rel, rd, q⟩ => args_nil ?_) na) na))
    subst ex
    obtain rfl : v = Value.ref a := r1
    rcases hq with hq | hq
    · obtain ⟨its, rv, p', hz⟩ := I1.list hq
      have hlt : a < s1.heap.objs.size := by obtain ⟨o, n, z, _⟩ := p'; exact Heap.lt_size z
      refine call_enumerate_list p'.isList fun h' hen hit hsz hk => ⟨_, _, [s1.heap.objs.size, a], H1, xs, its, as1, S0, ds, fun i h => h.IsListIter s1.heap.objs.size a i ∧ h.IsList a its.toArray, rfl, I1.kept (t' := s1.toks) hk, rel, rd, rv, by rw [← rv.length]; exact hz, fun A' hA => ?_, by simp, Nat.succ_ne_self _, ?_, fun b hb => ?_, ⟨hit, p'.isList.at fun o z => hk a o z⟩, hen, fp2 I1, q⟩
      · have D := Draws.list (prog := X.prog) (w := X.w) hA s1.heap.objs.size a (Nat.ne_of_lt hlt) its.toArray
        simpa using D
      · simp only [List.mem_cons, List.not_mem_nil, or_false]
        rintro (z | z)
        · exact Nat.succ_ne_self _ z
        · exact Nat.ne_of_gt (Nat.lt_succ_of_lt hlt) z
      · have e' : b = s1.heap.objs.size ∨ b = a := by simpa using hb
        show b < h'.objs.size
        rw [hsz]
        rcases e' with z | z
        · rw [z]; exact Nat.lt_succ_of_lt (Nat.lt_succ_self _)
        · rw [z]; exact Nat.lt_succ_of_lt (Nat.lt_succ_of_lt hlt)
    · obtain ⟨its, rv, p', hz⟩ := I1.tuple hq
      have hlt : a < s1.heap.objs.size := by obtain ⟨o, z, _⟩ := p'; exact Heap.lt_size z
      have p2' : s1.heap.IsTuple a its.toArray := p'
      refine call_enumB (begins_tuple a its.toArray) p2' fun h' hen hit hsz hk => ⟨_, _, [s1.heap.objs.size, a], H1, xs, its, as1, S0, ds, fun i h => h.IsTupleIter s1.heap.objs.size a i ∧ h.IsTuple a its.toArray, rfl, I1.kept (t' := s1.toks) hk, rel, rd, rv, by rw [← rv.length]; exact hz, fun A' hA => ?_, by simp, Nat.succ_ne_self _, ?_, fun b hb => ?_, ⟨⟨_, hit, rfl, rfl⟩, p2'.at fun o z => hk a o z⟩, hen, fp2 I1, q⟩
      · have D := Draws.tuple (prog := X.prog) (w := X.w) hA s1.heap.objs.size a (Nat.ne_of_lt hlt) its.toArray
        simpa using D
      · simp only [List.mem_cons, List.not_mem_nil, or_false]
        rintro (z | z)
        · exact Nat.succ_ne_self _ z
        · exact Nat.ne_of_gt (Nat.lt_succ_of_lt hlt) z
      · have e' : b = s1.heap.objs.size ∨ b = a := by simpa using hb
        show b < h'.objs.size
        rw [hsz]
        rcases e' with z | z
        · rw [z]; exact Nat.lt_succ_of_lt (Nat.lt_succ_self _)
        · rw [z]; exact Nat.lt_succ_of_lt (Nat.lt_succ_of_lt hlt)
  refine Call_ (ld_blt I hg hm boot_list (PyProof.Rows.callWith_type1 (args_cons (thn inner fun v s2 ⟨ea, it, fp, H1, xs, its, as1, S0, ds, St', ev, I2, rel, rd, rv, hz, D, m1, m2, m3, m4, m5, m6, m7, q⟩ => args_nil ?_) nb) nb))
  subst ev
  exact call_listEn (I2.ok.hd hc) I2 rel D m1 m2 m3 m4 rv rd hz m5 m6 m7 fun s' H' Sa i1 r1 x1 => ⟨.ref Sa, H', i1, rfl, q H' Sa r1 x1⟩
def fListEn : F1 := fun d S => match d with
  | .tup ds => some (.obj S.length, S ++ [.lst (enD 0 ds)])
  | .obj i => (lstAt S i).map fun ds => (.obj S.length, S ++ [.lst (enD 0 ds)])
  | _ => none
theorem em_listEn {X : Cx} {W : WX} {e : Expr} {m : ME} {p p2 pos pos2 : Pos} (hm : X.mg "list" = none) (hm2 : X.mg "enumerate" = none) (h : EM X W e m) (hc : X.calm = true := by rfl) (hg : Gl X "list" := by rfl) (hg2 : Gl X "enumerate" := by rfl)
    (na : starEach [e] X.env = (false, eval e X.env) :: starEach [] X.env := by rfl) (nb : starEach [.Call (.Name "enumerate" p2) [e] [] pos2] X.env = (false, eval (.Call (.Name "enumerate" p2) [e] [] pos2) X.env) :: starEach [] X.env := by rfl) :
    EM X W (.Call (.Name "list" p) [.Call (.Name "enumerate" p2) [e] [] pos2] [] pos) (m1 fListEn m) :=
  ⟨pe_imp (pe_listEn hc h.pe hg hm hg2 hm2 na nb) fun σ H Q q => tU_bind (f := fun _ x S1 => R.of (fListEn x S1)) q fun as env d S1 as1 H1 v re rel rv g => by
    obtain ⟨z, S', hz, g⟩ := go_of g
    cases d <;> first | (cases hz; done) | skip
    case tup ds =>
      cases hz
      obtain ⟨a, xs, rfl, ha, ra⟩ := rv.tup_
      exact ⟨a, xs, as1, S1, ds, rfl, .inr ha, rel, ra, fun H' Sa r x => g _ _ _ x r (.obj (by rw [← rel.len]; simp))⟩
    case obj j =>
      unfold fListEn at hz
      dsimp only at hz
      cases e0 : lstAt S1 j with
      | none => rw [e0] at hz; cases hz
      | some ds =>
        rw [e0] at hz
        cases hz
        obtain ⟨a, xs, rfl, hj, ha, ra⟩ := rv.seq_ rel e0
        exact ⟨a, xs, as1, S1, ds, rfl, .inl ha, rel, ra, fun H' Sa r x => g _ _ _ x r (.obj (by rw [← rel.len]; simp))⟩⟩
end Mi

namespace Mi
open PySem PySem.Spec PyProof.Rows L2
/-! ### for x in d, d a dict: the dict is locked meanwhile -/
def keyV : Key → D
  | .inl i => .int i
  | .inr x => .str x
section
variable {K : PySem.W.Frag} {as as' : List Addr} {H H' : Hp} {S : Sto}
theorem rv_key (k : Key) : Rv K as H (kV k) (keyV k) := by
  cases k with
  | inl i => exact .int i
  | inr x => exact .str x
mutual
theorem Rv.monoT (hp : ∀ (i : Nat) (a : Addr), as[i]? = some a → as'[i]? = some a) (ht : ∀ (a : Addr) (xs : List V), SqT K H a xs → SqT K H' a xs) : ∀ {v : V} {d : D}, Rv K as H v d → Rv K as' H' v d
  | _, _, .non => .non
  | _, _, .bl b => .bl b
  | _, _, .int i => .int i
  | _, _, .str x => .str x
  | _, _, .tup h t => .tup (ht _ _ h) (Rvs.monoT hp ht t)
  | _, _, .obj h => .obj (hp _ _ h)
theorem Rvs.monoT (hp : ∀ (i : Nat) (a : Addr), as[i]? = some a → as'[i]? = some a) (ht : ∀ (a : Addr) (xs : List V), SqT K H a xs → SqT K H' a xs) : ∀ {vs : List V} {ds : List D}, Rvs K as H vs ds → Rvs K as' H' vs ds
  | _, _, .nil => .nil
  | _, _, .cons r t => .cons (Rv.monoT hp ht r) (Rvs.monoT hp ht t)
end
theorem sqt_frz {a : Addr} {od : Obj} {kvs kvs' : List (Key × V)} (hH : H a = some (.frz od (.dK kvs))) (b : Addr) (xs : List V) (h : SqT K H b xs) : SqT K (upd H a (.dK kvs')) b xs := by
  have ne : ∀ u, H b = some u → u ≠ .frz od (.dK kvs) → b ≠ a := fun u e n z => by subst z; rw [hH] at e; cases e; exact n rfl
  rcases h with (h | ⟨u, h⟩) | h
  · exact .inl (.inl (by rw [upd_ne (ne _ h fun z => nomatch z)]; exact h))
  · exact .inl (.inr ⟨u, by rw [upd_ne (ne _ h fun z => nomatch z)]; exact h⟩)
  · exact .inr h
theorem rel_lock {a : Addr} {j : Nat} {kds : List (Key × D)} {kvs : List (Key × V)} (r : Rel K as S H) (ha : as[j]? = some a) (hs : S[j]? = some (.dic kds)) (hH : H a = some (.dK kvs)) (od : Obj) :
    Rel K as (S.set j .gap) (upd H a (.frz od (.dK kvs))) ∧ Ex K as H as (upd H a (.frz od (.dK kvs))) := by
  have x : Ex K as H as (upd H a (.frz od (.dK kvs))) := Ex.mut (by rw [hH]; trivial)
  have old : ∀ (k : Nat) (z : MO), k ≠ j → (S.set j .gap)[k]? = some z → S[k]? = some z := fun k z hk h => by
    rw [List.getElem?_set_ne (Ne.symm hk)] at h; exact h
  have hl : j < S.length := (List.getElem?_eq_some_iff.mp hs).1
  refine ⟨⟨by rw [List.length_set]; exact r.len, fun k b z h1 h2 => ?_, fun k m b z z2 h1 h2 h3 h4 m1 m2 => ?_⟩, x⟩
  · by_cases hk : k = j
    · subst hk
      rw [List.getElem?_set_self hl] at h2
      cases h2
      trivial
    · have h2' := old k z hk h2
      have q := r.ob k b z h1 h2'
      cases z with
      | gap => trivial
      | lst ds => exact q.mono_same x (upd_ne fun e => by subst e; exact hk (r.sep k j b _ _ h1 ha h2' hs rfl rfl))
      | dic ds => exact q.mono_same x (upd_ne fun e => by subst e; exact hk (r.sep k j b _ _ h1 ha h2' hs rfl rfl))
      | fix ds =>
        obtain ⟨vs, h, rr⟩ := q
        refine ⟨vs, ?_, rr.mono x⟩
        rcases h with ⟨ob, h⟩ | h
        · exact .inl ⟨ob, by rw [upd_ne (fun e => by subst e; rw [hH] at h; cases h)]; exact h⟩
        · exact .inr h
  · have nj : ∀ (k : Nat) (z : MO), (S.set j .gap)[k]? = some z → z.mut = true → k ≠ j := fun k z h m e => by
      subst e
      rw [List.getElem?_set_self hl] at h
      cases h
      cases m
    exact r.sep k m b z z2 h1 h2 (old k z (nj k z h3 m1) h3) (old m z2 (nj m z2 h4 m2) h4) m1 m2
theorem rel_unlock {a : Addr} {j : Nat} {kds : List (Key × D)} {kvs : List (Key × V)} {od : Obj} (r : Rel K as S H) (ha : as[j]? = some a) (hs : S[j]? = some .gap) (hH : H a = some (.frz od (.dK kvs))) (rk : Rkv K as H kvs kds) :
    Rel K as (S.set j (.dic kds)) (upd H a (.dK kvs)) := by
  have ht := sqt_frz (K := K) (kvs' := kvs) hH
  have hp : ∀ (i : Nat) (b : Addr), as[i]? = some b → as[i]? = some b := fun _ _ h => h
  have hl : j < S.length := (List.getElem?_eq_some_iff.mp hs).1
  have old : ∀ (k : Nat) (z : MO), k ≠ j → (S.set j (.dic kds))[k]? = some z → S[k]? = some z := fun k z hk h => by
    rw [List.getElem?_set_ne (Ne.symm hk)] at h; exact h
  have apart : ∀ (k : Nat) (z : MO), k ≠ j → S[k]? = some z → z.mut = true → as[k]? ≠ some a := fun k z hk h m e => by
    have q := r.ob k a z e h
    cases z with
    | gap => cases m
    | fix _ => cases m
    | lst ds => obtain ⟨vs, q, _⟩ := q; rw [hH] at q; cases q
    | dic ds => obtain ⟨vs, q, _⟩ := q; rw [hH] at q; cases q
  refine ⟨by rw [List.length_set]; exact r.len, fun k b z h1 h2 => ?_, fun k m b z z2 h1 h2 h3 h4 m1 m2 => ?_⟩
  · by_cases hk : k = j
    · subst hk
      rw [List.getElem?_set_self hl] at h2
      rw [ha] at h1
      cases h2
      cases h1
      exact ⟨kvs, upd_same, rk.1, Rvs.monoT hp ht rk.2⟩
    · have h2' := old k z hk h2
      have q := r.ob k b z h1 h2'
      cases z with
      | gap => trivial
      | lst ds => obtain ⟨vs, q, rr⟩ := q; exact ⟨vs, by rw [upd_ne (fun e => by subst e; rw [hH] at q; cases q)]; exact q, Rvs.monoT hp ht rr⟩
      | dic ds => obtain ⟨vs, q, r1, rr⟩ := q; exact ⟨vs, by rw [upd_ne (fun e => by subst e; rw [hH] at q; cases q)]; exact q, r1, Rvs.monoT hp ht rr⟩
      | fix ds =>
        obtain ⟨vs, h, rr⟩ := q
        refine ⟨vs, ?_, Rvs.monoT hp ht rr⟩
        rcases h with ⟨ob, h⟩ | h
        · exact .inl ⟨ob, by rw [upd_ne (fun e => by subst e; rw [hH] at h; cases h)]; exact h⟩
        · exact .inr h
  · by_cases hk : k = j
    · by_cases hm : m = j
      · rw [hk, hm]
      · subst hk
        rw [ha] at h1; cases h1
        exact absurd h2 (apart m z2 hm (old m z2 hm h4) m2)
    · by_cases hm : m = j
      · subst hm
        rw [ha] at h2; cases h2
        exact absurd h1 (apart k z hk (old k z hk h3) m1)
      · exact r.sep k m b z z2 h1 h2 (old k z hk h3) (old m z2 hm h4) m1 m2
end
def itKeys (kds : List (Key × D)) : MIt := itFix (kds.map fun p => keyV p.1)
def endD (j : Nat) (kds : List (Key × D)) (o : RS) : RS := match o with
  | .nx env S => (match S[j]? with
    | some .gap => .nx env (S.set j (.dic kds))
    | _ => .no)
  | _ => .no
def sForD (i : Nat) (g : MG) (b : MS) : MS := fun env S => match env[i]? with
  | some (some (.obj j)) => (match S[j]? with
    | some (.dic kds) => endD j kds (forI (itKeys kds) g b kds.length 0 env (S.set j .gap))
    | _ => .no)
  | _ => .no
section
variable {X : Cx} {W : WX}
theorem itk_ok {as1 : List Addr} {H1 : Hp} {a : Addr} {od : Obj} {kvs : List (Key × V)} {kds : List (Key × D)} (hH : H1 a = some (.frz od (.dK kvs))) (hk : kvs.map (·.1) = kds.map (·.1)) : ItOk X.K as1 H1 (Itk a od kvs) (itKeys kds) := by
  have hlen : kvs.length = kds.length := by have := congrArg List.length hk; rwa [List.length_map, List.length_map] at this
  constructor
  · intro as S H i x rel e
    have e3 : (kds.map fun p => keyV p.1)[i]? = none := Option.some.inj e
    rw [List.getElem?_eq_none_iff, List.length_map] at e3
    exact ⟨x.frz _ _ _ hH, by omega⟩
  · intro as S H i d x rel e
    have e3 : (kds.map fun p => keyV p.1)[i]? = some d := Option.some.inj e
    rw [List.getElem?_map] at e3
    obtain ⟨p, e4, e5⟩ := Option.map_eq_some_iff.mp e3
    have hi : i < kds.length := (List.getElem?_eq_some_iff.mp e4).1
    refine ⟨⟨x.frz _ _ _ hH, by omega⟩, fun y H' hy => ?_⟩
    obtain ⟨rfl, k, v, e6, rfl⟩ := hy
    have e7 : (kvs.map (·.1))[i]? = (kds.map (·.1))[i]? := by rw [hk]
    rw [List.getElem?_map, List.getElem?_map, e6, e4] at e7
    have e8 : k = p.1 := Option.some.inj e7
    subst e5
    rw [e8]
    exact ⟨Ex.refl, rel, rv_key _⟩
theorem for_core {as1 : List Addr} {env : Env} {S1 : Sto} {H1 : Hp} {σ1 : L2.St} {J : It} {m : MIt} {g : MG} {b : MS} {k : Nat} {Dn : Ends} (ok : ItOk X.K as1 H1 J m) (re : Re X.K as1 H1 σ1 env) (rel : Rel X.K as1 S1 H1) (g1 : GoS X.K X.mg W (forI m g b k 0 env S1) as1 H1 Dn) :
    ∃ Wv : Nat → Nat → L2.St → Hp → Prop, (∃ m, Wv 0 m σ1 H1) ∧ ∀ i m σ H, Wv i m σ H → (J.stop i H ∧ Dn.nx σ H) ∨ (J.go i H ∧ ∃ N : L2.St → Hp → Prop, (∀ σ' H', N σ' H' → ∃ m', m' < m ∧ Wv (i + 1) m' σ' H') ∧ ∀ x H', J.yld i H x H' → gU X.K g x σ H' fun σ2 H2 => tS X.K X.mg W b { Dn with nx := N, ct := N, bk := Dn.nx } σ2 H2) := by
  refine ⟨fun i n σ H => ∃ as env S, Ex X.K as1 H1 as H ∧ Re X.K as H σ env ∧ Rel X.K as S H ∧ GoS X.K X.mg W (forI m g b n i env S) as H Dn, ⟨k, as1, env, S1, Ex.refl, re, rel, g1⟩, ?_⟩
  rintro i n σ H ⟨as, env, S, x, re, rel, gg⟩
  cases n with
  | zero =>
    unfold forI at gg
    split at gg
    · rename_i e1
      exact .inl ⟨ok.stop as S H i x rel e1, gg as H σ Ex.refl rel re⟩
    · exact gg.elim
  | succ n =>
    unfold forI at gg
    split at gg
    · rename_i e1
      exact .inl ⟨ok.stop as S H i x rel e1, gg as H σ Ex.refl rel re⟩
    · rename_i d e1
      obtain ⟨h1, h2⟩ := ok.go as S H i d x rel e1
      refine .inr ⟨h1, fun σ' H' => ∃ as env S, Ex X.K as1 H1 as H' ∧ Re X.K as H' σ' env ∧ Rel X.K as S H' ∧ GoS X.K X.mg W (forI m g b n (i + 1) env S) as H' Dn, fun σ' H' q => ⟨n, Nat.lt_succ_self n, q⟩, fun y H' hy => ?_⟩
      obtain ⟨x1, rel1, rv⟩ := h2 y H' hy
      cases e2 : g d env S with
      | none => rw [e2] at gg; exact gg.elim
      | some env1 =>
        rw [e2] at gg
        dsimp only at gg
        have gg' := GoS.later x1 gg
        refine ⟨as, env, S, d, env1, re.mono x1, rel1, rv, e2, fun σ' re' => ⟨as, env1, S, re', rel1, ?_⟩⟩
        cases e : b env1 S with
        | nx env2 S2 => rw [e] at gg'; exact fun as2 H2 σ2 y r q => ⟨as2, env2, S2, (x.trans x1).trans y, q, r, GoS.later y gg'⟩
        | ct env2 S2 => rw [e] at gg'; exact fun as2 H2 σ2 y r q => ⟨as2, env2, S2, (x.trans x1).trans y, q, r, GoS.later y gg'⟩
        | bk env2 S2 => rw [e] at gg'; exact gg'
        | rt d S2 => rw [e] at gg'; exact gg'
        | ex x env2 S2 => rw [e] at gg'; exact gg'
        | no => rw [e] at gg'; exact gg'.elim
    · exact gg.elim
theorem sm_forD (i : Nat) {x : Str} {tg : Expr} {body : List Stmt} {g : MG} {b : MS} {pos pos0 : Pos} (hp : PassesOwn (model X.prog X.w) X.A X.env X.xe) (hc : X.calm = true) (he : EM X W (.Name x pos0) (mV i)) (hg : GM X tg g) (hb : BM X W body b)
    (hs : ∀ y, foldedSetIterable (.Name x pos0) X.env y = pure y := by intro _; rfl) : SM X W (.For tg (.Name x pos0) body [] pos) (sForD i g b) :=
  ⟨ps_imp (ps_lock (ps_for hp hc (pi_keys he.pe) hg.pg hb.ps hs)) fun Dn σ H ⟨as, env, S, re, rel, g0⟩ => by
    unfold sForD at g0
    split at g0
    · rename_i j e0
      split at g0
      · rename_i kds e1
        obtain ⟨v, hv, rv⟩ := re.at_ i _ e0
        obtain ⟨a, kvs, rfl, ha, hH, rk⟩ := rv.dic_ rel e1
        refine ⟨a, .dK kvs, hH, trivial, fun od => ?_⟩
        obtain ⟨rel1, x1⟩ := rel_lock rel ha e1 hH od
        refine ⟨as, env, S.set j .gap, re.mono x1, rel1, ?_⟩
        have em : mV i env (S.set j .gap) = .ok (.obj j) (S.set j .gap) := by unfold mV; rw [e0]
        rw [em]
        intro as' H' v' x2 rel2 rv2
        obtain ⟨a', rfl, ha'⟩ := rv2.obj_
        have ea : as'[j]? = some a := x2.pre _ _ ha
        rw [ha'] at ea
        cases ea
        have hF : H' a = some (.frz od (.dK kvs)) := x2.frz _ _ _ upd_same
        refine ⟨a, od, rfl, .inl ⟨kvs, hF, ?_⟩⟩
        refine for_core (itk_ok hF rk.1) ((re.mono x1).mono x2) rel2 (k := kds.length) ?_
        have hx := x1.trans x2
        cases e : forI (itKeys kds) g b kds.length 0 env (S.set j .gap) with
        | nx env' S' =>
          rw [e] at g0
          unfold endD at g0
          dsimp only at g0
          split at g0
          · rename_i eg
            intro as2 H2 σ2 y r q
            have hF2 := y.frz _ _ _ hF
            refine ⟨hF2, ?_⟩
            have ht := sqt_frz (K := X.K) (kvs' := kvs) hF2
            have hxy := hx.trans y
            have a2 : as2[j]? = some a := hxy.pre _ _ ha
            refine g0 as2 (upd H2 a (.dK kvs)) σ2 ⟨hxy.pre, fun b xs h => ht b xs (hxy.tup b xs h), fun b o u h => ?_⟩ (rel_unlock r a2 eg hF2 ⟨rk.1, rk.2.mono hxy⟩) ⟨q.len, fun n d h => ?_⟩
            · rw [upd_ne (fun z => by subst z; rw [hH] at h; cases h)]; exact hxy.frz b o u h
            · obtain ⟨w, h1, h2⟩ := q.at_ n d h
              exact ⟨w, h1, Rv.monoT (fun _ _ h => h) ht h2⟩
          · exact g0.elim
        | ct env' S' => rw [e] at g0; exact g0.elim
        | bk env' S' => rw [e] at g0; exact g0.elim
        | rt d S' => rw [e] at g0; exact g0.elim
        | ex x env' S' => rw [e] at g0; exact g0.elim
        | no => rw [e] at g0; exact g0.elim
      · exact g0.elim
    · exact g0.elim⟩
end
end Mi

namespace K07
open PySem PySem.Spec PyProof.Rows L2 Mi
abbrev RW : PySem.W.OpenLaw := PySem.Challenge.rw_provedtorun_k07_arrays_against_cells
def top (i : Nat) : Stmt := PySem.Challenge.pw_provedtorun_k07_arrays_against_cells.main.body.getD i (.Pass ⟨0, 0, 0, 0⟩)
abbrev s_law : Stmt := top 41
abbrev s__law_pool : Stmt := top 24
abbrev s__law_small : Stmt := top 34
abbrev s__law_pick : Stmt := top 25
abbrev s__law_value : Stmt := top 27
abbrev s_array_of : Stmt := top 14
abbrev s_is_whole : Stmt := top 5
abbrev s_joined_runs : Stmt := top 13
abbrev s__law_is_array : Stmt := top 29
abbrev s__law_array_kind : Stmt := top 28
abbrev s__law_int : Stmt := top 26
abbrev s__law_runs : Stmt := top 30
abbrev s_put_cell : Stmt := top 18
abbrev s_check_array : Stmt := top 8
abbrev s_is_array : Stmt := top 7
abbrev s_is_whole_pair : Stmt := top 6
abbrev s_check_whole : Stmt := top 9
abbrev s_with_cell : Stmt := top 12
abbrev s_run_at : Stmt := top 10
abbrev s__law_looks : Stmt := top 33
abbrev s_cell_of : Stmt := top 17
abbrev s_cell_at : Stmt := top 11
abbrev s_runs_of : Stmt := top 19
abbrev s_length_of : Stmt := top 20
abbrev s_cells_of : Stmt := top 21
abbrev s_same_arrays : Stmt := top 22
abbrev s__law_wide : Stmt := top 36
abbrev s__law_length : Stmt := top 35
abbrev s_fresh_array : Stmt := top 15
abbrev s__law_wide_runs : Stmt := top 31
abbrev s__law_points : Stmt := top 37
abbrev s_from_points : Stmt := top 16
abbrev s__law_point_runs : Stmt := top 32
abbrev s__law_judge : Stmt := top 38
abbrev s__law_refusals : Stmt := top 40
abbrev s__law_refused : Stmt := top 39
def d_MOST_CELLS : D := (.int 10000)
abbrev fl_BadArguments (β : Type) (z : β) : List β → List (Str × β) := fun ws => [("number", ws.getD 0 z)]
abbrev sl_BadArguments : List (Str × Bool) := [("BadArguments", true)]
abbrev sub_BadArguments : Str → Option Bool := fun y => sl_BadArguments.lookup y
def xl_number : List Str := ["BadArguments"]
structure Txt (P : Program) (w : World) (K : PySem.W.Frag) (mg : Str → Option Value) (base : Heap) : Prop where
  n_all : mg "all" = none
  n_bool : mg "bool" = none
  n_enumerate : mg "enumerate" = none
  n_int : mg "int" = none
  n_isinstance : mg "isinstance" = none
  n_len : mg "len" = none
  n_list : mg "list" = none
  n_min : mg "min" = none
  n_range : mg "range" = none
  n_sorted : mg "sorted" = none
  n_str : mg "str" = none
  n_tuple : mg "tuple" = none
  c_MOST_CELLS : Gc K mg "MOST_CELLS" d_MOST_CELLS
  d_law : Fun1 K mg "law" s_law
  d__law_pool : Fun1 K mg "_law_pool" s__law_pool
  d__law_small : Fun1 K mg "_law_small" s__law_small
  d__law_pick : Fun1 K mg "_law_pick" s__law_pick
  d__law_value : Fun1 K mg "_law_value" s__law_value
  d_array_of : Fun1 K mg "array_of" s_array_of
  d_is_whole : Fun1 K mg "is_whole" s_is_whole
  d_joined_runs : Fun1 K mg "joined_runs" s_joined_runs
  d__law_is_array : Fun1 K mg "_law_is_array" s__law_is_array
  d__law_array_kind : Fun1 K mg "_law_array_kind" s__law_array_kind
  d__law_int : Fun1 K mg "_law_int" s__law_int
  d__law_runs : Fun1 K mg "_law_runs" s__law_runs
  d_put_cell : Fun1 K mg "put_cell" s_put_cell
  d_check_array : Fun1 K mg "check_array" s_check_array
  d_is_array : Fun1 K mg "is_array" s_is_array
  d_is_whole_pair : Fun1 K mg "is_whole_pair" s_is_whole_pair
  d_check_whole : Fun1 K mg "check_whole" s_check_whole
  d_with_cell : Fun1 K mg "with_cell" s_with_cell
  d_run_at : Fun1 K mg "run_at" s_run_at
  d__law_looks : Fun1 K mg "_law_looks" s__law_looks
  d_cell_of : Fun1 K mg "cell_of" s_cell_of
  d_cell_at : Fun1 K mg "cell_at" s_cell_at
  d_runs_of : Fun1 K mg "runs_of" s_runs_of
  d_length_of : Fun1 K mg "length_of" s_length_of
  d_cells_of : Fun1 K mg "cells_of" s_cells_of
  d_same_arrays : Fun1 K mg "same_arrays" s_same_arrays
  d__law_wide : Fun1 K mg "_law_wide" s__law_wide
  d__law_length : Fun1 K mg "_law_length" s__law_length
  d_fresh_array : Fun1 K mg "fresh_array" s_fresh_array
  d__law_wide_runs : Fun1 K mg "_law_wide_runs" s__law_wide_runs
  d__law_points : Fun1 K mg "_law_points" s__law_points
  d_from_points : Fun1 K mg "from_points" s_from_points
  d__law_point_runs : Fun1 K mg "_law_point_runs" s__law_point_runs
  d__law_judge : Fun1 K mg "_law_judge" s__law_judge
  d__law_refusals : Fun1 K mg "_law_refusals" s__law_refusals
  d__law_refused : Fun1 K mg "_law_refused" s__law_refused
  x_BadArguments : Rsb P w K mg base 1 "BadArguments" 1 (fl_BadArguments V .non)
  k_BadArguments : Exk K mg "BadArguments" sub_BadArguments
  f_number : Xfk K mg "number" xl_number
section
variable {P : Program} {w : World} {K : PySem.W.Frag} {mg : Str → Option Value} {base : Heap}
abbrev N__law_pool : List Str := ["script", "pool", "place", "cell", "turn", "mixed"]
def B__law_pool : MS :=
  (sSeq (sSet 1 (mLst mNil))
  (sSeq (sFor (iRng (mCons (mB1 (f2L fMin2) (mCons (mB1 (f1L fLen) (mCons (mV 0) mNil)) (mCons (mC (.int 63)) mNil))) mNil)) (gN 2)
  (sSeq (sSet 3 (mB1 (f1L fInt) (mCons (m2 fIx (mV 0) (mV 2)) mNil)))
  (sSeq (sIf (mB (m2 fLt (mV 3) (mC (.int 0))))
  (sSet 3 (m2 fSub (mC (.int 3)) (mV 3)))
  sNil)
  (sIf (mB (m2 fGe (mV 3) (m2 fPow (mC (.int 10)) (mC (.int 18)))))
  (sFor (iRng (mCons (mC (.int 48)) mNil)) (gN 4)
  (sIf (mB (m2 fGt (mV 3) (mC (.int 0))))
  (sSeq (sExpr (mM "list" fAppend (mV 1) (mCons (m2 fMod (mB1 (f1L fInt) (mCons (mV 3) mNil)) (mC (.int 30))) mNil)))
  (sSet 3 (m2 fDiv (mV 3) (mC (.int 30)))))
  sNil))
  (sSeq (sSet 5 (m2 fMod (mB1 (f1L fInt) (mCons (m2 fAdd (m2 fAdd (m2 fMulA (mV 3) (mC (.int 50021))) (m2 fMulA (mV 2) (mC (.int 30011)))) (mC (.int 17))) mNil)) (mC (.int 1000000007))))
  (sFor (iRng (mCons (mC (.int 5)) mNil)) (gN 4)
  (sSeq (sSet 5 (m2 fMod (mB1 (f1L fInt) (mCons (m2 fAdd (m2 fAdd (m2 fAdd (m2 fMulA (mV 5) (mV 5)) (m2 fMulA (mV 4) (mC (.int 7919)))) (mV 2)) (mC (.int 11))) mNil)) (mC (.int 998244353))))
  (sExpr (mM "list" fAppend (mV 1) (mCons (m2 fDiv (mV 5) (mC (.int 13))) mNil))))))))))
  (sSeq (sExpr (mM0 "list" fReverse (mV 1)))
  (sRet (mV 1)))))
def M__law_pool : MFn := mFn 1 6 B__law_pool
theorem sc__law_pool : FnScope N__law_pool ["script"] (defScope s__law_pool) := ⟨rfl, rfl, rfl, by decide +kernel, rfl, by decide +kernel, by decide +kernel⟩
theorem b__law_pool (T : Txt P w K mg base) : BodyOk P w K mg base 0 N__law_pool "_law_pool" (defScope s__law_pool) (defBody s__law_pool) B__law_pool := by
  intro f cdv A outer s H E hr tk po
  have nd := sc__law_pool.nd
  exact (bm_cons (sm_set 1 nd (em_lst am_nil))
  (bm_cons (sm_for po rfl (im_rng1 T.n_range (em_callB (call_fMin2 rfl) rfl T.n_min PyProof.Rows.Boot.«min» (am_cons (em_callB call_fLen rfl T.n_len PyProof.Rows.Boot.«len» (am_cons (em_v 0) am_nil)) (am_cons em_int am_nil)))) (gm_n 2 nd)
  (bm_cons (sm_set 3 nd (em_callT call_fInt rfl T.n_int PyProof.Rows.Boot.«int» (am_cons (em_ix ix_fIx (em_v 0) (em_v 2)) am_nil)))
  (bm_cons (sm_if (tm_cmp op_fLt (em_v 3) em_int)
  (bm_one (sm_set 3 nd (em_bin op_fSub em_int (em_v 3))))
  bm_nil)
  (bm_one (sm_if (tm_cmp op_fGe (em_v 3) (em_bin op_fPow em_int em_int))
  (bm_one (sm_for po rfl (im_rng1 T.n_range em_int) (gm_n 4 nd)
  (bm_one (sm_if (tm_cmp op_fGt (em_v 3) em_int)
  (bm_cons (sm_expr (em_bm PySem.F.plainAttrs_list PySem.F.slot_list_append PySem.F.type_list_append mt_fAppend (em_v 1) (am_cons (em_bin op_fMod (em_callT call_fInt rfl T.n_int PyProof.Rows.Boot.«int» (am_cons (em_v 3) am_nil)) em_int) am_nil)))
  (bm_one (sm_set 3 nd (em_bin op_fDiv (em_v 3) em_int))))
  bm_nil))))
  (bm_cons (sm_set 5 nd (em_bin op_fMod (em_callT call_fInt rfl T.n_int PyProof.Rows.Boot.«int» (am_cons (em_bin op_fAdd (em_bin op_fAdd (em_bin op_fMulA (em_v 3) em_int) (em_bin op_fMulA (em_v 2) em_int)) em_int) am_nil)) em_int))
  (bm_one (sm_for po rfl (im_rng1 T.n_range em_int) (gm_n 4 nd)
  (bm_cons (sm_set 5 nd (em_bin op_fMod (em_callT call_fInt rfl T.n_int PyProof.Rows.Boot.«int» (am_cons (em_bin op_fAdd (em_bin op_fAdd (em_bin op_fAdd (em_bin op_fMulA (em_v 5) (em_v 5)) (em_bin op_fMulA (em_v 4) em_int)) (em_v 2)) em_int) am_nil)) em_int))
  (bm_one (sm_expr (em_bm PySem.F.plainAttrs_list PySem.F.slot_list_append PySem.F.type_list_append mt_fAppend (em_v 1) (am_cons (em_bin op_fDiv (em_v 5) em_int) am_nil)))))))))))))
  (bm_cons (sm_expr (em_bm0 PySem.F.plainAttrs_list PySem.F.slot_list_reverse PySem.F.type_list_reverse mt_fReverse (em_v 1)))
  (bm_one (sm_ret (em_v 1))))))
theorem c__law_pool (T : Txt P w K mg base) : Cal P w K mg base 1 "_law_pool" M__law_pool := cal1 T.d__law_pool sc__law_pool (fun _ _ _ _ _ _ us hl => match us, hl with | [_], _ => rfl) (b__law_pool T)
abbrev N__law_pick : List Str := ["pool", "many"]
def B__law_pick : MS :=
  (sSeq (sIf (mB (m2 fEq (mB1 (f1L fLen) (mCons (mV 0) mNil)) (mC (.int 0))))
  (sRet (mC (.int 0)))
  sNil)
  (sRet (m2 fMod (mB1 (f1L fInt) (mCons (mM0 "list" fPop (mV 0)) mNil)) (mV 1))))
def M__law_pick : MFn := mFn 2 2 B__law_pick
theorem sc__law_pick : FnScope N__law_pick ["pool", "many"] (defScope s__law_pick) := ⟨rfl, rfl, rfl, by decide +kernel, rfl, by decide +kernel, by decide +kernel⟩
theorem b__law_pick (T : Txt P w K mg base) : BodyOk P w K mg base 0 N__law_pick "_law_pick" (defScope s__law_pick) (defBody s__law_pick) B__law_pick := by
  intro f cdv A outer s H E hr tk po
  have nd := sc__law_pick.nd
  exact (bm_cons (sm_if (tm_cmp (op_fEq (uRoom hr)) (em_callB call_fLen rfl T.n_len PyProof.Rows.Boot.«len» (am_cons (em_v 0) am_nil)) em_int)
  (bm_one (sm_ret em_int))
  bm_nil)
  (bm_one (sm_ret (em_bin op_fMod (em_callT call_fInt rfl T.n_int PyProof.Rows.Boot.«int» (am_cons (em_bm0 PySem.F.plainAttrs_list PySem.F.slot_list_pop PySem.F.type_list_pop mt_fPop (em_v 0)) am_nil)) (em_v 1)))))
theorem c__law_pick (T : Txt P w K mg base) : Cal P w K mg base 1 "_law_pick" M__law_pick := cal1 T.d__law_pick sc__law_pick (fun _ _ _ _ _ _ us hl => match us, hl with | [_, _], _ => rfl) (b__law_pick T)
abbrev N__law_value : List Str := ["pool", "word", "great"]
def B__law_value : MS :=
  (sSeq (sSet 1 (mCall M__law_pick (mCons (mV 0) (mCons (mC (.int 6)) mNil))))
  (sSeq (sIf (mB (m2 fEq (mV 1) (mC (.int 5))))
  (sSeq (sSet 2 (m2 fAdd (m2 fPow (mC (.int 10)) (mC (.int 30))) (mCall M__law_pick (mCons (mV 0) (mCons (mC (.int 7)) mNil)))))
  (sSeq (sIf (mB (m2 fEq (mCall M__law_pick (mCons (mV 0) (mCons (mC (.int 2)) mNil))) (mC (.int 1))))
  (sRet (m2 fSub (mC (.int 0)) (mV 2)))
  sNil)
  (sRet (mV 2))))
  sNil)
  (sRet (m2 fSub (mV 1) (mC (.int 2))))))
def M__law_value : MFn := mFn 1 3 B__law_value
theorem sc__law_value : FnScope N__law_value ["pool"] (defScope s__law_value) := ⟨rfl, rfl, rfl, by decide +kernel, rfl, by decide +kernel, by decide +kernel⟩
theorem b__law_value (T : Txt P w K mg base) : BodyOk P w K mg base 1 N__law_value "_law_value" (defScope s__law_value) (defBody s__law_value) B__law_value := by
  intro f cdv A outer s H E hr tk po
  have nd := sc__law_value.nd
  exact (bm_cons (sm_set 1 nd (em_call (c__law_pick T) hr tk (am_cons (em_v 0) (am_cons em_int am_nil))))
  (bm_cons (sm_if (tm_cmp (op_fEq (uRoom hr)) (em_v 1) em_int)
  (bm_cons (sm_set 2 nd (em_bin op_fAdd (em_bin op_fPow em_int em_int) (em_call (c__law_pick T) hr tk (am_cons (em_v 0) (am_cons em_int am_nil)))))
  (bm_cons (sm_if (tm_cmp (op_fEq (uRoom hr)) (em_call (c__law_pick T) hr tk (am_cons (em_v 0) (am_cons em_int am_nil))) em_int)
  (bm_one (sm_ret (em_bin op_fSub em_int (em_v 2))))
  bm_nil)
  (bm_one (sm_ret (em_v 2)))))
  bm_nil)
  (bm_one (sm_ret (em_bin op_fSub (em_v 1) em_int)))))
theorem c__law_value (T : Txt P w K mg base) : Cal P w K mg base 2 "_law_value" M__law_value := cal1 T.d__law_value sc__law_value (fun _ _ _ _ _ _ us hl => match us, hl with | [_], _ => rfl) (b__law_value T)
abbrev N_is_whole : List Str := ["n"]
def B_is_whole : MS :=
  (sRet (mAndV (m1 (fIsi ["int"]) (mV 0)) (mNotV (m1 (fIsi ["bool"]) (mV 0)))))
def M_is_whole : MFn := mFn 1 1 B_is_whole
theorem sc_is_whole : FnScope N_is_whole ["n"] (defScope s_is_whole) := ⟨rfl, rfl, rfl, by decide +kernel, rfl, by decide +kernel, by decide +kernel⟩
theorem b_is_whole (T : Txt P w K mg base) : BodyOk P w K mg base 0 N_is_whole "is_whole" (defScope s_is_whole) (defBody s_is_whole) B_is_whole := by
  intro f cdv A outer s H E hr tk po
  have nd := sc_is_whole.nd
  exact (bm_one (sm_ret (em_and (em_isi (em_v 0) (hm := T.n_isinstance) (hmT := T.n_int) (hvT := PyProof.Rows.Boot.«int»)) (em_one (em_not (em_isi (em_v 0) (hm := T.n_isinstance) (hmT := T.n_bool) (hvT := PyProof.Rows.Boot.«bool»)))))))
theorem c_is_whole (T : Txt P w K mg base) : Cal P w K mg base 1 "is_whole" M_is_whole := cal1 T.d_is_whole sc_is_whole (fun _ _ _ _ _ _ us hl => match us, hl with | [_], _ => rfl) (b_is_whole T)
abbrev N_joined_runs : List Str := ["length", "pairs", "told", "start", "worth"]
def B_joined_runs : MS :=
  (sSeq (sSet 2 (mLst mNil))
  (sSeq (sFor (iSeq (mV 1)) (gT 2 (gsCons (gN 3) (gsCons (gN 4) gsNil)))
  (sIf (mAndT (mB (m2 fLt (mV 3) (mV 0))) (mOrT (mB (m2 fEq (mB1 (f1L fLen) (mCons (mV 2) mNil)) (mC (.int 0)))) (mB (m2 fNe (m2 fIx (m2 fIx (mV 2) (m1 fNeg (mC (.int 1)))) (mC (.int 1))) (mV 4)))))
  (sExpr (mM "list" fAppend (mV 2) (mCons (mTup (mCons (mV 3) (mCons (mV 4) mNil))) mNil)))
  sNil))
  (sRet (mTup (mCons (mV 0) (mCons (mB1 (f1L fTuple) (mCons (mV 2) mNil)) mNil))))))
def M_joined_runs : MFn := mFn 2 5 B_joined_runs
theorem sc_joined_runs : FnScope N_joined_runs ["length", "pairs"] (defScope s_joined_runs) := ⟨rfl, rfl, rfl, by decide +kernel, rfl, by decide +kernel, by decide +kernel⟩
theorem b_joined_runs (T : Txt P w K mg base) : BodyOk P w K mg base 0 N_joined_runs "joined_runs" (defScope s_joined_runs) (defBody s_joined_runs) B_joined_runs := by
  intro f cdv A outer s H E hr tk po
  have nd := sc_joined_runs.nd
  exact (bm_cons (sm_set 2 nd (em_lst am_nil))
  (bm_cons (sm_for po rfl (im_seq (em_v 1)) (gm_tup rfl (gms_cons (gm_n 3 nd) (gms_cons (gm_n 4 nd) gms_nil)))
  (bm_one (sm_if (WM.tm (wm_and (tm_cmp op_fLt (em_v 3) (em_v 0)) (wm_and1 (WM.tm (wm_or (tm_cmp (op_fEq (uRoom hr)) (em_callB call_fLen rfl T.n_len PyProof.Rows.Boot.«len» (am_cons (em_v 2) am_nil)) em_int) (wm_or1 (tm_cmp (op_fNe (uRoom hr)) (em_ix ix_fIx (em_ix ix_fIx (em_v 2) (em_neg em_int)) em_int) (em_v 4))))))))
  (bm_one (sm_expr (em_bm PySem.F.plainAttrs_list PySem.F.slot_list_append PySem.F.type_list_append mt_fAppend (em_v 2) (am_cons (em_tup (am_cons (em_v 3) (am_cons (em_v 4) am_nil))) am_nil))))
  bm_nil)))
  (bm_one (sm_ret (em_tup (am_cons (em_v 0) (am_cons (em_callT call_fTuple rfl T.n_tuple PyProof.Rows.Boot.«tuple» (am_cons (em_v 2) am_nil)) am_nil)))))))
theorem c_joined_runs (T : Txt P w K mg base) : Cal P w K mg base 1 "joined_runs" M_joined_runs := cal1 T.d_joined_runs sc_joined_runs (fun _ _ _ _ _ _ us hl => match us, hl with | [_, _], _ => rfl) (b_joined_runs T)
abbrev N_array_of : List Str := ["row", "worth"]
def B_array_of : MS :=
  (sSeq (sIf (mOrT (mNotT (mB (m1 (fIsi ["list", "tuple"]) (mV 0)))) (mNotT (mB (mB1 (f1L fAll) (mCons (mLc (iSeq (mV 0)) (gN 1) tAll (mCall M_is_whole (mCons (mV 1) mNil)) [1]) mNil)))))
  (sRaise "BadArguments" 1 (fl_BadArguments D .non) (mCons (mC (.int 0)) mNil))
  sNil)
  (sRet (mCall M_joined_runs (mCons (mB1 (f1L fLen) (mCons (mV 0) mNil)) (mCons (m1 fListEn (mV 0)) mNil)))))
def M_array_of : MFn := mFn 1 2 B_array_of
theorem sc_array_of : FnScope N_array_of ["row"] (defScope s_array_of) := ⟨rfl, rfl, rfl, by decide +kernel, rfl, by decide +kernel, by decide +kernel⟩
theorem b_array_of (T : Txt P w K mg base) : BodyOk P w K mg base 2 N_array_of "array_of" (defScope s_array_of) (defBody s_array_of) B_array_of := by
  intro f cdv A outer s H E hr tk po
  have nd := sc_array_of.nd
  exact (bm_cons (sm_if (WM.tm (wm_or (tm_not (tm_val (em_isiT2 (em_v 0) (hm := T.n_isinstance) (hm1 := T.n_list) (hv1 := PyProof.Rows.Boot.«list») (hm2 := T.n_tuple) (hv2 := PyProof.Rows.Boot.«tuple»)))) (wm_or1 (tm_not (tm_val (em_callB (call_fAll rfl) rfl T.n_all PyProof.Rows.Boot.«all» (am_cons (em_lc [1] rfl nd (im_seq (em_v 0)) (blkOk_by (N := N_array_of) (sc := defScope s_array_of) (own := [("worth", 1)]) (by decide +kernel)) (fun _ _ _ _ _ => (gc_n 1 nd)) (fun _ _ _ _ _ => tms_nil) (fun _ _ _ _ _ => (em_call (c_is_whole T) hr takes0 (am_cons (em_v 1) am_nil)))) am_nil)))))))
  (bm_one (sm_raise T.x_BadArguments flds1 (by decide) hr tk rfl (am_cons em_int am_nil)))
  bm_nil)
  (bm_one (sm_ret (em_call (c_joined_runs T) hr tk (am_cons (em_callB call_fLen rfl T.n_len PyProof.Rows.Boot.«len» (am_cons (em_v 0) am_nil)) (am_cons (em_listEn T.n_list T.n_enumerate (em_v 0)) am_nil))))))
theorem c_array_of (T : Txt P w K mg base) : Cal P w K mg base 3 "array_of" M_array_of := cal1 T.d_array_of sc_array_of (fun _ _ _ _ _ _ us hl => match us, hl with | [_], _ => rfl) (b_array_of T)
abbrev N__law_int : List Str := ["thing"]
def B__law_int : MS :=
  (sRet (mAndV (m1 (fIsi ["int"]) (mV 0)) (mNotV (m1 (fIsi ["bool"]) (mV 0)))))
def M__law_int : MFn := mFn 1 1 B__law_int
theorem sc__law_int : FnScope N__law_int ["thing"] (defScope s__law_int) := ⟨rfl, rfl, rfl, by decide +kernel, rfl, by decide +kernel, by decide +kernel⟩
theorem b__law_int (T : Txt P w K mg base) : BodyOk P w K mg base 0 N__law_int "_law_int" (defScope s__law_int) (defBody s__law_int) B__law_int := by
  intro f cdv A outer s H E hr tk po
  have nd := sc__law_int.nd
  exact (bm_one (sm_ret (em_and (em_isi (em_v 0) (hm := T.n_isinstance) (hmT := T.n_int) (hvT := PyProof.Rows.Boot.«int»)) (em_one (em_not (em_isi (em_v 0) (hm := T.n_isinstance) (hmT := T.n_bool) (hvT := PyProof.Rows.Boot.«bool»)))))))
theorem c__law_int (T : Txt P w K mg base) : Cal P w K mg base 1 "_law_int" M__law_int := cal1 T.d__law_int sc__law_int (fun _ _ _ _ _ _ us hl => match us, hl with | [_], _ => rfl) (b__law_int T)
abbrev N__law_array_kind : List Str := ["thing", "pair"]
def B__law_array_kind : MS :=
  (sSeq (sIf (mOrT (mNotT (mB (m1 (fIsi ["tuple"]) (mV 0)))) (mOrT (mB (m2 fNe (mB1 (f1L fLen) (mCons (mV 0) mNil)) (mC (.int 2)))) (mOrT (mNotT (mB (mCall M__law_int (mCons (m2 fIx (mV 0) (mC (.int 0))) mNil)))) (mNotT (mB (m1 (fIsi ["tuple"]) (m2 fIx (mV 0) (mC (.int 1)))))))))
  (sRet (mC (.bl false)))
  sNil)
  (sSeq (sFor (iSeq (m2 fIx (mV 0) (mC (.int 1)))) (gN 1)
  (sIf (mOrT (mNotT (mB (m1 (fIsi ["tuple"]) (mV 1)))) (mOrT (mB (m2 fNe (mB1 (f1L fLen) (mCons (mV 1) mNil)) (mC (.int 2)))) (mOrT (mNotT (mB (mCall M__law_int (mCons (m2 fIx (mV 1) (mC (.int 0))) mNil)))) (mNotT (mB (mCall M__law_int (mCons (m2 fIx (mV 1) (mC (.int 1))) mNil)))))))
  (sRet (mC (.bl false)))
  sNil))
  (sRet (mC (.bl true)))))
def M__law_array_kind : MFn := mFn 1 2 B__law_array_kind
theorem sc__law_array_kind : FnScope N__law_array_kind ["thing"] (defScope s__law_array_kind) := ⟨rfl, rfl, rfl, by decide +kernel, rfl, by decide +kernel, by decide +kernel⟩
theorem b__law_array_kind (T : Txt P w K mg base) : BodyOk P w K mg base 1 N__law_array_kind "_law_array_kind" (defScope s__law_array_kind) (defBody s__law_array_kind) B__law_array_kind := by
  intro f cdv A outer s H E hr tk po
  have nd := sc__law_array_kind.nd
  exact (bm_cons (sm_if (WM.tm (wm_or (tm_not (tm_val (em_isi (em_v 0) (hm := T.n_isinstance) (hmT := T.n_tuple) (hvT := PyProof.Rows.Boot.«tuple»)))) (wm_or (tm_cmp (op_fNe (uRoom hr)) (em_callB call_fLen rfl T.n_len PyProof.Rows.Boot.«len» (am_cons (em_v 0) am_nil)) em_int) (wm_or (tm_not (tm_val (em_call (c__law_int T) hr tk (am_cons (em_ix ix_fIx (em_v 0) em_int) am_nil)))) (wm_or1 (tm_not (tm_val (em_isi (em_ix ix_fIx (em_v 0) em_int) (hm := T.n_isinstance) (hmT := T.n_tuple) (hvT := PyProof.Rows.Boot.«tuple»)))))))))
  (bm_one (sm_ret em_bl))
  bm_nil)
  (bm_cons (sm_for po rfl (im_seq (em_ix ix_fIx (em_v 0) em_int)) (gm_n 1 nd)
  (bm_one (sm_if (WM.tm (wm_or (tm_not (tm_val (em_isi (em_v 1) (hm := T.n_isinstance) (hmT := T.n_tuple) (hvT := PyProof.Rows.Boot.«tuple»)))) (wm_or (tm_cmp (op_fNe (uRoom hr)) (em_callB call_fLen rfl T.n_len PyProof.Rows.Boot.«len» (am_cons (em_v 1) am_nil)) em_int) (wm_or (tm_not (tm_val (em_call (c__law_int T) hr tk (am_cons (em_ix ix_fIx (em_v 1) em_int) am_nil)))) (wm_or1 (tm_not (tm_val (em_call (c__law_int T) hr tk (am_cons (em_ix ix_fIx (em_v 1) em_int) am_nil)))))))))
  (bm_one (sm_ret em_bl))
  bm_nil)))
  (bm_one (sm_ret em_bl))))
theorem c__law_array_kind (T : Txt P w K mg base) : Cal P w K mg base 2 "_law_array_kind" M__law_array_kind := cal1 T.d__law_array_kind sc__law_array_kind (fun _ _ _ _ _ _ us hl => match us, hl with | [_], _ => rfl) (b__law_array_kind T)
abbrev N__law_is_array : List Str := ["told", "due"]
def B__law_is_array : MS :=
  (sRet (mAndV (mCall M__law_array_kind (mCons (mV 0) mNil)) (m2 fEq (mV 0) (mV 1))))
def M__law_is_array : MFn := mFn 2 2 B__law_is_array
theorem sc__law_is_array : FnScope N__law_is_array ["told", "due"] (defScope s__law_is_array) := ⟨rfl, rfl, rfl, by decide +kernel, rfl, by decide +kernel, by decide +kernel⟩
theorem b__law_is_array (T : Txt P w K mg base) : BodyOk P w K mg base 2 N__law_is_array "_law_is_array" (defScope s__law_is_array) (defBody s__law_is_array) B__law_is_array := by
  intro f cdv A outer s H E hr tk po
  have nd := sc__law_is_array.nd
  exact (bm_one (sm_ret (em_and (em_call (c__law_array_kind T) hr tk (am_cons (em_v 0) am_nil)) (em_one (em_cmp (op_fEq (uRoom hr)) (em_v 0) (em_v 1))))))
theorem c__law_is_array (T : Txt P w K mg base) : Cal P w K mg base 3 "_law_is_array" M__law_is_array := cal1 T.d__law_is_array sc__law_is_array (fun _ _ _ _ _ _ us hl => match us, hl with | [_, _], _ => rfl) (b__law_is_array T)
abbrev N__law_runs : List Str := ["cells", "rows", "place"]
def B__law_runs : MS :=
  (sSeq (sSet 1 (mLst mNil))
  (sSeq (sFor (iRng (mCons (mB1 (f1L fLen) (mCons (mV 0) mNil)) mNil)) (gN 2)
  (sIf (mOrT (mB (m2 fEq (mV 2) (mC (.int 0)))) (mB (m2 fNe (m2 fIx (mV 0) (mV 2)) (m2 fIx (mV 0) (m2 fSub (mV 2) (mC (.int 1)))))))
  (sExpr (mM "list" fAppend (mV 1) (mCons (mTup (mCons (mV 2) (mCons (m2 fIx (mV 0) (mV 2)) mNil))) mNil)))
  sNil))
  (sRet (mTup (mCons (mB1 (f1L fLen) (mCons (mV 0) mNil)) (mCons (mB1 (f1L fTuple) (mCons (mV 1) mNil)) mNil))))))
def M__law_runs : MFn := mFn 1 3 B__law_runs
theorem sc__law_runs : FnScope N__law_runs ["cells"] (defScope s__law_runs) := ⟨rfl, rfl, rfl, by decide +kernel, rfl, by decide +kernel, by decide +kernel⟩
theorem b__law_runs (T : Txt P w K mg base) : BodyOk P w K mg base 0 N__law_runs "_law_runs" (defScope s__law_runs) (defBody s__law_runs) B__law_runs := by
  intro f cdv A outer s H E hr tk po
  have nd := sc__law_runs.nd
  exact (bm_cons (sm_set 1 nd (em_lst am_nil))
  (bm_cons (sm_for po rfl (im_rng1 T.n_range (em_callB call_fLen rfl T.n_len PyProof.Rows.Boot.«len» (am_cons (em_v 0) am_nil))) (gm_n 2 nd)
  (bm_one (sm_if (WM.tm (wm_or (tm_cmp (op_fEq (uRoom hr)) (em_v 2) em_int) (wm_or1 (tm_cmp (op_fNe (uRoom hr)) (em_ix ix_fIx (em_v 0) (em_v 2)) (em_ix ix_fIx (em_v 0) (em_bin op_fSub (em_v 2) em_int))))))
  (bm_one (sm_expr (em_bm PySem.F.plainAttrs_list PySem.F.slot_list_append PySem.F.type_list_append mt_fAppend (em_v 1) (am_cons (em_tup (am_cons (em_v 2) (am_cons (em_ix ix_fIx (em_v 0) (em_v 2)) am_nil))) am_nil))))
  bm_nil)))
  (bm_one (sm_ret (em_tup (am_cons (em_callB call_fLen rfl T.n_len PyProof.Rows.Boot.«len» (am_cons (em_v 0) am_nil)) (am_cons (em_callT call_fTuple rfl T.n_tuple PyProof.Rows.Boot.«tuple» (am_cons (em_v 1) am_nil)) am_nil)))))))
theorem c__law_runs (T : Txt P w K mg base) : Cal P w K mg base 1 "_law_runs" M__law_runs := cal1 T.d__law_runs sc__law_runs (fun _ _ _ _ _ _ us hl => match us, hl with | [_], _ => rfl) (b__law_runs T)
abbrev N_is_whole_pair : List Str := ["pair"]
def B_is_whole_pair : MS :=
  (sRet (mAndV (m1 (fIsi ["list", "tuple"]) (mV 0)) (mAndV (m2 fEq (mB1 (f1L fLen) (mCons (mV 0) mNil)) (mC (.int 2))) (mAndV (mCall M_is_whole (mCons (m2 fIx (mV 0) (mC (.int 0))) mNil)) (mCall M_is_whole (mCons (m2 fIx (mV 0) (mC (.int 1))) mNil))))))
def M_is_whole_pair : MFn := mFn 1 1 B_is_whole_pair
theorem sc_is_whole_pair : FnScope N_is_whole_pair ["pair"] (defScope s_is_whole_pair) := ⟨rfl, rfl, rfl, by decide +kernel, rfl, by decide +kernel, by decide +kernel⟩
theorem b_is_whole_pair (T : Txt P w K mg base) : BodyOk P w K mg base 1 N_is_whole_pair "is_whole_pair" (defScope s_is_whole_pair) (defBody s_is_whole_pair) B_is_whole_pair := by
  intro f cdv A outer s H E hr tk po
  have nd := sc_is_whole_pair.nd
  exact (bm_one (sm_ret (em_and (em_isiT2 (em_v 0) (hm := T.n_isinstance) (hm1 := T.n_list) (hv1 := PyProof.Rows.Boot.«list») (hm2 := T.n_tuple) (hv2 := PyProof.Rows.Boot.«tuple»)) (em_and (em_cmp (op_fEq (uRoom hr)) (em_callB call_fLen rfl T.n_len PyProof.Rows.Boot.«len» (am_cons (em_v 0) am_nil)) em_int) (em_and (em_call (c_is_whole T) hr tk (am_cons (em_ix ix_fIx (em_v 0) em_int) am_nil)) (em_one (em_call (c_is_whole T) hr tk (am_cons (em_ix ix_fIx (em_v 0) em_int) am_nil))))))))
theorem c_is_whole_pair (T : Txt P w K mg base) : Cal P w K mg base 2 "is_whole_pair" M_is_whole_pair := cal1 T.d_is_whole_pair sc_is_whole_pair (fun _ _ _ _ _ _ us hl => match us, hl with | [_], _ => rfl) (b_is_whole_pair T)
abbrev N_is_array : List Str := ["a", "length", "rows", "at", "pair"]
def B_is_array : MS :=
  (sSeq (sIf (mOrT (mNotT (mB (m1 (fIsi ["tuple"]) (mV 0)))) (mOrT (mB (m2 fNe (mB1 (f1L fLen) (mCons (mV 0) mNil)) (mC (.int 2)))) (mOrT (mNotT (mB (mCall M_is_whole (mCons (m2 fIx (mV 0) (mC (.int 0))) mNil)))) (mNotT (mB (m1 (fIsi ["tuple"]) (m2 fIx (mV 0) (mC (.int 1)))))))))
  (sRet (mC (.bl false)))
  sNil)
  (sSeq (sAsg (mV 0) (gT 2 (gsCons (gN 1) (gsCons (gN 2) gsNil))))
  (sSeq (sIf (mOrT (mB (m2 fLe (mV 1) (mC (.int 0)))) (mB (m2 fEq (mB1 (f1L fLen) (mCons (mV 2) mNil)) (mC (.int 0)))))
  (sRet (mAndV (m2 fEq (mV 1) (mC (.int 0))) (m2 fEq (mB1 (f1L fLen) (mCons (mV 2) mNil)) (mC (.int 0)))))
  sNil)
  (sSeq (sFor (iEnumA (mCons (mV 2) mNil)) (gT 2 (gsCons (gN 3) (gsCons (gN 4) gsNil)))
  (sSeq (sIf (mOrT (mNotT (mB (m1 (fIsi ["tuple"]) (mV 4)))) (mOrT (mNotT (mB (mCall M_is_whole_pair (mCons (mV 4) mNil)))) (mB (m2 fGe (m2 fIx (mV 4) (mC (.int 0))) (mV 1)))))
  (sRet (mC (.bl false)))
  sNil)
  (sSeq (sIf (mAndT (mB (m2 fEq (mV 3) (mC (.int 0)))) (mB (m2 fNe (m2 fIx (mV 4) (mC (.int 0))) (mC (.int 0)))))
  (sRet (mC (.bl false)))
  sNil)
  (sIf (mAndT (mB (m2 fGt (mV 3) (mC (.int 0)))) (mOrT (mB (m2 fGe (m2 fIx (m2 fIx (mV 2) (m2 fSub (mV 3) (mC (.int 1)))) (mC (.int 0))) (m2 fIx (mV 4) (mC (.int 0))))) (mB (m2 fEq (m2 fIx (m2 fIx (mV 2) (m2 fSub (mV 3) (mC (.int 1)))) (mC (.int 1))) (m2 fIx (mV 4) (mC (.int 1)))))))
  (sRet (mC (.bl false)))
  sNil))))
  (sRet (mC (.bl true)))))))
def M_is_array : MFn := mFn 1 5 B_is_array
theorem sc_is_array : FnScope N_is_array ["a"] (defScope s_is_array) := ⟨rfl, rfl, rfl, by decide +kernel, rfl, by decide +kernel, by decide +kernel⟩
theorem b_is_array (T : Txt P w K mg base) : BodyOk P w K mg base 2 N_is_array "is_array" (defScope s_is_array) (defBody s_is_array) B_is_array := by
  intro f cdv A outer s H E hr tk po
  have nd := sc_is_array.nd
  exact (bm_cons (sm_if (WM.tm (wm_or (tm_not (tm_val (em_isi (em_v 0) (hm := T.n_isinstance) (hmT := T.n_tuple) (hvT := PyProof.Rows.Boot.«tuple»)))) (wm_or (tm_cmp (op_fNe (uRoom hr)) (em_callB call_fLen rfl T.n_len PyProof.Rows.Boot.«len» (am_cons (em_v 0) am_nil)) em_int) (wm_or (tm_not (tm_val (em_call (c_is_whole T) hr tk (am_cons (em_ix ix_fIx (em_v 0) em_int) am_nil)))) (wm_or1 (tm_not (tm_val (em_isi (em_ix ix_fIx (em_v 0) em_int) (hm := T.n_isinstance) (hmT := T.n_tuple) (hvT := PyProof.Rows.Boot.«tuple»)))))))))
  (bm_one (sm_ret em_bl))
  bm_nil)
  (bm_cons (sm_asg (em_v 0) (gm_tup rfl (gms_cons (gm_n 1 nd) (gms_cons (gm_n 2 nd) gms_nil))))
  (bm_cons (sm_if (WM.tm (wm_or (tm_cmp op_fLe (em_v 1) em_int) (wm_or1 (tm_cmp (op_fEq (uRoom hr)) (em_callB call_fLen rfl T.n_len PyProof.Rows.Boot.«len» (am_cons (em_v 2) am_nil)) em_int))))
  (bm_one (sm_ret (em_and (em_cmp (op_fEq (uRoom hr)) (em_v 1) em_int) (em_one (em_cmp (op_fEq (uRoom hr)) (em_callB call_fLen rfl T.n_len PyProof.Rows.Boot.«len» (am_cons (em_v 2) am_nil)) em_int)))))
  bm_nil)
  (bm_cons (sm_for po rfl (im_enumA T.n_enumerate (em_v 2)) (gm_tup rfl (gms_cons (gm_n 3 nd) (gms_cons (gm_n 4 nd) gms_nil)))
  (bm_cons (sm_if (WM.tm (wm_or (tm_not (tm_val (em_isi (em_v 4) (hm := T.n_isinstance) (hmT := T.n_tuple) (hvT := PyProof.Rows.Boot.«tuple»)))) (wm_or (tm_not (tm_val (em_call (c_is_whole_pair T) hr tk (am_cons (em_v 4) am_nil)))) (wm_or1 (tm_cmp op_fGe (em_ix ix_fIx (em_v 4) em_int) (em_v 1))))))
  (bm_one (sm_ret em_bl))
  bm_nil)
  (bm_cons (sm_if (WM.tm (wm_and (tm_cmp (op_fEq (uRoom hr)) (em_v 3) em_int) (wm_and1 (tm_cmp (op_fNe (uRoom hr)) (em_ix ix_fIx (em_v 4) em_int) em_int))))
  (bm_one (sm_ret em_bl))
  bm_nil)
  (bm_one (sm_if (WM.tm (wm_and (tm_cmp op_fGt (em_v 3) em_int) (wm_and1 (WM.tm (wm_or (tm_cmp op_fGe (em_ix ix_fIx (em_ix ix_fIx (em_v 2) (em_bin op_fSub (em_v 3) em_int)) em_int) (em_ix ix_fIx (em_v 4) em_int)) (wm_or1 (tm_cmp (op_fEq (uRoom hr)) (em_ix ix_fIx (em_ix ix_fIx (em_v 2) (em_bin op_fSub (em_v 3) em_int)) em_int) (em_ix ix_fIx (em_v 4) em_int))))))))
  (bm_one (sm_ret em_bl))
  bm_nil)))))
  (bm_one (sm_ret em_bl))))))
theorem c_is_array (T : Txt P w K mg base) : Cal P w K mg base 3 "is_array" M_is_array := cal1 T.d_is_array sc_is_array (fun _ _ _ _ _ _ us hl => match us, hl with | [_], _ => rfl) (b_is_array T)
abbrev N_check_array : List Str := ["a", "number"]
def B_check_array : MS :=
  (sIf (mNotT (mB (mCall M_is_array (mCons (mV 0) mNil))))
  (sRaise "BadArguments" 1 (fl_BadArguments D .non) (mCons (mV 1) mNil))
  sNil)
def M_check_array : MFn := mFn 2 2 B_check_array
theorem sc_check_array : FnScope N_check_array ["a", "number"] (defScope s_check_array) := ⟨rfl, rfl, rfl, by decide +kernel, rfl, by decide +kernel, by decide +kernel⟩
theorem b_check_array (T : Txt P w K mg base) : BodyOk P w K mg base 3 N_check_array "check_array" (defScope s_check_array) (defBody s_check_array) B_check_array := by
  intro f cdv A outer s H E hr tk po
  have nd := sc_check_array.nd
  exact (bm_one (sm_if (tm_not (tm_val (em_call (c_is_array T) hr tk (am_cons (em_v 0) am_nil))))
  (bm_one (sm_raise T.x_BadArguments flds1 (by decide) hr tk rfl (am_cons (em_v 1) am_nil)))
  bm_nil))
theorem c_check_array (T : Txt P w K mg base) : Cal P w K mg base 4 "check_array" M_check_array := cal1 T.d_check_array sc_check_array (fun _ _ _ _ _ _ us hl => match us, hl with | [_, _], _ => rfl) (b_check_array T)
abbrev N_check_whole : List Str := ["n", "number"]
def B_check_whole : MS :=
  (sIf (mNotT (mB (mCall M_is_whole (mCons (mV 0) mNil))))
  (sRaise "BadArguments" 1 (fl_BadArguments D .non) (mCons (mV 1) mNil))
  sNil)
def M_check_whole : MFn := mFn 2 2 B_check_whole
theorem sc_check_whole : FnScope N_check_whole ["n", "number"] (defScope s_check_whole) := ⟨rfl, rfl, rfl, by decide +kernel, rfl, by decide +kernel, by decide +kernel⟩
theorem b_check_whole (T : Txt P w K mg base) : BodyOk P w K mg base 2 N_check_whole "check_whole" (defScope s_check_whole) (defBody s_check_whole) B_check_whole := by
  intro f cdv A outer s H E hr tk po
  have nd := sc_check_whole.nd
  exact (bm_one (sm_if (tm_not (tm_val (em_call (c_is_whole T) hr tk (am_cons (em_v 0) am_nil))))
  (bm_one (sm_raise T.x_BadArguments flds1 (by decide) hr tk rfl (am_cons (em_v 1) am_nil)))
  bm_nil))
theorem c_check_whole (T : Txt P w K mg base) : Cal P w K mg base 3 "check_whole" M_check_whole := cal1 T.d_check_whole sc_check_whole (fun _ _ _ _ _ _ us hl => match us, hl with | [_, _], _ => rfl) (b_check_whole T)
abbrev N_run_at : List Str := ["rows", "z", "low", "high", "middle"]
def B_run_at : MS :=
  (sSeq (sSet 2 (mC (.int 0)))
  (sSeq (sSet 3 (mB1 (f1L fLen) (mCons (mV 0) mNil)))
  (sSeq (sWhile 1000000000 (mB (m2 fGt (m2 fSub (mV 3) (mV 2)) (mC (.int 1))))
  (sSeq (sSet 4 (m2 fDiv (m2 fAdd (mV 2) (mV 3)) (mC (.int 2))))
  (sIf (mB (m2 fLe (m2 fIx (m2 fIx (mV 0) (mV 4)) (mC (.int 0))) (mV 1)))
  (sSet 2 (mV 4))
  (sSet 3 (mV 4)))))
  (sRet (mV 2)))))
def M_run_at : MFn := mFn 2 5 B_run_at
theorem sc_run_at : FnScope N_run_at ["rows", "z"] (defScope s_run_at) := ⟨rfl, rfl, rfl, by decide +kernel, rfl, by decide +kernel, by decide +kernel⟩
theorem b_run_at (T : Txt P w K mg base) : BodyOk P w K mg base 0 N_run_at "run_at" (defScope s_run_at) (defBody s_run_at) B_run_at := by
  intro f cdv A outer s H E hr tk po
  have nd := sc_run_at.nd
  exact (bm_cons (sm_set 2 nd em_int)
  (bm_cons (sm_set 3 nd (em_callB call_fLen rfl T.n_len PyProof.Rows.Boot.«len» (am_cons (em_v 0) am_nil)))
  (bm_cons (sm_while 1000000000 po (tm_cmp op_fGt (em_bin op_fSub (em_v 3) (em_v 2)) em_int)
  (bm_cons (sm_set 4 nd (em_bin op_fDiv (em_bin op_fAdd (em_v 2) (em_v 3)) em_int))
  (bm_one (sm_if (tm_cmp op_fLe (em_ix ix_fIx (em_ix ix_fIx (em_v 0) (em_v 4)) em_int) (em_v 1))
  (bm_one (sm_set 2 nd (em_v 4)))
  (bm_one (sm_set 3 nd (em_v 4)))))))
  (bm_one (sm_ret (em_v 2))))))
theorem c_run_at (T : Txt P w K mg base) : Cal P w K mg base 1 "run_at" M_run_at := cal1 T.d_run_at sc_run_at (fun _ _ _ _ _ _ us hl => match us, hl with | [_, _], _ => rfl) (b_run_at T)
abbrev N_with_cell : List Str := ["a", "z", "v", "length", "rows", "at", "start", "held", "behind", "end", "middle"]
def B_with_cell : MS :=
  (sSeq (sAsg (mV 0) (gT 2 (gsCons (gN 3) (gsCons (gN 4) gsNil))))
  (sSeq (sIf (mOrT (mB (m2 fLt (mV 1) (mC (.int 0)))) (mB (m2 fGe (mV 1) (mV 3))))
  (sRet (mV 0))
  sNil)
  (sSeq (sSet 5 (mCall M_run_at (mCons (mV 4) (mCons (mV 1) mNil))))
  (sSeq (sAsg (m2 fIx (mV 4) (mV 5)) (gT 2 (gsCons (gN 6) (gsCons (gN 7) gsNil))))
  (sSeq (sIf (mB (m2 fEq (mV 7) (mV 2)))
  (sRet (mV 0))
  sNil)
  (sSeq (sSet 8 (m2 fAdd (mV 5) (mC (.int 1))))
  (sSeq (sSet 9 (mIf (mB (m2 fLt (mV 8) (mB1 (f1L fLen) (mCons (mV 4) mNil)))) (m2 fIx (m2 fIx (mV 4) (mV 8)) (mC (.int 0))) (mV 3)))
  (sSeq (sSet 10 (mLst mNil))
  (sSeq (sIf (mB (m2 fLt (mV 6) (mV 1)))
  (sExpr (mM "list" fAppend (mV 10) (mCons (mTup (mCons (mV 6) (mCons (mV 7) mNil))) mNil)))
  sNil)
  (sSeq (sIf (mOrT (mB (m2 fLt (mV 6) (mV 1))) (mOrT (mB (m2 fEq (mV 5) (mC (.int 0)))) (mB (m2 fNe (m2 fIx (m2 fIx (mV 4) (m2 fSub (mV 5) (mC (.int 1)))) (mC (.int 1))) (mV 2)))))
  (sExpr (mM "list" fAppend (mV 10) (mCons (mTup (mCons (mV 1) (mCons (mV 2) mNil))) mNil)))
  sNil)
  (sSeq (sIf (mB (m2 fLt (m2 fAdd (mV 1) (mC (.int 1))) (mV 9)))
  (sExpr (mM "list" fAppend (mV 10) (mCons (mTup (mCons (m2 fAdd (mV 1) (mC (.int 1))) (mCons (mV 7) mNil))) mNil)))
  (sIf (mAndT (mB (m2 fLt (mV 8) (mB1 (f1L fLen) (mCons (mV 4) mNil)))) (mB (m2 fEq (m2 fIx (m2 fIx (mV 4) (mV 8)) (mC (.int 1))) (mV 2))))
  (sSet 8 (m2 fAdd (mV 8) (mC (.int 1))))
  sNil))
  (sRet (mTup (mCons (mV 3) (mCons (m2 fAdd (m2 fAdd (mSl (mV 4) mNoPart (mPart (mV 5))) (mB1 (f1L fTuple) (mCons (mV 10) mNil))) (mSl (mV 4) (mPart (mV 8)) mNoPart)) mNil)))))))))))))))
def M_with_cell : MFn := mFn 3 11 B_with_cell
theorem sc_with_cell : FnScope N_with_cell ["a", "z", "v"] (defScope s_with_cell) := ⟨rfl, rfl, rfl, by decide +kernel, rfl, by decide +kernel, by decide +kernel⟩
theorem b_with_cell (T : Txt P w K mg base) : BodyOk P w K mg base 1 N_with_cell "with_cell" (defScope s_with_cell) (defBody s_with_cell) B_with_cell := by
  intro f cdv A outer s H E hr tk po
  have nd := sc_with_cell.nd
  exact (bm_cons (sm_asg (em_v 0) (gm_tup rfl (gms_cons (gm_n 3 nd) (gms_cons (gm_n 4 nd) gms_nil))))
  (bm_cons (sm_if (WM.tm (wm_or (tm_cmp op_fLt (em_v 1) em_int) (wm_or1 (tm_cmp op_fGe (em_v 1) (em_v 3)))))
  (bm_one (sm_ret (em_v 0)))
  bm_nil)
  (bm_cons (sm_set 5 nd (em_call (c_run_at T) hr tk (am_cons (em_v 4) (am_cons (em_v 1) am_nil))))
  (bm_cons (sm_asg (em_ix ix_fIx (em_v 4) (em_v 5)) (gm_tup rfl (gms_cons (gm_n 6 nd) (gms_cons (gm_n 7 nd) gms_nil))))
  (bm_cons (sm_if (tm_cmp (op_fEq (uRoom hr)) (em_v 7) (em_v 2))
  (bm_one (sm_ret (em_v 0)))
  bm_nil)
  (bm_cons (sm_set 8 nd (em_bin op_fAdd (em_v 5) em_int))
  (bm_cons (sm_set 9 nd (em_if (tm_cmp op_fLt (em_v 8) (em_callB call_fLen rfl T.n_len PyProof.Rows.Boot.«len» (am_cons (em_v 4) am_nil))) (em_ix ix_fIx (em_ix ix_fIx (em_v 4) (em_v 8)) em_int) (em_v 3)))
  (bm_cons (sm_set 10 nd (em_lst am_nil))
  (bm_cons (sm_if (tm_cmp op_fLt (em_v 6) (em_v 1))
  (bm_one (sm_expr (em_bm PySem.F.plainAttrs_list PySem.F.slot_list_append PySem.F.type_list_append mt_fAppend (em_v 10) (am_cons (em_tup (am_cons (em_v 6) (am_cons (em_v 7) am_nil))) am_nil))))
  bm_nil)
  (bm_cons (sm_if (WM.tm (wm_or (tm_cmp op_fLt (em_v 6) (em_v 1)) (wm_or (tm_cmp (op_fEq (uRoom hr)) (em_v 5) em_int) (wm_or1 (tm_cmp (op_fNe (uRoom hr)) (em_ix ix_fIx (em_ix ix_fIx (em_v 4) (em_bin op_fSub (em_v 5) em_int)) em_int) (em_v 2))))))
  (bm_one (sm_expr (em_bm PySem.F.plainAttrs_list PySem.F.slot_list_append PySem.F.type_list_append mt_fAppend (em_v 10) (am_cons (em_tup (am_cons (em_v 1) (am_cons (em_v 2) am_nil))) am_nil))))
  bm_nil)
  (bm_cons (sm_if (tm_cmp op_fLt (em_bin op_fAdd (em_v 1) em_int) (em_v 9))
  (bm_one (sm_expr (em_bm PySem.F.plainAttrs_list PySem.F.slot_list_append PySem.F.type_list_append mt_fAppend (em_v 10) (am_cons (em_tup (am_cons (em_bin op_fAdd (em_v 1) em_int) (am_cons (em_v 7) am_nil))) am_nil))))
  (bm_one (sm_if (WM.tm (wm_and (tm_cmp op_fLt (em_v 8) (em_callB call_fLen rfl T.n_len PyProof.Rows.Boot.«len» (am_cons (em_v 4) am_nil))) (wm_and1 (tm_cmp (op_fEq (uRoom hr)) (em_ix ix_fIx (em_ix ix_fIx (em_v 4) (em_v 8)) em_int) (em_v 2)))))
  (bm_one (sm_set 8 nd (em_bin op_fAdd (em_v 8) em_int)))
  bm_nil)))
  (bm_one (sm_ret (em_tup (am_cons (em_v 3) (am_cons (em_bin op_fAdd (em_bin op_fAdd (em_sl (em_v 4) om_none (om_some (em_v 5))) (em_callT call_fTuple rfl T.n_tuple PyProof.Rows.Boot.«tuple» (am_cons (em_v 10) am_nil))) (em_sl (em_v 4) (om_some (em_v 8)) om_none)) am_nil))))))))))))))))
theorem c_with_cell (T : Txt P w K mg base) : Cal P w K mg base 2 "with_cell" M_with_cell := cal1 T.d_with_cell sc_with_cell (fun _ _ _ _ _ _ us hl => match us, hl with | [_, _, _], _ => rfl) (b_with_cell T)
abbrev N_put_cell : List Str := ["a", "z", "v"]
def B_put_cell : MS :=
  (sSeq (sExpr (mCall M_check_array (mCons (mV 0) (mCons (mC (.int 0)) mNil))))
  (sSeq (sExpr (mCall M_check_whole (mCons (mV 1) (mCons (mC (.int 1)) mNil))))
  (sSeq (sExpr (mCall M_check_whole (mCons (mV 2) (mCons (mC (.int 2)) mNil))))
  (sRet (mCall M_with_cell (mCons (mV 0) (mCons (mV 1) (mCons (mV 2) mNil))))))))
def M_put_cell : MFn := mFn 3 3 B_put_cell
theorem sc_put_cell : FnScope N_put_cell ["a", "z", "v"] (defScope s_put_cell) := ⟨rfl, rfl, rfl, by decide +kernel, rfl, by decide +kernel, by decide +kernel⟩
theorem b_put_cell (T : Txt P w K mg base) : BodyOk P w K mg base 4 N_put_cell "put_cell" (defScope s_put_cell) (defBody s_put_cell) B_put_cell := by
  intro f cdv A outer s H E hr tk po
  have nd := sc_put_cell.nd
  exact (bm_cons (sm_expr (em_call (c_check_array T) hr tk (am_cons (em_v 0) (am_cons em_int am_nil))))
  (bm_cons (sm_expr (em_call (c_check_whole T) hr tk (am_cons (em_v 1) (am_cons em_int am_nil))))
  (bm_cons (sm_expr (em_call (c_check_whole T) hr tk (am_cons (em_v 2) (am_cons em_int am_nil))))
  (bm_one (sm_ret (em_call (c_with_cell T) hr tk (am_cons (em_v 0) (am_cons (em_v 1) (am_cons (em_v 2) am_nil)))))))))
theorem c_put_cell (T : Txt P w K mg base) : Cal P w K mg base 5 "put_cell" M_put_cell := cal1 T.d_put_cell sc_put_cell (fun _ _ _ _ _ _ us hl => match us, hl with | [_, _, _], _ => rfl) (b_put_cell T)
abbrev N_cell_at : List Str := ["a", "z"]
def B_cell_at : MS :=
  (sSeq (sIf (mOrT (mB (m2 fLt (mV 1) (mC (.int 0)))) (mB (m2 fGe (mV 1) (m2 fIx (mV 0) (mC (.int 0))))))
  (sRet (mC (.int 0)))
  sNil)
  (sRet (m2 fIx (m2 fIx (m2 fIx (mV 0) (mC (.int 1))) (mCall M_run_at (mCons (m2 fIx (mV 0) (mC (.int 1))) (mCons (mV 1) mNil)))) (mC (.int 1)))))
def M_cell_at : MFn := mFn 2 2 B_cell_at
theorem sc_cell_at : FnScope N_cell_at ["a", "z"] (defScope s_cell_at) := ⟨rfl, rfl, rfl, by decide +kernel, rfl, by decide +kernel, by decide +kernel⟩
theorem b_cell_at (T : Txt P w K mg base) : BodyOk P w K mg base 1 N_cell_at "cell_at" (defScope s_cell_at) (defBody s_cell_at) B_cell_at := by
  intro f cdv A outer s H E hr tk po
  have nd := sc_cell_at.nd
  exact (bm_cons (sm_if (WM.tm (wm_or (tm_cmp op_fLt (em_v 1) em_int) (wm_or1 (tm_cmp op_fGe (em_v 1) (em_ix ix_fIx (em_v 0) em_int)))))
  (bm_one (sm_ret em_int))
  bm_nil)
  (bm_one (sm_ret (em_ix ix_fIx (em_ix ix_fIx (em_ix ix_fIx (em_v 0) em_int) (em_call (c_run_at T) hr tk (am_cons (em_ix ix_fIx (em_v 0) em_int) (am_cons (em_v 1) am_nil)))) em_int))))
theorem c_cell_at (T : Txt P w K mg base) : Cal P w K mg base 2 "cell_at" M_cell_at := cal1 T.d_cell_at sc_cell_at (fun _ _ _ _ _ _ us hl => match us, hl with | [_, _], _ => rfl) (b_cell_at T)
abbrev N_cell_of : List Str := ["a", "z"]
def B_cell_of : MS :=
  (sSeq (sExpr (mCall M_check_array (mCons (mV 0) (mCons (mC (.int 0)) mNil))))
  (sSeq (sExpr (mCall M_check_whole (mCons (mV 1) (mCons (mC (.int 1)) mNil))))
  (sRet (mCall M_cell_at (mCons (mV 0) (mCons (mV 1) mNil))))))
def M_cell_of : MFn := mFn 2 2 B_cell_of
theorem sc_cell_of : FnScope N_cell_of ["a", "z"] (defScope s_cell_of) := ⟨rfl, rfl, rfl, by decide +kernel, rfl, by decide +kernel, by decide +kernel⟩
theorem b_cell_of (T : Txt P w K mg base) : BodyOk P w K mg base 4 N_cell_of "cell_of" (defScope s_cell_of) (defBody s_cell_of) B_cell_of := by
  intro f cdv A outer s H E hr tk po
  have nd := sc_cell_of.nd
  exact (bm_cons (sm_expr (em_call (c_check_array T) hr tk (am_cons (em_v 0) (am_cons em_int am_nil))))
  (bm_cons (sm_expr (em_call (c_check_whole T) hr tk (am_cons (em_v 1) (am_cons em_int am_nil))))
  (bm_one (sm_ret (em_call (c_cell_at T) hr tk (am_cons (em_v 0) (am_cons (em_v 1) am_nil)))))))
theorem c_cell_of (T : Txt P w K mg base) : Cal P w K mg base 5 "cell_of" M_cell_of := cal1 T.d_cell_of sc_cell_of (fun _ _ _ _ _ _ us hl => match us, hl with | [_, _], _ => rfl) (b_cell_of T)
abbrev N_runs_of : List Str := ["a"]
def B_runs_of : MS :=
  (sSeq (sExpr (mCall M_check_array (mCons (mV 0) (mCons (mC (.int 0)) mNil))))
  (sRet (m2 fIx (mV 0) (mC (.int 1)))))
def M_runs_of : MFn := mFn 1 1 B_runs_of
theorem sc_runs_of : FnScope N_runs_of ["a"] (defScope s_runs_of) := ⟨rfl, rfl, rfl, by decide +kernel, rfl, by decide +kernel, by decide +kernel⟩
theorem b_runs_of (T : Txt P w K mg base) : BodyOk P w K mg base 4 N_runs_of "runs_of" (defScope s_runs_of) (defBody s_runs_of) B_runs_of := by
  intro f cdv A outer s H E hr tk po
  have nd := sc_runs_of.nd
  exact (bm_cons (sm_expr (em_call (c_check_array T) hr tk (am_cons (em_v 0) (am_cons em_int am_nil))))
  (bm_one (sm_ret (em_ix ix_fIx (em_v 0) em_int))))
theorem c_runs_of (T : Txt P w K mg base) : Cal P w K mg base 5 "runs_of" M_runs_of := cal1 T.d_runs_of sc_runs_of (fun _ _ _ _ _ _ us hl => match us, hl with | [_], _ => rfl) (b_runs_of T)
abbrev N_length_of : List Str := ["a"]
def B_length_of : MS :=
  (sSeq (sExpr (mCall M_check_array (mCons (mV 0) (mCons (mC (.int 0)) mNil))))
  (sRet (m2 fIx (mV 0) (mC (.int 0)))))
def M_length_of : MFn := mFn 1 1 B_length_of
theorem sc_length_of : FnScope N_length_of ["a"] (defScope s_length_of) := ⟨rfl, rfl, rfl, by decide +kernel, rfl, by decide +kernel, by decide +kernel⟩
theorem b_length_of (T : Txt P w K mg base) : BodyOk P w K mg base 4 N_length_of "length_of" (defScope s_length_of) (defBody s_length_of) B_length_of := by
  intro f cdv A outer s H E hr tk po
  have nd := sc_length_of.nd
  exact (bm_cons (sm_expr (em_call (c_check_array T) hr tk (am_cons (em_v 0) (am_cons em_int am_nil))))
  (bm_one (sm_ret (em_ix ix_fIx (em_v 0) em_int))))
theorem c_length_of (T : Txt P w K mg base) : Cal P w K mg base 5 "length_of" M_length_of := cal1 T.d_length_of sc_length_of (fun _ _ _ _ _ _ us hl => match us, hl with | [_], _ => rfl) (b_length_of T)
abbrev N__law_looks : List Str := ["a", "length", "changed", "place", "z", "due", "told", "rows"]
def B__law_looks : MS :=
  (sSeq (sFor (iSeq (mLst (mCons (m2 fSub (mV 3) (mC (.int 1))) (mCons (mV 3) (mCons (m2 fAdd (mV 3) (mC (.int 1))) (mCons (m2 fSub (mC (.int 0)) (mC (.int 1))) (mCons (mV 1) mNil))))))) (gN 4)
  (sSeq (sSet 5 (mM "dict" fGet (mV 2) (mCons (mV 4) (mCons (mC (.int 0)) mNil))))
  (sSeq (sSet 6 (mCall M_cell_of (mCons (mV 0) (mCons (mV 4) mNil))))
  (sIf (mOrT (mNotT (mB (mCall M__law_int (mCons (mV 6) mNil)))) (mB (m2 fNe (mV 6) (mV 5))))
  (sRet (mC (.bl false)))
  sNil))))
  (sSeq (sSet 7 (mCall M_runs_of (mCons (mV 0) mNil)))
  (sRet (mAndV (m1 (fIsi ["tuple"]) (mV 7)) (mAndV (m2 fEq (mV 7) (m2 fIx (mV 0) (mC (.int 1)))) (mAndV (mCall M__law_int (mCons (mCall M_length_of (mCons (mV 0) mNil)) mNil)) (m2 fEq (mCall M_length_of (mCons (mV 0) mNil)) (mV 1))))))))
def M__law_looks : MFn := mFn 4 8 B__law_looks
theorem sc__law_looks : FnScope N__law_looks ["a", "length", "changed", "place"] (defScope s__law_looks) := ⟨rfl, rfl, rfl, by decide +kernel, rfl, by decide +kernel, by decide +kernel⟩
theorem b__law_looks (T : Txt P w K mg base) : BodyOk P w K mg base 5 N__law_looks "_law_looks" (defScope s__law_looks) (defBody s__law_looks) B__law_looks := by
  intro f cdv A outer s H E hr tk po
  have nd := sc__law_looks.nd
  exact (bm_cons (sm_for po rfl (im_seq (em_lst (am_cons (em_bin op_fSub (em_v 3) em_int) (am_cons (em_v 3) (am_cons (em_bin op_fAdd (em_v 3) em_int) (am_cons (em_bin op_fSub em_int em_int) (am_cons (em_v 1) am_nil))))))) (gm_n 4 nd)
  (bm_cons (sm_set 5 nd (em_bm PySem.F.plainAttrs_dict PySem.F.slot_dict_get PySem.F.type_dict_get (mt_fGet (uRoom hr)) (em_v 2) (am_cons (em_v 4) (am_cons em_int am_nil))))
  (bm_cons (sm_set 6 nd (em_call (c_cell_of T) hr tk (am_cons (em_v 0) (am_cons (em_v 4) am_nil))))
  (bm_one (sm_if (WM.tm (wm_or (tm_not (tm_val (em_call (c__law_int T) hr tk (am_cons (em_v 6) am_nil)))) (wm_or1 (tm_cmp (op_fNe (uRoom hr)) (em_v 6) (em_v 5)))))
  (bm_one (sm_ret em_bl))
  bm_nil)))))
  (bm_cons (sm_set 7 nd (em_call (c_runs_of T) hr tk (am_cons (em_v 0) am_nil)))
  (bm_one (sm_ret (em_and (em_isi (em_v 7) (hm := T.n_isinstance) (hmT := T.n_tuple) (hvT := PyProof.Rows.Boot.«tuple»)) (em_and (em_cmp (op_fEq (uRoom hr)) (em_v 7) (em_ix ix_fIx (em_v 0) em_int)) (em_and (em_call (c__law_int T) hr tk (am_cons (em_call (c_length_of T) hr tk (am_cons (em_v 0) am_nil)) am_nil)) (em_one (em_cmp (op_fEq (uRoom hr)) (em_call (c_length_of T) hr tk (am_cons (em_v 0) am_nil)) (em_v 1))))))))))
theorem c__law_looks (T : Txt P w K mg base) : Cal P w K mg base 6 "_law_looks" M__law_looks := cal1 T.d__law_looks sc__law_looks (fun _ _ _ _ _ _ us hl => match us, hl with | [_, _, _, _], _ => rfl) (b__law_looks T)
abbrev N_cells_of : List Str := ["a", "told", "at", "pair", "end"]
def B_cells_of : MS :=
  (sSeq (sExpr (mCall M_check_array (mCons (mV 0) (mCons (mC (.int 0)) mNil))))
  (sSeq (sIf (mB (m2 fGt (m2 fIx (mV 0) (mC (.int 0))) (mC d_MOST_CELLS)))
  (sRaise "BadArguments" 1 (fl_BadArguments D .non) (mCons (mC (.int 0)) mNil))
  sNil)
  (sSeq (sSet 1 (mLst mNil))
  (sSeq (sFor (iEnumA (mCons (m2 fIx (mV 0) (mC (.int 1))) mNil)) (gT 2 (gsCons (gN 2) (gsCons (gN 3) gsNil)))
  (sSeq (sSet 4 (mIf (mB (m2 fLt (m2 fAdd (mV 2) (mC (.int 1))) (mB1 (f1L fLen) (mCons (m2 fIx (mV 0) (mC (.int 1))) mNil)))) (m2 fIx (m2 fIx (m2 fIx (mV 0) (mC (.int 1))) (m2 fAdd (mV 2) (mC (.int 1)))) (mC (.int 0))) (m2 fIx (mV 0) (mC (.int 0)))))
  (sExpr (mM "list" fExtend (mV 1) (mCons (m2 fMulA (mLst (mCons (m2 fIx (mV 3) (mC (.int 1))) mNil)) (m2 fSub (mV 4) (m2 fIx (mV 3) (mC (.int 0))))) mNil)))))
  (sRet (mB1 (f1L fTuple) (mCons (mV 1) mNil)))))))
def M_cells_of : MFn := mFn 1 5 B_cells_of
theorem sc_cells_of : FnScope N_cells_of ["a"] (defScope s_cells_of) := ⟨rfl, rfl, rfl, by decide +kernel, rfl, by decide +kernel, by decide +kernel⟩
theorem b_cells_of (T : Txt P w K mg base) : BodyOk P w K mg base 4 N_cells_of "cells_of" (defScope s_cells_of) (defBody s_cells_of) B_cells_of := by
  intro f cdv A outer s H E hr tk po
  have nd := sc_cells_of.nd
  exact (bm_cons (sm_expr (em_call (c_check_array T) hr tk (am_cons (em_v 0) (am_cons em_int am_nil))))
  (bm_cons (sm_if (tm_cmp op_fGt (em_ix ix_fIx (em_v 0) em_int) (em_gc T.c_MOST_CELLS))
  (bm_one (sm_raise T.x_BadArguments flds1 (by decide) hr tk rfl (am_cons em_int am_nil)))
  bm_nil)
  (bm_cons (sm_set 1 nd (em_lst am_nil))
  (bm_cons (sm_for po rfl (im_enumA T.n_enumerate (em_ix ix_fIx (em_v 0) em_int)) (gm_tup rfl (gms_cons (gm_n 2 nd) (gms_cons (gm_n 3 nd) gms_nil)))
  (bm_cons (sm_set 4 nd (em_if (tm_cmp op_fLt (em_bin op_fAdd (em_v 2) em_int) (em_callB call_fLen rfl T.n_len PyProof.Rows.Boot.«len» (am_cons (em_ix ix_fIx (em_v 0) em_int) am_nil))) (em_ix ix_fIx (em_ix ix_fIx (em_ix ix_fIx (em_v 0) em_int) (em_bin op_fAdd (em_v 2) em_int)) em_int) (em_ix ix_fIx (em_v 0) em_int)))
  (bm_one (sm_expr (em_bm PySem.F.plainAttrs_list PySem.F.slot_list_extend PySem.F.type_list_extend mt_fExtend (em_v 1) (am_cons (em_bin op_fMulA (em_lst (am_cons (em_ix ix_fIx (em_v 3) em_int) am_nil)) (em_bin op_fSub (em_v 4) (em_ix ix_fIx (em_v 3) em_int))) am_nil))))))
  (bm_one (sm_ret (em_callT call_fTuple rfl T.n_tuple PyProof.Rows.Boot.«tuple» (am_cons (em_v 1) am_nil))))))))
theorem c_cells_of (T : Txt P w K mg base) : Cal P w K mg base 5 "cells_of" M_cells_of := cal1 T.d_cells_of sc_cells_of (fun _ _ _ _ _ _ us hl => match us, hl with | [_], _ => rfl) (b_cells_of T)
abbrev N_same_arrays : List Str := ["a", "b"]
def B_same_arrays : MS :=
  (sSeq (sExpr (mCall M_check_array (mCons (mV 0) (mCons (mC (.int 0)) mNil))))
  (sSeq (sExpr (mCall M_check_array (mCons (mV 1) (mCons (mC (.int 1)) mNil))))
  (sRet (m2 fEq (mV 0) (mV 1)))))
def M_same_arrays : MFn := mFn 2 2 B_same_arrays
theorem sc_same_arrays : FnScope N_same_arrays ["a", "b"] (defScope s_same_arrays) := ⟨rfl, rfl, rfl, by decide +kernel, rfl, by decide +kernel, by decide +kernel⟩
theorem b_same_arrays (T : Txt P w K mg base) : BodyOk P w K mg base 4 N_same_arrays "same_arrays" (defScope s_same_arrays) (defBody s_same_arrays) B_same_arrays := by
  intro f cdv A outer s H E hr tk po
  have nd := sc_same_arrays.nd
  exact (bm_cons (sm_expr (em_call (c_check_array T) hr tk (am_cons (em_v 0) (am_cons em_int am_nil))))
  (bm_cons (sm_expr (em_call (c_check_array T) hr tk (am_cons (em_v 1) (am_cons em_int am_nil))))
  (bm_one (sm_ret (em_cmp (op_fEq (uRoom hr)) (em_v 0) (em_v 1))))))
theorem c_same_arrays (T : Txt P w K mg base) : Cal P w K mg base 5 "same_arrays" M_same_arrays := cal1 T.d_same_arrays sc_same_arrays (fun _ _ _ _ _ _ us hl => match us, hl with | [_, _], _ => rfl) (b_same_arrays T)
abbrev N__law_small : List Str := ["pool", "cells", "handed", "a", "turn", "place", "value", "elder", "changed", "at", "told", "same", "longer", "cell"]
def B__law_small : MS :=
  (sSeq (sSet 1 (mLc (iRng (mCons (mCall M__law_pick (mCons (mV 0) (mCons (mC (.int 15)) mNil))) mNil)) (gN 4) tAll (mCall M__law_value (mCons (mV 0) mNil)) [4]))
  (sSeq (sIf (mB (m2 fEq (mCall M__law_pick (mCons (mV 0) (mCons (mC (.int 3)) mNil))) (mC (.int 1))))
  (sSet 1 (mLc (iSeq (mV 1)) (gN 13) tAll (mCall M__law_pick (mCons (mV 0) (mCons (mC (.int 2)) mNil))) [13]))
  sNil)
  (sSeq (sSet 2 (mB1 (f1L fList2) (mCons (mV 1) mNil)))
  (sSeq (sSet 3 (mCall M_array_of (mCons (mV 2) mNil)))
  (sSeq (sExpr (mM "list" fAppend (mV 2) (mCons (mC (.int 7)) mNil)))
  (sSeq (sIf (mOrT (mNotT (mB (mCall M__law_is_array (mCons (mV 3) (mCons (mCall M__law_runs (mCons (mV 1) mNil)) mNil))))) (mNotT (mB (mCall M__law_is_array (mCons (mCall M_array_of (mCons (mB1 (f1L fTuple) (mCons (mV 1) mNil)) mNil)) (mCons (mV 3) mNil))))))
  (sRet (mC (.bl false)))
  sNil)
  (sSeq (sFor (iRng (mCons (m2 fAdd (mC (.int 1)) (mCall M__law_pick (mCons (mV 0) (mCons (mC (.int 12)) mNil)))) mNil)) (gN 4)
  (sSeq (sSet 5 (m2 fSub (mCall M__law_pick (mCons (mV 0) (mCons (m2 fAdd (mB1 (f1L fLen) (mCons (mV 1) mNil)) (mC (.int 4))) mNil))) (mC (.int 2))))
  (sSeq (sSet 6 (mCall M__law_value (mCons (mV 0) mNil)))
  (sSeq (sIf (mAndT (mB (m2 fEq (mCall M__law_pick (mCons (mV 0) (mCons (mC (.int 3)) mNil))) (mC (.int 1)))) (mB (m2 fGt (mB1 (f1L fLen) (mCons (mV 1) mNil)) (mC (.int 0)))))
  (sSet 6 (m2 fIx (mV 1) (mCall M__law_pick (mCons (mV 0) (mCons (mB1 (f1L fLen) (mCons (mV 1) mNil)) mNil)))))
  sNil)
  (sSeq (sSet 7 (mV 3))
  (sSeq (sSet 3 (mCall M_put_cell (mCons (mV 7) (mCons (mV 5) (mCons (mV 6) mNil)))))
  (sSeq (sIf (mAndT (mB (m2 fGe (mV 5) (mC (.int 0)))) (mB (m2 fLt (mV 5) (mB1 (f1L fLen) (mCons (mV 1) mNil)))))
  (sPut (mV 1) (mV 5) (mV 6))
  sNil)
  (sSeq (sIf (mNotT (mB (mCall M__law_is_array (mCons (mV 3) (mCons (mCall M__law_runs (mCons (mV 1) mNil)) mNil)))))
  (sRet (mC (.bl false)))
  sNil)
  (sSeq (sSet 8 mDNew)
  (sSeq (sFor (iRng (mCons (mB1 (f1L fLen) (mCons (mV 1) mNil)) mNil)) (gN 9)
  (sDPut (mV 8) (mV 9) (m2 fIx (mV 1) (mV 9))))
  (sSeq (sIf (mNotT (mB (mCall M__law_looks (mCons (mV 3) (mCons (mB1 (f1L fLen) (mCons (mV 1) mNil)) (mCons (mV 8) (mCons (mV 5) mNil)))))))
  (sRet (mC (.bl false)))
  sNil)
  (sSeq (sSet 10 (mCall M_cells_of (mCons (mV 3) mNil)))
  (sSeq (sIf (mOrT (mNotT (mB (m1 (fIsi ["tuple"]) (mV 10)))) (mOrT (mNotT (mB (mB1 (f1L fAll) (mCons (mLc (iSeq (mV 10)) (gN 13) tAll (mCall M__law_int (mCons (mV 13) mNil)) [13]) mNil)))) (mB (m2 fNe (mV 10) (mB1 (f1L fTuple) (mCons (mV 1) mNil))))))
  (sRet (mC (.bl false)))
  sNil)
  (sSeq (sSet 11 (mCall M_same_arrays (mCons (mV 3) (mCons (mV 7) mNil))))
  (sIf (mOrT (mAndT (mB (m2 fIsN (mV 11) (mC (.bl true)))) (mB (m2 fIsN (mV 11) (mC (.bl false))))) (mB (m2 fNe (mV 11) (m2 fEq (mV 3) (mV 7)))))
  (sRet (mC (.bl false)))
  sNil)))))))))))))))
  (sSeq (sSet 12 (mCall M_same_arrays (mCons (mV 3) (mCons (mCall M_array_of (mCons (m2 fAdd (mB1 (f1L fList2) (mCons (mV 1) mNil)) (mSl (mV 1) (mPart (m2 fSub (mB1 (f1L fLen) (mCons (mV 1) mNil)) (mC (.int 1)))) mNoPart)) mNil)) mNil))))
  (sSeq (sIf (mOrT (mAndT (mB (m2 fIsN (mV 12) (mC (.bl true)))) (mB (m2 fIsN (mV 12) (mC (.bl false))))) (mB (m2 fNe (mV 12) (m2 fEq (mB1 (f1L fLen) (mCons (mV 1) mNil)) (mC (.int 0))))))
  (sRet (mC (.bl false)))
  sNil)
  (sRet (m2 fIs (mCall M_same_arrays (mCons (mV 3) (mCons (mCall M_array_of (mCons (mV 1) mNil)) mNil))) (mC (.bl true)))))))))))))
def M__law_small : MFn := mFn 1 14 B__law_small
theorem sc__law_small : FnScope N__law_small ["pool"] (defScope s__law_small) := ⟨rfl, rfl, rfl, by decide +kernel, rfl, by decide +kernel, by decide +kernel⟩
theorem b__law_small (T : Txt P w K mg base) : BodyOk P w K mg base 6 N__law_small "_law_small" (defScope s__law_small) (defBody s__law_small) B__law_small := by
  intro f cdv A outer s H E hr tk po
  have nd := sc__law_small.nd
  exact (bm_cons (sm_setLc 1 [4] rfl nd (im_rng1 T.n_range (em_call (c__law_pick T) hr tk (am_cons (em_v 0) (am_cons em_int am_nil)))) (blkOk_by (N := N__law_small) (sc := defScope s__law_small) (own := [("turn", 4)]) (by decide +kernel)) (fun _ _ _ _ _ => (gc_n 4 nd)) (fun _ _ _ _ _ => tms_nil) (fun _ _ _ _ _ => (em_call (c__law_value T) hr takes0 (am_cons (em_v 0) am_nil))))
  (bm_cons (sm_if (tm_cmp (op_fEq (uRoom hr)) (em_call (c__law_pick T) hr tk (am_cons (em_v 0) (am_cons em_int am_nil))) em_int)
  (bm_one (sm_setLc 1 [13] rfl nd (im_seq (em_v 1)) (blkOk_by (N := N__law_small) (sc := defScope s__law_small) (own := [("cell", 13)]) (by decide +kernel)) (fun _ _ _ _ _ => (gc_n 13 nd)) (fun _ _ _ _ _ => tms_nil) (fun _ _ _ _ _ => (em_call (c__law_pick T) hr takes0 (am_cons (em_v 0) (am_cons em_int am_nil))))))
  bm_nil)
  (bm_cons (sm_set 2 nd (em_callT (call_fList2 rfl) rfl T.n_list PyProof.Rows.Boot.«list» (am_cons (em_v 1) am_nil)))
  (bm_cons (sm_set 3 nd (em_call (c_array_of T) hr tk (am_cons (em_v 2) am_nil)))
  (bm_cons (sm_expr (em_bm PySem.F.plainAttrs_list PySem.F.slot_list_append PySem.F.type_list_append mt_fAppend (em_v 2) (am_cons em_int am_nil)))
  (bm_cons (sm_if (WM.tm (wm_or (tm_not (tm_val (em_call (c__law_is_array T) hr tk (am_cons (em_v 3) (am_cons (em_call (c__law_runs T) hr tk (am_cons (em_v 1) am_nil)) am_nil))))) (wm_or1 (tm_not (tm_val (em_call (c__law_is_array T) hr tk (am_cons (em_call (c_array_of T) hr tk (am_cons (em_callT call_fTuple rfl T.n_tuple PyProof.Rows.Boot.«tuple» (am_cons (em_v 1) am_nil)) am_nil)) (am_cons (em_v 3) am_nil))))))))
  (bm_one (sm_ret em_bl))
  bm_nil)
  (bm_cons (sm_for po rfl (im_rng1 T.n_range (em_bin op_fAdd em_int (em_call (c__law_pick T) hr tk (am_cons (em_v 0) (am_cons em_int am_nil))))) (gm_n 4 nd)
  (bm_cons (sm_set 5 nd (em_bin op_fSub (em_call (c__law_pick T) hr tk (am_cons (em_v 0) (am_cons (em_bin op_fAdd (em_callB call_fLen rfl T.n_len PyProof.Rows.Boot.«len» (am_cons (em_v 1) am_nil)) em_int) am_nil))) em_int))
  (bm_cons (sm_set 6 nd (em_call (c__law_value T) hr tk (am_cons (em_v 0) am_nil)))
  (bm_cons (sm_if (WM.tm (wm_and (tm_cmp (op_fEq (uRoom hr)) (em_call (c__law_pick T) hr tk (am_cons (em_v 0) (am_cons em_int am_nil))) em_int) (wm_and1 (tm_cmp op_fGt (em_callB call_fLen rfl T.n_len PyProof.Rows.Boot.«len» (am_cons (em_v 1) am_nil)) em_int))))
  (bm_one (sm_set 6 nd (em_ix ix_fIx (em_v 1) (em_call (c__law_pick T) hr tk (am_cons (em_v 0) (am_cons (em_callB call_fLen rfl T.n_len PyProof.Rows.Boot.«len» (am_cons (em_v 1) am_nil)) am_nil))))))
  bm_nil)
  (bm_cons (sm_set 7 nd (em_v 3))
  (bm_cons (sm_set 3 nd (em_call (c_put_cell T) hr tk (am_cons (em_v 7) (am_cons (em_v 5) (am_cons (em_v 6) am_nil)))))
  (bm_cons (sm_if (WM.tm (wm_and (tm_cmp op_fGe (em_v 5) em_int) (wm_and1 (tm_cmp op_fLt (em_v 5) (em_callB call_fLen rfl T.n_len PyProof.Rows.Boot.«len» (am_cons (em_v 1) am_nil))))))
  (bm_one (sm_put (em_v 1) (em_v 5) (em_v 6)))
  bm_nil)
  (bm_cons (sm_if (tm_not (tm_val (em_call (c__law_is_array T) hr tk (am_cons (em_v 3) (am_cons (em_call (c__law_runs T) hr tk (am_cons (em_v 1) am_nil)) am_nil)))))
  (bm_one (sm_ret em_bl))
  bm_nil)
  (bm_cons (sm_set 8 nd em_dnew)
  (bm_cons (sm_for po rfl (im_rng1 T.n_range (em_callB call_fLen rfl T.n_len PyProof.Rows.Boot.«len» (am_cons (em_v 1) am_nil))) (gm_n 9 nd)
  (bm_one (sm_dput (uRoom hr) (em_v 8) (em_v 9) (em_ix ix_fIx (em_v 1) (em_v 9)))))
  (bm_cons (sm_if (tm_not (tm_val (em_call (c__law_looks T) hr tk (am_cons (em_v 3) (am_cons (em_callB call_fLen rfl T.n_len PyProof.Rows.Boot.«len» (am_cons (em_v 1) am_nil)) (am_cons (em_v 8) (am_cons (em_v 5) am_nil)))))))
  (bm_one (sm_ret em_bl))
  bm_nil)
  (bm_cons (sm_set 10 nd (em_call (c_cells_of T) hr tk (am_cons (em_v 3) am_nil)))
  (bm_cons (sm_if (WM.tm (wm_or (tm_not (tm_val (em_isi (em_v 10) (hm := T.n_isinstance) (hmT := T.n_tuple) (hvT := PyProof.Rows.Boot.«tuple»)))) (wm_or (tm_not (tm_val (em_callB (call_fAll rfl) rfl T.n_all PyProof.Rows.Boot.«all» (am_cons (em_lc [13] rfl nd (im_seq (em_v 10)) (blkOk_by (N := N__law_small) (sc := defScope s__law_small) (own := [("cell", 13)]) (by decide +kernel)) (fun _ _ _ _ _ => (gc_n 13 nd)) (fun _ _ _ _ _ => tms_nil) (fun _ _ _ _ _ => (em_call (c__law_int T) hr takes0 (am_cons (em_v 13) am_nil)))) am_nil)))) (wm_or1 (tm_cmp (op_fNe (uRoom hr)) (em_v 10) (em_callT call_fTuple rfl T.n_tuple PyProof.Rows.Boot.«tuple» (am_cons (em_v 1) am_nil)))))))
  (bm_one (sm_ret em_bl))
  bm_nil)
  (bm_cons (sm_set 11 nd (em_call (c_same_arrays T) hr tk (am_cons (em_v 3) (am_cons (em_v 7) am_nil))))
  (bm_one (sm_if (WM.tm (wm_or (WM.tm (wm_and (tm_cmp op_fIsN (em_v 11) em_bl) (wm_and1 (tm_cmp op_fIsN (em_v 11) em_bl)))) (wm_or1 (tm_cmp (op_fNe (uRoom hr)) (em_v 11) (em_cmp (op_fEq (uRoom hr)) (em_v 3) (em_v 7))))))
  (bm_one (sm_ret em_bl))
  bm_nil))))))))))))))))
  (bm_cons (sm_set 12 nd (em_call (c_same_arrays T) hr tk (am_cons (em_v 3) (am_cons (em_call (c_array_of T) hr tk (am_cons (em_bin op_fAdd (em_callT (call_fList2 rfl) rfl T.n_list PyProof.Rows.Boot.«list» (am_cons (em_v 1) am_nil)) (em_sl (em_v 1) (om_some (em_bin op_fSub (em_callB call_fLen rfl T.n_len PyProof.Rows.Boot.«len» (am_cons (em_v 1) am_nil)) em_int)) om_none)) am_nil)) am_nil))))
  (bm_cons (sm_if (WM.tm (wm_or (WM.tm (wm_and (tm_cmp op_fIsN (em_v 12) em_bl) (wm_and1 (tm_cmp op_fIsN (em_v 12) em_bl)))) (wm_or1 (tm_cmp (op_fNe (uRoom hr)) (em_v 12) (em_cmp (op_fEq (uRoom hr)) (em_callB call_fLen rfl T.n_len PyProof.Rows.Boot.«len» (am_cons (em_v 1) am_nil)) em_int)))))
  (bm_one (sm_ret em_bl))
  bm_nil)
  (bm_one (sm_ret (em_cmp op_fIs (em_call (c_same_arrays T) hr tk (am_cons (em_v 3) (am_cons (em_call (c_array_of T) hr tk (am_cons (em_v 1) am_nil)) am_nil))) em_bl))))))))))))
theorem c__law_small (T : Txt P w K mg base) : Cal P w K mg base 7 "_law_small" M__law_small := cal1 T.d__law_small sc__law_small (fun _ _ _ _ _ _ us hl => match us, hl with | [_], _ => rfl) (b__law_small T)
abbrev N__law_length : List Str := ["pool", "word"]
def B__law_length : MS :=
  (sSeq (sSet 1 (mCall M__law_pick (mCons (mV 0) (mCons (mC (.int 4)) mNil))))
  (sSeq (sIf (mB (m2 fEq (mV 1) (mC (.int 0))))
  (sRet (m2 fAdd (m2 fPow (mC (.int 10)) (mC (.int 12))) (mCall M__law_pick (mCons (mV 0) (mCons (mC (.int 9)) mNil)))))
  sNil)
  (sSeq (sIf (mB (m2 fEq (mV 1) (mC (.int 1))))
  (sRet (m2 fPow (mC (.int 10)) (mC (.int 30))))
  sNil)
  (sRet (m2 fAdd (m2 fPow (mC (.int 10)) (mC (.int 20))) (mCall M__law_pick (mCons (mV 0) (mCons (mC (.int 1000)) mNil))))))))
def M__law_length : MFn := mFn 1 2 B__law_length
theorem sc__law_length : FnScope N__law_length ["pool"] (defScope s__law_length) := ⟨rfl, rfl, rfl, by decide +kernel, rfl, by decide +kernel, by decide +kernel⟩
theorem b__law_length (T : Txt P w K mg base) : BodyOk P w K mg base 1 N__law_length "_law_length" (defScope s__law_length) (defBody s__law_length) B__law_length := by
  intro f cdv A outer s H E hr tk po
  have nd := sc__law_length.nd
  exact (bm_cons (sm_set 1 nd (em_call (c__law_pick T) hr tk (am_cons (em_v 0) (am_cons em_int am_nil))))
  (bm_cons (sm_if (tm_cmp (op_fEq (uRoom hr)) (em_v 1) em_int)
  (bm_one (sm_ret (em_bin op_fAdd (em_bin op_fPow em_int em_int) (em_call (c__law_pick T) hr tk (am_cons (em_v 0) (am_cons em_int am_nil))))))
  bm_nil)
  (bm_cons (sm_if (tm_cmp (op_fEq (uRoom hr)) (em_v 1) em_int)
  (bm_one (sm_ret (em_bin op_fPow em_int em_int)))
  bm_nil)
  (bm_one (sm_ret (em_bin op_fAdd (em_bin op_fPow em_int em_int) (em_call (c__law_pick T) hr tk (am_cons (em_v 0) (am_cons em_int am_nil)))))))))
theorem c__law_length (T : Txt P w K mg base) : Cal P w K mg base 2 "_law_length" M__law_length := cal1 T.d__law_length sc__law_length (fun _ _ _ _ _ _ us hl => match us, hl with | [_], _ => rfl) (b__law_length T)
abbrev N_fresh_array : List Str := ["length"]
def B_fresh_array : MS :=
  (sSeq (sIf (mOrT (mNotT (mB (mCall M_is_whole (mCons (mV 0) mNil)))) (mB (m2 fLt (mV 0) (mC (.int 0)))))
  (sRaise "BadArguments" 1 (fl_BadArguments D .non) (mCons (mC (.int 0)) mNil))
  sNil)
  (sRet (mCall M_joined_runs (mCons (mV 0) (mCons (mLst (mCons (mTup (mCons (mC (.int 0)) (mCons (mC (.int 0)) mNil))) mNil)) mNil)))))
def M_fresh_array : MFn := mFn 1 1 B_fresh_array
theorem sc_fresh_array : FnScope N_fresh_array ["length"] (defScope s_fresh_array) := ⟨rfl, rfl, rfl, by decide +kernel, rfl, by decide +kernel, by decide +kernel⟩
theorem b_fresh_array (T : Txt P w K mg base) : BodyOk P w K mg base 2 N_fresh_array "fresh_array" (defScope s_fresh_array) (defBody s_fresh_array) B_fresh_array := by
  intro f cdv A outer s H E hr tk po
  have nd := sc_fresh_array.nd
  exact (bm_cons (sm_if (WM.tm (wm_or (tm_not (tm_val (em_call (c_is_whole T) hr tk (am_cons (em_v 0) am_nil)))) (wm_or1 (tm_cmp op_fLt (em_v 0) em_int))))
  (bm_one (sm_raise T.x_BadArguments flds1 (by decide) hr tk rfl (am_cons em_int am_nil)))
  bm_nil)
  (bm_one (sm_ret (em_call (c_joined_runs T) hr tk (am_cons (em_v 0) (am_cons (em_lst (am_cons (em_tup (am_cons em_int (am_cons em_int am_nil))) am_nil)) am_nil))))))
theorem c_fresh_array (T : Txt P w K mg base) : Cal P w K mg base 3 "fresh_array" M_fresh_array := cal1 T.d_fresh_array sc_fresh_array (fun _ _ _ _ _ _ us hl => match us, hl with | [_], _ => rfl) (b_fresh_array T)
abbrev N__law_wide_runs : List Str := ["length", "changed", "marks", "place", "rows", "mark", "value"]
def B__law_wide_runs : MS :=
  (sSeq (sSet 2 (mLst (mCons (mC (.int 0)) mNil)))
  (sSeq (sForD 1 (gN 3)
  (sSeq (sExpr (mM "list" fAppend (mV 2) (mCons (mV 3) mNil)))
  (sExpr (mM "list" fAppend (mV 2) (mCons (m2 fAdd (mV 3) (mC (.int 1))) mNil)))))
  (sSeq (sSet 4 (mLst mNil))
  (sSeq (sFor (iSeq (mB1 (f1L fSorted) (mCons (mV 2) mNil))) (gN 5)
  (sSeq (sSet 6 (mM "dict" fGet (mV 1) (mCons (mV 5) (mCons (mC (.int 0)) mNil))))
  (sIf (mAndT (mB (m2 fLt (mV 5) (mV 0))) (mOrT (mB (m2 fEq (mB1 (f1L fLen) (mCons (mV 4) mNil)) (mC (.int 0)))) (mB (m2 fNe (m2 fIx (m2 fIx (mV 4) (m2 fSub (mB1 (f1L fLen) (mCons (mV 4) mNil)) (mC (.int 1)))) (mC (.int 1))) (mV 6)))))
  (sExpr (mM "list" fAppend (mV 4) (mCons (mTup (mCons (mV 5) (mCons (mV 6) mNil))) mNil)))
  sNil)))
  (sRet (mTup (mCons (mV 0) (mCons (mB1 (f1L fTuple) (mCons (mV 4) mNil)) mNil))))))))
def M__law_wide_runs : MFn := mFn 2 7 B__law_wide_runs
theorem sc__law_wide_runs : FnScope N__law_wide_runs ["length", "changed"] (defScope s__law_wide_runs) := ⟨rfl, rfl, rfl, by decide +kernel, rfl, by decide +kernel, by decide +kernel⟩
theorem b__law_wide_runs (T : Txt P w K mg base) : BodyOk P w K mg base 0 N__law_wide_runs "_law_wide_runs" (defScope s__law_wide_runs) (defBody s__law_wide_runs) B__law_wide_runs := by
  intro f cdv A outer s H E hr tk po
  have nd := sc__law_wide_runs.nd
  exact (bm_cons (sm_set 2 nd (em_lst (am_cons em_int am_nil)))
  (bm_cons (sm_forD 1 po rfl (em_v 1) (gm_n 3 nd)
  (bm_cons (sm_expr (em_bm PySem.F.plainAttrs_list PySem.F.slot_list_append PySem.F.type_list_append mt_fAppend (em_v 2) (am_cons (em_v 3) am_nil)))
  (bm_one (sm_expr (em_bm PySem.F.plainAttrs_list PySem.F.slot_list_append PySem.F.type_list_append mt_fAppend (em_v 2) (am_cons (em_bin op_fAdd (em_v 3) em_int) am_nil))))))
  (bm_cons (sm_set 4 nd (em_lst am_nil))
  (bm_cons (sm_for po rfl (im_seq (em_callB call_fSorted rfl T.n_sorted PyProof.Rows.Boot.«sorted» (am_cons (em_v 2) am_nil))) (gm_n 5 nd)
  (bm_cons (sm_set 6 nd (em_bm PySem.F.plainAttrs_dict PySem.F.slot_dict_get PySem.F.type_dict_get (mt_fGet (uRoom hr)) (em_v 1) (am_cons (em_v 5) (am_cons em_int am_nil))))
  (bm_one (sm_if (WM.tm (wm_and (tm_cmp op_fLt (em_v 5) (em_v 0)) (wm_and1 (WM.tm (wm_or (tm_cmp (op_fEq (uRoom hr)) (em_callB call_fLen rfl T.n_len PyProof.Rows.Boot.«len» (am_cons (em_v 4) am_nil)) em_int) (wm_or1 (tm_cmp (op_fNe (uRoom hr)) (em_ix ix_fIx (em_ix ix_fIx (em_v 4) (em_bin op_fSub (em_callB call_fLen rfl T.n_len PyProof.Rows.Boot.«len» (am_cons (em_v 4) am_nil)) em_int)) em_int) (em_v 6))))))))
  (bm_one (sm_expr (em_bm PySem.F.plainAttrs_list PySem.F.slot_list_append PySem.F.type_list_append mt_fAppend (em_v 4) (am_cons (em_tup (am_cons (em_v 5) (am_cons (em_v 6) am_nil))) am_nil))))
  bm_nil))))
  (bm_one (sm_ret (em_tup (am_cons (em_v 0) (am_cons (em_callT call_fTuple rfl T.n_tuple PyProof.Rows.Boot.«tuple» (am_cons (em_v 4) am_nil)) am_nil)))))))))
theorem c__law_wide_runs (T : Txt P w K mg base) : Cal P w K mg base 1 "_law_wide_runs" M__law_wide_runs := cal1 T.d__law_wide_runs sc__law_wide_runs (fun _ _ _ _ _ _ us hl => match us, hl with | [_, _], _ => rfl) (b__law_wide_runs T)
abbrev N__law_wide : List Str := ["pool", "length", "a", "changed", "turn", "word", "place", "value", "other"]
def B__law_wide : MS :=
  (sSeq (sSet 1 (mCall M__law_length (mCons (mV 0) mNil)))
  (sSeq (sSet 2 (mCall M_fresh_array (mCons (mV 1) mNil)))
  (sSeq (sSet 3 mDNew)
  (sSeq (sIf (mNotT (mB (mCall M__law_is_array (mCons (mV 2) (mCons (mTup (mCons (mV 1) (mCons (mTup (mCons (mTup (mCons (mC (.int 0)) (mCons (mC (.int 0)) mNil))) mNil)) mNil))) mNil)))))
  (sRet (mC (.bl false)))
  sNil)
  (sSeq (sFor (iRng (mCons (m2 fAdd (mC (.int 1)) (mCall M__law_pick (mCons (mV 0) (mCons (mC (.int 10)) mNil)))) mNil)) (gN 4)
  (sSeq (sSet 5 (mCall M__law_pick (mCons (mV 0) (mCons (mC (.int 5)) mNil))))
  (sSeq (sSet 6 (mCall M__law_pick (mCons (mV 0) (mCons (mC (.int 6)) mNil))))
  (sSeq (sIf (mB (m2 fEq (mV 5) (mC (.int 1))))
  (sSet 6 (m2 fSub (m2 fSub (mV 1) (mC (.int 1))) (mV 6)))
  sNil)
  (sSeq (sIf (mB (m2 fEq (mV 5) (mC (.int 2))))
  (sSet 6 (m2 fAdd (m2 fDiv (mV 1) (mC (.int 2))) (mV 6)))
  sNil)
  (sSeq (sIf (mB (m2 fEq (mV 5) (mC (.int 3))))
  (sSet 6 (m2 fAdd (mV 1) (mV 6)))
  sNil)
  (sSeq (sSet 7 (mCall M__law_value (mCons (mV 0) mNil)))
  (sSeq (sSet 2 (mCall M_put_cell (mCons (mV 2) (mCons (mV 6) (mCons (mV 7) mNil)))))
  (sSeq (sIf (mB (m2 fLt (mV 6) (mV 1)))
  (sDPut (mV 3) (mV 6) (mV 7))
  sNil)
  (sIf (mOrT (mNotT (mB (mCall M__law_is_array (mCons (mV 2) (mCons (mCall M__law_wide_runs (mCons (mV 1) (mCons (mV 3) mNil))) mNil))))) (mNotT (mB (mCall M__law_looks (mCons (mV 2) (mCons (mV 1) (mCons (mV 3) (mCons (mV 6) mNil))))))))
  (sRet (mC (.bl false)))
  sNil))))))))))
  (sSeq (sSet 8 (mTup (mCons (m2 fAdd (mV 1) (mC (.int 1))) (mCons (m2 fIx (mV 2) (mC (.int 1))) mNil))))
  (sRet (mAndV (m2 fIs (mCall M_same_arrays (mCons (mV 2) (mCons (mTup (mCons (m2 fIx (mV 2) (mC (.int 0))) (mCons (mB1 (f1L fTuple) (mCons (mB1 (f1L fList2) (mCons (m2 fIx (mV 2) (mC (.int 1))) mNil)) mNil)) mNil))) mNil))) (mC (.bl true))) (m2 fIs (mCall M_same_arrays (mCons (mV 2) (mCons (mV 8) mNil))) (mC (.bl false)))))))))))
def M__law_wide : MFn := mFn 1 9 B__law_wide
theorem sc__law_wide : FnScope N__law_wide ["pool"] (defScope s__law_wide) := ⟨rfl, rfl, rfl, by decide +kernel, rfl, by decide +kernel, by decide +kernel⟩
theorem b__law_wide (T : Txt P w K mg base) : BodyOk P w K mg base 6 N__law_wide "_law_wide" (defScope s__law_wide) (defBody s__law_wide) B__law_wide := by
  intro f cdv A outer s H E hr tk po
  have nd := sc__law_wide.nd
  exact (bm_cons (sm_set 1 nd (em_call (c__law_length T) hr tk (am_cons (em_v 0) am_nil)))
  (bm_cons (sm_set 2 nd (em_call (c_fresh_array T) hr tk (am_cons (em_v 1) am_nil)))
  (bm_cons (sm_set 3 nd em_dnew)
  (bm_cons (sm_if (tm_not (tm_val (em_call (c__law_is_array T) hr tk (am_cons (em_v 2) (am_cons (em_tup (am_cons (em_v 1) (am_cons (em_tup (am_cons (em_tup (am_cons em_int (am_cons em_int am_nil))) am_nil)) am_nil))) am_nil)))))
  (bm_one (sm_ret em_bl))
  bm_nil)
  (bm_cons (sm_for po rfl (im_rng1 T.n_range (em_bin op_fAdd em_int (em_call (c__law_pick T) hr tk (am_cons (em_v 0) (am_cons em_int am_nil))))) (gm_n 4 nd)
  (bm_cons (sm_set 5 nd (em_call (c__law_pick T) hr tk (am_cons (em_v 0) (am_cons em_int am_nil))))
  (bm_cons (sm_set 6 nd (em_call (c__law_pick T) hr tk (am_cons (em_v 0) (am_cons em_int am_nil))))
  (bm_cons (sm_if (tm_cmp (op_fEq (uRoom hr)) (em_v 5) em_int)
  (bm_one (sm_set 6 nd (em_bin op_fSub (em_bin op_fSub (em_v 1) em_int) (em_v 6))))
  bm_nil)
  (bm_cons (sm_if (tm_cmp (op_fEq (uRoom hr)) (em_v 5) em_int)
  (bm_one (sm_set 6 nd (em_bin op_fAdd (em_bin op_fDiv (em_v 1) em_int) (em_v 6))))
  bm_nil)
  (bm_cons (sm_if (tm_cmp (op_fEq (uRoom hr)) (em_v 5) em_int)
  (bm_one (sm_set 6 nd (em_bin op_fAdd (em_v 1) (em_v 6))))
  bm_nil)
  (bm_cons (sm_set 7 nd (em_call (c__law_value T) hr tk (am_cons (em_v 0) am_nil)))
  (bm_cons (sm_set 2 nd (em_call (c_put_cell T) hr tk (am_cons (em_v 2) (am_cons (em_v 6) (am_cons (em_v 7) am_nil)))))
  (bm_cons (sm_if (tm_cmp op_fLt (em_v 6) (em_v 1))
  (bm_one (sm_dput (uRoom hr) (em_v 3) (em_v 6) (em_v 7)))
  bm_nil)
  (bm_one (sm_if (WM.tm (wm_or (tm_not (tm_val (em_call (c__law_is_array T) hr tk (am_cons (em_v 2) (am_cons (em_call (c__law_wide_runs T) hr tk (am_cons (em_v 1) (am_cons (em_v 3) am_nil))) am_nil))))) (wm_or1 (tm_not (tm_val (em_call (c__law_looks T) hr tk (am_cons (em_v 2) (am_cons (em_v 1) (am_cons (em_v 3) (am_cons (em_v 6) am_nil))))))))))
  (bm_one (sm_ret em_bl))
  bm_nil)))))))))))
  (bm_cons (sm_set 8 nd (em_tup (am_cons (em_bin op_fAdd (em_v 1) em_int) (am_cons (em_ix ix_fIx (em_v 2) em_int) am_nil))))
  (bm_one (sm_ret (em_and (em_cmp op_fIs (em_call (c_same_arrays T) hr tk (am_cons (em_v 2) (am_cons (em_tup (am_cons (em_ix ix_fIx (em_v 2) em_int) (am_cons (em_callT call_fTuple rfl T.n_tuple PyProof.Rows.Boot.«tuple» (am_cons (em_callT (call_fList2 rfl) rfl T.n_list PyProof.Rows.Boot.«list» (am_cons (em_ix ix_fIx (em_v 2) em_int) am_nil)) am_nil)) am_nil))) am_nil))) em_bl) (em_one (em_cmp op_fIs (em_call (c_same_arrays T) hr tk (am_cons (em_v 2) (am_cons (em_v 8) am_nil))) em_bl)))))))))))
theorem c__law_wide (T : Txt P w K mg base) : Cal P w K mg base 7 "_law_wide" M__law_wide := cal1 T.d__law_wide sc__law_wide (fun _ _ _ _ _ _ us hl => match us, hl with | [_], _ => rfl) (b__law_wide T)
abbrev N_from_points : List Str := ["length", "row", "first", "pairs", "at", "pair"]
def B_from_points : MS :=
  (sSeq (sIf (mOrT (mNotT (mB (mCall M_is_whole (mCons (mV 0) mNil)))) (mB (m2 fLt (mV 0) (mC (.int 0)))))
  (sRaise "BadArguments" 1 (fl_BadArguments D .non) (mCons (mC (.int 0)) mNil))
  sNil)
  (sSeq (sIf (mOrT (mNotT (mB (m1 (fIsi ["list", "tuple"]) (mV 1)))) (mNotT (mB (mB1 (f1L fAll) (mCons (mLc (iSeq (mV 1)) (gN 5) tAll (mCall M_is_whole_pair (mCons (mV 5) mNil)) [5]) mNil)))))
  (sRaise "BadArguments" 1 (fl_BadArguments D .non) (mCons (mC (.int 1)) mNil))
  sNil)
  (sSeq (sSet 2 (mC (.int 0)))
  (sSeq (sSet 3 (mLst mNil))
  (sSeq (sFor (iEnumA (mCons (mV 1) mNil)) (gT 2 (gsCons (gN 4) (gsCons (gN 5) gsNil)))
  (sSeq (sIf (mAndT (mB (m2 fGt (mV 4) (mC (.int 0)))) (mB (m2 fGt (m2 fIx (m2 fIx (mV 1) (m2 fSub (mV 4) (mC (.int 1)))) (mC (.int 0))) (m2 fIx (mV 5) (mC (.int 0))))))
  (sRaise "BadArguments" 1 (fl_BadArguments D .non) (mCons (mC (.int 1)) mNil))
  sNil)
  (sIf (mB (m2 fLe (m2 fIx (mV 5) (mC (.int 0))) (mC (.int 0))))
  (sSet 2 (m2 fIx (mV 5) (mC (.int 1))))
  (sIf (mAndT (mB (m2 fGt (mB1 (f1L fLen) (mCons (mV 3) mNil)) (mC (.int 0)))) (mB (m2 fEq (m2 fIx (m2 fIx (mV 3) (m1 fNeg (mC (.int 1)))) (mC (.int 0))) (m2 fIx (mV 5) (mC (.int 0))))))
  (sPut (mV 3) (m1 fNeg (mC (.int 1))) (mTup (mCons (m2 fIx (mV 5) (mC (.int 0))) (mCons (m2 fIx (mV 5) (mC (.int 1))) mNil))))
  (sExpr (mM "list" fAppend (mV 3) (mCons (mTup (mCons (m2 fIx (mV 5) (mC (.int 0))) (mCons (m2 fIx (mV 5) (mC (.int 1))) mNil))) mNil)))))))
  (sRet (mCall M_joined_runs (mCons (mV 0) (mCons (m2 fAdd (mLst (mCons (mTup (mCons (mC (.int 0)) (mCons (mV 2) mNil))) mNil)) (mV 3)) mNil)))))))))
def M_from_points : MFn := mFn 2 6 B_from_points
theorem sc_from_points : FnScope N_from_points ["length", "row"] (defScope s_from_points) := ⟨rfl, rfl, rfl, by decide +kernel, rfl, by decide +kernel, by decide +kernel⟩
theorem b_from_points (T : Txt P w K mg base) : BodyOk P w K mg base 2 N_from_points "from_points" (defScope s_from_points) (defBody s_from_points) B_from_points := by
  intro f cdv A outer s H E hr tk po
  have nd := sc_from_points.nd
  exact (bm_cons (sm_if (WM.tm (wm_or (tm_not (tm_val (em_call (c_is_whole T) hr tk (am_cons (em_v 0) am_nil)))) (wm_or1 (tm_cmp op_fLt (em_v 0) em_int))))
  (bm_one (sm_raise T.x_BadArguments flds1 (by decide) hr tk rfl (am_cons em_int am_nil)))
  bm_nil)
  (bm_cons (sm_if (WM.tm (wm_or (tm_not (tm_val (em_isiT2 (em_v 1) (hm := T.n_isinstance) (hm1 := T.n_list) (hv1 := PyProof.Rows.Boot.«list») (hm2 := T.n_tuple) (hv2 := PyProof.Rows.Boot.«tuple»)))) (wm_or1 (tm_not (tm_val (em_callB (call_fAll rfl) rfl T.n_all PyProof.Rows.Boot.«all» (am_cons (em_lc [5] rfl nd (im_seq (em_v 1)) (blkOk_by (N := N_from_points) (sc := defScope s_from_points) (own := [("pair", 5)]) (by decide +kernel)) (fun _ _ _ _ _ => (gc_n 5 nd)) (fun _ _ _ _ _ => tms_nil) (fun _ _ _ _ _ => (em_call (c_is_whole_pair T) hr takes0 (am_cons (em_v 5) am_nil)))) am_nil)))))))
  (bm_one (sm_raise T.x_BadArguments flds1 (by decide) hr tk rfl (am_cons em_int am_nil)))
  bm_nil)
  (bm_cons (sm_set 2 nd em_int)
  (bm_cons (sm_set 3 nd (em_lst am_nil))
  (bm_cons (sm_for po rfl (im_enumA T.n_enumerate (em_v 1)) (gm_tup rfl (gms_cons (gm_n 4 nd) (gms_cons (gm_n 5 nd) gms_nil)))
  (bm_cons (sm_if (WM.tm (wm_and (tm_cmp op_fGt (em_v 4) em_int) (wm_and1 (tm_cmp op_fGt (em_ix ix_fIx (em_ix ix_fIx (em_v 1) (em_bin op_fSub (em_v 4) em_int)) em_int) (em_ix ix_fIx (em_v 5) em_int)))))
  (bm_one (sm_raise T.x_BadArguments flds1 (by decide) hr tk rfl (am_cons em_int am_nil)))
  bm_nil)
  (bm_one (sm_if (tm_cmp op_fLe (em_ix ix_fIx (em_v 5) em_int) em_int)
  (bm_one (sm_set 2 nd (em_ix ix_fIx (em_v 5) em_int)))
  (bm_one (sm_if (WM.tm (wm_and (tm_cmp op_fGt (em_callB call_fLen rfl T.n_len PyProof.Rows.Boot.«len» (am_cons (em_v 3) am_nil)) em_int) (wm_and1 (tm_cmp (op_fEq (uRoom hr)) (em_ix ix_fIx (em_ix ix_fIx (em_v 3) (em_neg em_int)) em_int) (em_ix ix_fIx (em_v 5) em_int)))))
  (bm_one (sm_put (em_v 3) (em_neg em_int) (em_tup (am_cons (em_ix ix_fIx (em_v 5) em_int) (am_cons (em_ix ix_fIx (em_v 5) em_int) am_nil)))))
  (bm_one (sm_expr (em_bm PySem.F.plainAttrs_list PySem.F.slot_list_append PySem.F.type_list_append mt_fAppend (em_v 3) (am_cons (em_tup (am_cons (em_ix ix_fIx (em_v 5) em_int) (am_cons (em_ix ix_fIx (em_v 5) em_int) am_nil))) am_nil))))))))))
  (bm_one (sm_ret (em_call (c_joined_runs T) hr tk (am_cons (em_v 0) (am_cons (em_bin op_fAdd (em_lst (am_cons (em_tup (am_cons em_int (am_cons (em_v 2) am_nil))) am_nil)) (em_v 3)) am_nil))))))))))
theorem c_from_points (T : Txt P w K mg base) : Cal P w K mg base 3 "from_points" M_from_points := cal1 T.d_from_points sc_from_points (fun _ _ _ _ _ _ us hl => match us, hl with | [_, _], _ => rfl) (b_from_points T)
abbrev N__law_point_runs : List Str := ["length", "row", "marks", "pair", "rows", "mark", "value"]
def B__law_point_runs : MS :=
  (sSeq (sSet 2 (mLst (mCons (mC (.int 0)) mNil)))
  (sSeq (sFor (iSeq (mV 1)) (gN 3)
  (sIf (mB (m2 fGt (m2 fIx (mV 3) (mC (.int 0))) (mC (.int 0))))
  (sExpr (mM "list" fAppend (mV 2) (mCons (m2 fIx (mV 3) (mC (.int 0))) mNil)))
  sNil))
  (sSeq (sSet 4 (mLst mNil))
  (sSeq (sFor (iSeq (mB1 (f1L fSorted) (mCons (mV 2) mNil))) (gN 5)
  (sSeq (sSet 6 (mC (.int 0)))
  (sSeq (sFor (iSeq (mV 1)) (gN 3)
  (sIf (mB (m2 fLe (m2 fIx (mV 3) (mC (.int 0))) (mV 5)))
  (sSet 6 (m2 fIx (mV 3) (mC (.int 1))))
  sNil))
  (sIf (mAndT (mB (m2 fLt (mV 5) (mV 0))) (mOrT (mB (m2 fEq (mB1 (f1L fLen) (mCons (mV 4) mNil)) (mC (.int 0)))) (mB (m2 fNe (m2 fIx (m2 fIx (mV 4) (m2 fSub (mB1 (f1L fLen) (mCons (mV 4) mNil)) (mC (.int 1)))) (mC (.int 1))) (mV 6)))))
  (sExpr (mM "list" fAppend (mV 4) (mCons (mTup (mCons (mV 5) (mCons (mV 6) mNil))) mNil)))
  sNil))))
  (sRet (mTup (mCons (mV 0) (mCons (mB1 (f1L fTuple) (mCons (mV 4) mNil)) mNil))))))))
def M__law_point_runs : MFn := mFn 2 7 B__law_point_runs
theorem sc__law_point_runs : FnScope N__law_point_runs ["length", "row"] (defScope s__law_point_runs) := ⟨rfl, rfl, rfl, by decide +kernel, rfl, by decide +kernel, by decide +kernel⟩
theorem b__law_point_runs (T : Txt P w K mg base) : BodyOk P w K mg base 0 N__law_point_runs "_law_point_runs" (defScope s__law_point_runs) (defBody s__law_point_runs) B__law_point_runs := by
  intro f cdv A outer s H E hr tk po
  have nd := sc__law_point_runs.nd
  exact (bm_cons (sm_set 2 nd (em_lst (am_cons em_int am_nil)))
  (bm_cons (sm_for po rfl (im_seq (em_v 1)) (gm_n 3 nd)
  (bm_one (sm_if (tm_cmp op_fGt (em_ix ix_fIx (em_v 3) em_int) em_int)
  (bm_one (sm_expr (em_bm PySem.F.plainAttrs_list PySem.F.slot_list_append PySem.F.type_list_append mt_fAppend (em_v 2) (am_cons (em_ix ix_fIx (em_v 3) em_int) am_nil))))
  bm_nil)))
  (bm_cons (sm_set 4 nd (em_lst am_nil))
  (bm_cons (sm_for po rfl (im_seq (em_callB call_fSorted rfl T.n_sorted PyProof.Rows.Boot.«sorted» (am_cons (em_v 2) am_nil))) (gm_n 5 nd)
  (bm_cons (sm_set 6 nd em_int)
  (bm_cons (sm_for po rfl (im_seq (em_v 1)) (gm_n 3 nd)
  (bm_one (sm_if (tm_cmp op_fLe (em_ix ix_fIx (em_v 3) em_int) (em_v 5))
  (bm_one (sm_set 6 nd (em_ix ix_fIx (em_v 3) em_int)))
  bm_nil)))
  (bm_one (sm_if (WM.tm (wm_and (tm_cmp op_fLt (em_v 5) (em_v 0)) (wm_and1 (WM.tm (wm_or (tm_cmp (op_fEq (uRoom hr)) (em_callB call_fLen rfl T.n_len PyProof.Rows.Boot.«len» (am_cons (em_v 4) am_nil)) em_int) (wm_or1 (tm_cmp (op_fNe (uRoom hr)) (em_ix ix_fIx (em_ix ix_fIx (em_v 4) (em_bin op_fSub (em_callB call_fLen rfl T.n_len PyProof.Rows.Boot.«len» (am_cons (em_v 4) am_nil)) em_int)) em_int) (em_v 6))))))))
  (bm_one (sm_expr (em_bm PySem.F.plainAttrs_list PySem.F.slot_list_append PySem.F.type_list_append mt_fAppend (em_v 4) (am_cons (em_tup (am_cons (em_v 5) (am_cons (em_v 6) am_nil))) am_nil))))
  bm_nil)))))
  (bm_one (sm_ret (em_tup (am_cons (em_v 0) (am_cons (em_callT call_fTuple rfl T.n_tuple PyProof.Rows.Boot.«tuple» (am_cons (em_v 4) am_nil)) am_nil)))))))))
theorem c__law_point_runs (T : Txt P w K mg base) : Cal P w K mg base 1 "_law_point_runs" M__law_point_runs := cal1 T.d__law_point_runs sc__law_point_runs (fun _ _ _ _ _ _ us hl => match us, hl with | [_, _], _ => rfl) (b__law_point_runs T)
abbrev N__law_points : List Str := ["pool", "length", "row", "start", "turn", "handed", "a", "pair", "cells", "place", "known"]
def B__law_points : MS :=
  (sSeq (sSet 1 (mCall M__law_pick (mCons (mV 0) (mCons (mC (.int 9)) mNil))))
  (sSeq (sIf (mB (m2 fEq (mCall M__law_pick (mCons (mV 0) (mCons (mC (.int 3)) mNil))) (mC (.int 2))))
  (sSet 1 (mCall M__law_length (mCons (mV 0) mNil)))
  sNil)
  (sSeq (sSet 2 (mLst mNil))
  (sSeq (sSet 3 (m2 fSub (mCall M__law_pick (mCons (mV 0) (mCons (mC (.int 5)) mNil))) (mC (.int 4))))
  (sSeq (sFor (iRng (mCons (mCall M__law_pick (mCons (mV 0) (mCons (mC (.int 7)) mNil))) mNil)) (gN 4)
  (sSeq (sExpr (mM "list" fAppend (mV 2) (mCons (mTup (mCons (mV 3) (mCons (mCall M__law_value (mCons (mV 0) mNil)) mNil))) mNil)))
  (sSet 3 (m2 fAdd (mV 3) (m2 fIx (mLst (mCons (mC (.int 0)) (mCons (mC (.int 1)) (mCons (mC (.int 1)) (mCons (mC (.int 2)) (mCons (mC (.int 5)) (mCons (mV 1) mNil))))))) (mCall M__law_pick (mCons (mV 0) (mCons (mC (.int 6)) mNil))))))))
  (sSeq (sSet 5 (mLc (iSeq (mV 2)) (gN 7) tAll (mB1 (f1L fList2) (mCons (mV 7) mNil)) [7]))
  (sSeq (sSet 6 (mCall M_from_points (mCons (mV 1) (mCons (mV 5) mNil))))
  (sSeq (sFor (iSeq (mV 5)) (gN 7)
  (sPut (mV 7) (mC (.int 1)) (mC (.int 99))))
  (sSeq (sIf (mOrT (mNotT (mB (mCall M__law_is_array (mCons (mV 6) (mCons (mCall M__law_point_runs (mCons (mV 1) (mCons (mV 2) mNil))) mNil))))) (mNotT (mB (mCall M__law_is_array (mCons (mCall M_from_points (mCons (mV 1) (mCons (mB1 (f1L fTuple) (mCons (mV 2) mNil)) mNil))) (mCons (mV 6) mNil))))))
  (sRet (mC (.bl false)))
  sNil)
  (sSeq (sIf (mB (m2 fGt (mV 1) (mC (.int 9))))
  (sRet (mC (.bl true)))
  sNil)
  (sSeq (sSet 8 (mLst mNil))
  (sSeq (sFor (iRng (mCons (mV 1) mNil)) (gN 9)
  (sSeq (sSet 10 (mLc (iSeq (mV 2)) (gN 7) (mB (m2 fLe (m2 fIx (mV 7) (mC (.int 0))) (mV 9))) (m2 fIx (mV 7) (mC (.int 1))) [7]))
  (sExpr (mM "list" fAppend (mV 8) (mCons (m2 fIx (m2 fAdd (mLst (mCons (mC (.int 0)) mNil)) (mV 10)) (mB1 (f1L fLen) (mCons (mV 10) mNil))) mNil)))))
  (sRet (mCall M__law_is_array (mCons (mV 6) (mCons (mCall M__law_runs (mCons (mV 8) mNil)) mNil))))))))))))))))
def M__law_points : MFn := mFn 1 11 B__law_points
theorem sc__law_points : FnScope N__law_points ["pool"] (defScope s__law_points) := ⟨rfl, rfl, rfl, by decide +kernel, rfl, by decide +kernel, by decide +kernel⟩
theorem b__law_points (T : Txt P w K mg base) : BodyOk P w K mg base 3 N__law_points "_law_points" (defScope s__law_points) (defBody s__law_points) B__law_points := by
  intro f cdv A outer s H E hr tk po
  have nd := sc__law_points.nd
  exact (bm_cons (sm_set 1 nd (em_call (c__law_pick T) hr tk (am_cons (em_v 0) (am_cons em_int am_nil))))
  (bm_cons (sm_if (tm_cmp (op_fEq (uRoom hr)) (em_call (c__law_pick T) hr tk (am_cons (em_v 0) (am_cons em_int am_nil))) em_int)
  (bm_one (sm_set 1 nd (em_call (c__law_length T) hr tk (am_cons (em_v 0) am_nil))))
  bm_nil)
  (bm_cons (sm_set 2 nd (em_lst am_nil))
  (bm_cons (sm_set 3 nd (em_bin op_fSub (em_call (c__law_pick T) hr tk (am_cons (em_v 0) (am_cons em_int am_nil))) em_int))
  (bm_cons (sm_for po rfl (im_rng1 T.n_range (em_call (c__law_pick T) hr tk (am_cons (em_v 0) (am_cons em_int am_nil)))) (gm_n 4 nd)
  (bm_cons (sm_expr (em_bm PySem.F.plainAttrs_list PySem.F.slot_list_append PySem.F.type_list_append mt_fAppend (em_v 2) (am_cons (em_tup (am_cons (em_v 3) (am_cons (em_call (c__law_value T) hr tk (am_cons (em_v 0) am_nil)) am_nil))) am_nil)))
  (bm_one (sm_set 3 nd (em_bin op_fAdd (em_v 3) (em_ix ix_fIx (em_lst (am_cons em_int (am_cons em_int (am_cons em_int (am_cons em_int (am_cons em_int (am_cons (em_v 1) am_nil))))))) (em_call (c__law_pick T) hr tk (am_cons (em_v 0) (am_cons em_int am_nil)))))))))
  (bm_cons (sm_setLc 5 [7] rfl nd (im_seq (em_v 2)) (blkOk_by (N := N__law_points) (sc := defScope s__law_points) (own := [("pair", 7)]) (by decide +kernel)) (fun _ _ _ _ _ => (gc_n 7 nd)) (fun _ _ _ _ _ => tms_nil) (fun _ _ _ _ _ => (em_callT (call_fList2 rfl) rfl T.n_list PyProof.Rows.Boot.«list» (am_cons (em_v 7) am_nil))))
  (bm_cons (sm_set 6 nd (em_call (c_from_points T) hr tk (am_cons (em_v 1) (am_cons (em_v 5) am_nil))))
  (bm_cons (sm_for po rfl (im_seq (em_v 5)) (gm_n 7 nd)
  (bm_one (sm_put (em_v 7) em_int em_int)))
  (bm_cons (sm_if (WM.tm (wm_or (tm_not (tm_val (em_call (c__law_is_array T) hr tk (am_cons (em_v 6) (am_cons (em_call (c__law_point_runs T) hr tk (am_cons (em_v 1) (am_cons (em_v 2) am_nil))) am_nil))))) (wm_or1 (tm_not (tm_val (em_call (c__law_is_array T) hr tk (am_cons (em_call (c_from_points T) hr tk (am_cons (em_v 1) (am_cons (em_callT call_fTuple rfl T.n_tuple PyProof.Rows.Boot.«tuple» (am_cons (em_v 2) am_nil)) am_nil))) (am_cons (em_v 6) am_nil))))))))
  (bm_one (sm_ret em_bl))
  bm_nil)
  (bm_cons (sm_if (tm_cmp op_fGt (em_v 1) em_int)
  (bm_one (sm_ret em_bl))
  bm_nil)
  (bm_cons (sm_set 8 nd (em_lst am_nil))
  (bm_cons (sm_for po rfl (im_rng1 T.n_range (em_v 1)) (gm_n 9 nd)
  (bm_cons (sm_setLc 10 [7] rfl nd (im_seq (em_v 2)) (blkOk_by (N := N__law_points) (sc := defScope s__law_points) (own := [("pair", 7)]) (by decide +kernel)) (fun _ _ _ _ _ => (gc_n 7 nd)) (fun _ _ _ _ _ => (tms_one (tm_cmp op_fLe (em_ix ix_fIx (em_v 7) em_int) (em_v 9)))) (fun _ _ _ _ _ => (em_ix ix_fIx (em_v 7) em_int)))
  (bm_one (sm_expr (em_bm PySem.F.plainAttrs_list PySem.F.slot_list_append PySem.F.type_list_append mt_fAppend (em_v 8) (am_cons (em_ix ix_fIx (em_bin op_fAdd (em_lst (am_cons em_int am_nil)) (em_v 10)) (em_callB call_fLen rfl T.n_len PyProof.Rows.Boot.«len» (am_cons (em_v 10) am_nil))) am_nil))))))
  (bm_one (sm_ret (em_call (c__law_is_array T) hr tk (am_cons (em_v 6) (am_cons (em_call (c__law_runs T) hr tk (am_cons (em_v 8) am_nil)) am_nil)))))))))))))))))
theorem c__law_points (T : Txt P w K mg base) : Cal P w K mg base 4 "_law_points" M__law_points := cal1 T.d__law_points sc__law_points (fun _ _ _ _ _ _ us hl => match us, hl with | [_], _ => rfl) (b__law_points T)
abbrev N__law_judge : List Str := ["pool", "many", "cut", "one", "two", "rows", "wrong", "thing"]
def B__law_judge : MS :=
  (sSeq (sSet 1 (m2 fAdd (mC (.int 2)) (mCall M__law_pick (mCons (mV 0) (mCons (mC (.int 6)) mNil)))))
  (sSeq (sIf (mB (m2 fEq (mCall M__law_pick (mCons (mV 0) (mCons (mC (.int 4)) mNil))) (mC (.int 3))))
  (sSet 1 (m2 fPow (mC (.int 10)) (mC (.int 30))))
  sNil)
  (sSeq (sSet 2 (m2 fAdd (mC (.int 1)) (mCall M__law_pick (mCons (mV 0) (mCons (mB1 (f2L fMin2) (mCons (m2 fSub (mV 1) (mC (.int 1))) (mCons (mC (.int 9)) mNil))) mNil)))))
  (sSeq (sSet 3 (mCall M__law_value (mCons (mV 0) mNil)))
  (sSeq (sSet 4 (m2 fAdd (m2 fAdd (mV 3) (mC (.int 1))) (mCall M__law_pick (mCons (mV 0) (mCons (mC (.int 5)) mNil)))))
  (sSeq (sSet 5 (mTup (mCons (mTup (mCons (mC (.int 0)) (mCons (mV 3) mNil))) (mCons (mTup (mCons (mV 2) (mCons (mV 4) mNil))) mNil))))
  (sSeq (sIf (mOrT (mB (m2 fIsN (mCall M_is_array (mCons (mTup (mCons (mV 1) (mCons (mV 5) mNil))) mNil)) (mC (.bl true)))) (mOrT (mB (m2 fIsN (mCall M_is_array (mCons (mTup (mCons (mC (.int 0)) (mCons (mTup mNil) mNil))) mNil)) (mC (.bl true)))) (mB (m2 fIsN (mCall M_is_array (mCons (mTup (mCons (mC (.int 1)) (mCons (mTup (mCons (mTup (mCons (mC (.int 0)) (mCons (mV 3) mNil))) mNil)) mNil))) mNil)) (mC (.bl true))))))
  (sRet (mC (.bl false)))
  sNil)
  (sSeq (sSet 6 (mLst (mCons (mLst (mCons (mV 1) (mCons (mV 5) mNil))) (mCons (mTup (mCons (mV 1) (mCons (mV 5) (mCons (mC (.int 0)) mNil)))) (mCons (mTup (mCons (mV 1) mNil)) (mCons (mTup (mCons (mC (.bl true)) (mCons (mTup (mCons (mTup (mCons (mC (.int 0)) (mCons (mV 3) mNil))) mNil)) mNil))) (mCons (mTup (mCons (m2 fSub (mC (.int 0)) (mC (.int 1))) (mCons (mTup mNil) mNil))) (mCons (mTup (mCons (mV 1) (mCons (mB1 (f1L fList2) (mCons (mV 5) mNil)) mNil))) mNil))))))))
  (sSeq (sSet 6 (m2 fAdd (mV 6) (mLst (mCons (mTup (mCons (mV 1) (mCons (mTup mNil) mNil))) (mCons (mTup (mCons (mC (.int 0)) (mCons (mTup (mCons (mTup (mCons (mC (.int 0)) (mCons (mV 3) mNil))) mNil)) mNil))) (mCons (mTup (mCons (mV 1) (mCons (mTup (mCons (mTup (mCons (mC (.int 1)) (mCons (mV 3) mNil))) mNil)) mNil))) (mCons (mTup (mCons (mV 1) (mCons (mTup (mCons (mTup (mCons (mC (.int 0)) (mCons (mV 3) mNil))) (mCons (mTup (mCons (mC (.int 0)) (mCons (mV 4) mNil))) mNil))) mNil))) mNil)))))))
  (sSeq (sSet 6 (m2 fAdd (mV 6) (mLst (mCons (mTup (mCons (mV 1) (mCons (mTup (mCons (mTup (mCons (mC (.int 0)) (mCons (mV 3) mNil))) (mCons (mTup (mCons (mV 2) (mCons (mV 4) mNil))) (mCons (mTup (mCons (mV 2) (mCons (mV 3) mNil))) mNil)))) mNil))) (mCons (mTup (mCons (mV 1) (mCons (mTup (mCons (mTup (mCons (mC (.int 0)) (mCons (mV 3) mNil))) (mCons (mTup (mCons (mV 1) (mCons (mV 4) mNil))) mNil))) mNil))) mNil)))))
  (sSeq (sSet 6 (m2 fAdd (mV 6) (mLst (mCons (mTup (mCons (mV 1) (mCons (mTup (mCons (mTup (mCons (mC (.int 0)) (mCons (mV 3) mNil))) (mCons (mTup (mCons (mV 2) (mCons (mV 3) mNil))) mNil))) mNil))) (mCons (mTup (mCons (mV 1) (mCons (mTup (mCons (mLst (mCons (mC (.int 0)) (mCons (mV 3) mNil))) (mCons (mTup (mCons (mV 2) (mCons (mV 4) mNil))) mNil))) mNil))) (mCons (mTup (mCons (mV 1) (mCons (mTup (mCons (mTup (mCons (mC (.int 0)) (mCons (mC (.bl true)) mNil))) (mCons (mTup (mCons (mV 2) (mCons (mV 4) mNil))) mNil))) mNil))) mNil))))))
  (sSeq (sSet 6 (m2 fAdd (mV 6) (mLst (mCons (mTup (mCons (mV 1) (mCons (mTup (mCons (mTup (mCons (mC (.bl false)) (mCons (mV 3) mNil))) (mCons (mTup (mCons (mV 2) (mCons (mV 4) mNil))) mNil))) mNil))) (mCons (mTup (mCons (mV 1) (mCons (mTup (mCons (mTup (mCons (mC (.int 0)) (mCons (mV 3) (mCons (mC (.int 0)) mNil)))) mNil)) mNil))) (mCons (mTup (mCons (mV 1) (mCons (mTup (mCons (mTup (mCons (mC (.int 0)) (mCons (mV 3) mNil))) (mCons (mTup (mCons (mV 2) (mCons (mC .non) mNil))) mNil))) mNil))) mNil))))))
  (sSeq (sSet 6 (m2 fAdd (mV 6) (mLst (mCons (mC .non) (mCons (mV 1) (mCons (mC (.str "array")) (mCons (mTup mNil) (mCons (mTup (mCons (mB1 (f1L fStr) (mCons (mV 1) mNil)) (mCons (mV 5) mNil))) (mCons (mTup (mCons (mV 1) (mCons (mTup (mCons (mTup (mCons (mC (.int 0)) (mCons (mV 3) mNil))) (mCons (mTup (mCons (mV 2) (mCons (mV 4) mNil))) (mCons (mTup (mCons (m2 fSub (mV 2) (mC (.int 1))) (mCons (mV 3) mNil))) mNil)))) mNil))) mNil)))))))))
  (sSeq (sFor (iSeq (mV 6)) (gN 7)
  (sIf (mB (m2 fIsN (mCall M_is_array (mCons (mV 7) mNil)) (mC (.bl false))))
  (sRet (mC (.bl false)))
  sNil))
  (sRet (mC (.bl true)))))))))))))))))
def M__law_judge : MFn := mFn 1 8 B__law_judge
theorem sc__law_judge : FnScope N__law_judge ["pool"] (defScope s__law_judge) := ⟨rfl, rfl, rfl, by decide +kernel, rfl, by decide +kernel, by decide +kernel⟩
theorem b__law_judge (T : Txt P w K mg base) : BodyOk P w K mg base 3 N__law_judge "_law_judge" (defScope s__law_judge) (defBody s__law_judge) B__law_judge := by
  intro f cdv A outer s H E hr tk po
  have nd := sc__law_judge.nd
  exact (bm_cons (sm_set 1 nd (em_bin op_fAdd em_int (em_call (c__law_pick T) hr tk (am_cons (em_v 0) (am_cons em_int am_nil)))))
  (bm_cons (sm_if (tm_cmp (op_fEq (uRoom hr)) (em_call (c__law_pick T) hr tk (am_cons (em_v 0) (am_cons em_int am_nil))) em_int)
  (bm_one (sm_set 1 nd (em_bin op_fPow em_int em_int)))
  bm_nil)
  (bm_cons (sm_set 2 nd (em_bin op_fAdd em_int (em_call (c__law_pick T) hr tk (am_cons (em_v 0) (am_cons (em_callB (call_fMin2 rfl) rfl T.n_min PyProof.Rows.Boot.«min» (am_cons (em_bin op_fSub (em_v 1) em_int) (am_cons em_int am_nil))) am_nil)))))
  (bm_cons (sm_set 3 nd (em_call (c__law_value T) hr tk (am_cons (em_v 0) am_nil)))
  (bm_cons (sm_set 4 nd (em_bin op_fAdd (em_bin op_fAdd (em_v 3) em_int) (em_call (c__law_pick T) hr tk (am_cons (em_v 0) (am_cons em_int am_nil)))))
  (bm_cons (sm_set 5 nd (em_tup (am_cons (em_tup (am_cons em_int (am_cons (em_v 3) am_nil))) (am_cons (em_tup (am_cons (em_v 2) (am_cons (em_v 4) am_nil))) am_nil))))
  (bm_cons (sm_if (WM.tm (wm_or (tm_cmp op_fIsN (em_call (c_is_array T) hr tk (am_cons (em_tup (am_cons (em_v 1) (am_cons (em_v 5) am_nil))) am_nil)) em_bl) (wm_or (tm_cmp op_fIsN (em_call (c_is_array T) hr tk (am_cons (em_tup (am_cons em_int (am_cons (em_tup am_nil) am_nil))) am_nil)) em_bl) (wm_or1 (tm_cmp op_fIsN (em_call (c_is_array T) hr tk (am_cons (em_tup (am_cons em_int (am_cons (em_tup (am_cons (em_tup (am_cons em_int (am_cons (em_v 3) am_nil))) am_nil)) am_nil))) am_nil)) em_bl)))))
  (bm_one (sm_ret em_bl))
  bm_nil)
  (bm_cons (sm_set 6 nd (em_lst (am_cons (em_lst (am_cons (em_v 1) (am_cons (em_v 5) am_nil))) (am_cons (em_tup (am_cons (em_v 1) (am_cons (em_v 5) (am_cons em_int am_nil)))) (am_cons (em_tup (am_cons (em_v 1) am_nil)) (am_cons (em_tup (am_cons em_bl (am_cons (em_tup (am_cons (em_tup (am_cons em_int (am_cons (em_v 3) am_nil))) am_nil)) am_nil))) (am_cons (em_tup (am_cons (em_bin op_fSub em_int em_int) (am_cons (em_tup am_nil) am_nil))) (am_cons (em_tup (am_cons (em_v 1) (am_cons (em_callT (call_fList2 rfl) rfl T.n_list PyProof.Rows.Boot.«list» (am_cons (em_v 5) am_nil)) am_nil))) am_nil))))))))
  (bm_cons (sm_set 6 nd (em_bin op_fAdd (em_v 6) (em_lst (am_cons (em_tup (am_cons (em_v 1) (am_cons (em_tup am_nil) am_nil))) (am_cons (em_tup (am_cons em_int (am_cons (em_tup (am_cons (em_tup (am_cons em_int (am_cons (em_v 3) am_nil))) am_nil)) am_nil))) (am_cons (em_tup (am_cons (em_v 1) (am_cons (em_tup (am_cons (em_tup (am_cons em_int (am_cons (em_v 3) am_nil))) am_nil)) am_nil))) (am_cons (em_tup (am_cons (em_v 1) (am_cons (em_tup (am_cons (em_tup (am_cons em_int (am_cons (em_v 3) am_nil))) (am_cons (em_tup (am_cons em_int (am_cons (em_v 4) am_nil))) am_nil))) am_nil))) am_nil)))))))
  (bm_cons (sm_set 6 nd (em_bin op_fAdd (em_v 6) (em_lst (am_cons (em_tup (am_cons (em_v 1) (am_cons (em_tup (am_cons (em_tup (am_cons em_int (am_cons (em_v 3) am_nil))) (am_cons (em_tup (am_cons (em_v 2) (am_cons (em_v 4) am_nil))) (am_cons (em_tup (am_cons (em_v 2) (am_cons (em_v 3) am_nil))) am_nil)))) am_nil))) (am_cons (em_tup (am_cons (em_v 1) (am_cons (em_tup (am_cons (em_tup (am_cons em_int (am_cons (em_v 3) am_nil))) (am_cons (em_tup (am_cons (em_v 1) (am_cons (em_v 4) am_nil))) am_nil))) am_nil))) am_nil)))))
  (bm_cons (sm_set 6 nd (em_bin op_fAdd (em_v 6) (em_lst (am_cons (em_tup (am_cons (em_v 1) (am_cons (em_tup (am_cons (em_tup (am_cons em_int (am_cons (em_v 3) am_nil))) (am_cons (em_tup (am_cons (em_v 2) (am_cons (em_v 3) am_nil))) am_nil))) am_nil))) (am_cons (em_tup (am_cons (em_v 1) (am_cons (em_tup (am_cons (em_lst (am_cons em_int (am_cons (em_v 3) am_nil))) (am_cons (em_tup (am_cons (em_v 2) (am_cons (em_v 4) am_nil))) am_nil))) am_nil))) (am_cons (em_tup (am_cons (em_v 1) (am_cons (em_tup (am_cons (em_tup (am_cons em_int (am_cons em_bl am_nil))) (am_cons (em_tup (am_cons (em_v 2) (am_cons (em_v 4) am_nil))) am_nil))) am_nil))) am_nil))))))
  (bm_cons (sm_set 6 nd (em_bin op_fAdd (em_v 6) (em_lst (am_cons (em_tup (am_cons (em_v 1) (am_cons (em_tup (am_cons (em_tup (am_cons em_bl (am_cons (em_v 3) am_nil))) (am_cons (em_tup (am_cons (em_v 2) (am_cons (em_v 4) am_nil))) am_nil))) am_nil))) (am_cons (em_tup (am_cons (em_v 1) (am_cons (em_tup (am_cons (em_tup (am_cons em_int (am_cons (em_v 3) (am_cons em_int am_nil)))) am_nil)) am_nil))) (am_cons (em_tup (am_cons (em_v 1) (am_cons (em_tup (am_cons (em_tup (am_cons em_int (am_cons (em_v 3) am_nil))) (am_cons (em_tup (am_cons (em_v 2) (am_cons em_non am_nil))) am_nil))) am_nil))) am_nil))))))
  (bm_cons (sm_set 6 nd (em_bin op_fAdd (em_v 6) (em_lst (am_cons em_non (am_cons (em_v 1) (am_cons em_str (am_cons (em_tup am_nil) (am_cons (em_tup (am_cons (em_callT call_fStr rfl T.n_str PyProof.Rows.Boot.«str» (am_cons (em_v 1) am_nil)) (am_cons (em_v 5) am_nil))) (am_cons (em_tup (am_cons (em_v 1) (am_cons (em_tup (am_cons (em_tup (am_cons em_int (am_cons (em_v 3) am_nil))) (am_cons (em_tup (am_cons (em_v 2) (am_cons (em_v 4) am_nil))) (am_cons (em_tup (am_cons (em_bin op_fSub (em_v 2) em_int) (am_cons (em_v 3) am_nil))) am_nil)))) am_nil))) am_nil)))))))))
  (bm_cons (sm_for po rfl (im_seq (em_v 6)) (gm_n 7 nd)
  (bm_one (sm_if (tm_cmp op_fIsN (em_call (c_is_array T) hr tk (am_cons (em_v 7) am_nil)) em_bl)
  (bm_one (sm_ret em_bl))
  bm_nil)))
  (bm_one (sm_ret em_bl))))))))))))))))
theorem c__law_judge (T : Txt P w K mg base) : Cal P w K mg base 4 "_law_judge" M__law_judge := cal1 T.d__law_judge sc__law_judge (fun _ _ _ _ _ _ us hl => match us, hl with | [_], _ => rfl) (b__law_judge T)
abbrev N__law_refused : List Str := ["word", "a", "bad", "number", "error"]
def B__law_refused : MS :=
  (sSeq (sSet 3 (mC .non))
  (sSeq (sTryAs
  (sIf (mB (m2 fEq (mV 0) (mC (.int 0))))
  (sExpr (mCall M_fresh_array (mCons (m2 fSub (mC (.int 0)) (mC (.int 1))) mNil)))
  (sIf (mB (m2 fEq (mV 0) (mC (.int 1))))
  (sExpr (mCall M_fresh_array (mCons (mC (.bl true)) mNil)))
  (sIf (mB (m2 fEq (mV 0) (mC (.int 2))))
  (sExpr (mCall M_array_of (mCons (mLst (mCons (mC (.int 1)) (mCons (mC (.bl true)) mNil))) mNil)))
  (sIf (mB (m2 fEq (mV 0) (mC (.int 3))))
  (sExpr (mCall M_array_of (mCons (mC (.str "12")) mNil)))
  (sIf (mB (m2 fEq (mV 0) (mC (.int 4))))
  (sExpr (mCall M_from_points (mCons (m2 fSub (mC (.int 0)) (mC (.int 1))) (mCons (mC (.int 7)) mNil))))
  (sIf (mB (m2 fEq (mV 0) (mC (.int 5))))
  (sExpr (mCall M_from_points (mCons (mC (.int 3)) (mCons (mC (.int 7)) mNil))))
  (sIf (mB (m2 fEq (mV 0) (mC (.int 6))))
  (sExpr (mCall M_from_points (mCons (mC (.int 3)) (mCons (mLst (mCons (mTup (mCons (mC (.int 2)) (mCons (mC (.int 1)) mNil))) (mCons (mTup (mCons (mC (.int 1)) (mCons (mC (.int 1)) mNil))) mNil))) mNil))))
  (sIf (mB (m2 fEq (mV 0) (mC (.int 7))))
  (sExpr (mCall M_from_points (mCons (mC (.int 3)) (mCons (mLst (mCons (mTup (mCons (mC (.int 1)) (mCons (mC (.int 2)) (mCons (mC (.int 3)) mNil)))) mNil)) mNil))))
  (sIf (mB (m2 fEq (mV 0) (mC (.int 8))))
  (sExpr (mCall M_cell_of (mCons (mV 2) (mCons (mC .non) mNil))))
  (sIf (mB (m2 fEq (mV 0) (mC (.int 9))))
  (sExpr (mCall M_cell_of (mCons (mV 1) (mCons (mC (.bl true)) mNil))))
  (sIf (mB (m2 fEq (mV 0) (mC (.int 10))))
  (sExpr (mCall M_put_cell (mCons (mV 1) (mCons (mC (.int 0)) (mCons (mC .non) mNil)))))
  (sIf (mB (m2 fEq (mV 0) (mC (.int 11))))
  (sExpr (mCall M_put_cell (mCons (mV 1) (mCons (mC (.str "0")) (mCons (mC .non) mNil)))))
  (sIf (mB (m2 fEq (mV 0) (mC (.int 12))))
  (sExpr (mCall M_put_cell (mCons (mV 2) (mCons (mC (.str "0")) (mCons (mC (.int 1)) mNil)))))
  (sIf (mB (m2 fEq (mV 0) (mC (.int 13))))
  (sExpr (mCall M_runs_of (mCons (mV 2) mNil)))
  (sIf (mB (m2 fEq (mV 0) (mC (.int 14))))
  (sExpr (mCall M_length_of (mCons (mV 2) mNil)))
  (sIf (mB (m2 fEq (mV 0) (mC (.int 15))))
  (sExpr (mCall M_cells_of (mCons (mV 2) mNil)))
  (sIf (mB (m2 fEq (mV 0) (mC (.int 16))))
  (sExpr (mCall M_same_arrays (mCons (mV 1) (mCons (mV 2) mNil))))
  (sIf (mB (m2 fEq (mV 0) (mC (.int 17))))
  (sExpr (mCall M_same_arrays (mCons (mV 2) (mCons (mV 2) mNil))))
  (sExpr (mCall M_cells_of (mCons (mTup (mCons (mC (.int 10001)) (mCons (mTup (mCons (mTup (mCons (mC (.int 0)) (mCons (mC (.int 5)) mNil))) mNil)) mNil))) mNil))))))))))))))))))))) 4 sub_BadArguments
  (xSet 3 (fun en => if en.cls ∈ xl_number then en.fs.lookup ("number" : Str) else none)))
  (sRet (mV 3))))
def M__law_refused : MFn := mFn 3 5 B__law_refused
theorem sc__law_refused : FnScope N__law_refused ["word", "a", "bad"] (defScope s__law_refused) := ⟨rfl, rfl, rfl, by decide +kernel, rfl, by decide +kernel, by decide +kernel⟩
theorem b__law_refused (T : Txt P w K mg base) : BodyOk P w K mg base 5 N__law_refused "_law_refused" (defScope s__law_refused) (defBody s__law_refused) B__law_refused := by
  intro f cdv A outer s H E hr tk po
  have nd := sc__law_refused.nd
  exact (bm_cons (sm_set 3 nd em_non)
  (bm_cons (sm_try_as 4 T.k_BadArguments tk nd (fun W pn xe tk po => (bm_one (sm_if (tm_cmp (op_fEq (uRoom hr)) (em_v 0) em_int)
  (bm_one (sm_expr (em_call (c_fresh_array T) hr tk (am_cons (em_bin op_fSub em_int em_int) am_nil))))
  (bm_one (sm_if (tm_cmp (op_fEq (uRoom hr)) (em_v 0) em_int)
  (bm_one (sm_expr (em_call (c_fresh_array T) hr tk (am_cons em_bl am_nil))))
  (bm_one (sm_if (tm_cmp (op_fEq (uRoom hr)) (em_v 0) em_int)
  (bm_one (sm_expr (em_call (c_array_of T) hr tk (am_cons (em_lst (am_cons em_int (am_cons em_bl am_nil))) am_nil))))
  (bm_one (sm_if (tm_cmp (op_fEq (uRoom hr)) (em_v 0) em_int)
  (bm_one (sm_expr (em_call (c_array_of T) hr tk (am_cons em_str am_nil))))
  (bm_one (sm_if (tm_cmp (op_fEq (uRoom hr)) (em_v 0) em_int)
  (bm_one (sm_expr (em_call (c_from_points T) hr tk (am_cons (em_bin op_fSub em_int em_int) (am_cons em_int am_nil)))))
  (bm_one (sm_if (tm_cmp (op_fEq (uRoom hr)) (em_v 0) em_int)
  (bm_one (sm_expr (em_call (c_from_points T) hr tk (am_cons em_int (am_cons em_int am_nil)))))
  (bm_one (sm_if (tm_cmp (op_fEq (uRoom hr)) (em_v 0) em_int)
  (bm_one (sm_expr (em_call (c_from_points T) hr tk (am_cons em_int (am_cons (em_lst (am_cons (em_tup (am_cons em_int (am_cons em_int am_nil))) (am_cons (em_tup (am_cons em_int (am_cons em_int am_nil))) am_nil))) am_nil)))))
  (bm_one (sm_if (tm_cmp (op_fEq (uRoom hr)) (em_v 0) em_int)
  (bm_one (sm_expr (em_call (c_from_points T) hr tk (am_cons em_int (am_cons (em_lst (am_cons (em_tup (am_cons em_int (am_cons em_int (am_cons em_int am_nil)))) am_nil)) am_nil)))))
  (bm_one (sm_if (tm_cmp (op_fEq (uRoom hr)) (em_v 0) em_int)
  (bm_one (sm_expr (em_call (c_cell_of T) hr tk (am_cons (em_v 2) (am_cons em_non am_nil)))))
  (bm_one (sm_if (tm_cmp (op_fEq (uRoom hr)) (em_v 0) em_int)
  (bm_one (sm_expr (em_call (c_cell_of T) hr tk (am_cons (em_v 1) (am_cons em_bl am_nil)))))
  (bm_one (sm_if (tm_cmp (op_fEq (uRoom hr)) (em_v 0) em_int)
  (bm_one (sm_expr (em_call (c_put_cell T) hr tk (am_cons (em_v 1) (am_cons em_int (am_cons em_non am_nil))))))
  (bm_one (sm_if (tm_cmp (op_fEq (uRoom hr)) (em_v 0) em_int)
  (bm_one (sm_expr (em_call (c_put_cell T) hr tk (am_cons (em_v 1) (am_cons em_str (am_cons em_non am_nil))))))
  (bm_one (sm_if (tm_cmp (op_fEq (uRoom hr)) (em_v 0) em_int)
  (bm_one (sm_expr (em_call (c_put_cell T) hr tk (am_cons (em_v 2) (am_cons em_str (am_cons em_int am_nil))))))
  (bm_one (sm_if (tm_cmp (op_fEq (uRoom hr)) (em_v 0) em_int)
  (bm_one (sm_expr (em_call (c_runs_of T) hr tk (am_cons (em_v 2) am_nil))))
  (bm_one (sm_if (tm_cmp (op_fEq (uRoom hr)) (em_v 0) em_int)
  (bm_one (sm_expr (em_call (c_length_of T) hr tk (am_cons (em_v 2) am_nil))))
  (bm_one (sm_if (tm_cmp (op_fEq (uRoom hr)) (em_v 0) em_int)
  (bm_one (sm_expr (em_call (c_cells_of T) hr tk (am_cons (em_v 2) am_nil))))
  (bm_one (sm_if (tm_cmp (op_fEq (uRoom hr)) (em_v 0) em_int)
  (bm_one (sm_expr (em_call (c_same_arrays T) hr tk (am_cons (em_v 1) (am_cons (em_v 2) am_nil)))))
  (bm_one (sm_if (tm_cmp (op_fEq (uRoom hr)) (em_v 0) em_int)
  (bm_one (sm_expr (em_call (c_same_arrays T) hr tk (am_cons (em_v 2) (am_cons (em_v 2) am_nil)))))
  (bm_one (sm_expr (em_call (c_cells_of T) hr tk (am_cons (em_tup (am_cons em_int (am_cons (em_tup (am_cons (em_tup (am_cons em_int (am_cons em_int am_nil))) am_nil)) am_nil))) am_nil)))))))))))))))))))))))))))))))))))))))))
  (fun a oe cls d pn hz hv => (bx_one (sx_set 3 nd (xp_f (X := ctx P w K mg base N__law_refused "_law_refused" (defScope s__law_refused) f cdv A outer s H E) T.f_number hz hv)))))
  (bm_one (sm_ret (em_v 3)))))
theorem c__law_refused (T : Txt P w K mg base) : Cal P w K mg base 6 "_law_refused" M__law_refused := cal1 T.d__law_refused sc__law_refused (fun _ _ _ _ _ _ us hl => match us, hl with | [_, _, _], _ => rfl) (b__law_refused T)
abbrev N__law_refusals : List Str := ["pool", "a", "bad", "due", "word", "told", "turn"]
def B__law_refusals : MS :=
  (sSeq (sSet 1 (mCall M_array_of (mCons (mLc (iRng (mCons (mC (.int 3)) mNil)) (gN 6) tAll (mCall M__law_value (mCons (mV 0) mNil)) [6]) mNil)))
  (sSeq (sSet 2 (m2 fIx (mLst (mCons (mTup (mCons (mC (.int 2)) (mCons (mTup (mCons (mTup (mCons (mC (.int 0)) (mCons (mC (.int 1)) mNil))) (mCons (mTup (mCons (mC (.int 1)) (mCons (mC (.int 1)) mNil))) mNil))) mNil))) (mCons (mLst (mCons (mC (.int 0)) (mCons (mTup mNil) mNil))) (mCons (mC .non) (mCons (mTup (mCons (mC (.int 1)) (mCons (mTup mNil) mNil))) mNil))))) (mCall M__law_pick (mCons (mV 0) (mCons (mC (.int 4)) mNil)))))
  (sSeq (sSet 3 (mLst (mCons (mC (.int 0)) (mCons (mC (.int 0)) (mCons (mC (.int 0)) (mCons (mC (.int 0)) (mCons (mC (.int 0)) (mCons (mC (.int 1)) (mCons (mC (.int 1)) (mCons (mC (.int 1)) (mCons (mC (.int 0)) (mCons (mC (.int 1)) (mCons (mC (.int 2)) (mCons (mC (.int 1)) (mCons (mC (.int 0)) (mCons (mC (.int 0)) (mCons (mC (.int 0)) (mCons (mC (.int 0)) (mCons (mC (.int 1)) (mCons (mC (.int 0)) (mCons (mC (.int 0)) mNil)))))))))))))))))))))
  (sSeq (sFor (iRng (mCons (mB1 (f1L fLen) (mCons (mV 3) mNil)) mNil)) (gN 4)
  (sSeq (sSet 5 (mCall M__law_refused (mCons (mV 4) (mCons (mV 1) (mCons (mV 2) mNil)))))
  (sIf (mOrT (mNotT (mB (mCall M__law_int (mCons (mV 5) mNil)))) (mB (m2 fNe (mV 5) (m2 fIx (mV 3) (mV 4)))))
  (sRet (mC (.bl false)))
  sNil)))
  (sRet (mC (.bl true)))))))
def M__law_refusals : MFn := mFn 1 7 B__law_refusals
theorem sc__law_refusals : FnScope N__law_refusals ["pool"] (defScope s__law_refusals) := ⟨rfl, rfl, rfl, by decide +kernel, rfl, by decide +kernel, by decide +kernel⟩
theorem b__law_refusals (T : Txt P w K mg base) : BodyOk P w K mg base 6 N__law_refusals "_law_refusals" (defScope s__law_refusals) (defBody s__law_refusals) B__law_refusals := by
  intro f cdv A outer s H E hr tk po
  have nd := sc__law_refusals.nd
  exact (bm_cons (sm_set 1 nd (em_call (c_array_of T) hr tk (am_cons (em_lc [6] rfl nd (im_rng1 T.n_range em_int) (blkOk_by (N := N__law_refusals) (sc := defScope s__law_refusals) (own := [("turn", 6)]) (by decide +kernel)) (fun _ _ _ _ _ => (gc_n 6 nd)) (fun _ _ _ _ _ => tms_nil) (fun _ _ _ _ _ => (em_call (c__law_value T) hr takes0 (am_cons (em_v 0) am_nil)))) am_nil)))
  (bm_cons (sm_set 2 nd (em_ix ix_fIx (em_lst (am_cons (em_tup (am_cons em_int (am_cons (em_tup (am_cons (em_tup (am_cons em_int (am_cons em_int am_nil))) (am_cons (em_tup (am_cons em_int (am_cons em_int am_nil))) am_nil))) am_nil))) (am_cons (em_lst (am_cons em_int (am_cons (em_tup am_nil) am_nil))) (am_cons em_non (am_cons (em_tup (am_cons em_int (am_cons (em_tup am_nil) am_nil))) am_nil))))) (em_call (c__law_pick T) hr tk (am_cons (em_v 0) (am_cons em_int am_nil)))))
  (bm_cons (sm_set 3 nd (em_lst (am_cons em_int (am_cons em_int (am_cons em_int (am_cons em_int (am_cons em_int (am_cons em_int (am_cons em_int (am_cons em_int (am_cons em_int (am_cons em_int (am_cons em_int (am_cons em_int (am_cons em_int (am_cons em_int (am_cons em_int (am_cons em_int (am_cons em_int (am_cons em_int (am_cons em_int am_nil)))))))))))))))))))))
  (bm_cons (sm_for po rfl (im_rng1 T.n_range (em_callB call_fLen rfl T.n_len PyProof.Rows.Boot.«len» (am_cons (em_v 3) am_nil))) (gm_n 4 nd)
  (bm_cons (sm_set 5 nd (em_call (c__law_refused T) hr tk (am_cons (em_v 4) (am_cons (em_v 1) (am_cons (em_v 2) am_nil)))))
  (bm_one (sm_if (WM.tm (wm_or (tm_not (tm_val (em_call (c__law_int T) hr tk (am_cons (em_v 5) am_nil)))) (wm_or1 (tm_cmp (op_fNe (uRoom hr)) (em_v 5) (em_ix ix_fIx (em_v 3) (em_v 4))))))
  (bm_one (sm_ret em_bl))
  bm_nil))))
  (bm_one (sm_ret em_bl))))))
theorem c__law_refusals (T : Txt P w K mg base) : Cal P w K mg base 7 "_law_refusals" M__law_refusals := cal1 T.d__law_refusals sc__law_refusals (fun _ _ _ _ _ _ us hl => match us, hl with | [_], _ => rfl) (b__law_refusals T)
abbrev N_law : List Str := ["script", "pool", "value", "told"]
def B_law : MS :=
  (sSeq (sSet 1 (mCall M__law_pool (mCons (mV 0) mNil)))
  (sSeq (sIf (mOrT (mNotT (mB (mCall M__law_small (mCons (mV 1) mNil)))) (mOrT (mNotT (mB (mCall M__law_wide (mCons (mV 1) mNil)))) (mNotT (mB (mCall M__law_points (mCons (mV 1) mNil))))))
  (sRet (mC (.bl false)))
  sNil)
  (sSeq (sIf (mOrT (mNotT (mB (mCall M__law_judge (mCons (mV 1) mNil)))) (mNotT (mB (mCall M__law_refusals (mCons (mV 1) mNil)))))
  (sRet (mC (.bl false)))
  sNil)
  (sSeq (sIf (mB (m2 fEq (mCall M__law_pick (mCons (mV 1) (mCons (mC (.int 24)) mNil))) (mC (.int 23))))
  (sSeq (sSet 2 (mCall M__law_value (mCons (mV 1) mNil)))
  (sSeq (sSet 3 (mCall M_cells_of (mCons (mTup (mCons (mC (.int 10000)) (mCons (mTup (mCons (mTup (mCons (mC (.int 0)) (mCons (mV 2) mNil))) mNil)) mNil))) mNil)))
  (sRet (mAndV (m1 (fIsi ["tuple"]) (mV 3)) (m2 fEq (mV 3) (mB1 (f1L fTuple) (mCons (m2 fMulA (mLst (mCons (mV 2) mNil)) (mC (.int 10000))) mNil)))))))
  sNil)
  (sRet (mC (.bl true)))))))
def M_law : MFn := mFn 1 4 B_law
theorem sc_law : FnScope N_law ["script"] (defScope s_law) := ⟨rfl, rfl, rfl, by decide +kernel, rfl, by decide +kernel, by decide +kernel⟩
theorem b_law (T : Txt P w K mg base) : BodyOk P w K mg base 7 N_law "law" (defScope s_law) (defBody s_law) B_law := by
  intro f cdv A outer s H E hr tk po
  have nd := sc_law.nd
  exact (bm_cons (sm_set 1 nd (em_call (c__law_pool T) hr tk (am_cons (em_v 0) am_nil)))
  (bm_cons (sm_if (WM.tm (wm_or (tm_not (tm_val (em_call (c__law_small T) hr tk (am_cons (em_v 1) am_nil)))) (wm_or (tm_not (tm_val (em_call (c__law_wide T) hr tk (am_cons (em_v 1) am_nil)))) (wm_or1 (tm_not (tm_val (em_call (c__law_points T) hr tk (am_cons (em_v 1) am_nil))))))))
  (bm_one (sm_ret em_bl))
  bm_nil)
  (bm_cons (sm_if (WM.tm (wm_or (tm_not (tm_val (em_call (c__law_judge T) hr tk (am_cons (em_v 1) am_nil)))) (wm_or1 (tm_not (tm_val (em_call (c__law_refusals T) hr tk (am_cons (em_v 1) am_nil)))))))
  (bm_one (sm_ret em_bl))
  bm_nil)
  (bm_cons (sm_if (tm_cmp (op_fEq (uRoom hr)) (em_call (c__law_pick T) hr tk (am_cons (em_v 1) (am_cons em_int am_nil))) em_int)
  (bm_cons (sm_set 2 nd (em_call (c__law_value T) hr tk (am_cons (em_v 1) am_nil)))
  (bm_cons (sm_set 3 nd (em_call (c_cells_of T) hr tk (am_cons (em_tup (am_cons em_int (am_cons (em_tup (am_cons (em_tup (am_cons em_int (am_cons (em_v 2) am_nil))) am_nil)) am_nil))) am_nil)))
  (bm_one (sm_ret (em_and (em_isi (em_v 3) (hm := T.n_isinstance) (hmT := T.n_tuple) (hvT := PyProof.Rows.Boot.«tuple»)) (em_one (em_cmp (op_fEq (uRoom hr)) (em_v 3) (em_callT call_fTuple rfl T.n_tuple PyProof.Rows.Boot.«tuple» (am_cons (em_bin op_fMulA (em_lst (am_cons (em_v 2) am_nil)) em_int) am_nil)))))))))
  bm_nil)
  (bm_one (sm_ret em_bl))))))
theorem c_law (T : Txt P w K mg base) : Cal P w K mg base 8 "law" M_law := cal1 T.d_law sc_law (fun _ _ _ _ _ _ us hl => match us, hl with | [_], _ => rfl) (b_law T)
end
abbrev s_ini_BadArguments : Stmt := inCls (top 2) 0
def fa : List (PySem.W.Frag → Bool) := [freeB "all",
  freeB "bool",
  freeB "enumerate",
  freeB "int",
  freeB "isinstance",
  freeB "len",
  freeB "list",
  freeB "min",
  freeB "range",
  freeB "sorted",
  freeB "str",
  freeB "super",
  freeB "tuple",
  gcB "MOST_CELLS" d_MOST_CELLS,
  funB "law",
  funB "_law_pool",
  funB "_law_small",
  funB "_law_pick",
  funB "_law_value",
  funB "array_of",
  funB "is_whole",
  funB "joined_runs",
  funB "_law_is_array",
  funB "_law_array_kind",
  funB "_law_int",
  funB "_law_runs",
  funB "put_cell",
  funB "check_array",
  funB "is_array",
  funB "is_whole_pair",
  funB "check_whole",
  funB "with_cell",
  funB "run_at",
  funB "_law_looks",
  funB "cell_of",
  funB "cell_at",
  funB "runs_of",
  funB "length_of",
  funB "cells_of",
  funB "same_arrays",
  funB "_law_wide",
  funB "_law_length",
  funB "fresh_array",
  funB "_law_wide_runs",
  funB "_law_points",
  funB "from_points",
  funB "_law_point_runs",
  funB "_law_judge",
  funB "_law_refusals",
  funB "_law_refused",
  excB RW.prog.main.file "BadArguments" ["number"],
  (fun K => gloB "BadArguments" K && sl_BadArguments.all fun p => exmB p.1 "BadArguments" p.2 K),
  (fun K => xl_number.all fun y => xfkB y "number" K)]
def fn : List FnM := [⟨fun K => ga K "law", "law", "law", defArgs s_law, defBody s_law, defScope s_law, []⟩,
  ⟨fun K => ga K "_law_pool", "_law_pool", "_law_pool", defArgs s__law_pool, defBody s__law_pool, defScope s__law_pool, []⟩,
  ⟨fun K => ga K "_law_small", "_law_small", "_law_small", defArgs s__law_small, defBody s__law_small, defScope s__law_small, []⟩,
  ⟨fun K => ga K "_law_pick", "_law_pick", "_law_pick", defArgs s__law_pick, defBody s__law_pick, defScope s__law_pick, []⟩,
  ⟨fun K => ga K "_law_value", "_law_value", "_law_value", defArgs s__law_value, defBody s__law_value, defScope s__law_value, []⟩,
  ⟨fun K => ga K "array_of", "array_of", "array_of", defArgs s_array_of, defBody s_array_of, defScope s_array_of, []⟩,
  ⟨fun K => ga K "is_whole", "is_whole", "is_whole", defArgs s_is_whole, defBody s_is_whole, defScope s_is_whole, []⟩,
  ⟨fun K => ga K "joined_runs", "joined_runs", "joined_runs", defArgs s_joined_runs, defBody s_joined_runs, defScope s_joined_runs, []⟩,
  ⟨fun K => ga K "_law_is_array", "_law_is_array", "_law_is_array", defArgs s__law_is_array, defBody s__law_is_array, defScope s__law_is_array, []⟩,
  ⟨fun K => ga K "_law_array_kind", "_law_array_kind", "_law_array_kind", defArgs s__law_array_kind, defBody s__law_array_kind, defScope s__law_array_kind, []⟩,
  ⟨fun K => ga K "_law_int", "_law_int", "_law_int", defArgs s__law_int, defBody s__law_int, defScope s__law_int, []⟩,
  ⟨fun K => ga K "_law_runs", "_law_runs", "_law_runs", defArgs s__law_runs, defBody s__law_runs, defScope s__law_runs, []⟩,
  ⟨fun K => ga K "put_cell", "put_cell", "put_cell", defArgs s_put_cell, defBody s_put_cell, defScope s_put_cell, []⟩,
  ⟨fun K => ga K "check_array", "check_array", "check_array", defArgs s_check_array, defBody s_check_array, defScope s_check_array, []⟩,
  ⟨fun K => ga K "is_array", "is_array", "is_array", defArgs s_is_array, defBody s_is_array, defScope s_is_array, []⟩,
  ⟨fun K => ga K "is_whole_pair", "is_whole_pair", "is_whole_pair", defArgs s_is_whole_pair, defBody s_is_whole_pair, defScope s_is_whole_pair, []⟩,
  ⟨fun K => ga K "check_whole", "check_whole", "check_whole", defArgs s_check_whole, defBody s_check_whole, defScope s_check_whole, []⟩,
  ⟨fun K => ga K "with_cell", "with_cell", "with_cell", defArgs s_with_cell, defBody s_with_cell, defScope s_with_cell, []⟩,
  ⟨fun K => ga K "run_at", "run_at", "run_at", defArgs s_run_at, defBody s_run_at, defScope s_run_at, []⟩,
  ⟨fun K => ga K "_law_looks", "_law_looks", "_law_looks", defArgs s__law_looks, defBody s__law_looks, defScope s__law_looks, []⟩,
  ⟨fun K => ga K "cell_of", "cell_of", "cell_of", defArgs s_cell_of, defBody s_cell_of, defScope s_cell_of, []⟩,
  ⟨fun K => ga K "cell_at", "cell_at", "cell_at", defArgs s_cell_at, defBody s_cell_at, defScope s_cell_at, []⟩,
  ⟨fun K => ga K "runs_of", "runs_of", "runs_of", defArgs s_runs_of, defBody s_runs_of, defScope s_runs_of, []⟩,
  ⟨fun K => ga K "length_of", "length_of", "length_of", defArgs s_length_of, defBody s_length_of, defScope s_length_of, []⟩,
  ⟨fun K => ga K "cells_of", "cells_of", "cells_of", defArgs s_cells_of, defBody s_cells_of, defScope s_cells_of, []⟩,
  ⟨fun K => ga K "same_arrays", "same_arrays", "same_arrays", defArgs s_same_arrays, defBody s_same_arrays, defScope s_same_arrays, []⟩,
  ⟨fun K => ga K "_law_wide", "_law_wide", "_law_wide", defArgs s__law_wide, defBody s__law_wide, defScope s__law_wide, []⟩,
  ⟨fun K => ga K "_law_length", "_law_length", "_law_length", defArgs s__law_length, defBody s__law_length, defScope s__law_length, []⟩,
  ⟨fun K => ga K "fresh_array", "fresh_array", "fresh_array", defArgs s_fresh_array, defBody s_fresh_array, defScope s_fresh_array, []⟩,
  ⟨fun K => ga K "_law_wide_runs", "_law_wide_runs", "_law_wide_runs", defArgs s__law_wide_runs, defBody s__law_wide_runs, defScope s__law_wide_runs, []⟩,
  ⟨fun K => ga K "_law_points", "_law_points", "_law_points", defArgs s__law_points, defBody s__law_points, defScope s__law_points, []⟩,
  ⟨fun K => ga K "from_points", "from_points", "from_points", defArgs s_from_points, defBody s_from_points, defScope s_from_points, []⟩,
  ⟨fun K => ga K "_law_point_runs", "_law_point_runs", "_law_point_runs", defArgs s__law_point_runs, defBody s__law_point_runs, defScope s__law_point_runs, []⟩,
  ⟨fun K => ga K "_law_judge", "_law_judge", "_law_judge", defArgs s__law_judge, defBody s__law_judge, defScope s__law_judge, []⟩,
  ⟨fun K => ga K "_law_refusals", "_law_refusals", "_law_refusals", defArgs s__law_refusals, defBody s__law_refusals, defScope s__law_refusals, []⟩,
  ⟨fun K => ga K "_law_refused", "_law_refused", "_law_refused", defArgs s__law_refused, defBody s__law_refused, defScope s__law_refused, []⟩,
  ⟨iniA "BadArguments", "__init__", "BadArguments.__init__", defArgs s_ini_BadArguments, defBody s_ini_BadArguments, defScope s_ini_BadArguments, ["__class__"]⟩]
abbrev hk : PySem.W.Hook := hookM 6 fa fn
def ob (s : PySem.W.SharedT) : AlM := obsMG 6 fa fn (HandSHeadRun.getT s)
theorem ob_eq (s : PySem.W.SharedT) : ob s = hk.obs s.abs := obsMG_eq (HandSHeadRun.getT_eq s)
def names0 : List PySem.Str := ["ProvedError", "BadArguments", "MOST_CELLS", "is_whole", "is_whole_pair", "is_array", "check_array", "check_whole", "run_at", "cell_at", "with_cell", "joined_runs"]
def names1 : List PySem.Str := ["array_of", "fresh_array", "from_points", "cell_of", "put_cell", "runs_of", "length_of", "cells_of", "same_arrays", "_law_pool", "_law_pick", "_law_int"]
def names2 : List PySem.Str := ["_law_value", "_law_array_kind", "_law_is_array", "_law_runs", "_law_wide_runs", "_law_point_runs", "_law_looks", "_law_small", "_law_length", "_law_wide", "_law_points", "_law_judge"]
def names3 : List PySem.Str := ["_law_refused", "_law_refusals"]
def names : List PySem.Str := names0 ++ names1 ++ names2 ++ names3
theorem run (w : World) : HandSHeadRun.RunEq (PySem.W.OpenLaw.row RW) (PySem.W.view (PySem.W.OpenLaw.row RW).prog [41]) hk ob 6000 names w := by
  intro os
  kernel_rfl
theorem txt {w : World} {K : PySem.W.Frag} {h : Heap} {mg : Str → Option Value} {base : Heap} (X : K.In h) (G : h.Ns mainGlobals mg) (c : SaysM fa fn K) : Txt RW.prog w K mg base :=
  ⟨free_ok X G (c.fact 0),
   free_ok X G (c.fact 1),
   free_ok X G (c.fact 2),
   free_ok X G (c.fact 3),
   free_ok X G (c.fact 4),
   free_ok X G (c.fact 5),
   free_ok X G (c.fact 6),
   free_ok X G (c.fact 7),
   free_ok X G (c.fact 8),
   free_ok X G (c.fact 9),
   free_ok X G (c.fact 10),
   free_ok X G (c.fact 12),
   gc_ok X G (c.fact 13),
   fun_ok X G (c.fact 14) (c.fn_ 0) rfl,
   fun_ok X G (c.fact 15) (c.fn_ 1) rfl,
   fun_ok X G (c.fact 16) (c.fn_ 2) rfl,
   fun_ok X G (c.fact 17) (c.fn_ 3) rfl,
   fun_ok X G (c.fact 18) (c.fn_ 4) rfl,
   fun_ok X G (c.fact 19) (c.fn_ 5) rfl,
   fun_ok X G (c.fact 20) (c.fn_ 6) rfl,
   fun_ok X G (c.fact 21) (c.fn_ 7) rfl,
   fun_ok X G (c.fact 22) (c.fn_ 8) rfl,
   fun_ok X G (c.fact 23) (c.fn_ 9) rfl,
   fun_ok X G (c.fact 24) (c.fn_ 10) rfl,
   fun_ok X G (c.fact 25) (c.fn_ 11) rfl,
   fun_ok X G (c.fact 26) (c.fn_ 12) rfl,
   fun_ok X G (c.fact 27) (c.fn_ 13) rfl,
   fun_ok X G (c.fact 28) (c.fn_ 14) rfl,
   fun_ok X G (c.fact 29) (c.fn_ 15) rfl,
   fun_ok X G (c.fact 30) (c.fn_ 16) rfl,
   fun_ok X G (c.fact 31) (c.fn_ 17) rfl,
   fun_ok X G (c.fact 32) (c.fn_ 18) rfl,
   fun_ok X G (c.fact 33) (c.fn_ 19) rfl,
   fun_ok X G (c.fact 34) (c.fn_ 20) rfl,
   fun_ok X G (c.fact 35) (c.fn_ 21) rfl,
   fun_ok X G (c.fact 36) (c.fn_ 22) rfl,
   fun_ok X G (c.fact 37) (c.fn_ 23) rfl,
   fun_ok X G (c.fact 38) (c.fn_ 24) rfl,
   fun_ok X G (c.fact 39) (c.fn_ 25) rfl,
   fun_ok X G (c.fact 40) (c.fn_ 26) rfl,
   fun_ok X G (c.fact 41) (c.fn_ 27) rfl,
   fun_ok X G (c.fact 42) (c.fn_ 28) rfl,
   fun_ok X G (c.fact 43) (c.fn_ 29) rfl,
   fun_ok X G (c.fact 44) (c.fn_ 30) rfl,
   fun_ok X G (c.fact 45) (c.fn_ 31) rfl,
   fun_ok X G (c.fact 46) (c.fn_ 32) rfl,
   fun_ok X G (c.fact 47) (c.fn_ 33) rfl,
   fun_ok X G (c.fact 48) (c.fn_ 34) rfl,
   fun_ok X G (c.fact 49) (c.fn_ 35) rfl,
   rsb1 (self := "self") (p := "number") X G (c.fact 50) (c.fn_ 36) rfl (c.fact 11) (by kernel_rfl) rfl (fun _ => rfl) (NdefX.nscope_by (by decide +kernel)) rfl ⟨_, rfl, rfl⟩ (by decide) (by decide) (by decide) (by decide) (fun _ _ _ _ _ _ _ us hl => match us, hl with | [_, _], _ => rfl),
   exkB_ok X G (c.fact 51),
   xfkB_ok X G (c.fact 52)⟩
theorem facts {w : World} {K : PySem.W.Frag} {h : Heap} {mg : Str → Option Value} {f : Addr} (X : K.In h) (G : h.Ns mainGlobals mg) (hfa : mg ("law" : Str) = some (.ref f)) (c : SaysM fa fn K) :
    ∃ fd : FuncData, (∀ (s : Shared) (v : Value), BindsTo s fd ⟨[v], []⟩ [(("script" : Str), v)]) ∧ ∀ base : Heap, FnOk RW.prog w K mg base (L2.CX RW.prog w) 8 f fd ["script"] (spM K mg M_law) := by
  obtain ⟨f0, fd, F, hm⟩ := (txt (w := w) (base := h) X G c).d_law.ex
  rw [hfa] at hm
  cases hm
  have b := FunD.bindsA (ps := ["script"]) F fun _ _ _ _ _ _ us hl => match us, hl with | [_], _ => rfl
  exact ⟨fd, fun s v => b s [v] rfl, fun base => Mi.fn_ok F sc_law (b_law (txt X G c))⟩

end K07

namespace K07
open PySem PySem.Spec L2 Mi
theorem last0 {S : Sto} {x : MO} : (S ++ [x])[S.length]? = some x := by simp
inductive Al {α β : Type} (R : α → β → Prop) : List α → List β → Prop where
  | nil : Al R [] []
  | cons {a : α} {b : β} {as : List α} {bs : List β} : R a b → Al R as bs → Al R (a :: as) (b :: bs)
theorem get_app {T X : Sto} {q : Nat} {o : MO} (h : T[q]? = some o) : (T ++ X)[q]? = some o := by
  have : q < T.length := by
    rcases Nat.lt_or_ge q T.length with z | z
    · exact z
    · rw [List.getElem?_eq_none z] at h; cases h
  rw [List.getElem?_append_left this]; exact h
theorem e_ix0 {S : Sto} {i : Nat} {d : D} {r : List D} (h : S[i]? = some (.lst (d :: r))) : fIx (.obj i) (.int 0) S = some (d, S) := e_ixL (k := 0) h rfl
theorem e_ix1 {S : Sto} {i : Nat} {d0 d : D} {r : List D} (h : S[i]? = some (.lst (d0 :: d :: r))) : fIx (.obj i) (.int 1) S = some (d, S) := e_ixL (k := 1) h rfl
theorem e_ix2 {S : Sto} {i : Nat} {d0 d1 d : D} {r : List D} (h : S[i]? = some (.lst (d0 :: d1 :: d :: r))) : fIx (.obj i) (.int 2) S = some (d, S) := e_ixL (k := 2) h rfl
theorem e_t0 {S : Sto} {a : D} {r : List D} : fIx (.tup (a :: r)) (.int 0) S = some (a, S) := e_ixT (k := 0) rfl
theorem e_t1 {S : Sto} {a b : D} {r : List D} : fIx (.tup (a :: b :: r)) (.int 1) S = some (b, S) := e_ixT (k := 1) rfl
theorem e_t2 {S : Sto} {a b c : D} {r : List D} : fIx (.tup (a :: b :: c :: r)) (.int 2) S = some (c, S) := e_ixT (k := 2) rfl
def PoolOk (S : Sto) (j : Nat) : Prop := ∃ ps : List Int, S[j]? = some (.lst (ps.map D.int)) ∧ ∀ p ∈ ps, 0 ≤ p
/-- S' behind S: all but the pool stands -/
structure Stp (j : Nat) (S S' : Sto) : Prop where
  len : S.length ≤ S'.length
  old : ∀ i, i ≠ j → i < S.length → S'[i]? = S[i]?
  pool : PoolOk S' j
theorem Stp.trans {j : Nat} {S S1 S2 : Sto} (a : Stp j S S1) (b : Stp j S1 S2) : Stp j S S2 := ⟨Nat.le_trans a.len b.len, fun i h1 h2 => (b.old i h1 (Nat.lt_of_lt_of_le h2 a.len)).trans (a.old i h1 h2), b.pool⟩
theorem get_lt {S : Sto} {i : Nat} {o : MO} (h : S[i]? = some o) : i < S.length := by
  rcases Nat.lt_or_ge i S.length with z | z
  · exact z
  · rw [List.getElem?_eq_none z] at h; cases h
theorem PoolOk.lt {S : Sto} {j : Nat} (h : PoolOk S j) : j < S.length := by obtain ⟨ps, h1, _⟩ := h; exact get_lt h1
theorem Stp.app {j : Nat} {S X : Sto} (h : PoolOk S j) : Stp j S (S ++ X) := by
  refine ⟨by simp, fun i _ hi => List.getElem?_append_left hi, ?_⟩
  obtain ⟨ps, h1, h2⟩ := h
  exact ⟨ps, get_app h1, h2⟩
theorem Stp.get {j i : Nat} {S S' : Sto} {o : MO} (a : Stp j S S') (h : S[i]? = some o) (hi : i ≠ j) : S'[i]? = some o := by rw [a.old i hi (get_lt h)]; exact h
theorem pick {S : Sto} {j m : Nat} (h : PoolOk S j) (hm : 0 < m) : ∃ (w : Nat) (S' : Sto), M__law_pick [.obj j, .int (m : Int)] S = .ok (nD w) S' ∧ w < m ∧ Stp j S S' ∧ S'.length = S.length := by
  obtain ⟨ps, h1, h2⟩ := h
  unfold M__law_pick mFn B__law_pick
  simp only [List.length_cons, List.length_nil, Nat.reduceAdd, if_true, List.map, List.replicate, List.cons_append, List.nil_append, Nat.reduceSub]
  rcases List.eq_nil_or_concat ps with rfl | ⟨qs, p, rfl⟩
  · refine ⟨0, S, ?_, hm, ⟨Nat.le_refl _, fun _ _ _ => rfl, [], h1, h2⟩, rfl⟩
    have hl : fLen (.obj j) S = some (.int (([] : List D).length : Int), S) := e_lenL h1
    simp only [bind_ok, bind_ex, of_some, rs_ok, rs_ex, then_nx, then_rt, then_ex, then_bk, then_ct, mV0, mVs, mC_, m2_, m1_, mB_, kB_bl, mB1_, mNil_, mCons_, f1L_, f2L_, mTup_, mLst_, mCall_, mNotT_, mAndT_, mOrT_, mIf_, mAndV_, mOrV_, mNotV_, kAndV_bl, kOrV_bl, kNotV_bl, mSl_, mPart_, kPart_, mNoPart_, sSeq_, sSet_, sRet_, sIf_, sExpr_, sNil_, sBreak_, sCont_, e_lt, e_le, e_gt, e_ge, e_eqI, e_neI, e_eqS, e_neS, e_add, e_sub, List.set_cons_zero, List.set_cons_succ, kTu1, kTu2, kTu3, kTu4, kTu5, kLs0, kLs1, kLs2, kLs3, kLs4, kLs5, mM_, mM0_, sAsg_, sFor_, iRng_, iSeq_, hl]
    rfl
  · rw [List.concat_eq_append] at h1 h2
    have hp : 0 ≤ p := h2 p (by simp)
    have hl : fLen (.obj j) S = some (.int (((qs ++ [p]).map D.int).length : Int), S) := e_lenL h1
    have hne : decide ((((qs ++ [p]).map D.int).length : Int) = 0) = false := decide_eq_false (by simp; omega)
    have hpop : fPop (.obj j) [] S = some (.int p, S.set j (.lst (qs.map D.int))) := by
      unfold fPop
      simp only [h1]
      simp
    have hlt := get_lt h1
    have hmod : ∀ S : Sto, fMod (.int p) (.int (m : Int)) S = some (nD (p.toNat % m), S) := fun S => by
      unfold fMod
      dsimp only
      rw [if_pos (by omega)]
      have : p % (m : Int) = ((p.toNat % m : Nat) : Int) := by
        have e : p = (p.toNat : Int) := by omega
        rw [e]; simp
      rw [this]
    have hint : ∀ S : Sto, fInt (.int p) S = some (.int p, S) := fun _ => rfl
    refine ⟨p.toNat % m, S.set j (.lst (qs.map D.int)), ?_, Nat.mod_lt _ hm, ⟨by simp, fun i hi _ => List.getElem?_set_ne (Ne.symm hi), qs, List.getElem?_set_self hlt, fun q hq => h2 q (by simp [hq])⟩, by simp⟩
    simp only [bind_ok, bind_ex, of_some, rs_ok, rs_ex, then_nx, then_rt, then_ex, then_bk, then_ct, mV0, mVs, mC_, m2_, m1_, mB_, kB_bl, mB1_, mNil_, mCons_, f1L_, f2L_, mTup_, mLst_, mCall_, mNotT_, mAndT_, mOrT_, mIf_, mAndV_, mOrV_, mNotV_, kAndV_bl, kOrV_bl, kNotV_bl, mSl_, mPart_, kPart_, mNoPart_, sSeq_, sSet_, sRet_, sIf_, sExpr_, sNil_, sBreak_, sCont_, e_lt, e_le, e_gt, e_ge, e_eqI, e_neI, e_eqS, e_neS, e_add, e_sub, List.set_cons_zero, List.set_cons_succ, kTu1, kTu2, kTu3, kTu4, kTu5, kLs0, kLs1, kLs2, kLs3, kLs4, kLs5, mM_, mM0_, sAsg_, sFor_, iRng_, iSeq_, hl, hne, Bool.false_eq_true, if_false, tyL h1, if_true, hpop, hint, hmod]
    rfl
theorem lst_at {S : Sto} {j : Nat} {ds : List D} (h : S[j]? = some (.lst ds)) : lstAt S j = some ds := by unfold lstAt; rw [h]
theorem stp_refl {j : Nat} {S : Sto} (h : PoolOk S j) : Stp j S S := ⟨Nat.le_refl _, fun _ _ _ => rfl, h⟩
theorem Stp.put {p j : Nat} {S0 S : Sto} {x : MO} (h : Stp p S0 S) (hj : S0.length ≤ j) (hp : p < j) : Stp p S0 (S.set j x) := by
  refine ⟨by rw [List.length_set]; exact h.len, fun i h1 h2 => ?_, ?_⟩
  · rw [List.getElem?_set_ne (by omega)]; exact h.old i h1 h2
  · obtain ⟨ps, h1, h2⟩ := h.pool
    exact ⟨ps, by rw [List.getElem?_set_ne (by omega)]; exact h1, h2⟩
theorem fr_out {lo : Int} {n : Nat} {S : Sto} : (itRng lo n).f n S = some none := by
  show (if n < n then _ else _) = _
  rw [if_neg (by omega)]
theorem get_lt2 {α : Type} {l : List α} {i : Nat} {x : α} (h : l[i]? = some x) : i < l.length := by
  rcases Nat.lt_or_ge i l.length with z | z
  · exact z
  · rw [List.getElem?_eq_none z] at h; cases h
theorem log_small {a : Int} (h : a.natAbs < 2 ^ 100) : a.natAbs.log2 < 400 := by
  by_cases h0 : a.natAbs = 0
  · rw [h0]; decide
  · have := (Nat.log2_lt h0 (k := 100)).mpr h
    omega
theorem e_mul {S : Sto} {a b : Int} (ha : a.natAbs < 2 ^ 100) (hb : b.natAbs < 2 ^ 100) : fMulA (.int a) (.int b) S = some (.int (a * b), S) := by
  show fMul (.int a) (.int b) S = _
  unfold fMul
  dsimp only
  rw [if_pos (by have := log_small ha; have := log_small hb; omega)]
theorem e_mod {S : Sto} {a b : Int} (hb : 0 < b) : fMod (.int a) (.int b) S = some (.int (a % b), S) := by
  unfold fMod; dsimp only; rw [if_pos hb]
theorem e_div {S : Sto} {a b : Int} (hb : 0 < b ∧ b.natAbs.log2 < 9000) : fDiv (.int a) (.int b) S = some (.int (a / b), S) := by
  unfold fDiv; dsimp only; rw [if_pos hb]
theorem e_int {S : Sto} {a : Int} : fInt (.int a) S = some (.int a, S) := (rfl)
def pS (ns : List Int) (ps : List Int) : Sto := [.fix (ns.map D.int), .lst (ps.map D.int)]
theorem pS1 {ns ps : List Int} : (pS ns ps)[1]? = some (.lst (ps.map D.int)) := rfl
theorem pS_app {ns ps : List Int} {p : Int} (h : ps.length < 100000) : fAppend (.obj 1) [.int p] (pS ns ps) = some (.non, pS ns (ps ++ [p])) := by
  rw [e_append pS1 (by rw [List.length_map, sizeLine_eq]; omega)]
  simp [pS]
def B1 : MS := (sIf (mB (m2 fGt (mV 3) (mC (.int 0))))
  (sSeq (sExpr (mM "list" fAppend (mV 1) (mCons (m2 fMod (mB1 (f1L fInt) (mCons (mV 3) mNil)) (mC (.int 30))) mNil)))
  (sSet 3 (m2 fDiv (mV 3) (mC (.int 30)))))
  sNil)
theorem pl1 (ns : List Int) (x0 x2 x5 : Option D) : ∀ (k i n : Nat) (cell : Int) (ps : List Int) (z : Option D), n = i + k → 0 ≤ cell → ps.length + k ≤ 50000 → (∀ p ∈ ps, 0 ≤ p) → ∃ (ps' : List Int) (cell' : Int) (z' : Option D),
    forI (itRng 0 n) (gN 4) B1 k i [x0, some (.obj 1), x2, some (.int cell), z, x5] (pS ns ps) = .nx [x0, some (.obj 1), x2, some (.int cell'), z', x5] (pS ns ps') ∧ (∀ p ∈ ps', 0 ≤ p) ∧ ps'.length ≤ ps.length + k
  | 0, i, n, cell, ps, z, hn, hc, hl, hp => by
    have : n = i := by omega
    subst this
    exact ⟨ps, cell, z, by rw [fr_end], hp, by omega⟩
  | k + 1, i, n, cell, ps, z, hn, hc, hl, hp => by
    by_cases h : 0 < cell
    · have d : decide (0 < cell) = true := decide_eq_true h
      obtain ⟨ps', cell', z', q1, q2, q3⟩ := pl1 ns x0 x2 x5 k (i + 1) n (cell / 30) (ps ++ [cell % 30]) (some (.int (0 + (i : Int)))) (by omega) (by omega) (by simp; omega) (fun p hpm => by
        rcases List.mem_append.mp hpm with hpm | hpm
        · exact hp p hpm
        · rw [List.mem_singleton.mp hpm]; omega)
      refine ⟨ps', cell', z', ?_, q2, by simp at q3; omega⟩
      rw [fr_nx (by omega) (env2 := [x0, some (.obj 1), x2, some (.int (cell / 30)), some (.int (0 + (i : Int))), x5]) (S2 := pS ns (ps ++ [cell % 30])) ?_, q1]
      unfold B1
      simp only [bind_ok, bind_ex, of_some, rs_ok, rs_ex, then_nx, then_rt, then_ex, then_bk, then_ct, mV0, mVs, mC_, m2_, m1_, mB_, kB_bl, mB1_, mNil_, mCons_, f1L_, f2L_, mTup_, mLst_, mCall_, mNotT_, mAndT_, mOrT_, mIf_, mAndV_, mOrV_, mNotV_, kAndV_bl, kOrV_bl, kNotV_bl, mSl_, mPart_, kPart_, mNoPart_, sSeq_, sSet_, sRet_, sIf_, sExpr_, sNil_, sBreak_, sCont_, e_lt, e_le, e_gt, e_ge, e_eqI, e_neI, e_eqS, e_neS, e_add, e_sub, List.set_cons_zero, List.set_cons_succ, kTu1, kTu2, kTu3, kTu4, kTu5, kLs0, kLs1, kLs2, kLs3, kLs4, kLs5, mM_, mM0_, sAsg_, sFor_, iRng_, iSeq_, d, if_true, tyL pS1, e_int, e_mod (show (0 : Int) < 30 by decide), pS_app (show ps.length < 100000 by omega), e_div (show (0 : Int) < 30 ∧ (30 : Int).natAbs.log2 < 9000 by decide)]
    · have d : decide (0 < cell) = false := decide_eq_false h
      obtain ⟨ps', cell', z', q1, q2, q3⟩ := pl1 ns x0 x2 x5 k (i + 1) n cell ps (some (.int (0 + (i : Int)))) (by omega) hc (by omega) hp
      refine ⟨ps', cell', z', ?_, q2, by omega⟩
      rw [fr_nx (by omega) (env2 := [x0, some (.obj 1), x2, some (.int cell), some (.int (0 + (i : Int))), x5]) (S2 := pS ns ps) ?_, q1]
      unfold B1
      simp only [bind_ok, bind_ex, of_some, rs_ok, rs_ex, then_nx, then_rt, then_ex, then_bk, then_ct, mV0, mVs, mC_, m2_, m1_, mB_, kB_bl, mB1_, mNil_, mCons_, f1L_, f2L_, mTup_, mLst_, mCall_, mNotT_, mAndT_, mOrT_, mIf_, mAndV_, mOrV_, mNotV_, kAndV_bl, kOrV_bl, kNotV_bl, mSl_, mPart_, kPart_, mNoPart_, sSeq_, sSet_, sRet_, sIf_, sExpr_, sNil_, sBreak_, sCont_, e_lt, e_le, e_gt, e_ge, e_eqI, e_neI, e_eqS, e_neS, e_add, e_sub, List.set_cons_zero, List.set_cons_succ, kTu1, kTu2, kTu3, kTu4, kTu5, kLs0, kLs1, kLs2, kLs3, kLs4, kLs5, mM_, mM0_, sAsg_, sFor_, iRng_, iSeq_, d, Bool.false_eq_true, if_false]
def B2 : MS := (sSeq (sSet 5 (m2 fMod (mB1 (f1L fInt) (mCons (m2 fAdd (m2 fAdd (m2 fAdd (m2 fMulA (mV 5) (mV 5)) (m2 fMulA (mV 4) (mC (.int 7919)))) (mV 2)) (mC (.int 11))) mNil)) (mC (.int 998244353))))
  (sExpr (mM "list" fAppend (mV 1) (mCons (m2 fDiv (mV 5) (mC (.int 13))) mNil))))
theorem pl2 (ns : List Int) (x0 x3 : Option D) (pl : Int) (hpl : 0 ≤ pl ∧ pl < 1000) : ∀ (k i n : Nat) (mx : Int) (ps : List Int) (z : Option D), n = i + k → n ≤ 1000 → 0 ≤ mx ∧ mx < 2000000000 → ps.length + k ≤ 50000 → (∀ p ∈ ps, 0 ≤ p) → ∃ (ps' : List Int) (mx' : Int) (z' : Option D),
    forI (itRng 0 n) (gN 4) B2 k i [x0, some (.obj 1), some (.int pl), x3, z, some (.int mx)] (pS ns ps) = .nx [x0, some (.obj 1), some (.int pl), x3, z', some (.int mx')] (pS ns ps') ∧ (∀ p ∈ ps', 0 ≤ p) ∧ ps'.length ≤ ps.length + k
  | 0, i, n, mx, ps, z, hn, h1, hm, hl, hp => by
    have : n = i := by omega
    subst this
    exact ⟨ps, mx, z, by rw [fr_end], hp, by omega⟩
  | k + 1, i, n, mx, ps, z, hn, h1, hm, hl, hp => by
    generalize hM : (mx * mx + (0 + (i : Int)) * 7919 + pl + 11) % 998244353 = M
    have hM1 : 0 ≤ M ∧ M < 998244353 := by omega
    obtain ⟨ps', mx', z', q1, q2, q3⟩ := pl2 ns x0 x3 pl hpl k (i + 1) n M (ps ++ [M / 13]) (some (.int (0 + (i : Int)))) (by omega) h1 (by omega) (by simp; omega) (fun p hpm => by
      rcases List.mem_append.mp hpm with hpm | hpm
      · exact hp p hpm
      · rw [List.mem_singleton.mp hpm]; omega)
    refine ⟨ps', mx', z', ?_, q2, by simp at q3; omega⟩
    have b1 : mx.natAbs < 2 ^ 100 := by have : (2 : Nat) ^ 100 = 1267650600228229401496703205376 := by decide
                                        omega
    have b2 : (0 + (i : Int)).natAbs < 2 ^ 100 := by have : (2 : Nat) ^ 100 = 1267650600228229401496703205376 := by decide
                                                     omega
    rw [fr_nx (by omega) (env2 := [x0, some (.obj 1), some (.int pl), x3, some (.int (0 + (i : Int))), some (.int M)]) (S2 := pS ns (ps ++ [M / 13])) ?_, q1]
    unfold B2
    simp only [bind_ok, bind_ex, of_some, rs_ok, rs_ex, then_nx, then_rt, then_ex, then_bk, then_ct, mV0, mVs, mC_, m2_, m1_, mB_, kB_bl, mB1_, mNil_, mCons_, f1L_, f2L_, mTup_, mLst_, mCall_, mNotT_, mAndT_, mOrT_, mIf_, mAndV_, mOrV_, mNotV_, kAndV_bl, kOrV_bl, kNotV_bl, mSl_, mPart_, kPart_, mNoPart_, sSeq_, sSet_, sRet_, sIf_, sExpr_, sNil_, sBreak_, sCont_, e_lt, e_le, e_gt, e_ge, e_eqI, e_neI, e_eqS, e_neS, e_add, e_sub, List.set_cons_zero, List.set_cons_succ, kTu1, kTu2, kTu3, kTu4, kTu5, kLs0, kLs1, kLs2, kLs3, kLs4, kLs5, mM_, mM0_, sAsg_, sFor_, iRng_, iSeq_, e_mul b1 b1, e_mul b2 (show (7919 : Int).natAbs < 2 ^ 100 by decide), e_int, e_mod (show (0 : Int) < 998244353 by decide), hM, tyL pS1, if_true, pS_app (show ps.length < 100000 by omega), e_div (show (0 : Int) < 13 ∧ (13 : Int).natAbs.log2 < 9000 by decide)]
def B0 : MS := (sSeq (sSet 3 (mB1 (f1L fInt) (mCons (m2 fIx (mV 0) (mV 2)) mNil)))
  (sSeq (sIf (mB (m2 fLt (mV 3) (mC (.int 0))))
  (sSet 3 (m2 fSub (mC (.int 3)) (mV 3)))
  sNil)
  (sIf (mB (m2 fGe (mV 3) (m2 fPow (mC (.int 10)) (mC (.int 18)))))
  (sFor (iRng (mCons (mC (.int 48)) mNil)) (gN 4) B1)
  (sSeq (sSet 5 (m2 fMod (mB1 (f1L fInt) (mCons (m2 fAdd (m2 fAdd (m2 fMulA (mV 3) (mC (.int 50021))) (m2 fMulA (mV 2) (mC (.int 30011)))) (mC (.int 17))) mNil)) (mC (.int 1000000007))))
  (sFor (iRng (mCons (mC (.int 5)) mNil)) (gN 4) B2)))))
theorem e_pow {S : Sto} : fPow (.int 10) (.int 18) S = some (.int 1000000000000000000, S) := by
  unfold fPow
  dsimp only
  rw [if_pos (by decide)]
  rfl
theorem pool_step (ns : List Int) (i : Nat) (hi : i < ns.length) (hi2 : i < 63) (x3 x4 x5 : Option D) (ps : List Int) (hl : ps.length ≤ 40000) (hp : ∀ p ∈ ps, 0 ≤ p) : ∃ (ps' : List Int) (y3 y4 y5 : Option D),
    B0 [some (.obj 0), some (.obj 1), some (.int (0 + (i : Int))), x3, x4, x5] (pS ns ps) = .nx [some (.obj 0), some (.obj 1), some (.int (0 + (i : Int))), y3, y4, y5] (pS ns ps') ∧ (∀ p ∈ ps', 0 ≤ p) ∧ ps'.length ≤ ps.length + 48 := by
  have hix : fIx (.obj 0) (.int (0 + (i : Int))) (pS ns ps) = some (.int ns[i], pS ns ps) := by
    rw [Int.zero_add]
    unfold fIx lstAt
    show (some (ns.map D.int)).bind _ = _
    show Option.map _ (atI (ns.map D.int) (i : Int)) = _
    unfold atI
    rw [ixN_nat (by simpa using hi)]
    simp [hi]
  have en : ∀ n : Nat, (itRng 0 n).n = n := fun _ => (rfl)
  have r48 : kRngI [.int 48] (pS ns ps) = .ok (itRng 0 48) (pS ns ps) := kRng1 (by decide)
  have r5 : kRngI [.int 5] (pS ns ps) = .ok (itRng 0 5) (pS ns ps) := kRng1 (by decide)
  -- from the cell on
  have rest : ∀ cell : Int, 0 ≤ cell → ∃ (ps' : List Int) (y3 y4 y5 : Option D),
      (sIf (mB (m2 fGe (mV 3) (m2 fPow (mC (.int 10)) (mC (.int 18)))))
  (sFor (iRng (mCons (mC (.int 48)) mNil)) (gN 4) B1)
  (sSeq (sSet 5 (m2 fMod (mB1 (f1L fInt) (mCons (m2 fAdd (m2 fAdd (m2 fMulA (mV 3) (mC (.int 50021))) (m2 fMulA (mV 2) (mC (.int 30011)))) (mC (.int 17))) mNil)) (mC (.int 1000000007))))
  (sFor (iRng (mCons (mC (.int 5)) mNil)) (gN 4) B2))) [some (.obj 0), some (.obj 1), some (.int (0 + (i : Int))), some (.int cell), x4, x5] (pS ns ps) = .nx [some (.obj 0), some (.obj 1), some (.int (0 + (i : Int))), y3, y4, y5] (pS ns ps') ∧ (∀ p ∈ ps', 0 ≤ p) ∧ ps'.length ≤ ps.length + 48 := fun cell hc => by
    by_cases h : 1000000000000000000 ≤ cell
    · have d : decide ((1000000000000000000 : Int) ≤ cell) = true := decide_eq_true h
      obtain ⟨ps', cell', z', q1, q2, q3⟩ := pl1 ns (some (.obj 0)) (some (.int (0 + (i : Int)))) x5 48 0 48 cell ps x4 (by omega) hc (by omega) hp
      refine ⟨ps', some (.int cell'), z', x5, ?_, q2, q3⟩
      simp only [bind_ok, bind_ex, of_some, rs_ok, rs_ex, then_nx, then_rt, then_ex, then_bk, then_ct, mV0, mVs, mC_, m2_, m1_, mB_, kB_bl, mB1_, mNil_, mCons_, f1L_, f2L_, mTup_, mLst_, mCall_, mNotT_, mAndT_, mOrT_, mIf_, mAndV_, mOrV_, mNotV_, kAndV_bl, kOrV_bl, kNotV_bl, mSl_, mPart_, kPart_, mNoPart_, sSeq_, sSet_, sRet_, sIf_, sExpr_, sNil_, sBreak_, sCont_, e_lt, e_le, e_gt, e_ge, e_eqI, e_neI, e_eqS, e_neS, e_add, e_sub, List.set_cons_zero, List.set_cons_succ, kTu1, kTu2, kTu3, kTu4, kTu5, kLs0, kLs1, kLs2, kLs3, kLs4, kLs5, mM_, mM0_, sAsg_, sFor_, iRng_, iSeq_, e_pow, d, if_true, r48, en, q1]
    · have d : decide ((1000000000000000000 : Int) ≤ cell) = false := decide_eq_false h
      have b1 : cell.natAbs < 2 ^ 100 := by have : (2 : Nat) ^ 100 = 1267650600228229401496703205376 := by decide
                                            omega
      have b2 : (0 + (i : Int)).natAbs < 2 ^ 100 := by have : (2 : Nat) ^ 100 = 1267650600228229401496703205376 := by decide
                                                       omega
      generalize hM : (cell * 50021 + (0 + (i : Int)) * 30011 + 17) % 1000000007 = M
      have hM1 : 0 ≤ M ∧ M < 2000000000 := by omega
      obtain ⟨ps', mx', z', q1, q2, q3⟩ := pl2 ns (some (.obj 0)) (some (.int cell)) (0 + (i : Int)) (by omega) 5 0 5 M ps x4 (by omega) (by omega) hM1 (by omega) hp
      refine ⟨ps', some (.int cell), z', some (.int mx'), ?_, q2, by omega⟩
      simp only [bind_ok, bind_ex, of_some, rs_ok, rs_ex, then_nx, then_rt, then_ex, then_bk, then_ct, mV0, mVs, mC_, m2_, m1_, mB_, kB_bl, mB1_, mNil_, mCons_, f1L_, f2L_, mTup_, mLst_, mCall_, mNotT_, mAndT_, mOrT_, mIf_, mAndV_, mOrV_, mNotV_, kAndV_bl, kOrV_bl, kNotV_bl, mSl_, mPart_, kPart_, mNoPart_, sSeq_, sSet_, sRet_, sIf_, sExpr_, sNil_, sBreak_, sCont_, e_lt, e_le, e_gt, e_ge, e_eqI, e_neI, e_eqS, e_neS, e_add, e_sub, List.set_cons_zero, List.set_cons_succ, kTu1, kTu2, kTu3, kTu4, kTu5, kLs0, kLs1, kLs2, kLs3, kLs4, kLs5, mM_, mM0_, sAsg_, sFor_, iRng_, iSeq_, e_pow, d, Bool.false_eq_true, if_false, e_mul b1 (show (50021 : Int).natAbs < 2 ^ 100 by decide), e_mul b2 (show (30011 : Int).natAbs < 2 ^ 100 by decide), e_int, e_mod (show (0 : Int) < 1000000007 by decide), hM, r5, en, q1]
  by_cases hneg : ns[i] < 0
  · have d : decide (ns[i] < 0) = true := decide_eq_true hneg
    obtain ⟨ps', y3, y4, y5, q1, q2, q3⟩ := rest (3 - ns[i]) (by omega)
    refine ⟨ps', y3, y4, y5, ?_, q2, q3⟩
    rw [← q1]
    unfold B0
    simp only [bind_ok, bind_ex, of_some, rs_ok, rs_ex, then_nx, then_rt, then_ex, then_bk, then_ct, mV0, mVs, mC_, m2_, m1_, mB_, kB_bl, mB1_, mNil_, mCons_, f1L_, f2L_, mTup_, mLst_, mCall_, mNotT_, mAndT_, mOrT_, mIf_, mAndV_, mOrV_, mNotV_, kAndV_bl, kOrV_bl, kNotV_bl, mSl_, mPart_, kPart_, mNoPart_, sSeq_, sSet_, sRet_, sIf_, sExpr_, sNil_, sBreak_, sCont_, e_lt, e_le, e_gt, e_ge, e_eqI, e_neI, e_eqS, e_neS, e_add, e_sub, List.set_cons_zero, List.set_cons_succ, kTu1, kTu2, kTu3, kTu4, kTu5, kLs0, kLs1, kLs2, kLs3, kLs4, kLs5, mM_, mM0_, sAsg_, sFor_, iRng_, iSeq_, hix, e_int, d, if_true]
  · have d : decide (ns[i] < 0) = false := decide_eq_false hneg
    obtain ⟨ps', y3, y4, y5, q1, q2, q3⟩ := rest ns[i] (by omega)
    refine ⟨ps', y3, y4, y5, ?_, q2, q3⟩
    rw [← q1]
    unfold B0
    simp only [bind_ok, bind_ex, of_some, rs_ok, rs_ex, then_nx, then_rt, then_ex, then_bk, then_ct, mV0, mVs, mC_, m2_, m1_, mB_, kB_bl, mB1_, mNil_, mCons_, f1L_, f2L_, mTup_, mLst_, mCall_, mNotT_, mAndT_, mOrT_, mIf_, mAndV_, mOrV_, mNotV_, kAndV_bl, kOrV_bl, kNotV_bl, mSl_, mPart_, kPart_, mNoPart_, sSeq_, sSet_, sRet_, sIf_, sExpr_, sNil_, sBreak_, sCont_, e_lt, e_le, e_gt, e_ge, e_eqI, e_neI, e_eqS, e_neS, e_add, e_sub, List.set_cons_zero, List.set_cons_succ, kTu1, kTu2, kTu3, kTu4, kTu5, kLs0, kLs1, kLs2, kLs3, kLs4, kLs5, mM_, mM0_, sAsg_, sFor_, iRng_, iSeq_, hix, e_int, d, Bool.false_eq_true, if_false]
theorem pool_loop (ns : List Int) : ∀ (k i n : Nat) (ps : List Int) (x2 x3 x4 x5 : Option D), n = i + k → n ≤ ns.length → n ≤ 63 → ps.length ≤ 48 * i → (∀ p ∈ ps, 0 ≤ p) → ∃ (ps' : List Int) (y2 y3 y4 y5 : Option D),
    forI (itRng 0 n) (gN 2) B0 k i [some (.obj 0), some (.obj 1), x2, x3, x4, x5] (pS ns ps) = .nx [some (.obj 0), some (.obj 1), y2, y3, y4, y5] (pS ns ps') ∧ (∀ p ∈ ps', 0 ≤ p)
  | 0, i, n, ps, x2, x3, x4, x5, hn, h1, h2, hl, hp => by
    have : n = i := by omega
    subst this
    exact ⟨ps, x2, x3, x4, x5, by rw [fr_end], hp⟩
  | k + 1, i, n, ps, x2, x3, x4, x5, hn, h1, h2, hl, hp => by
    obtain ⟨ps1, y3, y4, y5, q1, q2, q3⟩ := pool_step ns i (by omega) (by omega) x3 x4 x5 ps (by omega) hp
    obtain ⟨ps', z2, z3, z4, z5, r1, r2⟩ := pool_loop ns k (i + 1) n ps1 (some (.int (0 + (i : Int)))) y3 y4 y5 (by omega) h1 h2 (by omega) q2
    refine ⟨ps', z2, z3, z4, z5, ?_, r2⟩
    rw [fr_nx (by omega) q1, r1]
theorem pool (ns : List Int) (hn : ns.length ≤ 63) : ∃ S' : Sto, M__law_pool [.obj 0] (script0 ns) = .ok (.obj 1) S' ∧ PoolOk S' 1 := by
  have en : ∀ n : Nat, (itRng 0 n).n = n := fun _ => (rfl)
  have hlen : ∀ S : Sto, fLen (.obj 0) (.fix (ns.map D.int) :: S) = some (.int (ns.length : Int), .fix (ns.map D.int) :: S) := fun S => by
    show some (D.int ((ns.map D.int).length : Int), _) = _
    rw [List.length_map]
  have hmin : ∀ S : Sto, fMin2 (.int (ns.length : Int)) (.int 63) S = some (.int (ns.length : Int), S) := fun S => by
    show some (D.int (if (63 : Int) < (ns.length : Int) then 63 else (ns.length : Int)), S) = _
    rw [if_neg (by omega)]
  have hr : ∀ S : Sto, kRngI [.int (ns.length : Int)] S = .ok (itRng 0 ns.length) S := fun S => by
    rw [kRng1 (by omega), Int.toNat_natCast]
  obtain ⟨ps, y2, y3, y4, y5, q1, q2⟩ := pool_loop ns ns.length 0 ns.length [] none none none none (by omega) (Nat.le_refl _) hn (by simp) (fun p h => by cases h)
  have e0 : pS ns [] = [.fix (ns.map D.int), .lst []] := rfl
  rw [e0] at q1
  have hrev : fReverse (.obj 1) [] (pS ns ps) = some (.non, pS ns ps.reverse) := by
    unfold fReverse
    simp only [pS1]
    simp [pS]
  refine ⟨pS ns ps.reverse, ?_, ps.reverse, rfl, fun p hp => q2 p (List.mem_reverse.mp hp)⟩
  unfold script0 M__law_pool mFn B__law_pool
  unfold B0 B1 B2 at q1
  simp only [List.length_cons, List.length_nil, Nat.reduceAdd, if_true, List.map_cons, List.map_nil, List.replicate, List.cons_append, List.nil_append, Nat.reduceSub]
  simp only [bind_ok, bind_ex, of_some, rs_ok, rs_ex, then_nx, then_rt, then_ex, then_bk, then_ct, mV0, mVs, mC_, m2_, m1_, mB_, kB_bl, mB1_, mNil_, mCons_, f1L_, f2L_, mTup_, mLst_, mCall_, mNotT_, mAndT_, mOrT_, mIf_, mAndV_, mOrV_, mNotV_, kAndV_bl, kOrV_bl, kNotV_bl, mSl_, mPart_, kPart_, mNoPart_, sSeq_, sSet_, sRet_, sIf_, sExpr_, sNil_, sBreak_, sCont_, e_lt, e_le, e_gt, e_ge, e_eqI, e_neI, e_eqS, e_neS, e_add, e_sub, List.set_cons_zero, List.set_cons_succ, kTu1, kTu2, kTu3, kTu4, kTu5, kLs0, kLs1, kLs2, kLs3, kLs4, kLs5, mM_, mM0_, sAsg_, sFor_, iRng_, iSeq_, List.cons_append, List.nil_append, hlen, hmin, hr, en, q1, tyL pS1, if_true, hrev, List.length_cons, List.length_nil]
  rfl
theorem mLc_ {a : MI} {g : MG} {t : MT} {e : ME} {vs : List Nat} {env : Mi.Env} {S : Sto} : mLc a g t e vs env S = (a env S).bind (kLc g t e vs env) := (rfl)
theorem lcI_end {it : MIt} {g : MG} {t : MT} {e : ME} {j k i : Nat} {env : Mi.Env} {S : Sto} (h : it.f i S = some none) : lcI it g t e j k i env S = .ok (.obj j) S := by
  cases k <;> (unfold lcI; simp only [h])
theorem lcI_nx {it : MIt} {e : ME} {j k i v : Nat} {env : Mi.Env} {S S3 : Sto} {d y : D} {acc : List D} (h : it.f i S = some (some d)) (he : e (env.set v (some d)) S = .ok y S3) (h3 : S3[j]? = some (.lst acc)) (hl : acc.length < sizeLine) :
    lcI it (gN v) tAll e j (k + 1) i env S = lcI it (gN v) tAll e j k (i + 1) env (S3.set j (.lst (acc ++ [y]))) := by
  rw [lcI]
  simp only [h, gN, tAll, noEx, bind_ok, if_true, he, h3, if_pos hl]
section
variable {it : MIt} {e : ME} {v : Nat} {vs : List Nat} {env : Mi.Env} {S : Sto} {ds : List D} {f : D → D}
theorem lc_loop (h1 : ∀ acc i d, ds[i]? = some d → it.f i (S ++ [.lst acc]) = some (some d)) (h2 : ∀ acc, it.f ds.length (S ++ [.lst acc]) = some none)
    (hf : ∀ acc d, d ∈ ds → e (env.set v (some d)) (S ++ [.lst acc]) = .ok (f d) (S ++ [.lst acc])) (hl : ds.length ≤ sizeLine) : ∀ (suf pre : List D), ds = pre ++ suf → lcI it (gN v) tAll e S.length suf.length pre.length env (S ++ [.lst (pre.map f)]) = .ok (.obj S.length) (S ++ [.lst (ds.map f)])
  | [], pre, he => by
    rw [List.append_nil] at he
    subst he
    exact lcI_end (h2 _)
  | d :: suf, pre, he => by
    have hg : ds[pre.length]? = some d := by rw [he]; simp
    have hm : d ∈ ds := by rw [he]; simp
    have hlen : ds.length = pre.length + (suf.length + 1) := by rw [he]; simp
    rw [show (d :: suf).length = suf.length + 1 from rfl, lcI_nx (h1 _ _ _ hg) (hf _ _ hm) last0 (by rw [List.length_map]; omega)]
    have := lc_loop h1 h2 hf hl suf (pre ++ [d]) (by rw [he]; simp)
    rw [List.length_append] at this
    rw [show (S ++ [MO.lst (pre.map f)]).set S.length (.lst (pre.map f ++ [f d])) = S ++ [.lst ((pre ++ [d]).map f)] by rw [sa0]; simp]
    exact this
theorem lc_pure (h1 : ∀ acc i d, ds[i]? = some d → it.f i (S ++ [.lst acc]) = some (some d)) (h2 : ∀ acc, it.f ds.length (S ++ [.lst acc]) = some none) (hn : it.n = ds.length)
    (hf : ∀ acc d, d ∈ ds → e ((wipeE env vs).set v (some d)) (S ++ [.lst acc]) = .ok (f d) (S ++ [.lst acc])) (hl : ds.length ≤ sizeLine) : kLc (gN v) tAll e vs env it S = .ok (.obj S.length) (S ++ [.lst (ds.map f)]) := by
  unfold kLc
  rw [hn]
  have := lc_loop (env := wipeE env vs) h1 h2 hf hl ds [] rfl
  exact this
/-- over a tuple -/
theorem lc_fix (hf : ∀ acc d, d ∈ ds → e ((wipeE env vs).set v (some d)) (S ++ [.lst acc]) = .ok (f d) (S ++ [.lst acc])) (hl : ds.length ≤ sizeLine) : kLc (gN v) tAll e vs env (itFix ds) S = .ok (.obj S.length) (S ++ [.lst (ds.map f)]) :=
  lc_pure (fun acc i d h => by show some (ds[i]?) = _; rw [h]) (fun acc => by show some (ds[ds.length]?) = _; simp) rfl hf hl
/-- over a list of the store -/
theorem lc_lst {j : Nat} (hj : S[j]? = some (.lst ds)) (hf : ∀ acc d, d ∈ ds → e ((wipeE env vs).set v (some d)) (S ++ [.lst acc]) = .ok (f d) (S ++ [.lst acc])) (hl : ds.length ≤ sizeLine) : kLc (gN v) tAll e vs env (itLst ds.length j) S = .ok (.obj S.length) (S ++ [.lst (ds.map f)]) :=
  lc_pure (fun acc i d h => fl_at (get_app hj) h) (fun acc => by
    show (lstAt (S ++ [.lst acc]) j).map _ = some none
    unfold lstAt
    rw [get_app hj]; simp) rfl hf hl
end
def rng (b n : Nat) : List Nat := (List.range n).map (b + ·)
theorem rng_succ (b n : Nat) : rng b (n + 1) = rng b n ++ [b + n] := by unfold rng; rw [List.range_succ, List.map_append]; rfl
theorem rng_len (b n : Nat) : (rng b n).length = n := by unfold rng; simp
theorem rng_get {b n i : Nat} (h : i < n) : (rng b n)[i]? = some (b + i) := by
  unfold rng; rw [List.getElem?_map, List.getElem?_range h]; rfl
section
variable {it : MIt} {e : ME} {v : Nat} {vs : List Nat} {env : Mi.Env} {S : Sto} {ds : List D} {qs : List (List D)}
theorem lcr_loop (h1 : ∀ (acc : List D) (T : Sto) (i : Nat) (d : D), ds[i]? = some d → it.f i (S ++ .lst acc :: T) = some (some d)) (h2 : ∀ (acc : List D) (T : Sto), it.f ds.length (S ++ .lst acc :: T) = some none) (hq : qs.length = ds.length)
    (hf : ∀ (acc : List D) (T : Sto) (i : Nat) (d : D) (q : List D), ds[i]? = some d → qs[i]? = some q → e (env.set v (some d)) (S ++ MO.lst acc :: T) = .ok (.obj (S ++ MO.lst acc :: T).length) ((S ++ MO.lst acc :: T) ++ [.lst q])) (hl : ds.length ≤ sizeLine) : ∀ (k i : Nat), ds.length = i + k →
    lcI it (gN v) tAll e S.length k i env (S ++ .lst ((rng (S.length + 1) i).map D.obj) :: (qs.take i).map MO.lst) = .ok (.obj S.length) (S ++ .lst ((rng (S.length + 1) ds.length).map D.obj) :: qs.map MO.lst)
  | 0, i, he => by
    have : i = ds.length := by omega
    subst this
    rw [List.take_of_length_le (by omega)]
    exact lcI_end (h2 _ _)
  | k + 1, i, he => by
    have hi : i < ds.length := by omega
    obtain ⟨d, hd⟩ : ∃ d, ds[i]? = some d := ⟨_, List.getElem?_eq_getElem hi⟩
    obtain ⟨q, hqi⟩ : ∃ q, qs[i]? = some q := ⟨_, List.getElem?_eq_getElem (by omega)⟩
    have h := hf ((rng (S.length + 1) i).map D.obj) ((qs.take i).map MO.lst) i d q hd hqi
    have eS : (S ++ MO.lst ((rng (S.length + 1) i).map D.obj) :: (qs.take i).map MO.lst) ++ [.lst q] = S ++ MO.lst ((rng (S.length + 1) i).map D.obj) :: (qs.take (i + 1)).map MO.lst := by
      rw [List.take_add_one, hqi]; simp
    have eL : (S ++ MO.lst ((rng (S.length + 1) i).map D.obj) :: (qs.take i).map MO.lst).length = S.length + 1 + i := by
      simp only [List.length_append, List.length_cons, List.length_map, List.length_take]; omega
    rw [eS, eL] at h
    rw [lcI_nx (h1 _ _ _ _ hd) h ga0 (by rw [List.length_map, rng_len]; omega), sa0]
    have := lcr_loop h1 h2 hq hf hl k (i + 1) (by omega)
    rw [rng_succ, List.map_append] at this
    exact this
theorem lcr (h1 : ∀ (acc : List D) (T : Sto) (i : Nat) (d : D), ds[i]? = some d → it.f i (S ++ .lst acc :: T) = some (some d)) (h2 : ∀ (acc : List D) (T : Sto), it.f ds.length (S ++ .lst acc :: T) = some none) (hn : it.n = ds.length) (hq : qs.length = ds.length)
    (hf : ∀ (acc : List D) (T : Sto) (i : Nat) (d : D) (q : List D), ds[i]? = some d → qs[i]? = some q → e ((wipeE env vs).set v (some d)) (S ++ MO.lst acc :: T) = .ok (.obj (S ++ MO.lst acc :: T).length) ((S ++ MO.lst acc :: T) ++ [.lst q])) (hl : ds.length ≤ sizeLine) :
    kLc (gN v) tAll e vs env it S = .ok (.obj S.length) (S ++ .lst ((rng (S.length + 1) ds.length).map D.obj) :: qs.map MO.lst) := by
  unfold kLc
  rw [hn]
  exact lcr_loop (env := wipeE env vs) h1 h2 hq hf hl ds.length 0 (by omega)
theorem lcr_lst {j : Nat} (hj : S[j]? = some (.lst ds)) (hq : qs.length = ds.length)
    (hf : ∀ (acc : List D) (T : Sto) (i : Nat) (d : D) (q : List D), ds[i]? = some d → qs[i]? = some q → e ((wipeE env vs).set v (some d)) (S ++ MO.lst acc :: T) = .ok (.obj (S ++ MO.lst acc :: T).length) ((S ++ MO.lst acc :: T) ++ [.lst q])) (hl : ds.length ≤ sizeLine) :
    kLc (gN v) tAll e vs env (itLst ds.length j) S = .ok (.obj S.length) (S ++ .lst ((rng (S.length + 1) ds.length).map D.obj) :: qs.map MO.lst) :=
  lcr (fun acc T i d h => fl_at (get_app hj) h) (fun acc T => by
    show (lstAt (S ++ .lst acc :: T) j).map _ = some none
    unfold lstAt
    rw [get_app hj]; simp) rfl hq hf hl
end
/-- the rows made -/
theorem rows_get {S : Sto} {x : MO} {qs : List (List D)} {i : Nat} {q : List D} (h : qs[i]? = some q) : (S ++ x :: qs.map MO.lst)[S.length + 1 + i]? = some (.lst q) := by
  rw [List.getElem?_append_right (by omega), show S.length + 1 + i - S.length = i + 1 by omega, List.getElem?_cons_succ, List.getElem?_map, h]; rfl
end K07

namespace K07
open PySem PySem.Spec L2 Mi
/-! ### arrays as data -/
abbrev Row := List (Int × Int)
def prD (p : Int × Int) : D := .tup [.int p.1, .int p.2]
def rwD (r : Row) : D := .tup (r.map prD)
def aD (n : Int) (r : Row) : D := .tup [.int n, rwD r]
def prP (p : Int × Int) : PyData := .tuple [.int p.1, .int p.2]
theorem eqv_int (a b : Int) : PyData.eqv (.int a) (.int b) = decide (a = b) := by
  unfold PyData.eqv
  by_cases h : a = b
  · subst h; simp
  · simp [h]
theorem eqv_map {α : Type} [DecidableEq α] {f : α → PyData} (h : ∀ x y, PyData.eqv (f x) (f y) = decide (x = y)) : ∀ xs ys : List α, PyData.eqvAll (xs.map f) (ys.map f) = decide (xs = ys)
  | [], [] => by simp [PyData.eqvAll]
  | [], _ :: _ => by simp [PyData.eqvAll]
  | _ :: _, [] => by simp [PyData.eqvAll]
  | x :: xs, y :: ys => by
    show PyData.eqvAll (f x :: xs.map f) (f y :: ys.map f) = _
    unfold PyData.eqvAll
    rw [h, eqv_map h xs ys]
    by_cases h1 : x = y
    · subst h1; simp
    · simp [h1]
theorem eqv_tup (a b : List PyData) : PyData.eqv (.tuple a) (.tuple b) = PyData.eqvAll a b := by
  rw [PyData.eqv]
theorem eqv_pr (p q : Int × Int) : PyData.eqv (prP p) (prP q) = decide (p = q) := by
  obtain ⟨a, b⟩ := p
  obtain ⟨c, d⟩ := q
  show PyData.eqv (.tuple [.int a, .int b]) (.tuple [.int c, .int d]) = _
  rw [eqv_tup]
  have := eqv_map eqv_int [a, b] [c, d]
  rw [show [PyData.int a, .int b] = [a, b].map PyData.int from rfl, show [PyData.int c, .int d] = [c, d].map PyData.int from rfl, this]
  simp
theorem toPs_map {α : Type} {f : α → D} {g : α → PyData} {S : Sto} {m : Nat} (h : ∀ x n, m ≤ n → toP S n (f x) = some (g x)) : ∀ (xs : List α) (n : Nat), xs.length + m < n → toPs S n (xs.map f) = some (xs.map g)
  | _, 0, h0 => absurd h0 (Nat.not_lt_zero _)
  | [], n + 1, _ => rfl
  | x :: xs, n + 1, h0 => by
    have h' : xs.length + m < n := by simp at h0; omega
    show (match toP S n (f x), toPs S n (xs.map f) with | some p, some ps => some (p :: ps) | _, _ => none) = _
    rw [toPs_map h xs n h', h x n (by omega)]
    rfl
theorem toP_int {S : Sto} (i : Int) (n : Nat) (h : 1 ≤ n) : toP S n (.int i) = some (.int i) := by
  obtain ⟨k, rfl⟩ : ∃ k, n = k + 1 := ⟨n - 1, by omega⟩
  rfl
theorem toP_tup {S : Sto} {n : Nat} {ds : List D} {ps : List PyData} (h : toPs S n ds = some ps) : toP S (n + 1) (.tup ds) = some (.tuple ps) := by
  show (toPs S n ds).map PyData.tuple = _
  rw [h]; rfl
theorem toP_pr {S : Sto} (p : Int × Int) (n : Nat) (h : 5 ≤ n) : toP S n (prD p) = some (prP p) := by
  obtain ⟨k, rfl⟩ : ∃ k, n = k + 1 := ⟨n - 1, by omega⟩
  exact toP_tup (toPs_map (f := D.int) (g := PyData.int) (m := 1) (fun x n h => toP_int x n h) [p.1, p.2] k (by simp; omega))
theorem toP_rw {S : Sto} (r : Row) (n : Nat) (h : r.length + 10 ≤ n) : toP S n (rwD r) = some (.tuple (r.map prP)) := by
  obtain ⟨k, rfl⟩ : ∃ k, n = k + 1 := ⟨n - 1, by omega⟩
  exact toP_tup (toPs_map (m := 5) toP_pr r k (by omega))
theorem toP_a {S : Sto} (a : Int) (r : Row) (h : r.length ≤ 900000) : toP S 1000000 (aD a r) = some (.tuple [.int a, .tuple (r.map prP)]) := by
  refine toP_tup (n := 999999) ?_
  show (match toP S 999998 (.int a), (match toP S 999997 (rwD r), toPs S 999997 [] with | some p, some ps => some (p :: ps) | _, _ => none) with | some p, some ps => some (p :: ps) | _, _ => none) = _
  rw [toP_rw r 999997 (by omega)]
  rfl
/-! shapes -/
theorem canAll : ∀ {ps : List PyData}, (∀ p ∈ ps, p.canLay0 = true) → PyData.canLayAll0 ps = true
  | [], _ => by simp [PyData.canLayAll0]
  | p :: ps, h => by
    unfold PyData.canLayAll0
    rw [h p (List.mem_cons_self ..), canAll fun q hq => h q (List.mem_cons_of_mem _ hq)]; rfl
theorem depAll {k : Nat} : ∀ {ps : List PyData}, (∀ p ∈ ps, p.depth ≤ k) → PyData.depthAll ps ≤ k
  | [], _ => by simp [PyData.depthAll]
  | p :: ps, h => by
    unfold PyData.depthAll
    exact Nat.max_le.mpr ⟨h p (List.mem_cons_self ..), depAll fun q hq => h q (List.mem_cons_of_mem _ hq)⟩
def Shp (k : Nat) (p : PyData) : Prop := p.canLay0 = true ∧ p.depth ≤ k
theorem shp_int (i : Int) : Shp 0 (.int i) := ⟨by simp [PyData.canLay0], by simp [PyData.depth]⟩
theorem shp_tup {k : Nat} {ps : List PyData} (h : ∀ p ∈ ps, Shp k p) : Shp (k + 1) (.tuple ps) := by
  constructor
  · unfold PyData.canLay0; exact canAll fun p hp => (h p hp).1
  · unfold PyData.depth
    have := depAll fun p hp => (h p hp).2
    omega
theorem shp_mono {k m : Nat} {p : PyData} (h : Shp k p) (hk : k ≤ m) : Shp m p := ⟨h.1, Nat.le_trans h.2 hk⟩
theorem shp_ok {k : Nat} {p : PyData} (h : Shp k p) (hk : k ≤ 64) : SeqAt.shaped p = true := by
  unfold SeqAt.shaped
  rw [h.1, decide_eq_true (Nat.le_trans h.2 hk)]; rfl
theorem shp_ints (ns : List Int) : Shp 1 (.tuple (ns.map PyData.int)) := shp_tup fun p hp => by
  obtain ⟨n, _, rfl⟩ := List.mem_map.mp hp
  exact shp_int n
theorem shp_rw (r : Row) : Shp 2 (.tuple (r.map prP)) := shp_tup fun p hp => by
  obtain ⟨n, _, rfl⟩ := List.mem_map.mp hp
  exact shp_ints [n.1, n.2]
theorem shp_a (n : Int) (r : Row) : Shp 3 (.tuple [.int n, .tuple (r.map prP)]) := shp_tup fun p hp => by
  simp only [List.mem_cons, List.not_mem_nil, or_false] at hp
  rcases hp with rfl | rfl
  · exact shp_mono (shp_int n) (by omega)
  · exact shp_rw r
theorem eqD_of {S : Sto} {d e : D} {p q : PyData} (h1 : toP S 1000000 d = some p) (h2 : toP S 1000000 e = some q) (s1 : SeqAt.shaped p = true) (s2 : SeqAt.shaped q = true) : eqD S d e = some (PyData.eqv p q) := by
  unfold eqD
  rw [h1, h2]
  exact if_pos ⟨s1, s2⟩
theorem eq_tup {S : Sto} {as bs : List D} {b : Bool} (h : eqD S (.tup as) (.tup bs) = some b) : fEq (.tup as) (.tup bs) S = some (.bl b, S) ∧ fNe (.tup as) (.tup bs) S = some (.bl (!b), S) := by
  unfold fEq fNe
  constructor
  · show (eqD S (.tup as) (.tup bs)).map _ = _
    rw [h]; rfl
  · show (eqD S (.tup as) (.tup bs)).map _ = _
    rw [h]; rfl
theorem eqv_a (n m : Int) (r q : Row) : PyData.eqv (.tuple [.int n, .tuple (r.map prP)]) (.tuple [.int m, .tuple (q.map prP)]) = decide (n = m ∧ r = q) := by
  rw [eqv_tup]
  unfold PyData.eqvAll
  unfold PyData.eqvAll
  rw [eqv_int, eqv_tup, eqv_map eqv_pr]
  unfold PyData.eqvAll
  by_cases h1 : n = m <;> by_cases h2 : r = q <;> simp [h1, h2]
theorem eq_a {S : Sto} (n m : Int) (r q : Row) (h1 : r.length ≤ 900000) (h2 : q.length ≤ 900000) : fEq (aD n r) (aD m q) S = some (.bl (decide (n = m ∧ r = q)), S) ∧ fNe (aD n r) (aD m q) S = some (.bl (!decide (n = m ∧ r = q)), S) :=
  eq_tup (by rw [← eqv_a]; exact eqD_of (toP_a n r h1) (toP_a m q h2) (shp_ok (shp_a n r) (by omega)) (shp_ok (shp_a m q) (by omega)))
theorem eq_rw {S : Sto} (r q : Row) (h1 : r.length ≤ 900000) (h2 : q.length ≤ 900000) : fEq (rwD r) (rwD q) S = some (.bl (decide (r = q)), S) ∧ fNe (rwD r) (rwD q) S = some (.bl (!decide (r = q)), S) :=
  eq_tup (by
    rw [← eqv_map eqv_pr, ← eqv_tup]
    exact eqD_of (toP_rw r _ (by omega)) (toP_rw q _ (by omega)) (shp_ok (shp_rw r) (by omega)) (shp_ok (shp_rw q) (by omega)))
theorem eq_ints {S : Sto} (r q : List Int) (h1 : r.length ≤ 900000) (h2 : q.length ≤ 900000) : fEq (.tup (r.map D.int)) (.tup (q.map D.int)) S = some (.bl (decide (r = q)), S) ∧ fNe (.tup (r.map D.int)) (.tup (q.map D.int)) S = some (.bl (!decide (r = q)), S) :=
  eq_tup (by
    rw [← eqv_map eqv_int, ← eqv_tup]
    have t : ∀ l : List Int, l.length ≤ 900000 → toP S 1000000 (.tup (l.map D.int)) = some (.tuple (l.map PyData.int)) := fun l hl => toP_tup (n := 999999) (toPs_map (m := 1) (fun x n h => toP_int x n h) l _ (by omega))
    exact eqD_of (t r h1) (t q h2) (shp_ok (shp_ints r) (by omega)) (shp_ok (shp_ints q) (by omega)))
end K07

namespace K07
open PySem PySem.Spec L2 Mi
/-! ### whole numbers, pairs -/
def isI : D → Bool
  | .int _ => true
  | _ => false
/-- it has a type -/
def Ty (S : Sto) (d : D) : Prop := tyD S d ≠ none
theorem ty_obj {S : Sto} {i : Nat} (h : Ty S (.obj i)) : tyD S (.obj i) = some "list" ∨ tyD S (.obj i) = some "dict" := by
  unfold Ty tyD at h
  unfold tyD
  dsimp only at h ⊢
  cases e : S[i]? with
  | none => rw [e] at h; exact absurd rfl h
  | some o =>
    rw [e] at h
    cases o with
    | gap => exact absurd rfl h
    | lst _ => exact .inl rfl
    | fix _ => exact .inl rfl
    | dic _ => exact .inr rfl
theorem isi_int {S : Sto} {d : D} (h : Ty S d) : ∃ b, fIsi ["int"] d S = some (.bl b, S) ∧ (b = false → isI d = false) ∧ (b = true → fIsi ["bool"] d S = some (.bl (!isI d), S)) := by
  cases d with
  | non => exact ⟨false, rfl, fun _ => rfl, fun z => by cases z⟩
  | bl b => exact ⟨true, rfl, (fun z => by cases z), fun _ => rfl⟩
  | int i => exact ⟨true, rfl, (fun z => by cases z), fun _ => rfl⟩
  | str x => exact ⟨false, rfl, fun _ => rfl, fun z => by cases z⟩
  | tup x => exact ⟨false, rfl, fun _ => rfl, fun z => by cases z⟩
  | obj i =>
    refine ⟨false, ?_, fun _ => rfl, fun z => by cases z⟩
    unfold fIsi
    rcases ty_obj h with e | e <;> (rw [e]; rfl)
theorem is_whole {S : Sto} {d : D} (h : Ty S d) : M_is_whole [d] S = .ok (.bl (isI d)) S := by
  obtain ⟨b, h1, h2, h3⟩ := isi_int h
  unfold M_is_whole mFn B_is_whole
  simp only [List.length_cons, List.length_nil, Nat.reduceAdd, if_true, List.map_cons, List.map_nil, List.replicate, List.cons_append, List.nil_append, Nat.sub_self]
  cases b with
  | false =>
    simp only [bind_ok, bind_ex, of_some, rs_ok, rs_ex, then_nx, then_rt, then_ex, then_bk, then_ct, mV0, mVs, mC_, m2_, m1_, mB_, kB_bl, mB1_, mNil_, mCons_, f1L_, f2L_, mTup_, mLst_, mCall_, mNotT_, mAndT_, mOrT_, mIf_, mAndV_, mOrV_, mNotV_, kAndV_bl, kOrV_bl, kNotV_bl, mSl_, mPart_, kPart_, mNoPart_, sSeq_, sSet_, sRet_, sIf_, sExpr_, sNil_, sBreak_, sCont_, e_lt, e_le, e_gt, e_ge, e_eqI, e_neI, e_eqS, e_neS, e_add, e_sub, List.set_cons_zero, List.set_cons_succ, kTu1, kTu2, kTu3, kTu4, kTu5, kLs0, kLs1, kLs2, kLs3, kLs4, kLs5, mM_, mM0_, sAsg_, sFor_, iRng_, iSeq_, h1, Bool.false_eq_true, if_false, h2 rfl]
    rfl
  | true =>
    simp only [bind_ok, bind_ex, of_some, rs_ok, rs_ex, then_nx, then_rt, then_ex, then_bk, then_ct, mV0, mVs, mC_, m2_, m1_, mB_, kB_bl, mB1_, mNil_, mCons_, f1L_, f2L_, mTup_, mLst_, mCall_, mNotT_, mAndT_, mOrT_, mIf_, mAndV_, mOrV_, mNotV_, kAndV_bl, kOrV_bl, kNotV_bl, mSl_, mPart_, kPart_, mNoPart_, sSeq_, sSet_, sRet_, sIf_, sExpr_, sNil_, sBreak_, sCont_, e_lt, e_le, e_gt, e_ge, e_eqI, e_neI, e_eqS, e_neS, e_add, e_sub, List.set_cons_zero, List.set_cons_succ, kTu1, kTu2, kTu3, kTu4, kTu5, kLs0, kLs1, kLs2, kLs3, kLs4, kLs5, mM_, mM0_, sAsg_, sFor_, iRng_, iSeq_, h1, if_true, h3 rfl, Bool.not_not]
    rfl
theorem law_int {S : Sto} {d : D} (h : Ty S d) : M__law_int [d] S = .ok (.bl (isI d)) S := by
  obtain ⟨b, h1, h2, h3⟩ := isi_int h
  unfold M__law_int mFn B__law_int
  simp only [List.length_cons, List.length_nil, Nat.reduceAdd, if_true, List.map_cons, List.map_nil, List.replicate, List.cons_append, List.nil_append, Nat.sub_self]
  cases b with
  | false =>
    simp only [bind_ok, bind_ex, of_some, rs_ok, rs_ex, then_nx, then_rt, then_ex, then_bk, then_ct, mV0, mVs, mC_, m2_, m1_, mB_, kB_bl, mB1_, mNil_, mCons_, f1L_, f2L_, mTup_, mLst_, mCall_, mNotT_, mAndT_, mOrT_, mIf_, mAndV_, mOrV_, mNotV_, kAndV_bl, kOrV_bl, kNotV_bl, mSl_, mPart_, kPart_, mNoPart_, sSeq_, sSet_, sRet_, sIf_, sExpr_, sNil_, sBreak_, sCont_, e_lt, e_le, e_gt, e_ge, e_eqI, e_neI, e_eqS, e_neS, e_add, e_sub, List.set_cons_zero, List.set_cons_succ, kTu1, kTu2, kTu3, kTu4, kTu5, kLs0, kLs1, kLs2, kLs3, kLs4, kLs5, mM_, mM0_, sAsg_, sFor_, iRng_, iSeq_, h1, Bool.false_eq_true, if_false, h2 rfl]
    rfl
  | true =>
    simp only [bind_ok, bind_ex, of_some, rs_ok, rs_ex, then_nx, then_rt, then_ex, then_bk, then_ct, mV0, mVs, mC_, m2_, m1_, mB_, kB_bl, mB1_, mNil_, mCons_, f1L_, f2L_, mTup_, mLst_, mCall_, mNotT_, mAndT_, mOrT_, mIf_, mAndV_, mOrV_, mNotV_, kAndV_bl, kOrV_bl, kNotV_bl, mSl_, mPart_, kPart_, mNoPart_, sSeq_, sSet_, sRet_, sIf_, sExpr_, sNil_, sBreak_, sCont_, e_lt, e_le, e_gt, e_ge, e_eqI, e_neI, e_eqS, e_neS, e_add, e_sub, List.set_cons_zero, List.set_cons_succ, kTu1, kTu2, kTu3, kTu4, kTu5, kLs0, kLs1, kLs2, kLs3, kLs4, kLs5, mM_, mM0_, sAsg_, sFor_, iRng_, iSeq_, h1, if_true, h3 rfl, Bool.not_not]
    rfl
theorem whole_int {S : Sto} {i : Int} : M_is_whole [.int i] S = .ok (.bl true) S := is_whole (fun z => by cases z)
theorem lawint_int {S : Sto} {i : Int} : M__law_int [.int i] S = .ok (.bl true) S := law_int (fun z => by cases z)
def pairB : List D → Bool
  | [.int _, .int _] => true
  | _ => false
theorem pairB_eq (a b : D) : pairB [a, b] = (isI a && isI b) := by
  cases a <;> cases b <;> rfl
theorem pairB_len {es : List D} (h : es.length ≠ 2) : pairB es = false := by
  match es, h with
  | [], _ => rfl
  | [x], _ => cases x <;> rfl
  | [a, b], h => exact absurd rfl h
  | a :: b :: c :: r, _ => cases a <;> cases b <;> rfl
/-- a sequence at d -/
structure SeqAtD (S : Sto) (d : D) (es : List D) : Prop where
  isi : fIsi ["list", "tuple"] d S = some (.bl true, S)
  len : fLen d S = some (.int (es.length : Int), S)
  ix : ∀ (i : Nat) (e : D), es[i]? = some e → fIx d (.int (i : Int)) S = some (e, S)
theorem seq_tup {S : Sto} {es : List D} : SeqAtD S (.tup es) es := ⟨rfl, rfl, fun i e h => e_ixT h⟩
theorem seq_lst {S : Sto} {j : Nat} {es : List D} (h : S[j]? = some (.lst es)) : SeqAtD S (.obj j) es := ⟨by unfold fIsi tyD; simp only [h]; rfl, e_lenL h, fun i e h2 => e_ixL h h2⟩
theorem whole_pair {S : Sto} {d : D} {es : List D} (s : SeqAtD S d es) (h : ∀ e ∈ es, Ty S e) : M_is_whole_pair [d] S = .ok (.bl (pairB es)) S := by
  unfold M_is_whole_pair mFn B_is_whole_pair
  simp only [List.length_cons, List.length_nil, Nat.reduceAdd, if_true, List.map_cons, List.map_nil, List.replicate, List.cons_append, List.nil_append, Nat.sub_self]
  by_cases hl : es.length = 2
  · match es, hl, s, h with
    | [a, b], _, s, h =>
      have d1 : decide ((([a, b] : List D).length : Int) = 2) = true := rfl
      have i0 : fIx d (.int 0) S = some (a, S) := s.ix 0 a rfl
      have i1 : fIx d (.int 1) S = some (b, S) := s.ix 1 b rfl
      rw [pairB_eq]
      simp only [bind_ok, bind_ex, of_some, rs_ok, rs_ex, then_nx, then_rt, then_ex, then_bk, then_ct, mV0, mVs, mC_, m2_, m1_, mB_, kB_bl, mB1_, mNil_, mCons_, f1L_, f2L_, mTup_, mLst_, mCall_, mNotT_, mAndT_, mOrT_, mIf_, mAndV_, mOrV_, mNotV_, kAndV_bl, kOrV_bl, kNotV_bl, mSl_, mPart_, kPart_, mNoPart_, sSeq_, sSet_, sRet_, sIf_, sExpr_, sNil_, sBreak_, sCont_, e_lt, e_le, e_gt, e_ge, e_eqI, e_neI, e_eqS, e_neS, e_add, e_sub, List.set_cons_zero, List.set_cons_succ, kTu1, kTu2, kTu3, kTu4, kTu5, kLs0, kLs1, kLs2, kLs3, kLs4, kLs5, mM_, mM0_, sAsg_, sFor_, iRng_, iSeq_, s.isi, if_true, s.len, d1, i0, i1, is_whole (h a (by simp)), is_whole (h b (by simp))]
      cases isI a
      · simp only [Bool.false_eq_true, if_false, Bool.false_and]; rfl
      · simp only [if_true, Bool.true_and]; rfl
  · have d1 : decide (((es.length : Nat) : Int) = 2) = false := decide_eq_false (by omega)
    simp only [bind_ok, bind_ex, of_some, rs_ok, rs_ex, then_nx, then_rt, then_ex, then_bk, then_ct, mV0, mVs, mC_, m2_, m1_, mB_, kB_bl, mB1_, mNil_, mCons_, f1L_, f2L_, mTup_, mLst_, mCall_, mNotT_, mAndT_, mOrT_, mIf_, mAndV_, mOrV_, mNotV_, kAndV_bl, kOrV_bl, kNotV_bl, mSl_, mPart_, kPart_, mNoPart_, sSeq_, sSet_, sRet_, sIf_, sExpr_, sNil_, sBreak_, sCont_, e_lt, e_le, e_gt, e_ge, e_eqI, e_neI, e_eqS, e_neS, e_add, e_sub, List.set_cons_zero, List.set_cons_succ, kTu1, kTu2, kTu3, kTu4, kTu5, kLs0, kLs1, kLs2, kLs3, kLs4, kLs5, mM_, mM0_, sAsg_, sFor_, iRng_, iSeq_, s.isi, if_true, s.len, d1, Bool.false_eq_true, if_false, pairB_len hl]
    rfl
/-! ### numbered turns over a tuple -/
theorem ft_end {S : Sto} {ds : List D} {k : Nat} {g : MG} {b : MS} {env : Mi.Env} : forI (itEnumT ds) g b k ds.length env S = .nx env S := by
  have e : (itEnumT ds).f ds.length S = some none := by
    show some (ds[ds.length]?.map _) = some none
    simp
  cases k <;> (unfold forI; simp only [e])
theorem ft_at {S : Sto} {ds : List D} {d : D} {i : Nat} (h2 : ds[i]? = some d) : (itEnumT ds).f i S = some (some (.tup [.int (i : Int), d])) := by
  show some (ds[i]?.map _) = _
  rw [h2]; rfl
theorem ft_nx {S S2 : Sto} {ds : List D} {d : D} {i k : Nat} {g : MG} {b : MS} {env env1 env2 : Mi.Env} (h2 : ds[i]? = some d) (hg : g (.tup [.int (i : Int), d]) env S = some env1) (hb : b env1 S = .nx env2 S2) : forI (itEnumT ds) g b (k + 1) i env S = forI (itEnumT ds) g b k (i + 1) env2 S2 := by
  rw [forI]; simp only [ft_at h2, hg, hb]
theorem ft_rt {S S2 : Sto} {ds : List D} {d e : D} {i k : Nat} {g : MG} {b : MS} {env env1 : Mi.Env} (h2 : ds[i]? = some d) (hg : g (.tup [.int (i : Int), d]) env S = some env1) (hb : b env1 S = .rt e S2) : forI (itEnumT ds) g b (k + 1) i env S = .rt e S2 := by
  rw [forI]; simp only [ft_at h2, hg, hb]
end K07

namespace K07
open PySem PySem.Spec L2 Mi
/-! ### is_array -/
def AB : MS := (sSeq (sIf (mOrT (mNotT (mB (m1 (fIsi ["tuple"]) (mV 4)))) (mOrT (mNotT (mB (mCall M_is_whole_pair (mCons (mV 4) mNil)))) (mB (m2 fGe (m2 fIx (mV 4) (mC (.int 0))) (mV 1)))))
  (sRet (mC (.bl false)))
  sNil)
  (sSeq (sIf (mAndT (mB (m2 fEq (mV 3) (mC (.int 0)))) (mB (m2 fNe (m2 fIx (mV 4) (mC (.int 0))) (mC (.int 0)))))
  (sRet (mC (.bl false)))
  sNil)
  (sIf (mAndT (mB (m2 fGt (mV 3) (mC (.int 0)))) (mOrT (mB (m2 fGe (m2 fIx (m2 fIx (mV 2) (m2 fSub (mV 3) (mC (.int 1)))) (mC (.int 0))) (m2 fIx (mV 4) (mC (.int 0))))) (mB (m2 fEq (m2 fIx (m2 fIx (mV 2) (m2 fSub (mV 3) (mC (.int 1)))) (mC (.int 1))) (m2 fIx (mV 4) (mC (.int 1)))))))
  (sRet (mC (.bl false)))
  sNil)))
/-- a thing whose parts have types -/
def Ty2 (S : Sto) (d : D) : Prop := Ty S d ∧ ∀ es, d = .tup es → ∀ e ∈ es, Ty S e
theorem isi_tup {S : Sto} {d : D} (h : Ty S d) : (∃ es, d = .tup es) ∨ fIsi ["tuple"] d S = some (.bl false, S) := by
  cases d with
  | tup es => exact .inl ⟨es, rfl⟩
  | non => exact .inr rfl
  | bl b => exact .inr rfl
  | int i => exact .inr rfl
  | str x => exact .inr rfl
  | obj i =>
    refine .inr ?_
    unfold fIsi
    rcases ty_obj h with e | e <;> (rw [e]; rfl)
theorem isi_tt {S : Sto} {es : List D} : fIsi ["tuple"] (.tup es) S = some (.bl true, S) := (rfl)
theorem e_p0 {S : Sto} {p : Int × Int} : fIx (prD p) (.int 0) S = some (.int p.1, S) := e_t0
theorem e_p1 {S : Sto} {p : Int × Int} : fIx (prD p) (.int 1) S = some (.int p.2, S) := e_t1
theorem isi_pr {S : Sto} {p : Int × Int} : fIsi ["tuple"] (prD p) S = some (.bl true, S) := (rfl)
theorem whole_pr {S : Sto} {p : Int × Int} : M_is_whole_pair [prD p] S = .ok (.bl true) S := whole_pair seq_tup fun e he => by
  simp only [List.mem_cons, List.not_mem_nil, or_false] at he
  rcases he with rfl | rfl <;> (intro z; cases z)
variable {S : Sto} {x0 x1 x2 x3 : Option D}
theorem ab_bad {d : D} (h : Ty2 S d) (hb : ∀ es, d = .tup es → pairB es = false) : AB [x0, x1, x2, x3, some d] S = .rt (.bl false) S := by
  unfold AB
  rcases isi_tup h.1 with ⟨es, rfl⟩ | e
  · have w := whole_pair (S := S) (seq_tup (es := es)) (h.2 es rfl)
    rw [hb es rfl] at w
    simp only [bind_ok, bind_ex, of_some, rs_ok, rs_ex, then_nx, then_rt, then_ex, then_bk, then_ct, mV0, mVs, mC_, m2_, m1_, mB_, kB_bl, mB1_, mNil_, mCons_, f1L_, f2L_, mTup_, mLst_, mCall_, mNotT_, mAndT_, mOrT_, mIf_, mAndV_, mOrV_, mNotV_, kAndV_bl, kOrV_bl, kNotV_bl, mSl_, mPart_, kPart_, mNoPart_, sSeq_, sSet_, sRet_, sIf_, sExpr_, sNil_, sBreak_, sCont_, e_lt, e_le, e_gt, e_ge, e_eqI, e_neI, e_eqS, e_neS, e_add, e_sub, List.set_cons_zero, List.set_cons_succ, kTu1, kTu2, kTu3, kTu4, kTu5, kLs0, kLs1, kLs2, kLs3, kLs4, kLs5, mM_, mM0_, sAsg_, sFor_, iRng_, iSeq_, isi_tt, Bool.not_true, Bool.false_eq_true, if_false, w, Bool.not_false, if_true]
  · simp only [bind_ok, bind_ex, of_some, rs_ok, rs_ex, then_nx, then_rt, then_ex, then_bk, then_ct, mV0, mVs, mC_, m2_, m1_, mB_, kB_bl, mB1_, mNil_, mCons_, f1L_, f2L_, mTup_, mLst_, mCall_, mNotT_, mAndT_, mOrT_, mIf_, mAndV_, mOrV_, mNotV_, kAndV_bl, kOrV_bl, kNotV_bl, mSl_, mPart_, kPart_, mNoPart_, sSeq_, sSet_, sRet_, sIf_, sExpr_, sNil_, sBreak_, sCont_, e_lt, e_le, e_gt, e_ge, e_eqI, e_neI, e_eqS, e_neS, e_add, e_sub, List.set_cons_zero, List.set_cons_succ, kTu1, kTu2, kTu3, kTu4, kTu5, kLs0, kLs1, kLs2, kLs3, kLs4, kLs5, mM_, mM0_, sAsg_, sFor_, iRng_, iSeq_, e, Bool.not_false, if_true]
def prevB : Option (Int × Int) → (Int × Int) → Bool
  | none, p => decide (p.1 = 0)
  | some q, p => decide (q.1 < p.1) && decide (q.2 ≠ p.2)
theorem ab_pair {n : Int} {rs : List D} {i : Nat} {p : Int × Int} {prev : Option (Int × Int)} (hprev : (i = 0 ∧ prev = none) ∨ (0 < i ∧ ∃ q, prev = some q ∧ rs[i - 1]? = some (prD q))) :
    AB [x0, some (.int n), some (.tup rs), some (.int (i : Int)), some (prD p)] S = if (decide (p.1 < n) && prevB prev p) = true then .nx [x0, some (.int n), some (.tup rs), some (.int (i : Int)), some (prD p)] S else .rt (.bl false) S := by
  unfold AB
  by_cases h1 : p.1 < n
  · have d1 : decide (n ≤ p.1) = false := decide_eq_false (by omega)
    have d1' : decide (p.1 < n) = true := decide_eq_true h1
    rcases hprev with ⟨rfl, rfl⟩ | ⟨hi, q, rfl, hq⟩
    · have d2 : decide (((0 : Nat) : Int) = 0) = true := rfl
      have d4 : decide ((0 : Int) < ((0 : Nat) : Int)) = false := rfl
      by_cases h2 : p.1 = 0
      · have d3 : decide (p.1 = 0) = true := decide_eq_true h2
        simp only [bind_ok, bind_ex, of_some, rs_ok, rs_ex, then_nx, then_rt, then_ex, then_bk, then_ct, mV0, mVs, mC_, m2_, m1_, mB_, kB_bl, mB1_, mNil_, mCons_, f1L_, f2L_, mTup_, mLst_, mCall_, mNotT_, mAndT_, mOrT_, mIf_, mAndV_, mOrV_, mNotV_, kAndV_bl, kOrV_bl, kNotV_bl, mSl_, mPart_, kPart_, mNoPart_, sSeq_, sSet_, sRet_, sIf_, sExpr_, sNil_, sBreak_, sCont_, e_lt, e_le, e_gt, e_ge, e_eqI, e_neI, e_eqS, e_neS, e_add, e_sub, List.set_cons_zero, List.set_cons_succ, kTu1, kTu2, kTu3, kTu4, kTu5, kLs0, kLs1, kLs2, kLs3, kLs4, kLs5, mM_, mM0_, sAsg_, sFor_, iRng_, iSeq_, isi_pr, whole_pr, e_p0, d1, d2, d3, d4, d1', Bool.not_true, Bool.false_eq_true, if_false, if_true, prevB, Bool.and_self]
      · have d3 : decide (p.1 = 0) = false := decide_eq_false h2
        simp only [bind_ok, bind_ex, of_some, rs_ok, rs_ex, then_nx, then_rt, then_ex, then_bk, then_ct, mV0, mVs, mC_, m2_, m1_, mB_, kB_bl, mB1_, mNil_, mCons_, f1L_, f2L_, mTup_, mLst_, mCall_, mNotT_, mAndT_, mOrT_, mIf_, mAndV_, mOrV_, mNotV_, kAndV_bl, kOrV_bl, kNotV_bl, mSl_, mPart_, kPart_, mNoPart_, sSeq_, sSet_, sRet_, sIf_, sExpr_, sNil_, sBreak_, sCont_, e_lt, e_le, e_gt, e_ge, e_eqI, e_neI, e_eqS, e_neS, e_add, e_sub, List.set_cons_zero, List.set_cons_succ, kTu1, kTu2, kTu3, kTu4, kTu5, kLs0, kLs1, kLs2, kLs3, kLs4, kLs5, mM_, mM0_, sAsg_, sFor_, iRng_, iSeq_, isi_pr, whole_pr, e_p0, d1, d2, d3, d1', Bool.not_true, Bool.not_false, Bool.false_eq_true, if_false, if_true, prevB, Bool.and_false]
    · have d2 : decide ((i : Int) = 0) = false := decide_eq_false (by omega)
      have d4 : decide ((0 : Int) < (i : Int)) = true := decide_eq_true (by omega)
      have hix : fIx (.tup rs) (.int ((i : Int) - 1)) S = some (prD q, S) := by
        rw [show (i : Int) - 1 = ((i - 1 : Nat) : Int) by omega]
        exact e_ixT hq
      by_cases h2 : q.1 < p.1
      · have d5 : decide (p.1 ≤ q.1) = false := decide_eq_false (by omega)
        have d5' : decide (q.1 < p.1) = true := decide_eq_true h2
        by_cases h3 : q.2 = p.2
        · have d6 : decide (q.2 = p.2) = true := decide_eq_true h3
          have d6' : decide (q.2 ≠ p.2) = false := decide_eq_false (by simp [h3])
          simp only [bind_ok, bind_ex, of_some, rs_ok, rs_ex, then_nx, then_rt, then_ex, then_bk, then_ct, mV0, mVs, mC_, m2_, m1_, mB_, kB_bl, mB1_, mNil_, mCons_, f1L_, f2L_, mTup_, mLst_, mCall_, mNotT_, mAndT_, mOrT_, mIf_, mAndV_, mOrV_, mNotV_, kAndV_bl, kOrV_bl, kNotV_bl, mSl_, mPart_, kPart_, mNoPart_, sSeq_, sSet_, sRet_, sIf_, sExpr_, sNil_, sBreak_, sCont_, e_lt, e_le, e_gt, e_ge, e_eqI, e_neI, e_eqS, e_neS, e_add, e_sub, List.set_cons_zero, List.set_cons_succ, kTu1, kTu2, kTu3, kTu4, kTu5, kLs0, kLs1, kLs2, kLs3, kLs4, kLs5, mM_, mM0_, sAsg_, sFor_, iRng_, iSeq_, isi_pr, whole_pr, e_p0, e_p1, hix, d1, d2, d4, d5, d6, d1', d5', d6', Bool.not_true, Bool.not_false, Bool.false_eq_true, if_false, if_true, prevB, Bool.and_false]
        · have d6 : decide (q.2 = p.2) = false := decide_eq_false h3
          have d6' : decide (q.2 ≠ p.2) = true := decide_eq_true h3
          simp only [bind_ok, bind_ex, of_some, rs_ok, rs_ex, then_nx, then_rt, then_ex, then_bk, then_ct, mV0, mVs, mC_, m2_, m1_, mB_, kB_bl, mB1_, mNil_, mCons_, f1L_, f2L_, mTup_, mLst_, mCall_, mNotT_, mAndT_, mOrT_, mIf_, mAndV_, mOrV_, mNotV_, kAndV_bl, kOrV_bl, kNotV_bl, mSl_, mPart_, kPart_, mNoPart_, sSeq_, sSet_, sRet_, sIf_, sExpr_, sNil_, sBreak_, sCont_, e_lt, e_le, e_gt, e_ge, e_eqI, e_neI, e_eqS, e_neS, e_add, e_sub, List.set_cons_zero, List.set_cons_succ, kTu1, kTu2, kTu3, kTu4, kTu5, kLs0, kLs1, kLs2, kLs3, kLs4, kLs5, mM_, mM0_, sAsg_, sFor_, iRng_, iSeq_, isi_pr, whole_pr, e_p0, e_p1, hix, d1, d2, d4, d5, d6, d1', d5', d6', Bool.not_true, Bool.not_false, Bool.false_eq_true, if_false, if_true, prevB, Bool.and_self]
      · have d5 : decide (p.1 ≤ q.1) = true := decide_eq_true (by omega)
        have d5' : decide (q.1 < p.1) = false := decide_eq_false h2
        simp only [bind_ok, bind_ex, of_some, rs_ok, rs_ex, then_nx, then_rt, then_ex, then_bk, then_ct, mV0, mVs, mC_, m2_, m1_, mB_, kB_bl, mB1_, mNil_, mCons_, f1L_, f2L_, mTup_, mLst_, mCall_, mNotT_, mAndT_, mOrT_, mIf_, mAndV_, mOrV_, mNotV_, kAndV_bl, kOrV_bl, kNotV_bl, mSl_, mPart_, kPart_, mNoPart_, sSeq_, sSet_, sRet_, sIf_, sExpr_, sNil_, sBreak_, sCont_, e_lt, e_le, e_gt, e_ge, e_eqI, e_neI, e_eqS, e_neS, e_add, e_sub, List.set_cons_zero, List.set_cons_succ, kTu1, kTu2, kTu3, kTu4, kTu5, kLs0, kLs1, kLs2, kLs3, kLs4, kLs5, mM_, mM0_, sAsg_, sFor_, iRng_, iSeq_, isi_pr, whole_pr, e_p0, e_p1, hix, d1, d2, d4, d5, d1', d5', Bool.not_true, Bool.not_false, Bool.false_eq_true, if_false, if_true, prevB, Bool.false_and, Bool.and_false]
  · have d1 : decide (n ≤ p.1) = true := decide_eq_true (by omega)
    have d1' : decide (p.1 < n) = false := decide_eq_false h1
    simp only [bind_ok, bind_ex, of_some, rs_ok, rs_ex, then_nx, then_rt, then_ex, then_bk, then_ct, mV0, mVs, mC_, m2_, m1_, mB_, kB_bl, mB1_, mNil_, mCons_, f1L_, f2L_, mTup_, mLst_, mCall_, mNotT_, mAndT_, mOrT_, mIf_, mAndV_, mOrV_, mNotV_, kAndV_bl, kOrV_bl, kNotV_bl, mSl_, mPart_, kPart_, mNoPart_, sSeq_, sSet_, sRet_, sIf_, sExpr_, sNil_, sBreak_, sCont_, e_lt, e_le, e_gt, e_ge, e_eqI, e_neI, e_eqS, e_neS, e_add, e_sub, List.set_cons_zero, List.set_cons_succ, kTu1, kTu2, kTu3, kTu4, kTu5, kLs0, kLs1, kLs2, kLs3, kLs4, kLs5, mM_, mM0_, sAsg_, sFor_, iRng_, iSeq_, isi_pr, whole_pr, e_p0, d1, d1', Bool.not_true, Bool.false_eq_true, if_false, if_true, Bool.false_and]
/-- the rows that is_array takes -/
def rowsB (n : Int) : Option (Int × Int) → List D → Bool
  | _, [] => true
  | prev, .tup [.int s, .int v] :: r => decide (s < n) && prevB prev (s, v) && rowsB n (some (s, v)) r
  | _, _ :: _ => false
theorem pairB_inv {es : List D} (h : pairB es = true) : ∃ p : Int × Int, D.tup es = prD p := by
  match es, h with
  | [.int a, .int b], _ => exact ⟨(a, b), rfl⟩
theorem rowsB_bad {n : Int} {prev : Option (Int × Int)} {d : D} {r : List D} (hb : ∀ es, d = .tup es → pairB es = false) : rowsB n prev (d :: r) = false := by
  unfold rowsB
  split
  · rename_i h; cases h
  · rename_i s v r' h; cases h; exact absurd (hb _ rfl) (by simp [pairB])
  · rfl
theorem rowsB_pr {n : Int} {prev : Option (Int × Int)} {p : Int × Int} {r : List D} : rowsB n prev (prD p :: r) = (decide (p.1 < n) && prevB prev p && rowsB n (some p) r) := by
  obtain ⟨a, b⟩ := p
  show rowsB n prev (.tup [.int a, .int b] :: r) = _
  rw [rowsB]
theorem ab_loop {n : Int} {rs : List D} (hT : ∀ d ∈ rs, Ty2 S d) : ∀ (suf : List D) (pre : Row) (x3 x4 : Option D), rs = pre.map prD ++ suf → ∃ y3 y4 : Option D,
    forI (itEnumT rs) (gT 2 (gsCons (gN 3) (gsCons (gN 4) gsNil))) AB suf.length pre.length [x0, some (.int n), some (.tup rs), x3, x4] S = if rowsB n pre.getLast? suf = true then .nx [x0, some (.int n), some (.tup rs), y3, y4] S else .rt (.bl false) S
  | [], pre, x3, x4, he => by
    refine ⟨x3, x4, ?_⟩
    have hl : pre.length = rs.length := by rw [he]; simp
    rw [hl, ft_end, rowsB, if_pos rfl]
  | d :: suf, pre, x3, x4, he => by
    have hd : rs[pre.length]? = some d := by rw [he]; simp
    have hm : d ∈ rs := by rw [he]; simp
    have hg : gT 2 (gsCons (gN 3) (gsCons (gN 4) gsNil)) (.tup [.int (pre.length : Int), d]) [x0, some (.int n), some (.tup rs), x3, x4] S = some [x0, some (.int n), some (.tup rs), some (.int (pre.length : Int)), some d] := rfl
    by_cases hb : ∃ p, d = prD p
    · obtain ⟨p, rfl⟩ := hb
      have hprev : (pre.length = 0 ∧ pre.getLast? = none) ∨ (0 < pre.length ∧ ∃ q, pre.getLast? = some q ∧ rs[pre.length - 1]? = some (prD q)) := by
        cases hp : pre.getLast? with
        | none => exact .inl ⟨by rw [List.getLast?_eq_none_iff] at hp; rw [hp]; rfl, rfl⟩
        | some q =>
          have hne : pre ≠ [] := by intro z; rw [z] at hp; cases hp
          have hl := List.length_pos_iff.mpr hne
          refine .inr ⟨hl, q, rfl, ?_⟩
          rw [he, List.getElem?_append_left (by rw [List.length_map]; omega), List.getElem?_map, ← List.getLast?_eq_getElem?, hp]; rfl
      have st := ab_pair (S := S) (x0 := x0) (n := n) (rs := rs) (p := p) hprev
      rw [rowsB_pr]
      by_cases hc : (decide (p.1 < n) && prevB pre.getLast? p) = true
      · rw [if_pos hc] at st
        obtain ⟨y3, y4, q⟩ := ab_loop hT suf (pre ++ [p]) (some (.int (pre.length : Int))) (some (prD p)) (by rw [he]; simp)
        refine ⟨y3, y4, ?_⟩
        rw [show (prD p :: suf).length = suf.length + 1 from rfl, ft_nx hd hg st]
        rw [List.length_append, List.length_singleton] at q
        rw [q, hc, Bool.true_and, List.getLast?_concat]
      · rw [if_neg hc] at st
        refine ⟨x3, x4, ?_⟩
        rw [show (prD p :: suf).length = suf.length + 1 from rfl, ft_rt hd hg st, Bool.eq_false_iff.mpr hc, Bool.false_and, if_neg Bool.false_ne_true]
    · have hb' : ∀ es, d = .tup es → pairB es = false := fun es e => by
        cases hp : pairB es with
        | false => rfl
        | true =>
          obtain ⟨p, ep⟩ := pairB_inv hp
          exact absurd ⟨p, e.trans ep⟩ hb
      refine ⟨x3, x4, ?_⟩
      rw [show (d :: suf).length = suf.length + 1 from rfl, ft_rt hd hg (ab_bad (hT d hm) hb'), rowsB_bad hb', if_neg Bool.false_ne_true]
end K07

namespace K07
open PySem PySem.Spec L2 Mi
/-! ### runs, in plain numbers -/
/-- rows behind the pair q: they ascend below n, neighbours differ -/
def chain (n : Int) : (Int × Int) → Row → Prop
  | _, [] => True
  | q, p :: r => p.1 < n ∧ q.1 < p.1 ∧ q.2 ≠ p.2 ∧ chain n p r
/-- the one form of an array's rows -/
def Canon (n : Int) : Row → Prop
  | [] => n = 0
  | p :: r => 0 < n ∧ p.1 = 0 ∧ chain n p r
/-- the value at z: of the last pair that starts at most at z, d ahead of all -/
def val (d : Int) : Row → Int → Int
  | [], _ => d
  | p :: r, z => if p.1 ≤ z then val p.2 r z else d
theorem chain_gt {n : Int} : ∀ {q : Int × Int} {r : Row}, chain n q r → ∀ p ∈ r, q.1 < p.1
  | _, [], _, p, h => by cases h
  | q, p :: r, h, x, hx => by
    rcases List.mem_cons.mp hx with rfl | hx
    · exact h.2.1
    · exact Int.lt_trans h.2.1 (chain_gt h.2.2.2 x hx)
theorem val_low {d : Int} {r : Row} {z : Int} (h : ∀ p ∈ r, z < p.1) : val d r z = d := by
  cases r with
  | nil => rfl
  | cons p r => unfold val; rw [if_neg (by have := h p (List.mem_cons_self ..); omega)]
theorem chain_uniq {n : Int} : ∀ {q : Int × Int} {r s : Row}, chain n q r → chain n q s → (∀ z, q.1 < z → z < n → val q.2 r z = val q.2 s z) → r = s
  | q, [], [], _, _, _ => rfl
  | q, [], p :: s, _, h2, hv => by
    have e := hv p.1 h2.2.1 h2.1
    rw [val, val, if_pos (Int.le_refl _), val_low (chain_gt h2.2.2.2)] at e
    exact absurd e h2.2.2.1
  | q, p :: r, [], h1, _, hv => by
    have e := hv p.1 h1.2.1 h1.1
    rw [val, val, if_pos (Int.le_refl _), val_low (chain_gt h1.2.2.2)] at e
    exact absurd e.symm h1.2.2.1
  | q, p :: r, p' :: s, h1, h2, hv => by
    have e1 : p.1 = p'.1 := by
      rcases Int.lt_trichotomy p.1 p'.1 with z | z | z
      · have e := hv p.1 h1.2.1 h1.1
        rw [val, val, if_pos (Int.le_refl _), if_neg (by omega), val_low (chain_gt h1.2.2.2)] at e
        exact absurd e.symm h1.2.2.1
      · exact z
      · have e := hv p'.1 h2.2.1 h2.1
        rw [val, val, if_pos (Int.le_refl _), if_neg (by omega), val_low (chain_gt h2.2.2.2)] at e
        exact absurd e h2.2.2.1
    have e2 : p.2 = p'.2 := by
      have e := hv p.1 h1.2.1 h1.1
      rw [val, val, if_pos (Int.le_refl _), if_pos (by omega), val_low (chain_gt h1.2.2.2), val_low (by rw [e1]; exact chain_gt h2.2.2.2)] at e
      exact e
    have ep : p = p' := Prod.ext e1 e2
    subst ep
    rw [chain_uniq h1.2.2.2 h2.2.2.2 fun z hz hn => by
      have e := hv z (Int.lt_trans h1.2.1 hz) hn
      rw [val, val, if_pos (by omega), if_pos (by omega)] at e
      exact e]
theorem canon_uniq {n : Int} {r s : Row} (h1 : Canon n r) (h2 : Canon n s) (hv : ∀ z, 0 ≤ z → z < n → val 0 r z = val 0 s z) : r = s := by
  cases r with
  | nil =>
    cases s with
    | nil => rfl
    | cons p s => have : n = 0 := h1; have := h2.1; omega
  | cons p r =>
    cases s with
    | nil => have : n = 0 := h2; have := h1.1; omega
    | cons p' s =>
      have e1 : p.1 = p'.1 := h1.2.1.trans h2.2.1.symm
      have a1 := h1.2.1
      have e2 : p.2 = p'.2 := by
        have e := hv 0 (Int.le_refl _) h1.1
        rw [val, val, if_pos (by omega), if_pos (by omega), val_low (by rw [← h1.2.1]; exact chain_gt h1.2.2), val_low (by rw [← h2.2.1]; exact chain_gt h2.2.2)] at e
        exact e
      have ep : p = p' := Prod.ext e1 e2
      subst ep
      rw [chain_uniq h1.2.2 h2.2.2 fun z hz hn => by
        have e := hv z (by omega) hn
        rw [val, val, if_pos (by omega), if_pos (by omega)] at e
        exact e]
/-! joined runs -/
def jr (n : Int) : Int → Row → Row
  | _, [] => []
  | v, p :: r => if p.1 < n ∧ v ≠ p.2 then p :: jr n p.2 r else jr n v r
def jr0 (n : Int) : Row → Row
  | [] => []
  | p :: r => if p.1 < n then p :: jr n p.2 r else jr0 n r
/-- pairs that ascend, equal starts with equal values -/
def Srt : (Int × Int) → Row → Prop
  | _, [] => True
  | q, p :: r => q.1 ≤ p.1 ∧ (q.1 = p.1 → q.2 = p.2) ∧ Srt p r
theorem srt_ge : ∀ {q : Int × Int} {r : Row}, Srt q r → ∀ p ∈ r, q.1 ≤ p.1
  | _, [], _, p, h => by cases h
  | q, p :: r, h, x, hx => by
    rcases List.mem_cons.mp hx with rfl | hx
    · exact h.1
    · exact Int.le_trans h.1 (srt_ge h.2.2 x hx)
/-- b the start of the last run, v its value; q the last pair seen -/
theorem jr_ok {n : Int} : ∀ {r : Row} {b v : Int} {q : Int × Int}, Srt q r → b ≤ q.1 → q.2 = v ∨ n ≤ q.1 → (∀ p ∈ r, p.1 = b → p.2 = v) → chain n (b, v) (jr n v r) ∧ ∀ z, q.1 ≤ z → z < n → val v (jr n v r) z = val v r z
  | [], b, v, q, _, _, _, _ => ⟨True.intro, fun _ _ _ => rfl⟩
  | p :: r, b, v, q, hs, hb, hq, he => by
    obtain ⟨h1, h2, h3⟩ := hs
    unfold jr
    by_cases hc : p.1 < n ∧ v ≠ p.2
    · rw [if_pos hc]
      have hqv : q.2 = v := by
        rcases hq with e | e
        · exact e
        · omega
      have hbp : b < p.1 := by
        rcases Int.lt_or_eq_of_le (Int.le_trans hb h1) with e | e
        · exact e
        · exact absurd (he p (List.mem_cons_self ..) e.symm).symm hc.2
      have same : ∀ x ∈ r, x.1 = p.1 → x.2 = p.2 := by
        have key : ∀ {p : Int × Int} {r : Row}, Srt p r → ∀ x ∈ r, x.1 = p.1 → x.2 = p.2 := by
          intro p r
          induction r generalizing p with
          | nil => intro _ x hx; cases hx
          | cons y r ih =>
            intro hs x hx e
            obtain ⟨g1, g2, g3⟩ := hs
            have hy : y.1 = p.1 := by
              rcases List.mem_cons.mp hx with rfl | hx
              · exact e
              · have := srt_ge g3 x hx; omega
            rcases List.mem_cons.mp hx with rfl | hx
            · exact (g2 hy.symm).symm
            · rw [ih g3 x hx (by omega), g2 hy.symm]
        exact key h3
      obtain ⟨i1, i2⟩ := jr_ok (n := n) (b := p.1) (v := p.2) h3 (Int.le_refl _) (.inl rfl) same
      refine ⟨⟨hc.1, hbp, hc.2, i1⟩, fun z hz hn => ?_⟩
      unfold val
      by_cases hz2 : p.1 ≤ z
      · rw [if_pos hz2, if_pos hz2, i2 z hz2 hn]
      · rw [if_neg hz2, if_neg hz2]
    · rw [if_neg hc]
      have hp : p.2 = v ∨ n ≤ p.1 := by
        by_cases h : p.1 < n
        · left
          by_cases h' : v = p.2
          · exact h'.symm
          · exact absurd ⟨h, h'⟩ hc
        · right; omega
      obtain ⟨i1, i2⟩ := jr_ok (n := n) (b := b) (v := v) h3 (Int.le_trans hb h1) hp fun x hx => he x (List.mem_cons_of_mem _ hx)
      refine ⟨i1, fun z hz hn => ?_⟩
      rw [val]
      by_cases hz2 : p.1 ≤ z
      · rw [if_pos hz2]
        rcases hp with e | e
        · rw [e]; exact i2 z hz2 hn
        · omega
      · rw [if_neg hz2]
        -- z below p: all starts of the joined rows lie above
        have low : ∀ (r : Row) (v : Int), (∀ x ∈ r, z < x.1) → val v (jr n v r) z = v := by
          intro r
          induction r with
          | nil => intro v _; rfl
          | cons y r ih =>
            intro v hr
            unfold jr
            by_cases hc2 : y.1 < n ∧ v ≠ y.2
            · rw [if_pos hc2, val, if_neg (by have := hr y (List.mem_cons_self ..); omega)]
            · rw [if_neg hc2]; exact ih v fun x hx => hr x (List.mem_cons_of_mem _ hx)
        exact low r v fun x hx => by have := srt_ge h3 x hx; omega
theorem jr0_ok {n : Int} {p : Int × Int} {r : Row} (hn : 0 < n) (h0 : p.1 = 0) (hs : Srt p r) : Canon n (jr0 n (p :: r)) ∧ ∀ z, 0 ≤ z → z < n → val 0 (jr0 n (p :: r)) z = val 0 (p :: r) z := by
  have same : ∀ x ∈ r, x.1 = p.1 → x.2 = p.2 := by
    have key : ∀ {p : Int × Int} {r : Row}, Srt p r → ∀ x ∈ r, x.1 = p.1 → x.2 = p.2 := by
      intro p r
      induction r generalizing p with
      | nil => intro _ x hx; cases hx
      | cons y r ih =>
        intro hs x hx e
        obtain ⟨g1, g2, g3⟩ := hs
        have hy : y.1 = p.1 := by
          rcases List.mem_cons.mp hx with rfl | hx
          · exact e
          · have := srt_ge g3 x hx; omega
        rcases List.mem_cons.mp hx with rfl | hx
        · exact (g2 hy.symm).symm
        · rw [ih g3 x hx (by omega), g2 hy.symm]
    exact key hs
  obtain ⟨i1, i2⟩ := jr_ok (n := n) (b := p.1) (v := p.2) hs (Int.le_refl _) (.inl rfl) same
  have e : jr0 n (p :: r) = p :: jr n p.2 r := by unfold jr0; rw [if_pos (by omega)]
  rw [e]
  refine ⟨⟨hn, h0, i1⟩, fun z hz hzn => ?_⟩
  rw [val, val, if_pos (by omega), if_pos (by omega), i2 z (by omega) hzn]
/-- nothing of an empty array -/
theorem jr0_nil {p : Int × Int} {r : Row} (h0 : 0 ≤ p.1) (hs : Srt p r) : jr0 0 (p :: r) = [] := by
  have key : ∀ r : Row, (∀ x ∈ r, 0 ≤ x.1) → jr0 0 r = [] := by
    intro r
    induction r with
    | nil => intro _; rfl
    | cons y r ih =>
      intro h
      unfold jr0
      rw [if_neg (by have := h y (List.mem_cons_self ..); omega)]
      exact ih fun x hx => h x (List.mem_cons_of_mem _ hx)
  refine key _ fun x hx => ?_
  rcases List.mem_cons.mp hx with rfl | hx
  · exact h0
  · have := srt_ge hs x hx; omega
end K07

namespace K07
open PySem PySem.Spec L2 Mi
/-! ### is_array, whole -/
def isArrB : D → Bool
  | .tup [.int n, .tup rs] => if n ≤ 0 ∨ rs = [] then decide (n = 0) && decide (rs = []) else rowsB n none rs
  | _ => false
structure Ty3 (S : Sto) (d : D) : Prop where
  ty : Ty S d
  sub : ∀ es, d = .tup es → ∀ e ∈ es, Ty S e ∧ ∀ rs, e = .tup rs → ∀ r ∈ rs, Ty2 S r
theorem isArr_len {es : List D} (h : es.length ≠ 2) : isArrB (.tup es) = false := by
  match es, h with
  | [], _ => rfl
  | [a], _ => cases a <;> rfl
  | [a, b], h => exact absurd rfl h
  | a :: b :: c :: r, _ => cases a <;> cases b <;> rfl
theorem isArr_fst {a b : D} (h : isI a = false) : isArrB (.tup [a, b]) = false := by
  cases a <;> first | rfl | (cases h; done)
theorem isArr_snd {a b : D} (h : ∀ rs, b ≠ .tup rs) : isArrB (.tup [a, b]) = false := by
  cases a <;> first | rfl | skip
  cases b <;> first | rfl | exact absurd rfl (h _)
theorem is_array {S : Sto} {d : D} (h : Ty3 S d) : M_is_array [d] S = .ok (.bl (isArrB d)) S := by
  unfold M_is_array mFn B_is_array
  simp only [List.length_cons, List.length_nil, Nat.reduceAdd, if_true, List.map_cons, List.map_nil, List.replicate, List.cons_append, List.nil_append, Nat.reduceSub]
  rcases isi_tup h.ty with ⟨es, rfl⟩ | e
  · have hs := h.sub es rfl
    by_cases hl : es.length = 2
    · match es, hl, hs with
      | [a, b], _, hs =>
        have d2 : decide ((([a, b] : List D).length : Int) = 2) = true := rfl
        have wa := is_whole (hs a (by simp)).1
        cases ha : isI a with
        | false =>
          rw [ha] at wa
          simp only [bind_ok, bind_ex, of_some, rs_ok, rs_ex, then_nx, then_rt, then_ex, then_bk, then_ct, mV0, mVs, mC_, m2_, m1_, mB_, kB_bl, mB1_, mNil_, mCons_, f1L_, f2L_, mTup_, mLst_, mCall_, mNotT_, mAndT_, mOrT_, mIf_, mAndV_, mOrV_, mNotV_, kAndV_bl, kOrV_bl, kNotV_bl, mSl_, mPart_, kPart_, mNoPart_, sSeq_, sSet_, sRet_, sIf_, sExpr_, sNil_, sBreak_, sCont_, e_lt, e_le, e_gt, e_ge, e_eqI, e_neI, e_eqS, e_neS, e_add, e_sub, List.set_cons_zero, List.set_cons_succ, kTu1, kTu2, kTu3, kTu4, kTu5, kLs0, kLs1, kLs2, kLs3, kLs4, kLs5, mM_, mM0_, sAsg_, sFor_, iRng_, iSeq_, isi_tt, Bool.not_true, Bool.false_eq_true, if_false, e_lenT, d2, e_t0, wa, Bool.not_false, if_true, isArr_fst ha]
          rfl
        | true =>
          rw [ha] at wa
          obtain ⟨n, rfl⟩ : ∃ n, a = .int n := by cases a <;> first | (cases ha; done) | exact ⟨_, rfl⟩
          rcases isi_tup (hs b (by simp)).1 with ⟨rs, rfl⟩ | e2
          · have hT := (hs (.tup rs) (by simp)).2 rs rfl
            have hg : gT 2 (gsCons (gN 1) (gsCons (gN 2) gsNil)) (.tup [.int n, .tup rs]) [some (.tup [.int n, .tup rs]), none, none, none, none] S = some [some (.tup [.int n, .tup rs]), some (.int n), some (.tup rs), none, none] := rfl
            have kas : kAsg (gT 2 (gsCons (gN 1) (gsCons (gN 2) gsNil))) [some (.tup [.int n, .tup rs]), none, none, none, none] (.tup [.int n, .tup rs]) S = .nx [some (.tup [.int n, .tup rs]), some (.int n), some (.tup rs), none, none] S := by unfold kAsg; rw [hg]
            have ken : kEnumA [.tup rs] S = .ok (itEnumT rs) S := rfl
            have iE : ∀ (a : MA) (env : Mi.Env) (S : Sto), iEnumA a env S = (a env S).bind kEnumA := fun _ _ _ => rfl
            have en : (itEnumT rs).n = rs.length := rfl
            by_cases h1 : n ≤ 0
            · have d1 : decide (n ≤ 0) = true := decide_eq_true h1
              have er : isArrB (.tup [.int n, .tup rs]) = (decide (n = 0) && decide (rs = [])) := by
                show (if n ≤ 0 ∨ rs = [] then _ else _) = _
                rw [if_pos (.inl h1)]
              have dl : decide ((rs.length : Int) = 0) = decide (rs = []) := by
                cases rs with
                | nil => rfl
                | cons r rs => exact (decide_eq_false (by simp; omega)).trans (decide_eq_false (by simp)).symm
              simp only [bind_ok, bind_ex, of_some, rs_ok, rs_ex, then_nx, then_rt, then_ex, then_bk, then_ct, mV0, mVs, mC_, m2_, m1_, mB_, kB_bl, mB1_, mNil_, mCons_, f1L_, f2L_, mTup_, mLst_, mCall_, mNotT_, mAndT_, mOrT_, mIf_, mAndV_, mOrV_, mNotV_, kAndV_bl, kOrV_bl, kNotV_bl, mSl_, mPart_, kPart_, mNoPart_, sSeq_, sSet_, sRet_, sIf_, sExpr_, sNil_, sBreak_, sCont_, e_lt, e_le, e_gt, e_ge, e_eqI, e_neI, e_eqS, e_neS, e_add, e_sub, List.set_cons_zero, List.set_cons_succ, kTu1, kTu2, kTu3, kTu4, kTu5, kLs0, kLs1, kLs2, kLs3, kLs4, kLs5, mM_, mM0_, sAsg_, sFor_, iRng_, iSeq_, isi_tt, Bool.not_true, Bool.false_eq_true, if_false, e_lenT, d2, e_t0, e_t1, wa, kas, d1, if_true, dl, er]
              cases hn : decide (n = 0)
              · simp only [Bool.false_eq_true, if_false, Bool.false_and, rs_ok, then_rt]; rfl
              · simp only [if_true, Bool.true_and, rs_ok, then_rt]; rfl
            · have d1 : decide (n ≤ 0) = false := decide_eq_false h1
              by_cases h2 : rs = []
              · subst h2
                have dl : decide ((([] : List D).length : Int) = 0) = true := rfl
                have er : isArrB (.tup [.int n, .tup []]) = (decide (n = 0) && true) := by
                  show (if n ≤ 0 ∨ ([] : List D) = [] then _ else _) = _
                  rw [if_pos (.inr rfl)]; rfl
                have dn : decide (n = 0) = false := decide_eq_false (by omega)
                simp only [bind_ok, bind_ex, of_some, rs_ok, rs_ex, then_nx, then_rt, then_ex, then_bk, then_ct, mV0, mVs, mC_, m2_, m1_, mB_, kB_bl, mB1_, mNil_, mCons_, f1L_, f2L_, mTup_, mLst_, mCall_, mNotT_, mAndT_, mOrT_, mIf_, mAndV_, mOrV_, mNotV_, kAndV_bl, kOrV_bl, kNotV_bl, mSl_, mPart_, kPart_, mNoPart_, sSeq_, sSet_, sRet_, sIf_, sExpr_, sNil_, sBreak_, sCont_, e_lt, e_le, e_gt, e_ge, e_eqI, e_neI, e_eqS, e_neS, e_add, e_sub, List.set_cons_zero, List.set_cons_succ, kTu1, kTu2, kTu3, kTu4, kTu5, kLs0, kLs1, kLs2, kLs3, kLs4, kLs5, mM_, mM0_, sAsg_, sFor_, iRng_, iSeq_, isi_tt, Bool.not_true, Bool.false_eq_true, if_false, e_lenT, d2, e_t0, e_t1, wa, kas, d1, if_true, dl, er, dn, Bool.false_and]
                rfl
              · have dl : decide ((rs.length : Int) = 0) = false := decide_eq_false (by cases rs with | nil => exact absurd rfl h2 | cons _ _ => simp; omega)
                have er : isArrB (.tup [.int n, .tup rs]) = rowsB n none rs := by
                  show (if n ≤ 0 ∨ rs = [] then _ else _) = _
                  rw [if_neg (by rintro (z | z); exact h1 z; exact h2 z)]
                obtain ⟨y3, y4, q⟩ := ab_loop (S := S) (x0 := some (.tup [.int n, .tup rs])) (n := n) hT rs [] none none rfl
                unfold AB at q
                rw [show ([] : Row).length = 0 from rfl] at q
                simp only [bind_ok, bind_ex, of_some, rs_ok, rs_ex, then_nx, then_rt, then_ex, then_bk, then_ct, mV0, mVs, mC_, m2_, m1_, mB_, kB_bl, mB1_, mNil_, mCons_, f1L_, f2L_, mTup_, mLst_, mCall_, mNotT_, mAndT_, mOrT_, mIf_, mAndV_, mOrV_, mNotV_, kAndV_bl, kOrV_bl, kNotV_bl, mSl_, mPart_, kPart_, mNoPart_, sSeq_, sSet_, sRet_, sIf_, sExpr_, sNil_, sBreak_, sCont_, e_lt, e_le, e_gt, e_ge, e_eqI, e_neI, e_eqS, e_neS, e_add, e_sub, List.set_cons_zero, List.set_cons_succ, kTu1, kTu2, kTu3, kTu4, kTu5, kLs0, kLs1, kLs2, kLs3, kLs4, kLs5, mM_, mM0_, sAsg_, sFor_, iRng_, iSeq_, isi_tt, Bool.not_true, Bool.false_eq_true, if_false, e_lenT, d2, e_t0, e_t1, wa, kas, d1, dl, er, iE, ken, en] at q ⊢
                cases hr : rowsB n none rs with
                | false =>
                  rw [if_neg (show ¬ rowsB n ([] : Row).getLast? rs = true from fun z => by rw [show rowsB n ([] : Row).getLast? rs = false from hr] at z; cases z)] at q
                  rw [q]; rfl
                | true =>
                  rw [if_pos (show rowsB n ([] : Row).getLast? rs = true from hr)] at q
                  rw [q]; rfl
          · simp only [bind_ok, bind_ex, of_some, rs_ok, rs_ex, then_nx, then_rt, then_ex, then_bk, then_ct, mV0, mVs, mC_, m2_, m1_, mB_, kB_bl, mB1_, mNil_, mCons_, f1L_, f2L_, mTup_, mLst_, mCall_, mNotT_, mAndT_, mOrT_, mIf_, mAndV_, mOrV_, mNotV_, kAndV_bl, kOrV_bl, kNotV_bl, mSl_, mPart_, kPart_, mNoPart_, sSeq_, sSet_, sRet_, sIf_, sExpr_, sNil_, sBreak_, sCont_, e_lt, e_le, e_gt, e_ge, e_eqI, e_neI, e_eqS, e_neS, e_add, e_sub, List.set_cons_zero, List.set_cons_succ, kTu1, kTu2, kTu3, kTu4, kTu5, kLs0, kLs1, kLs2, kLs3, kLs4, kLs5, mM_, mM0_, sAsg_, sFor_, iRng_, iSeq_, isi_tt, Bool.not_true, Bool.false_eq_true, if_false, e_lenT, d2, e_t0, e_t1, wa, e2, Bool.not_false, if_true]
            rw [isArr_snd fun rs z => by subst z; cases e2]
            rfl
    · have d2 : decide ((es.length : Int) = 2) = false := decide_eq_false (by omega)
      simp only [bind_ok, bind_ex, of_some, rs_ok, rs_ex, then_nx, then_rt, then_ex, then_bk, then_ct, mV0, mVs, mC_, m2_, m1_, mB_, kB_bl, mB1_, mNil_, mCons_, f1L_, f2L_, mTup_, mLst_, mCall_, mNotT_, mAndT_, mOrT_, mIf_, mAndV_, mOrV_, mNotV_, kAndV_bl, kOrV_bl, kNotV_bl, mSl_, mPart_, kPart_, mNoPart_, sSeq_, sSet_, sRet_, sIf_, sExpr_, sNil_, sBreak_, sCont_, e_lt, e_le, e_gt, e_ge, e_eqI, e_neI, e_eqS, e_neS, e_add, e_sub, List.set_cons_zero, List.set_cons_succ, kTu1, kTu2, kTu3, kTu4, kTu5, kLs0, kLs1, kLs2, kLs3, kLs4, kLs5, mM_, mM0_, sAsg_, sFor_, iRng_, iSeq_, isi_tt, Bool.not_true, Bool.false_eq_true, if_false, e_lenT, d2, Bool.not_false, if_true, isArr_len hl]
      rfl
  · simp only [bind_ok, bind_ex, of_some, rs_ok, rs_ex, then_nx, then_rt, then_ex, then_bk, then_ct, mV0, mVs, mC_, m2_, m1_, mB_, kB_bl, mB1_, mNil_, mCons_, f1L_, f2L_, mTup_, mLst_, mCall_, mNotT_, mAndT_, mOrT_, mIf_, mAndV_, mOrV_, mNotV_, kAndV_bl, kOrV_bl, kNotV_bl, mSl_, mPart_, kPart_, mNoPart_, sSeq_, sSet_, sRet_, sIf_, sExpr_, sNil_, sBreak_, sCont_, e_lt, e_le, e_gt, e_ge, e_eqI, e_neI, e_eqS, e_neS, e_add, e_sub, List.set_cons_zero, List.set_cons_succ, kTu1, kTu2, kTu3, kTu4, kTu5, kLs0, kLs1, kLs2, kLs3, kLs4, kLs5, mM_, mM0_, sAsg_, sFor_, iRng_, iSeq_, e, Bool.not_false, if_true]
    have : isArrB d = false := by
      cases d <;> first | rfl | (cases e; done)
    rw [this]
    rfl
end K07

namespace K07
open PySem PySem.Spec L2 Mi
theorem prevB_some {q p : Int × Int} : prevB (some q) p = (decide (q.1 < p.1) && decide (q.2 ≠ p.2)) := (rfl)
theorem prevB_none {p : Int × Int} : prevB none p = decide (p.1 = 0) := (rfl)
theorem rowsB_chain {n : Int} : ∀ {q : Int × Int} {r : Row}, chain n q r → rowsB n (some q) (r.map prD) = true
  | q, [], _ => rfl
  | q, p :: r, h => by
    show rowsB n (some q) (prD p :: r.map prD) = true
    rw [rowsB_pr, rowsB_chain h.2.2.2, prevB_some, decide_eq_true h.1, decide_eq_true h.2.1, decide_eq_true h.2.2.1]; rfl
theorem canon_arr {n : Int} {r : Row} (h : Canon n r) : isArrB (aD n r) = true := by
  cases r with
  | nil =>
    have : n = 0 := h
    subst this
    rfl
  | cons p r =>
    show (if n ≤ 0 ∨ (prD p :: r.map prD) = [] then _ else rowsB n none (prD p :: r.map prD)) = true
    have h1 := h.1
    rw [if_neg (by rintro (z | z); omega; cases z), rowsB_pr, rowsB_chain h.2.2, prevB_none, decide_eq_true h.2.1, decide_eq_true (show p.1 < n by rw [h.2.1]; exact h.1)]; rfl
theorem ty_int {S : Sto} {i : Int} : Ty S (.int i) := fun z => by cases z
theorem ty_tup {S : Sto} {es : List D} : Ty S (.tup es) := fun z => by cases z
theorem ty2_pr {S : Sto} (p : Int × Int) : Ty2 S (prD p) := ⟨ty_tup, fun es h e he => by
  cases h
  simp only [List.mem_cons, List.not_mem_nil, or_false] at he
  rcases he with rfl | rfl <;> exact ty_int⟩
theorem ty3_a {S : Sto} (n : Int) (r : Row) : Ty3 S (aD n r) := ⟨ty_tup, fun es h e he => by
  cases h
  simp only [List.mem_cons, List.not_mem_nil, or_false] at he
  rcases he with rfl | rfl
  · exact ⟨ty_int, fun rs h => by cases h⟩
  · refine ⟨ty_tup, fun rs h d hd => ?_⟩
    cases h
    obtain ⟨p, _, rfl⟩ := List.mem_map.mp hd
    exact ty2_pr p⟩
theorem is_arr {S : Sto} {n : Int} {r : Row} (h : Canon n r) : M_is_array [aD n r] S = .ok (.bl true) S := by rw [is_array (ty3_a n r), canon_arr h]
theorem check_arr {S : Sto} {n k : Int} {r : Row} (h : Canon n r) : M_check_array [aD n r, .int k] S = .ok .non S := by
  unfold M_check_array mFn B_check_array
  simp only [List.length_cons, List.length_nil, Nat.reduceAdd, if_true, List.map_cons, List.map_nil, List.replicate, List.cons_append, List.nil_append, Nat.sub_self]
  simp only [bind_ok, bind_ex, of_some, rs_ok, rs_ex, then_nx, then_rt, then_ex, then_bk, then_ct, mV0, mVs, mC_, m2_, m1_, mB_, kB_bl, mB1_, mNil_, mCons_, f1L_, f2L_, mTup_, mLst_, mCall_, mNotT_, mAndT_, mOrT_, mIf_, mAndV_, mOrV_, mNotV_, kAndV_bl, kOrV_bl, kNotV_bl, mSl_, mPart_, kPart_, mNoPart_, sSeq_, sSet_, sRet_, sIf_, sExpr_, sNil_, sBreak_, sCont_, e_lt, e_le, e_gt, e_ge, e_eqI, e_neI, e_eqS, e_neS, e_add, e_sub, List.set_cons_zero, List.set_cons_succ, kTu1, kTu2, kTu3, kTu4, kTu5, kLs0, kLs1, kLs2, kLs3, kLs4, kLs5, mM_, mM0_, sAsg_, sFor_, iRng_, iSeq_, is_arr h, Bool.not_true, Bool.false_eq_true, if_false]
  rfl
theorem check_whole {S : Sto} {i k : Int} : M_check_whole [.int i, .int k] S = .ok .non S := by
  unfold M_check_whole mFn B_check_whole
  simp only [List.length_cons, List.length_nil, Nat.reduceAdd, if_true, List.map_cons, List.map_nil, List.replicate, List.cons_append, List.nil_append, Nat.sub_self]
  simp only [bind_ok, bind_ex, of_some, rs_ok, rs_ex, then_nx, then_rt, then_ex, then_bk, then_ct, mV0, mVs, mC_, m2_, m1_, mB_, kB_bl, mB1_, mNil_, mCons_, f1L_, f2L_, mTup_, mLst_, mCall_, mNotT_, mAndT_, mOrT_, mIf_, mAndV_, mOrV_, mNotV_, kAndV_bl, kOrV_bl, kNotV_bl, mSl_, mPart_, kPart_, mNoPart_, sSeq_, sSet_, sRet_, sIf_, sExpr_, sNil_, sBreak_, sCont_, e_lt, e_le, e_gt, e_ge, e_eqI, e_neI, e_eqS, e_neS, e_add, e_sub, List.set_cons_zero, List.set_cons_succ, kTu1, kTu2, kTu3, kTu4, kTu5, kLs0, kLs1, kLs2, kLs3, kLs4, kLs5, mM_, mM0_, sAsg_, sFor_, iRng_, iSeq_, whole_int, Bool.not_true, Bool.false_eq_true, if_false]
  rfl
abbrev exBA (k : Int) : Xn := ⟨"BadArguments", [("number", .int k)]⟩
theorem check_arr_bad {S : Sto} {d : D} {k : Int} (h : Ty3 S d) (hb : isArrB d = false) : M_check_array [d, .int k] S = .ex (exBA k) S := by
  have e := is_array h
  rw [hb] at e
  unfold M_check_array mFn B_check_array
  simp only [List.length_cons, List.length_nil, Nat.reduceAdd, if_true, List.map_cons, List.map_nil, List.replicate, List.cons_append, List.nil_append, Nat.sub_self]
  simp only [bind_ok, bind_ex, of_some, rs_ok, rs_ex, then_nx, then_rt, then_ex, then_bk, then_ct, mV0, mVs, mC_, m2_, m1_, mB_, kB_bl, mB1_, mNil_, mCons_, f1L_, f2L_, mTup_, mLst_, mCall_, mNotT_, mAndT_, mOrT_, mIf_, mAndV_, mOrV_, mNotV_, kAndV_bl, kOrV_bl, kNotV_bl, mSl_, mPart_, kPart_, mNoPart_, sSeq_, sSet_, sRet_, sIf_, sExpr_, sNil_, sBreak_, sCont_, e_lt, e_le, e_gt, e_ge, e_eqI, e_neI, e_eqS, e_neS, e_add, e_sub, List.set_cons_zero, List.set_cons_succ, kTu1, kTu2, kTu3, kTu4, kTu5, kLs0, kLs1, kLs2, kLs3, kLs4, kLs5, mM_, mM0_, sAsg_, sFor_, iRng_, iSeq_, e, Bool.not_false, if_true]
  rfl
theorem check_whole_bad {S : Sto} {d : D} {k : Int} (h : Ty S d) (hb : isI d = false) : M_check_whole [d, .int k] S = .ex (exBA k) S := by
  have e := is_whole h
  rw [hb] at e
  unfold M_check_whole mFn B_check_whole
  simp only [List.length_cons, List.length_nil, Nat.reduceAdd, if_true, List.map_cons, List.map_nil, List.replicate, List.cons_append, List.nil_append, Nat.sub_self]
  simp only [bind_ok, bind_ex, of_some, rs_ok, rs_ex, then_nx, then_rt, then_ex, then_bk, then_ct, mV0, mVs, mC_, m2_, m1_, mB_, kB_bl, mB1_, mNil_, mCons_, f1L_, f2L_, mTup_, mLst_, mCall_, mNotT_, mAndT_, mOrT_, mIf_, mAndV_, mOrV_, mNotV_, kAndV_bl, kOrV_bl, kNotV_bl, mSl_, mPart_, kPart_, mNoPart_, sSeq_, sSet_, sRet_, sIf_, sExpr_, sNil_, sBreak_, sCont_, e_lt, e_le, e_gt, e_ge, e_eqI, e_neI, e_eqS, e_neS, e_add, e_sub, List.set_cons_zero, List.set_cons_succ, kTu1, kTu2, kTu3, kTu4, kTu5, kLs0, kLs1, kLs2, kLs3, kLs4, kLs5, mM_, mM0_, sAsg_, sFor_, iRng_, iSeq_, e, Bool.not_false, if_true]
  rfl
/-! ### joined runs -/
theorem at_last {ds : List D} {d : D} (h : ds.getLast? = some d) : atI ds (-1) = some d := by
  have h0 : ds ≠ [] := by intro e; subst e; cases h
  have h1 : 0 < ds.length := List.length_pos_iff.mpr h0
  unfold atI ixN
  rw [if_neg (by omega), if_pos (by omega)]
  show ds[((-1 : Int) + (ds.length : Int)).toNat]? = _
  rw [show ((-1 : Int) + (ds.length : Int)).toNat = ds.length - 1 by omega, ← List.getLast?_eq_getElem?, h]
theorem e_lastL {S : Sto} {j : Nat} {ds : List D} {d : D} (h : S[j]? = some (.lst ds)) (h2 : ds.getLast? = some d) : fIx (.obj j) (.int (-1)) S = some (d, S) := by
  show (lstAt S j).bind _ = _
  rw [lst_at h]
  show (atI ds (-1)).map _ = _
  rw [at_last h2]; rfl
theorem e_neg1 {S : Sto} : fNeg (.int 1) S = some (.int (-1), S) := (rfl)
def JB : MS := (sIf (mAndT (mB (m2 fLt (mV 3) (mV 0))) (mOrT (mB (m2 fEq (mB1 (f1L fLen) (mCons (mV 2) mNil)) (mC (.int 0)))) (mB (m2 fNe (m2 fIx (m2 fIx (mV 2) (m1 fNeg (mC (.int 1)))) (mC (.int 1))) (mV 4)))))
  (sExpr (mM "list" fAppend (mV 2) (mCons (mTup (mCons (mV 3) (mCons (mV 4) mNil))) mNil)))
  sNil)
def jrA (n : Int) : Option (Int × Int) → Row → Row
  | none => jr0 n
  | some q => jr n q.2
theorem jrA_nil (n : Int) (o : Option (Int × Int)) : jrA n o [] = [] := by cases o <;> rfl
theorem jrA_cons (n : Int) (o : Option (Int × Int)) (p : Int × Int) (r : Row) : jrA n o (p :: r) = if p.1 < n ∧ (∀ q, o = some q → q.2 ≠ p.2) then p :: jrA n (some p) r else jrA n o r := by
  cases o with
  | none =>
    show jr0 n (p :: r) = _
    rw [jr0]
    by_cases h : p.1 < n
    · rw [if_pos h, if_pos ⟨h, fun q z => by cases z⟩]; rfl
    · rw [if_neg h, if_neg (fun z => h z.1)]; rfl
  | some q =>
    show jr n q.2 (p :: r) = _
    rw [jr]
    by_cases h : p.1 < n ∧ q.2 ≠ p.2
    · rw [if_pos h, if_pos ⟨h.1, fun q' z => by cases z; exact h.2⟩]; rfl
    · rw [if_neg h, if_neg (fun z => h ⟨z.1, z.2 q rfl⟩)]; rfl
theorem jb_step {S : Sto} {n : Int} {x1 : Option D} {acc : Row} {p : Int × Int} (hl : acc.length < 900000) : JB [some (.int n), x1, some (.obj S.length), some (.int p.1), some (.int p.2)] (S ++ [.lst (acc.map prD)]) =
    .nx [some (.int n), x1, some (.obj S.length), some (.int p.1), some (.int p.2)] (S ++ [.lst ((if p.1 < n ∧ (∀ q, acc.getLast? = some q → q.2 ≠ p.2) then acc ++ [p] else acc).map prD)]) := by
  have hlen : fLen (.obj S.length) (S ++ [.lst (acc.map prD)]) = some (.int (acc.length : Int), S ++ [.lst (acc.map prD)]) := by rw [e_lenL last0, List.length_map]
  have happ : fAppend (.obj S.length) [.tup [.int p.1, .int p.2]] (S ++ [.lst (acc.map prD)]) = some (.non, S ++ [.lst ((acc ++ [p]).map prD)]) := by
    rw [e_append last0 (by rw [sizeLine_eq, List.length_map]; omega), sa0, List.map_append]; rfl
  unfold JB
  by_cases h1 : p.1 < n
  · have d1 : decide (p.1 < n) = true := decide_eq_true h1
    cases hg : acc.getLast? with
    | none =>
      have : acc = [] := List.getLast?_eq_none_iff.mp hg
      subst this
      rw [if_pos ⟨h1, fun q z => by cases z⟩]
      have d2 : decide ((([] : Row).length : Int) = 0) = true := rfl
      simp only [bind_ok, bind_ex, of_some, rs_ok, rs_ex, then_nx, then_rt, then_ex, then_bk, then_ct, mV0, mVs, mC_, m2_, m1_, mB_, kB_bl, mB1_, mNil_, mCons_, f1L_, f2L_, mTup_, mLst_, mCall_, mNotT_, mAndT_, mOrT_, mIf_, mAndV_, mOrV_, mNotV_, kAndV_bl, kOrV_bl, kNotV_bl, mSl_, mPart_, kPart_, mNoPart_, sSeq_, sSet_, sRet_, sIf_, sExpr_, sNil_, sBreak_, sCont_, e_lt, e_le, e_gt, e_ge, e_eqI, e_neI, e_eqS, e_neS, e_add, e_sub, List.set_cons_zero, List.set_cons_succ, kTu1, kTu2, kTu3, kTu4, kTu5, kLs0, kLs1, kLs2, kLs3, kLs4, kLs5, mM_, mM0_, sAsg_, sFor_, iRng_, iSeq_, d1, if_true, hlen, d2, tyL last0, happ]
    | some q =>
      have hne : acc ≠ [] := by intro z; subst z; cases hg
      have d2 : decide ((acc.length : Int) = 0) = false := decide_eq_false (by have := List.length_pos_iff.mpr hne; omega)
      have hl1 : fIx (.obj S.length) (.int (-1)) (S ++ [.lst (acc.map prD)]) = some (prD q, S ++ [.lst (acc.map prD)]) := e_lastL last0 (by rw [List.getLast?_map, hg]; rfl)
      by_cases h2 : q.2 = p.2
      · have d3 : decide (q.2 = p.2) = true := decide_eq_true h2
        rw [if_neg (fun z => z.2 q rfl h2)]
        simp only [bind_ok, bind_ex, of_some, rs_ok, rs_ex, then_nx, then_rt, then_ex, then_bk, then_ct, mV0, mVs, mC_, m2_, m1_, mB_, kB_bl, mB1_, mNil_, mCons_, f1L_, f2L_, mTup_, mLst_, mCall_, mNotT_, mAndT_, mOrT_, mIf_, mAndV_, mOrV_, mNotV_, kAndV_bl, kOrV_bl, kNotV_bl, mSl_, mPart_, kPart_, mNoPart_, sSeq_, sSet_, sRet_, sIf_, sExpr_, sNil_, sBreak_, sCont_, e_lt, e_le, e_gt, e_ge, e_eqI, e_neI, e_eqS, e_neS, e_add, e_sub, List.set_cons_zero, List.set_cons_succ, kTu1, kTu2, kTu3, kTu4, kTu5, kLs0, kLs1, kLs2, kLs3, kLs4, kLs5, mM_, mM0_, sAsg_, sFor_, iRng_, iSeq_, d1, if_true, hlen, d2, Bool.false_eq_true, if_false, e_neg1, hl1, e_p1, d3, Bool.not_true]
      · have d3 : decide (q.2 = p.2) = false := decide_eq_false h2
        rw [if_pos ⟨h1, fun q' z => by cases z; exact h2⟩]
        simp only [bind_ok, bind_ex, of_some, rs_ok, rs_ex, then_nx, then_rt, then_ex, then_bk, then_ct, mV0, mVs, mC_, m2_, m1_, mB_, kB_bl, mB1_, mNil_, mCons_, f1L_, f2L_, mTup_, mLst_, mCall_, mNotT_, mAndT_, mOrT_, mIf_, mAndV_, mOrV_, mNotV_, kAndV_bl, kOrV_bl, kNotV_bl, mSl_, mPart_, kPart_, mNoPart_, sSeq_, sSet_, sRet_, sIf_, sExpr_, sNil_, sBreak_, sCont_, e_lt, e_le, e_gt, e_ge, e_eqI, e_neI, e_eqS, e_neS, e_add, e_sub, List.set_cons_zero, List.set_cons_succ, kTu1, kTu2, kTu3, kTu4, kTu5, kLs0, kLs1, kLs2, kLs3, kLs4, kLs5, mM_, mM0_, sAsg_, sFor_, iRng_, iSeq_, d1, if_true, hlen, d2, Bool.false_eq_true, if_false, e_neg1, hl1, e_p1, d3, Bool.not_false, tyL last0, happ]
  · have d1 : decide (p.1 < n) = false := decide_eq_false h1
    rw [if_neg (fun z => h1 z.1)]
    simp only [bind_ok, bind_ex, of_some, rs_ok, rs_ex, then_nx, then_rt, then_ex, then_bk, then_ct, mV0, mVs, mC_, m2_, m1_, mB_, kB_bl, mB1_, mNil_, mCons_, f1L_, f2L_, mTup_, mLst_, mCall_, mNotT_, mAndT_, mOrT_, mIf_, mAndV_, mOrV_, mNotV_, kAndV_bl, kOrV_bl, kNotV_bl, mSl_, mPart_, kPart_, mNoPart_, sSeq_, sSet_, sRet_, sIf_, sExpr_, sNil_, sBreak_, sCont_, e_lt, e_le, e_gt, e_ge, e_eqI, e_neI, e_eqS, e_neS, e_add, e_sub, List.set_cons_zero, List.set_cons_succ, kTu1, kTu2, kTu3, kTu4, kTu5, kLs0, kLs1, kLs2, kLs3, kLs4, kLs5, mM_, mM0_, sAsg_, sFor_, iRng_, iSeq_, d1, Bool.false_eq_true, if_false]
theorem jb_loop {S : Sto} {n : Int} {j : Nat} {ps : Row} (hj : S[j]? = some (.lst (ps.map prD))) : ∀ (suf pre acc : Row) (x3 x4 : Option D), ps = pre ++ suf → acc.length + suf.length < 900000 → ∃ y3 y4 : Option D,
    forI (itLst ps.length j) (gT 2 (gsCons (gN 3) (gsCons (gN 4) gsNil))) JB suf.length pre.length [some (.int n), some (.obj j), some (.obj S.length), x3, x4] (S ++ [.lst (acc.map prD)]) = .nx [some (.int n), some (.obj j), some (.obj S.length), y3, y4] (S ++ [.lst ((acc ++ jrA n acc.getLast? suf).map prD)])
  | [], pre, acc, x3, x4, he, hl => by
    refine ⟨x3, x4, ?_⟩
    have : pre.length = (ps.map prD).length := by rw [he]; simp
    rw [this, fl_end (get_app hj), jrA_nil, List.append_nil]
  | p :: suf, pre, acc, x3, x4, he, hl => by
    have hd : (ps.map prD)[pre.length]? = some (prD p) := by rw [he]; simp
    have hg : gT 2 (gsCons (gN 3) (gsCons (gN 4) gsNil)) (prD p) [some (.int n), some (.obj j), some (.obj S.length), x3, x4] (S ++ [.lst (acc.map prD)]) = some [some (.int n), some (.obj j), some (.obj S.length), some (.int p.1), some (.int p.2)] := rfl
    have st := jb_step (S := S) (n := n) (x1 := some (.obj j)) (acc := acc) (p := p) (by simp at hl; omega)
    by_cases hc : p.1 < n ∧ (∀ q, acc.getLast? = some q → q.2 ≠ p.2)
    · rw [if_pos hc] at st
      obtain ⟨y3, y4, q⟩ := jb_loop hj suf (pre ++ [p]) (acc ++ [p]) (some (.int p.1)) (some (.int p.2)) (by rw [he]; simp) (by simp at hl ⊢; omega)
      refine ⟨y3, y4, ?_⟩
      rw [show (p :: suf).length = suf.length + 1 from rfl, fl_nx (get_app hj) hd hg st, jrA_cons, if_pos hc]
      rw [List.length_append, List.length_singleton, List.getLast?_concat, List.append_assoc] at q
      exact q
    · rw [if_neg hc] at st
      obtain ⟨y3, y4, q⟩ := jb_loop hj suf (pre ++ [p]) acc (some (.int p.1)) (some (.int p.2)) (by rw [he]; simp) (by simp at hl ⊢; omega)
      refine ⟨y3, y4, ?_⟩
      rw [show (p :: suf).length = suf.length + 1 from rfl, fl_nx (get_app hj) hd hg st, jrA_cons, if_neg hc]
      rw [List.length_append, List.length_singleton] at q
      exact q
theorem joined_runs {S : Sto} {n : Int} {j : Nat} {ps : Row} (hj : S[j]? = some (.lst (ps.map prD))) (hl : ps.length < 900000) : M_joined_runs [.int n, .obj j] S = .ok (aD n (jr0 n ps)) (S ++ [.lst ((jr0 n ps).map prD)]) := by
  obtain ⟨y3, y4, q⟩ := jb_loop (n := n) hj ps [] [] none none rfl (by simp; omega)
  have q' : forI (itLst ps.length j) (gT 2 (gsCons (gN 3) (gsCons (gN 4) gsNil))) JB ps.length 0 [some (.int n), some (.obj j), some (.obj S.length), none, none] (S ++ [.lst []]) = .nx [some (.int n), some (.obj j), some (.obj S.length), y3, y4] (S ++ [.lst ((jr0 n ps).map prD)]) := q
  have ks : ∀ X : Sto, kSeqI (.obj j) (S ++ X) = .ok (itLst ps.length j) (S ++ X) := fun X => by rw [kSeqL (get_app hj), List.length_map]
  have en : (itLst ps.length j).n = ps.length := (rfl)
  have htu : fTuple (.obj S.length) (S ++ [.lst ((jr0 n ps).map prD)]) = some (rwD (jr0 n ps), S ++ [.lst ((jr0 n ps).map prD)]) := by
    show (lstAt _ _).map _ = _
    rw [lst_at last0]; rfl
  unfold JB at q'
  unfold M_joined_runs mFn B_joined_runs
  simp only [List.length_cons, List.length_nil, Nat.reduceAdd, if_true, List.map_cons, List.map_nil, List.replicate, List.cons_append, List.nil_append, Nat.reduceSub]
  simp only [bind_ok, bind_ex, of_some, rs_ok, rs_ex, then_nx, then_rt, then_ex, then_bk, then_ct, mV0, mVs, mC_, m2_, m1_, mB_, kB_bl, mB1_, mNil_, mCons_, f1L_, f2L_, mTup_, mLst_, mCall_, mNotT_, mAndT_, mOrT_, mIf_, mAndV_, mOrV_, mNotV_, kAndV_bl, kOrV_bl, kNotV_bl, mSl_, mPart_, kPart_, mNoPart_, sSeq_, sSet_, sRet_, sIf_, sExpr_, sNil_, sBreak_, sCont_, e_lt, e_le, e_gt, e_ge, e_eqI, e_neI, e_eqS, e_neS, e_add, e_sub, List.set_cons_zero, List.set_cons_succ, kTu1, kTu2, kTu3, kTu4, kTu5, kLs0, kLs1, kLs2, kLs3, kLs4, kLs5, mM_, mM0_, sAsg_, sFor_, iRng_, iSeq_, ks, en, q', htu]
  rfl
end K07

namespace K07
open PySem PySem.Spec L2 Mi
/-! ### cells one by one -/
def enR : Nat → List Int → Row
  | _, [] => []
  | k, c :: cs => ((k : Int), c) :: enR (k + 1) cs
theorem enD_map : ∀ (k : Nat) (ns : List Int), enD k (ns.map D.int) = (enR k ns).map prD
  | _, [] => rfl
  | k, c :: cs => by
    show .tup [.int (k : Int), .int c] :: enD (k + 1) (cs.map D.int) = prD ((k : Int), c) :: (enR (k + 1) cs).map prD
    rw [enD_map (k + 1) cs]; rfl
theorem enR_len : ∀ (k : Nat) (ns : List Int), (enR k ns).length = ns.length
  | _, [] => rfl
  | k, _ :: cs => congrArg (· + 1) (enR_len (k + 1) cs)
theorem enR_srt : ∀ (k : Nat) (c : Int) (ns : List Int), Srt ((k : Int), c) (enR (k + 1) ns)
  | _, _, [] => True.intro
  | k, c, d :: ns => ⟨by show (k : Int) ≤ ((k + 1 : Nat) : Int); omega, fun z => by have : (k : Int) = ((k + 1 : Nat) : Int) := z; omega, enR_srt (k + 1) d ns⟩
theorem enR_val : ∀ (k : Nat) (d : Int) (ns : List Int) (i : Nat) (c : Int), ns[i]? = some c → val d (enR k ns) ((k + i : Nat) : Int) = c
  | _, _, [], i, c, h => by simp at h
  | k, d, x :: ns, 0, c, h => by
    have : x = c := by simpa using h
    subst this
    show (if (k : Int) ≤ ((k + 0 : Nat) : Int) then val x (enR (k + 1) ns) ((k + 0 : Nat) : Int) else d) = x
    rw [if_pos (by omega)]
    cases ns with
    | nil => rfl
    | cons y ns =>
      show (if ((k + 1 : Nat) : Int) ≤ ((k + 0 : Nat) : Int) then _ else x) = x
      rw [if_neg (by omega)]
  | k, d, x :: ns, i + 1, c, h => by
    have h' : ns[i]? = some c := by simpa using h
    show (if (k : Int) ≤ ((k + (i + 1) : Nat) : Int) then val x (enR (k + 1) ns) ((k + (i + 1) : Nat) : Int) else d) = c
    rw [if_pos (by omega), show k + (i + 1) = k + 1 + i by omega]
    exact enR_val (k + 1) x ns i c h'
/-- the runs of cells -/
def cellsR (ns : List Int) : Row := jr0 (ns.length : Int) (enR 0 ns)
theorem cellsR_ok (ns : List Int) : Canon (ns.length : Int) (cellsR ns) ∧ ∀ (i : Nat) (c : Int), ns[i]? = some c → val 0 (cellsR ns) (i : Int) = c := by
  cases ns with
  | nil => exact ⟨rfl, fun i c h => by simp at h⟩
  | cons x ns =>
    obtain ⟨h1, h2⟩ := jr0_ok (n := ((x :: ns).length : Int)) (p := (((0 : Nat) : Int), x)) (r := enR 1 ns) (by rw [List.length_cons]; omega) rfl (enR_srt 0 x ns)
    refine ⟨h1, fun i c h => ?_⟩
    have hi : i < (x :: ns).length := (List.getElem?_eq_some_iff.mp h).1
    have e := h2 (i : Int) (by omega) (by omega)
    have e2 := enR_val 0 0 (x :: ns) i c h
    rw [Nat.zero_add] at e2
    exact e.trans e2
theorem jr0_le {n : Int} : ∀ r : Row, (jr0 n r).length ≤ r.length := by
  have key : ∀ (r : Row) (v : Int), (jr n v r).length ≤ r.length := by
    intro r
    induction r with
    | nil => intro v; exact Nat.le_refl _
    | cons p r ih =>
      intro v
      unfold jr
      split
      · simpa using ih p.2
      · exact Nat.le_trans (ih v) (by simp)
  intro r
  induction r with
  | nil => exact Nat.le_refl _
  | cons p r ih =>
    unfold jr0
    split
    · simpa using key r p.2
    · exact Nat.le_trans ih (by simp)
theorem cellsR_len (ns : List Int) : (cellsR ns).length ≤ ns.length := by
  have := jr0_le (n := (ns.length : Int)) (enR 0 ns)
  rw [enR_len] at this
  exact this
/-! a row in a list or a tuple -/
def RowAt (S : Sto) (d : D) (es : List D) : Prop := d = .tup es ∨ ∃ j, d = .obj j ∧ S[j]? = some (.lst es)
theorem RowAt.app {S X : Sto} {d : D} {es : List D} (h : RowAt S d es) : RowAt (S ++ X) d es := by
  rcases h with h | ⟨j, h, h2⟩
  · exact .inl h
  · exact .inr ⟨j, h, get_app h2⟩
theorem RowAt.seq {S : Sto} {d : D} {es : List D} (h : RowAt S d es) : SeqAtD S d es := by
  rcases h with rfl | ⟨j, rfl, h2⟩
  · exact seq_tup
  · exact seq_lst h2
theorem toBls_map : ∀ bs : List Bool, toBls (bs.map D.bl) = some bs
  | [] => rfl
  | b :: bs => by
    show (toBls (bs.map D.bl)).map (b :: ·) = _
    rw [toBls_map bs]; rfl
theorem e_all {S : Sto} {j : Nat} {bs : List Bool} (h : S[j]? = some (.lst (bs.map D.bl))) : fAll (.obj j) S = some (.bl (bs.all id), S) := by
  show (lstAt S j).bind _ = _
  rw [lst_at h]
  show (toBls (bs.map D.bl)).map _ = _
  rw [toBls_map]; rfl
/-- all([test(x) for x in row]), a test that changes nothing -/
theorem all_row {S : Sto} {d : D} {es : List D} {e : ME} {v : Nat} {vs : List Nat} {env : Mi.Env} {f : D → Bool} (h : RowAt S d es) (hf : ∀ (acc : List D) (x : D), x ∈ es → e ((wipeE env vs).set v (some x)) (S ++ [.lst acc]) = .ok (.bl (f x)) (S ++ [.lst acc])) (hl : es.length ≤ sizeLine) :
    ((kSeqI d S).bind (kLc (gN v) tAll e vs env)).bind (fun x S1 => R.of (fAll x S1)) = .ok (.bl (es.all f)) (S ++ [.lst ((es.map f).map D.bl)]) := by
  have e2 : es.map (fun x => D.bl (f x)) = (es.map f).map D.bl := by rw [List.map_map]; rfl
  have e3 : (es.map f).all id = es.all f := by rw [List.all_map]; rfl
  rcases h with rfl | ⟨j, rfl, h2⟩
  · have := lc_fix (S := S) (e := e) (v := v) (vs := vs) (env := env) (f := fun x => D.bl (f x)) hf hl
    rw [kSeqT, bind_ok, this, e2, bind_ok, e_all last0, e3, of_some]
  · have := lc_lst (S := S) (e := e) (v := v) (vs := vs) (env := env) (f := fun x => D.bl (f x)) h2 hf hl
    rw [kSeqL h2, bind_ok, this, e2, bind_ok, e_all last0, e3, of_some]
theorem array_of {S : Sto} {d : D} {ns : List Int} (h : RowAt S d (ns.map D.int)) (hl : ns.length < 900000) : ∃ X : Sto, M_array_of [d] S = .ok (aD (ns.length : Int) (cellsR ns)) (S ++ X) := by
  have s := h.seq
  have ha := all_row (e := mCall M_is_whole (mCons (mV 1) mNil)) (v := 1) (vs := [1]) (env := [some d, none]) (f := fun _ => true) h (fun acc x hx => by
    obtain ⟨n, _, rfl⟩ := List.mem_map.mp hx
    show mCall M_is_whole (mCons (mV 1) mNil) [some d, some (.int n)] _ = _
    simp only [bind_ok, bind_ex, of_some, rs_ok, rs_ex, then_nx, then_rt, then_ex, then_bk, then_ct, mV0, mVs, mC_, m2_, m1_, mB_, kB_bl, mB1_, mNil_, mCons_, f1L_, f2L_, mTup_, mLst_, mCall_, mNotT_, mAndT_, mOrT_, mIf_, mAndV_, mOrV_, mNotV_, kAndV_bl, kOrV_bl, kNotV_bl, mSl_, mPart_, kPart_, mNoPart_, sSeq_, sSet_, sRet_, sIf_, sExpr_, sNil_, sBreak_, sCont_, e_lt, e_le, e_gt, e_ge, e_eqI, e_neI, e_eqS, e_neS, e_add, e_sub, List.set_cons_zero, List.set_cons_succ, kTu1, kTu2, kTu3, kTu4, kTu5, kLs0, kLs1, kLs2, kLs3, kLs4, kLs5, mM_, mM0_, sAsg_, sFor_, iRng_, iSeq_, whole_int]) (by rw [List.length_map, sizeLine_eq]; omega)
  rw [show (ns.map D.int).all (fun _ => true) = true from List.all_eq_true.mpr fun _ _ => rfl] at ha
  generalize hS1 : S ++ [MO.lst (((ns.map D.int).map fun _ => true).map D.bl)] = S1 at ha
  have h1 : RowAt S1 d (ns.map D.int) := by rw [← hS1]; exact h.app
  have hlen := h1.seq.len
  rw [List.length_map] at hlen
  have hen : fListEn d S1 = some (.obj S1.length, S1 ++ [.lst ((enR 0 ns).map prD)]) := by
    rcases h1 with rfl | ⟨j, rfl, h2⟩
    · show some (D.obj S1.length, S1 ++ [MO.lst (enD 0 (ns.map D.int))]) = _
      rw [enD_map]
    · show (lstAt S1 j).map _ = _
      rw [lst_at h2, ← enD_map]; rfl
  have hj := joined_runs (S := S1 ++ [.lst ((enR 0 ns).map prD)]) (n := (ns.length : Int)) (j := S1.length) last0 (by rw [enR_len]; omega)
  refine ⟨[.lst (((ns.map D.int).map fun _ => true).map D.bl)] ++ ([.lst ((enR 0 ns).map prD)] ++ [.lst ((cellsR ns).map prD)]), ?_⟩
  rw [← List.append_assoc, hS1, ← List.append_assoc]
  have e0 : ∀ env : Mi.Env, (mLc (iSeq (mV 0)) (gN 1) tAll (mCall M_is_whole (mCons (mV 1) mNil)) [1]) (some d :: env) S = (kSeqI d S).bind (kLc (gN 1) tAll (mCall M_is_whole (mCons (mV 1) mNil)) [1] (some d :: env)) := fun _ => rfl
  have e1 : (mB1 (f1L fAll) (mCons (mLc (iSeq (mV 0)) (gN 1) tAll (mCall M_is_whole (mCons (mV 1) mNil)) [1]) mNil)) [some d, none] S = .ok (.bl true) S1 := by
    rw [← ha, mB1_, mCons_, e0]
    cases (kSeqI d S).bind (kLc (gN 1) tAll (mCall M_is_whole (mCons (mV 1) mNil)) [1] [some d, none]) <;> rfl
  unfold M_array_of mFn B_array_of
  simp only [List.length_cons, List.length_nil, Nat.reduceAdd, if_true, List.map_cons, List.map_nil, List.replicate, List.cons_append, List.nil_append, Nat.reduceSub]
  rw [sSeq_, sIf_, mOrT_, mNotT_, mB_, m1_, mV0, bind_ok, s.isi, of_some, bind_ok, kB_bl, bind_ok, bind_ok, if_neg (by decide), mNotT_, mB_, e1, bind_ok, kB_bl, bind_ok, rs_ok, if_neg (by decide), sNil_, then_nx]
  simp only [bind_ok, bind_ex, of_some, rs_ok, rs_ex, then_nx, then_rt, then_ex, then_bk, then_ct, mV0, mVs, mC_, m2_, m1_, mB_, kB_bl, mB1_, mNil_, mCons_, f1L_, f2L_, mTup_, mLst_, mCall_, mNotT_, mAndT_, mOrT_, mIf_, mAndV_, mOrV_, mNotV_, kAndV_bl, kOrV_bl, kNotV_bl, mSl_, mPart_, kPart_, mNoPart_, sSeq_, sSet_, sRet_, sIf_, sExpr_, sNil_, sBreak_, sCont_, e_lt, e_le, e_gt, e_ge, e_eqI, e_neI, e_eqS, e_neS, e_add, e_sub, List.set_cons_zero, List.set_cons_succ, kTu1, kTu2, kTu3, kTu4, kTu5, kLs0, kLs1, kLs2, kLs3, kLs4, kLs5, mM_, mM0_, sAsg_, sFor_, iRng_, iSeq_, hlen, hen, hj]
  rfl
end K07

namespace K07
open PySem PySem.Spec L2 Mi
/-! ### the law's own runs of cells -/
def RB : MS := (sIf (mOrT (mB (m2 fEq (mV 2) (mC (.int 0)))) (mB (m2 fNe (m2 fIx (mV 0) (mV 2)) (m2 fIx (mV 0) (m2 fSub (mV 2) (mC (.int 1)))))))
  (sExpr (mM "list" fAppend (mV 1) (mCons (mTup (mCons (mV 2) (mCons (m2 fIx (mV 0) (mV 2)) mNil))) mNil)))
  sNil)
/-- the rows from place k on, v the cell ahead -/
def lr : Nat → Option Int → List Int → Row
  | _, _, [] => []
  | k, v, c :: cs => if v = some c then lr (k + 1) (some c) cs else ((k : Int), c) :: lr (k + 1) (some c) cs
theorem lr_jr {n : Int} : ∀ (cs : List Int) (k : Nat) (v : Int), ((k + cs.length : Nat) : Int) ≤ n → lr k (some v) cs = jr n v (enR k cs)
  | [], _, _, _ => rfl
  | c :: cs, k, v, h => by
    have hk : (k : Int) < n := by simp at h; omega
    show (if some v = some c then lr (k + 1) (some c) cs else ((k : Int), c) :: lr (k + 1) (some c) cs) = (if (k : Int) < n ∧ v ≠ c then ((k : Int), c) :: jr n c (enR (k + 1) cs) else jr n v (enR (k + 1) cs))
    rw [lr_jr (n := n) cs (k + 1) c (by rw [List.length_cons] at h; omega)]
    by_cases e : v = c
    · subst e
      rw [if_pos rfl, if_neg (fun z => z.2 rfl)]
    · rw [if_neg (fun z => e (Option.some.inj z)), if_pos ⟨hk, e⟩]
theorem lr_cells (ns : List Int) : lr 0 none ns = cellsR ns := by
  cases ns with
  | nil => rfl
  | cons c cs =>
    show (if (none : Option Int) = some c then _ else (((0 : Nat) : Int), c) :: lr 1 (some c) cs) = (if ((0 : Nat) : Int) < ((c :: cs).length : Int) then (((0 : Nat) : Int), c) :: jr _ c (enR 1 cs) else jr0 _ (enR 1 cs))
    rw [if_neg (fun z => by cases z), if_pos (by rw [List.length_cons]; omega), lr_jr (n := ((c :: cs).length : Int)) cs 1 c (by rw [List.length_cons]; omega)]
theorem lr_loop {S : Sto} {j : Nat} {ns : List Int} (hj : S[j]? = some (.lst (ns.map D.int))) (hn : ns.length < 100000) : ∀ (k i n : Nat) (acc : Row) (x2 : Option D), n = i + k → n = ns.length → acc.length ≤ i → ∃ y2 : Option D,
    forI (itRng 0 n) (gN 2) RB k i [some (.obj j), some (.obj S.length), x2] (S ++ [.lst (acc.map prD)]) = .nx [some (.obj j), some (.obj S.length), y2] (S ++ [.lst ((acc ++ lr i (if i = 0 then none else ns[i - 1]?) (ns.drop i)).map prD)])
  | 0, i, n, acc, x2, hk, h1, ha => by
    have : n = i := by omega
    subst this
    refine ⟨x2, ?_⟩
    rw [fr_end, List.drop_of_length_le (by omega), lr, List.append_nil]
  | k + 1, i, n, acc, x2, hk, h1, ha => by
    have hi : i < ns.length := by omega
    obtain ⟨c, hc⟩ : ∃ c, ns[i]? = some c := ⟨_, List.getElem?_eq_getElem hi⟩
    have hdrop : ns.drop i = c :: ns.drop (i + 1) := by
      rw [List.drop_eq_getElem_cons hi]
      have := (List.getElem?_eq_some_iff.mp hc).2
      rw [this]
    have hS : (S ++ [MO.lst (acc.map prD)])[j]? = some (.lst (ns.map D.int)) := get_app hj
    have f1 : fIx (.obj j) (.int (0 + (i : Int))) (S ++ [.lst (acc.map prD)]) = some (.int c, S ++ [.lst (acc.map prD)]) := by rw [Int.zero_add]; exact e_ixL hS (by rw [List.getElem?_map, hc]; rfl)
    have happ : fAppend (.obj S.length) [.tup [.int (0 + (i : Int)), .int c]] (S ++ [.lst (acc.map prD)]) = some (.non, S ++ [.lst ((acc ++ [((i : Int), c)]).map prD)]) := by
      rw [e_append last0 (by rw [sizeLine_eq, List.length_map]; omega), sa0, List.map_append, Int.zero_add]; rfl
    by_cases h0 : i = 0
    · subst h0
      have d1 : decide ((0 + ((0 : Nat) : Int)) = 0) = true := rfl
      obtain ⟨y2, q⟩ := lr_loop hj hn k 1 n (acc ++ [(((0 : Nat) : Int), c)]) (some (.int (0 + ((0 : Nat) : Int)))) (by omega) h1 (by rw [List.length_append, List.length_singleton]; omega)
      refine ⟨y2, ?_⟩
      rw [fr_nx (by omega) (env2 := [some (.obj j), some (.obj S.length), some (.int (0 + ((0 : Nat) : Int)))]) (S2 := S ++ [.lst ((acc ++ [(((0 : Nat) : Int), c)]).map prD)]) ?_, q]
      · rw [hdrop, if_pos rfl, if_neg (by omega), hc, lr, if_neg (fun z => by cases z), List.append_assoc]; rfl
      · unfold RB
        simp only [bind_ok, bind_ex, of_some, rs_ok, rs_ex, then_nx, then_rt, then_ex, then_bk, then_ct, mV0, mVs, mC_, m2_, m1_, mB_, kB_bl, mB1_, mNil_, mCons_, f1L_, f2L_, mTup_, mLst_, mCall_, mNotT_, mAndT_, mOrT_, mIf_, mAndV_, mOrV_, mNotV_, kAndV_bl, kOrV_bl, kNotV_bl, mSl_, mPart_, kPart_, mNoPart_, sSeq_, sSet_, sRet_, sIf_, sExpr_, sNil_, sBreak_, sCont_, e_lt, e_le, e_gt, e_ge, e_eqI, e_neI, e_eqS, e_neS, e_add, e_sub, List.set_cons_zero, List.set_cons_succ, kTu1, kTu2, kTu3, kTu4, kTu5, kLs0, kLs1, kLs2, kLs3, kLs4, kLs5, mM_, mM0_, sAsg_, sFor_, iRng_, iSeq_, d1, if_true, tyL last0, f1, happ]
    · have d1 : decide ((0 + (i : Int)) = 0) = false := decide_eq_false (by omega)
      obtain ⟨v, hv⟩ : ∃ v, ns[i - 1]? = some v := ⟨_, List.getElem?_eq_getElem (by omega)⟩
      have f2 : fIx (.obj j) (.int (0 + (i : Int) - 1)) (S ++ [.lst (acc.map prD)]) = some (.int v, S ++ [.lst (acc.map prD)]) := by
        rw [show (0 + (i : Int) - 1) = ((i - 1 : Nat) : Int) by omega]
        exact e_ixL hS (by rw [List.getElem?_map, hv]; rfl)
      by_cases e : c = v
      · subst e
        have d2 : decide (c = c) = true := decide_eq_true rfl
        obtain ⟨y2, q⟩ := lr_loop hj hn k (i + 1) n acc (some (.int (0 + (i : Int)))) (by omega) h1 (by omega)
        refine ⟨y2, ?_⟩
        rw [fr_nx (by omega) (env2 := [some (.obj j), some (.obj S.length), some (.int (0 + (i : Int)))]) (S2 := S ++ [.lst (acc.map prD)]) ?_, q]
        · rw [hdrop, if_neg h0, if_neg (by omega), Nat.add_sub_cancel, hc, hv]
          conv => rhs; rw [lr, if_pos rfl]
        · unfold RB
          simp only [bind_ok, bind_ex, of_some, rs_ok, rs_ex, then_nx, then_rt, then_ex, then_bk, then_ct, mV0, mVs, mC_, m2_, m1_, mB_, kB_bl, mB1_, mNil_, mCons_, f1L_, f2L_, mTup_, mLst_, mCall_, mNotT_, mAndT_, mOrT_, mIf_, mAndV_, mOrV_, mNotV_, kAndV_bl, kOrV_bl, kNotV_bl, mSl_, mPart_, kPart_, mNoPart_, sSeq_, sSet_, sRet_, sIf_, sExpr_, sNil_, sBreak_, sCont_, e_lt, e_le, e_gt, e_ge, e_eqI, e_neI, e_eqS, e_neS, e_add, e_sub, List.set_cons_zero, List.set_cons_succ, kTu1, kTu2, kTu3, kTu4, kTu5, kLs0, kLs1, kLs2, kLs3, kLs4, kLs5, mM_, mM0_, sAsg_, sFor_, iRng_, iSeq_, d1, Bool.false_eq_true, if_false, f1, f2, decide_true, Bool.not_true]
      · have d2 : decide (c = v) = false := decide_eq_false e
        obtain ⟨y2, q⟩ := lr_loop hj hn k (i + 1) n (acc ++ [((i : Int), c)]) (some (.int (0 + (i : Int)))) (by omega) h1 (by rw [List.length_append, List.length_singleton]; omega)
        refine ⟨y2, ?_⟩
        rw [fr_nx (by omega) (env2 := [some (.obj j), some (.obj S.length), some (.int (0 + (i : Int)))]) (S2 := S ++ [.lst ((acc ++ [((i : Int), c)]).map prD)]) ?_, q]
        · rw [hdrop, if_neg h0, if_neg (by omega), Nat.add_sub_cancel, hc, hv]
          conv => rhs; rw [lr, if_neg (fun z => e (Option.some.inj z).symm)]
          rw [List.append_assoc]; rfl
        · unfold RB
          simp only [bind_ok, bind_ex, of_some, rs_ok, rs_ex, then_nx, then_rt, then_ex, then_bk, then_ct, mV0, mVs, mC_, m2_, m1_, mB_, kB_bl, mB1_, mNil_, mCons_, f1L_, f2L_, mTup_, mLst_, mCall_, mNotT_, mAndT_, mOrT_, mIf_, mAndV_, mOrV_, mNotV_, kAndV_bl, kOrV_bl, kNotV_bl, mSl_, mPart_, kPart_, mNoPart_, sSeq_, sSet_, sRet_, sIf_, sExpr_, sNil_, sBreak_, sCont_, e_lt, e_le, e_gt, e_ge, e_eqI, e_neI, e_eqS, e_neS, e_add, e_sub, List.set_cons_zero, List.set_cons_succ, kTu1, kTu2, kTu3, kTu4, kTu5, kLs0, kLs1, kLs2, kLs3, kLs4, kLs5, mM_, mM0_, sAsg_, sFor_, iRng_, iSeq_, d1, Bool.false_eq_true, if_false, f1, f2, d2, Bool.not_false, if_true, tyL last0, happ]
theorem law_runs {S : Sto} {j : Nat} {ns : List Int} (hj : S[j]? = some (.lst (ns.map D.int))) (hn : ns.length < 100000) : ∃ X : Sto, M__law_runs [.obj j] S = .ok (aD (ns.length : Int) (cellsR ns)) (S ++ X) := by
  obtain ⟨y2, q⟩ := lr_loop hj hn ns.length 0 ns.length [] none (by omega) rfl (by simp)
  have q' : forI (itRng 0 ns.length) (gN 2) RB ns.length 0 [some (.obj j), some (.obj S.length), none] (S ++ [.lst []]) = .nx [some (.obj j), some (.obj S.length), y2] (S ++ [.lst ((cellsR ns).map prD)]) := by
    rw [← lr_cells]; exact q
  have hlen : ∀ X : Sto, fLen (.obj j) (S ++ X) = some (.int (ns.length : Int), S ++ X) := fun X => by rw [e_lenL (get_app hj), List.length_map]
  have hr : ∀ S : Sto, kRngI [.int (ns.length : Int)] S = .ok (itRng 0 ns.length) S := fun S => by rw [kRng1 (by omega), Int.toNat_natCast]
  have en : ∀ n, (itRng 0 n).n = n := fun _ => (rfl)
  have htu : fTuple (.obj S.length) (S ++ [.lst ((cellsR ns).map prD)]) = some (rwD (cellsR ns), S ++ [.lst ((cellsR ns).map prD)]) := by
    show (lstAt _ _).map _ = _
    rw [lst_at last0]; rfl
  refine ⟨[.lst ((cellsR ns).map prD)], ?_⟩
  unfold RB at q'
  unfold M__law_runs mFn B__law_runs
  simp only [List.length_cons, List.length_nil, Nat.reduceAdd, if_true, List.map_cons, List.map_nil, List.replicate, List.cons_append, List.nil_append, Nat.reduceSub]
  simp only [bind_ok, bind_ex, of_some, rs_ok, rs_ex, then_nx, then_rt, then_ex, then_bk, then_ct, mV0, mVs, mC_, m2_, m1_, mB_, kB_bl, mB1_, mNil_, mCons_, f1L_, f2L_, mTup_, mLst_, mCall_, mNotT_, mAndT_, mOrT_, mIf_, mAndV_, mOrV_, mNotV_, kAndV_bl, kOrV_bl, kNotV_bl, mSl_, mPart_, kPart_, mNoPart_, sSeq_, sSet_, sRet_, sIf_, sExpr_, sNil_, sBreak_, sCont_, e_lt, e_le, e_gt, e_ge, e_eqI, e_neI, e_eqS, e_neS, e_add, e_sub, List.set_cons_zero, List.set_cons_succ, kTu1, kTu2, kTu3, kTu4, kTu5, kLs0, kLs1, kLs2, kLs3, kLs4, kLs5, mM_, mM0_, sAsg_, sFor_, iRng_, iSeq_, hlen, hr, en, q', htu]
  rfl
end K07

namespace K07
open PySem PySem.Spec L2 Mi
/-! ### one cell put, in plain numbers -/
theorem chain_weak {n : Int} {p q : Int × Int} {r : Row} (h : chain n p r) (h1 : q.1 ≤ p.1) (h2 : q.2 = p.2) : chain n q r := by
  cases r with
  | nil => trivial
  | cons x r => exact ⟨h.1, Int.lt_of_le_of_lt h1 h.2.1, by rw [h2]; exact h.2.2.1, h.2.2.2⟩
theorem chain_app {n : Int} : ∀ {a : Row} {q : Int × Int} {b : Row}, chain n q (a ++ b) ↔ chain n q a ∧ chain n (a.getLastD q) b
  | [], q, b => ⟨fun h => ⟨trivial, h⟩, fun h => h.2⟩
  | p :: a, q, b => by
    have ih := chain_app (n := n) (a := a) (q := p) (b := b)
    have e : (p :: a).getLastD q = a.getLastD p := by cases a <;> rfl
    rw [e]
    constructor
    · intro h
      exact ⟨⟨h.1, h.2.1, h.2.2.1, (ih.mp h.2.2.2).1⟩, (ih.mp h.2.2.2).2⟩
    · intro h
      exact ⟨h.1.1, h.1.2.1, h.1.2.2.1, ih.mpr ⟨h.1.2.2.2, h.2⟩⟩
theorem last_ge {n : Int} : ∀ {a : Row} {q : Int × Int}, chain n q a → q.1 ≤ (a.getLastD q).1 ∧ ∀ p ∈ a, p.1 ≤ (a.getLastD q).1
  | [], q, _ => ⟨Int.le_refl _, fun p h => by cases h⟩
  | p :: a, q, h => by
    have e : (p :: a).getLastD q = a.getLastD p := by cases a <;> rfl
    rw [e]
    obtain ⟨i1, i2⟩ := last_ge h.2.2.2
    have := h.2.1
    refine ⟨by omega, fun x hx => ?_⟩
    rcases List.mem_cons.mp hx with rfl | hx
    · exact i1
    · exact i2 x hx
theorem val_ge : ∀ {a : Row} {q : Int × Int} {b : Row} {x : Int}, (∀ p ∈ a, p.1 ≤ x) → val q.2 (a ++ b) x = val (a.getLastD q).2 b x
  | [], q, b, x, _ => rfl
  | p :: a, q, b, x, h => by
    have e : (p :: a).getLastD q = a.getLastD p := by cases a <;> rfl
    rw [e]
    show (if p.1 ≤ x then val p.2 (a ++ b) x else q.2) = _
    rw [if_pos (h p (List.mem_cons_self ..))]
    exact val_ge fun y hy => h y (List.mem_cons_of_mem _ hy)
theorem val_lt : ∀ {a : Row} {d : Int} {b : Row} {x : Int}, (∀ p ∈ b, x < p.1) → val d (a ++ b) x = val d a x
  | [], d, b, x, h => val_low h
  | p :: a, d, b, x, h => by
    show (if p.1 ≤ x then val p.2 (a ++ b) x else d) = (if p.1 ≤ x then val p.2 a x else d)
    rw [val_lt h]
/-- what stands behind the put cell -/
def tailE (n z v h : Int) (post : Row) : Row :=
  if z + 1 < (match post with | [] => n | p :: _ => p.1) then (z + 1, h) :: post
  else match post with
    | [] => []
    | p :: r => if p.2 = v then r else p :: r
theorem tailE_ok {n z v h s : Int} {post : Row} (hc : chain n (s, h) post) (hz : z < n) (hp : ∀ p ∈ post.head?, z < p.1) (hv : h ≠ v) {q : Int × Int} (hq1 : q.1 ≤ z) (hq2 : q.2 = v) :
    chain n q (tailE n z v h post) ∧ ∀ x, z ≤ x → x < n → val v (tailE n z v h post) x = if x = z then v else val h post x := by
  unfold tailE
  cases post with
  | nil =>
    by_cases h1 : z + 1 < n
    · rw [if_pos h1]
      refine ⟨⟨h1, by show q.1 < z + 1; omega, by rw [hq2]; exact fun e => hv e.symm, trivial⟩, fun x h2 h3 => ?_⟩
      show (if z + 1 ≤ x then val h [] x else v) = _
      by_cases h4 : x = z
      · rw [if_pos h4, if_neg (by omega)]
      · rw [if_neg h4, if_pos (by omega)]
    · rw [if_neg h1]
      refine ⟨trivial, fun x h2 h3 => ?_⟩
      have : x = z := by omega
      rw [if_pos this]; rfl
  | cons p r =>
    obtain ⟨c1, c2, c3, c4⟩ := hc
    have hzp : z < p.1 := hp p rfl
    by_cases h1 : z + 1 < p.1
    · rw [if_pos h1]
      refine ⟨⟨by show z + 1 < n; omega, by show q.1 < z + 1; omega, by rw [hq2]; exact fun e => hv e.symm, ⟨c1, h1, c3, c4⟩⟩, fun x h2 h3 => ?_⟩
      show (if z + 1 ≤ x then val h (p :: r) x else v) = _
      by_cases h4 : x = z
      · rw [if_pos h4, if_neg (by omega)]
      · rw [if_neg h4, if_pos (by omega)]
    · rw [if_neg h1]
      have e1 : p.1 = z + 1 := by
        have : ¬ z + 1 < p.1 := h1
        omega
      by_cases h5 : p.2 = v
      · show chain n q (if p.2 = v then r else p :: r) ∧ ∀ x, z ≤ x → x < n → val v (if p.2 = v then r else p :: r) x = _
        rw [if_pos h5]
        refine ⟨chain_weak c4 (by omega) (by rw [hq2, h5]), fun x h2 h3 => ?_⟩
        by_cases h4 : x = z
        · rw [if_pos h4, val_low fun y hy => by have := chain_gt c4 y hy; omega]
        · rw [if_neg h4, val, if_pos (by omega), h5]
      · show chain n q (if p.2 = v then r else p :: r) ∧ ∀ x, z ≤ x → x < n → val v (if p.2 = v then r else p :: r) x = _
        rw [if_neg h5]
        refine ⟨⟨c1, by omega, by rw [hq2]; exact fun e => h5 e.symm, c4⟩, fun x h2 h3 => ?_⟩
        rw [val, val]
        by_cases h4 : x = z
        · rw [if_pos h4, if_neg (by omega)]
        · rw [if_neg h4, if_pos (by omega), if_pos (by omega)]
/-- the rows with the cell z of the run (s, h) at v -/
def midE (pre : Row) (s h z v : Int) : Row := (if s < z then [(s, h)] else []) ++ (if s < z ∨ pre = [] ∨ (∀ q, pre.getLast? = some q → q.2 ≠ v) then [(z, v)] else [])
def putE (n : Int) (pre : Row) (s h : Int) (post : Row) (z v : Int) : Row := pre ++ (midE pre s h z v ++ tailE n z v h post)
theorem rest_ok {n s h z v : Int} {post : Row} {q : Int × Int} (hc : chain n q ((s, h) :: post)) (hs : s ≤ z) (hz : z < n) (hp : ∀ p ∈ post.head?, z < p.1) (hv : h ≠ v) :
    chain n q ((if s < z then [(s, h)] else []) ++ (if s < z ∨ q.2 ≠ v then [(z, v)] else []) ++ tailE n z v h post) ∧ ∀ x, q.1 ≤ x → x < n → val q.2 ((if s < z then [(s, h)] else []) ++ (if s < z ∨ q.2 ≠ v then [(z, v)] else []) ++ tailE n z v h post) x = if x = z then v else val q.2 ((s, h) :: post) x := by
  obtain ⟨c1, c2, c3, c4⟩ := hc
  have c2' : q.1 < s := c2
  by_cases h1 : s < z
  · obtain ⟨t1, t2⟩ := tailE_ok (q := (z, v)) c4 hz hp hv (Int.le_refl _) rfl
    rw [if_pos h1, if_pos (.inl h1)]
    refine ⟨⟨c1, c2, c3, hz, h1, hv, t1⟩, fun x h2 h3 => ?_⟩
    show (if s ≤ x then (if z ≤ x then val v (tailE n z v h post) x else h) else q.2) = if x = z then v else (if s ≤ x then val h post x else q.2)
    by_cases h4 : s ≤ x
    · rw [if_pos h4, if_pos h4]
      by_cases h5 : z ≤ x
      · rw [if_pos h5, t2 x h5 h3]
      · rw [if_neg h5, if_neg (by omega)]
        cases post with
        | nil => rfl
        | cons p r =>
          have : z < p.1 := hp p rfl
          rw [val, if_neg (by omega)]
    · rw [if_neg h4, if_neg h4, if_neg (by omega)]
  · have e : s = z := by omega
    subst e
    rw [if_neg h1, List.nil_append]
    by_cases h6 : q.2 = v
    · obtain ⟨t1, t2⟩ := tailE_ok (q := q) c4 hz hp hv (by omega) h6
      rw [if_neg (by rintro (z | z); exact h1 z; exact z h6), List.nil_append]
      refine ⟨t1, fun x h2 h3 => ?_⟩
      rw [val]
      by_cases h4 : s ≤ x
      · rw [if_pos h4, h6, t2 x h4 h3]
      · rw [if_neg h4, if_neg (by omega)]
        -- x ahead of z: nothing of the tail stands there
        have low : ∀ p ∈ tailE n s v h post, x < p.1 := fun p hp2 => by
          have := chain_gt (n := n) (q := (s, v)) (tailE_ok (q := (s, v)) c4 hz hp hv (Int.le_refl _) rfl).1 p hp2
          have : s < p.1 := this
          omega
        exact val_low low
    · obtain ⟨t1, t2⟩ := tailE_ok (q := (s, v)) c4 hz hp hv (Int.le_refl _) rfl
      rw [if_pos (.inr h6)]
      refine ⟨⟨hz, c2, h6, t1⟩, fun x h2 h3 => ?_⟩
      show (if s ≤ x then val v (tailE n s v h post) x else q.2) = if x = s then v else (if s ≤ x then val h post x else q.2)
      by_cases h4 : s ≤ x
      · rw [if_pos h4, if_pos h4, t2 x h4 h3]
      · rw [if_neg h4, if_neg h4, if_neg (by omega)]
theorem putE_ok {n s h z v : Int} {pre post : Row} (hc : Canon n (pre ++ (s, h) :: post)) (h0 : 0 ≤ z) (hs : s ≤ z) (hz : z < n) (hp : ∀ p ∈ post.head?, z < p.1) (hv : h ≠ v) :
    Canon n (putE n pre s h post z v) ∧ ∀ x, 0 ≤ x → x < n → val 0 (putE n pre s h post z v) x = if x = z then v else val 0 (pre ++ (s, h) :: post) x := by
  unfold putE midE
  cases pre with
  | nil =>
    obtain ⟨c1, c2, c3⟩ := hc
    have e0 : s = 0 := c2
    subst e0
    obtain ⟨t1, t2⟩ := tailE_ok (q := (z, v)) c3 hz hp hv (Int.le_refl _) rfl
    rw [if_pos (show 0 < z ∨ ([] : Row) = [] ∨ _ from .inr (.inl rfl)), List.nil_append, List.nil_append]
    by_cases h1 : 0 < z
    · rw [if_pos h1]
      refine ⟨⟨c1, rfl, hz, h1, hv, t1⟩, fun x h2 h3 => ?_⟩
      show (if (0 : Int) ≤ x then (if z ≤ x then val v (tailE n z v h post) x else h) else 0) = if x = z then v else (if (0 : Int) ≤ x then val h post x else 0)
      rw [if_pos h2, if_pos h2]
      by_cases h5 : z ≤ x
      · rw [if_pos h5, t2 x h5 h3]
      · rw [if_neg h5, if_neg (by omega)]
        cases post with
        | nil => rfl
        | cons p r =>
          have : z < p.1 := hp p rfl
          rw [val, if_neg (by omega)]
    · have e : z = 0 := by omega
      subst e
      rw [if_neg h1]
      refine ⟨⟨c1, rfl, t1⟩, fun x h2 h3 => ?_⟩
      show (if (0 : Int) ≤ x then val v (tailE n 0 v h post) x else 0) = if x = 0 then v else (if (0 : Int) ≤ x then val h post x else 0)
      rw [if_pos h2, if_pos h2, t2 x h2 h3]
  | cons p0 pre =>
    obtain ⟨c1, c2, c3⟩ := hc
    have c3' : chain n p0 (pre ++ (s, h) :: post) := c3
    obtain ⟨d1, d2⟩ := chain_app.mp c3'
    obtain ⟨l1, l2⟩ := last_ge d1
    have elast : (p0 :: pre).getLast? = some (pre.getLastD p0) := by
      rw [List.getLast?_cons]; cases pre <;> simp [List.getLastD, List.getLast?]
    have econd : (s < z ∨ (p0 :: pre) = [] ∨ ∀ q, (p0 :: pre).getLast? = some q → q.2 ≠ v) ↔ (s < z ∨ (pre.getLastD p0).2 ≠ v) := by
      constructor
      · rintro (a | a | a)
        · exact .inl a
        · cases a
        · exact .inr (a _ elast)
      · rintro (a | a)
        · exact .inl a
        · exact .inr (.inr fun q hq => by rw [elast] at hq; cases hq; exact a)
    obtain ⟨r1, r2⟩ := rest_ok d2 hs hz hp hv
    have eif : (if s < z ∨ (p0 :: pre) = [] ∨ ∀ q, (p0 :: pre).getLast? = some q → q.2 ≠ v then [(z, v)] else []) = (if s < z ∨ (pre.getLastD p0).2 ≠ v then [(z, v)] else ([] : Row)) := by
      by_cases hh : s < z ∨ (pre.getLastD p0).2 ≠ v
      · rw [if_pos hh, if_pos (econd.mpr hh)]
      · rw [if_neg hh, if_neg (fun z => hh (econd.mp z))]
    rw [eif]
    generalize hR : (if s < z then [(s, h)] else []) ++ (if s < z ∨ (pre.getLastD p0).2 ≠ v then [(z, v)] else ([] : Row)) ++ tailE n z v h post = R' at r1 r2
    refine ⟨⟨c1, c2, chain_app.mpr ⟨d1, r1⟩⟩, fun x h2 h3 => ?_⟩
    have c2' : p0.1 = 0 := c2
    show (if p0.1 ≤ x then val p0.2 (pre ++ R') x else 0) = if x = z then v else (if p0.1 ≤ x then val p0.2 (pre ++ (s, h) :: post) x else 0)
    rw [if_pos (show p0.1 ≤ x by omega), if_pos (show p0.1 ≤ x by omega)]
    have hls : (pre.getLastD p0).1 < s := d2.2.1
    by_cases h6 : (pre.getLastD p0).1 ≤ x
    · have ha : ∀ p ∈ pre, p.1 ≤ x := fun p hp => Int.le_trans (l2 p hp) h6
      rw [val_ge ha, val_ge ha, r2 x h6 h3]
    · rw [if_neg (show ¬ x = z by omega), val_lt (fun p hp2 => by have := chain_gt r1 p hp2; omega), val_lt (fun p hp2 => by have := chain_gt d2 p hp2; omega)]
end K07

namespace K07
open PySem PySem.Spec L2 Mi
/-! ### the run of a cell -/
theorem e_div2 {S : Sto} {a : Nat} : fDiv (.int (a : Int)) (.int 2) S = some (.int ((a / 2 : Nat) : Int), S) := by
  rw [e_div ⟨by decide, by decide⟩]
  rw [show ((a : Int) / 2) = ((a / 2 : Nat) : Int) by omega]
def WT : MT := (mB (m2 fGt (m2 fSub (mV 3) (mV 2)) (mC (.int 1))))
def WB : MS := (sSeq (sSet 4 (m2 fDiv (m2 fAdd (mV 2) (mV 3)) (mC (.int 2))))
  (sIf (mB (m2 fLe (m2 fIx (m2 fIx (mV 0) (mV 4)) (mC (.int 0))) (mV 1)))
  (sSet 2 (mV 4))
  (sSet 3 (mV 4))))
theorem rw_ix {S : Sto} {r : Row} {i : Nat} {p : Int × Int} (h : r[i]? = some p) : fIx (rwD r) (.int (i : Int)) S = some (prD p, S) := e_ixT (by rw [List.getElem?_map, h]; rfl)
theorem wb_loop {S : Sto} {r : Row} {z : Int} : ∀ (d m low high : Nat) (x4 : Option D), high - low ≤ d → d < m → low < high → high ≤ r.length → (∀ p, r[low]? = some p → p.1 ≤ z) → (∀ p, r[high]? = some p → z < p.1) → ∃ (at_ high' : Nat) (y4 : Option D),
    whileM WT WB m [some (rwD r), some (.int z), some (.int (low : Int)), some (.int (high : Int)), x4] S = .nx [some (rwD r), some (.int z), some (.int (at_ : Int)), some (.int (high' : Int)), y4] S ∧ at_ < r.length ∧ (∀ p, r[at_]? = some p → p.1 ≤ z) ∧ (∀ p, r[at_ + 1]? = some p → z < p.1)
  | d, 0, low, high, x4, h1, h2, h3, h4, h5, h6 => by omega
  | d, m + 1, low, high, x4, h1, h2, h3, h4, h5, h6 => by
    by_cases hc : 1 < high - low
    · have t1 : WT [some (rwD r), some (.int z), some (.int (low : Int)), some (.int (high : Int)), x4] S = .ok true S := by
        have d1 : decide ((1 : Int) < (high : Int) - (low : Int)) = true := decide_eq_true (by omega)
        unfold WT
        simp only [bind_ok, bind_ex, of_some, rs_ok, rs_ex, then_nx, then_rt, then_ex, then_bk, then_ct, mV0, mVs, mC_, m2_, m1_, mB_, kB_bl, mB1_, mNil_, mCons_, f1L_, f2L_, mTup_, mLst_, mCall_, mNotT_, mAndT_, mOrT_, mIf_, mAndV_, mOrV_, mNotV_, kAndV_bl, kOrV_bl, kNotV_bl, mSl_, mPart_, kPart_, mNoPart_, sSeq_, sSet_, sRet_, sIf_, sExpr_, sNil_, sBreak_, sCont_, e_lt, e_le, e_gt, e_ge, e_eqI, e_neI, e_eqS, e_neS, e_add, e_sub, List.set_cons_zero, List.set_cons_succ, kTu1, kTu2, kTu3, kTu4, kTu5, kLs0, kLs1, kLs2, kLs3, kLs4, kLs5, mM_, mM0_, sAsg_, sFor_, iRng_, iSeq_, d1]
      generalize hmid : (low + high) / 2 = mid
      have hm1 : low < mid ∧ mid < high := by omega
      obtain ⟨p, hp⟩ : ∃ p, r[mid]? = some p := ⟨_, List.getElem?_eq_getElem (by omega)⟩
      have hdv : fDiv (.int ((low : Int) + (high : Int))) (.int 2) S = some (.int (mid : Int), S) := by
        rw [show (low : Int) + (high : Int) = ((low + high : Nat) : Int) by omega, e_div2, hmid]
      by_cases hz : p.1 ≤ z
      · have d2 : decide (p.1 ≤ z) = true := decide_eq_true hz
        obtain ⟨at_, high', y4, q1, q2⟩ := wb_loop (S := S) (r := r) (z := z) (d - 1) m mid high (some (.int (mid : Int))) (by omega) (by omega) hm1.2 h4 (fun p' hp' => by rw [hp] at hp'; cases hp'; exact hz) h6
        refine ⟨at_, high', y4, ?_, q2⟩
        rw [wh_next t1 (env2 := [some (rwD r), some (.int z), some (.int (mid : Int)), some (.int (high : Int)), some (.int (mid : Int))]) (S2 := S) ?_, q1]
        unfold WB
        simp only [bind_ok, bind_ex, of_some, rs_ok, rs_ex, then_nx, then_rt, then_ex, then_bk, then_ct, mV0, mVs, mC_, m2_, m1_, mB_, kB_bl, mB1_, mNil_, mCons_, f1L_, f2L_, mTup_, mLst_, mCall_, mNotT_, mAndT_, mOrT_, mIf_, mAndV_, mOrV_, mNotV_, kAndV_bl, kOrV_bl, kNotV_bl, mSl_, mPart_, kPart_, mNoPart_, sSeq_, sSet_, sRet_, sIf_, sExpr_, sNil_, sBreak_, sCont_, e_lt, e_le, e_gt, e_ge, e_eqI, e_neI, e_eqS, e_neS, e_add, e_sub, List.set_cons_zero, List.set_cons_succ, kTu1, kTu2, kTu3, kTu4, kTu5, kLs0, kLs1, kLs2, kLs3, kLs4, kLs5, mM_, mM0_, sAsg_, sFor_, iRng_, iSeq_, hdv, rw_ix hp, e_p0, d2, if_true]
      · have d2 : decide (p.1 ≤ z) = false := decide_eq_false hz
        obtain ⟨at_, high', y4, q1, q2⟩ := wb_loop (S := S) (r := r) (z := z) (d - 1) m low mid (some (.int (mid : Int))) (by omega) (by omega) hm1.1 (by omega) h5 (fun p' hp' => by rw [hp] at hp'; cases hp'; omega)
        refine ⟨at_, high', y4, ?_, q2⟩
        rw [wh_next t1 (env2 := [some (rwD r), some (.int z), some (.int (low : Int)), some (.int (mid : Int)), some (.int (mid : Int))]) (S2 := S) ?_, q1]
        unfold WB
        simp only [bind_ok, bind_ex, of_some, rs_ok, rs_ex, then_nx, then_rt, then_ex, then_bk, then_ct, mV0, mVs, mC_, m2_, m1_, mB_, kB_bl, mB1_, mNil_, mCons_, f1L_, f2L_, mTup_, mLst_, mCall_, mNotT_, mAndT_, mOrT_, mIf_, mAndV_, mOrV_, mNotV_, kAndV_bl, kOrV_bl, kNotV_bl, mSl_, mPart_, kPart_, mNoPart_, sSeq_, sSet_, sRet_, sIf_, sExpr_, sNil_, sBreak_, sCont_, e_lt, e_le, e_gt, e_ge, e_eqI, e_neI, e_eqS, e_neS, e_add, e_sub, List.set_cons_zero, List.set_cons_succ, kTu1, kTu2, kTu3, kTu4, kTu5, kLs0, kLs1, kLs2, kLs3, kLs4, kLs5, mM_, mM0_, sAsg_, sFor_, iRng_, iSeq_, hdv, rw_ix hp, e_p0, d2, Bool.false_eq_true, if_false]
    · have t1 : WT [some (rwD r), some (.int z), some (.int (low : Int)), some (.int (high : Int)), x4] S = .ok false S := by
        have d1 : decide ((1 : Int) < (high : Int) - (low : Int)) = false := decide_eq_false (by omega)
        unfold WT
        simp only [bind_ok, bind_ex, of_some, rs_ok, rs_ex, then_nx, then_rt, then_ex, then_bk, then_ct, mV0, mVs, mC_, m2_, m1_, mB_, kB_bl, mB1_, mNil_, mCons_, f1L_, f2L_, mTup_, mLst_, mCall_, mNotT_, mAndT_, mOrT_, mIf_, mAndV_, mOrV_, mNotV_, kAndV_bl, kOrV_bl, kNotV_bl, mSl_, mPart_, kPart_, mNoPart_, sSeq_, sSet_, sRet_, sIf_, sExpr_, sNil_, sBreak_, sCont_, e_lt, e_le, e_gt, e_ge, e_eqI, e_neI, e_eqS, e_neS, e_add, e_sub, List.set_cons_zero, List.set_cons_succ, kTu1, kTu2, kTu3, kTu4, kTu5, kLs0, kLs1, kLs2, kLs3, kLs4, kLs5, mM_, mM0_, sAsg_, sFor_, iRng_, iSeq_, d1]
      refine ⟨low, high, x4, by rw [wh_stop t1], by omega, h5, ?_⟩
      have : low + 1 = high := by omega
      rw [this]; exact h6
theorem run_at {S : Sto} {r : Row} {z : Int} (h0 : r ≠ []) (hz : ∀ p, r[0]? = some p → p.1 ≤ z) (hl : r.length < 900000) : ∃ at_ : Nat, M_run_at [rwD r, .int z] S = .ok (.int (at_ : Int)) S ∧ at_ < r.length ∧ (∀ p, r[at_]? = some p → p.1 ≤ z) ∧ (∀ p, r[at_ + 1]? = some p → z < p.1) := by
  have hpos := List.length_pos_iff.mpr h0
  obtain ⟨at_, high', y4, q1, q2⟩ := wb_loop (S := S) (r := r) (z := z) r.length 1000000000 0 r.length none (by omega) (by omega) hpos (Nat.le_refl _) hz (fun p hp => by rw [List.getElem?_eq_none (Nat.le_refl _)] at hp; cases hp)
  refine ⟨at_, ?_, q2⟩
  have hlen : fLen (rwD r) S = some (.int (r.length : Int), S) := by
    show some (D.int ((r.map prD).length : Int), S) = _
    rw [List.length_map]
  unfold WT WB at q1
  rw [show (((0 : Nat) : Int)) = 0 from rfl] at q1
  have q1' : ∀ env : Mi.Env, env = [some (rwD r), some (.int z), some (.int 0), some (.int (r.length : Int)), none] → sWhile 1000000000 (mB (m2 fGt (m2 fSub (mV 3) (mV 2)) (mC (.int 1)))) (sSeq (sSet 4 (m2 fDiv (m2 fAdd (mV 2) (mV 3)) (mC (.int 2))))
  (sIf (mB (m2 fLe (m2 fIx (m2 fIx (mV 0) (mV 4)) (mC (.int 0))) (mV 1)))
  (sSet 2 (mV 4))
  (sSet 3 (mV 4)))) env S = .nx [some (rwD r), some (.int z), some (.int (at_ : Int)), some (.int (high' : Int)), y4] S := fun env e => by rw [e]; exact q1
  unfold M_run_at mFn B_run_at
  simp only [List.length_cons, List.length_nil, Nat.reduceAdd, if_true, List.map_cons, List.map_nil, List.replicate, List.cons_append, List.nil_append, Nat.reduceSub]
  rw [sSeq_, sSet_, mC_, rs_ok, then_nx, sSeq_]
  have e2 : (sSet 3 (mB1 (f1L fLen) (mCons (mV 0) mNil))) [some (rwD r), some (.int z), some (.int 0), none, none] S = .nx [some (rwD r), some (.int z), some (.int 0), some (.int (r.length : Int)), none] S := by
    simp only [bind_ok, bind_ex, of_some, rs_ok, rs_ex, then_nx, then_rt, then_ex, then_bk, then_ct, mV0, mVs, mC_, m2_, m1_, mB_, kB_bl, mB1_, mNil_, mCons_, f1L_, f2L_, mTup_, mLst_, mCall_, mNotT_, mAndT_, mOrT_, mIf_, mAndV_, mOrV_, mNotV_, kAndV_bl, kOrV_bl, kNotV_bl, mSl_, mPart_, kPart_, mNoPart_, sSeq_, sSet_, sRet_, sIf_, sExpr_, sNil_, sBreak_, sCont_, e_lt, e_le, e_gt, e_ge, e_eqI, e_neI, e_eqS, e_neS, e_add, e_sub, List.set_cons_zero, List.set_cons_succ, kTu1, kTu2, kTu3, kTu4, kTu5, kLs0, kLs1, kLs2, kLs3, kLs4, kLs5, mM_, mM0_, sAsg_, sFor_, iRng_, iSeq_, hlen]
  rw [show (List.set [some (rwD r), some (D.int z), none, none, none] 2 (some (D.int 0))) = [some (rwD r), some (.int z), some (.int 0), none, none] from rfl, e2, then_nx, sSeq_, q1' _ rfl, then_nx]
  rfl
/-- the value at z by its run -/
theorem val_at {n : Int} : ∀ {r : Row} {q : Int × Int} {i : Nat} {p : Int × Int} {z d : Int}, chain n q r → r[i]? = some p → p.1 ≤ z → (∀ x, r[i + 1]? = some x → z < x.1) → val d r z = p.2
  | [], _, i, p, z, d, _, h, _, _ => by simp at h
  | x :: r, q, 0, p, z, d, hc, h, h1, h2 => by
    have : x = p := by simpa using h
    subst this
    rw [val, if_pos h1]
    cases r with
    | nil => rfl
    | cons y r =>
      have := h2 y (by simp)
      rw [val, if_neg (by omega)]
  | x :: r, q, i + 1, p, z, d, hc, h, h1, h2 => by
    have h' : r[i]? = some p := by simpa using h
    have hlt := chain_gt hc.2.2.2 p (List.mem_of_getElem? h')
    rw [val, if_pos (by omega)]
    exact val_at hc.2.2.2 h' h1 fun y hy => h2 y (by simpa using hy)
theorem canon_at {n : Int} {r : Row} {i : Nat} {p : Int × Int} {z : Int} (hc : Canon n r) (h : r[i]? = some p) (h1 : p.1 ≤ z) (h2 : ∀ x, r[i + 1]? = some x → z < x.1) : val 0 r z = p.2 := by
  cases r with
  | nil => simp at h
  | cons x r =>
    obtain ⟨c1, c2, c3⟩ := hc
    have ch : chain n (-1, x.2 + 1) (x :: r) := ⟨by rw [c2]; exact c1, by show (-1 : Int) < x.1; omega, by show x.2 + 1 ≠ x.2; omega, c3⟩
    exact val_at ch h h1 h2
theorem canon_ne {n : Int} {r : Row} (hc : Canon n r) (hn : 0 < n) : r ≠ [] ∧ ∀ p, r[0]? = some p → p.1 = 0 := by
  cases r with
  | nil => have : n = 0 := hc; omega
  | cons x r => exact ⟨by simp, fun p h => by have : x = p := by simpa using h
                                              subst this; exact hc.2.1⟩
/-- a cell, 0 outside -/
def cellv (n : Int) (r : Row) (z : Int) : Int := if z < 0 ∨ n ≤ z then 0 else val 0 r z
theorem e_a0 {S : Sto} {n : Int} {r : Row} : fIx (aD n r) (.int 0) S = some (.int n, S) := e_t0
theorem e_a1 {S : Sto} {n : Int} {r : Row} : fIx (aD n r) (.int 1) S = some (rwD r, S) := e_t1
theorem cell_at {S : Sto} {n z : Int} {r : Row} (hc : Canon n r) (hl : r.length < 900000) : M_cell_at [aD n r, .int z] S = .ok (.int (cellv n r z)) S := by
  unfold M_cell_at mFn B_cell_at cellv
  simp only [List.length_cons, List.length_nil, Nat.reduceAdd, if_true, List.map_cons, List.map_nil, List.replicate, List.cons_append, List.nil_append, Nat.sub_self]
  by_cases h1 : z < 0
  · have d1 : decide (z < 0) = true := decide_eq_true h1
    rw [if_pos (.inl h1)]
    simp only [bind_ok, bind_ex, of_some, rs_ok, rs_ex, then_nx, then_rt, then_ex, then_bk, then_ct, mV0, mVs, mC_, m2_, m1_, mB_, kB_bl, mB1_, mNil_, mCons_, f1L_, f2L_, mTup_, mLst_, mCall_, mNotT_, mAndT_, mOrT_, mIf_, mAndV_, mOrV_, mNotV_, kAndV_bl, kOrV_bl, kNotV_bl, mSl_, mPart_, kPart_, mNoPart_, sSeq_, sSet_, sRet_, sIf_, sExpr_, sNil_, sBreak_, sCont_, e_lt, e_le, e_gt, e_ge, e_eqI, e_neI, e_eqS, e_neS, e_add, e_sub, List.set_cons_zero, List.set_cons_succ, kTu1, kTu2, kTu3, kTu4, kTu5, kLs0, kLs1, kLs2, kLs3, kLs4, kLs5, mM_, mM0_, sAsg_, sFor_, iRng_, iSeq_, d1, if_true]
    rfl
  · have d1 : decide (z < 0) = false := decide_eq_false h1
    by_cases h2 : n ≤ z
    · have d2 : decide (n ≤ z) = true := decide_eq_true h2
      rw [if_pos (.inr h2)]
      simp only [bind_ok, bind_ex, of_some, rs_ok, rs_ex, then_nx, then_rt, then_ex, then_bk, then_ct, mV0, mVs, mC_, m2_, m1_, mB_, kB_bl, mB1_, mNil_, mCons_, f1L_, f2L_, mTup_, mLst_, mCall_, mNotT_, mAndT_, mOrT_, mIf_, mAndV_, mOrV_, mNotV_, kAndV_bl, kOrV_bl, kNotV_bl, mSl_, mPart_, kPart_, mNoPart_, sSeq_, sSet_, sRet_, sIf_, sExpr_, sNil_, sBreak_, sCont_, e_lt, e_le, e_gt, e_ge, e_eqI, e_neI, e_eqS, e_neS, e_add, e_sub, List.set_cons_zero, List.set_cons_succ, kTu1, kTu2, kTu3, kTu4, kTu5, kLs0, kLs1, kLs2, kLs3, kLs4, kLs5, mM_, mM0_, sAsg_, sFor_, iRng_, iSeq_, d1, Bool.false_eq_true, if_false, e_a0, d2, if_true]
      rfl
    · have d2 : decide (n ≤ z) = false := decide_eq_false h2
      obtain ⟨g1, g2⟩ := canon_ne (n := n) hc (by omega)
      obtain ⟨i, q1, q2, q3, q4⟩ := run_at (S := S) (z := z) g1 (fun p hp => by rw [g2 p hp]; omega) hl
      obtain ⟨p, hp⟩ : ∃ p, r[i]? = some p := ⟨_, List.getElem?_eq_getElem q2⟩
      rw [if_neg (by rintro (x | x); exact h1 x; exact h2 x), canon_at hc hp (q3 p hp) q4]
      simp only [bind_ok, bind_ex, of_some, rs_ok, rs_ex, then_nx, then_rt, then_ex, then_bk, then_ct, mV0, mVs, mC_, m2_, m1_, mB_, kB_bl, mB1_, mNil_, mCons_, f1L_, f2L_, mTup_, mLst_, mCall_, mNotT_, mAndT_, mOrT_, mIf_, mAndV_, mOrV_, mNotV_, kAndV_bl, kOrV_bl, kNotV_bl, mSl_, mPart_, kPart_, mNoPart_, sSeq_, sSet_, sRet_, sIf_, sExpr_, sNil_, sBreak_, sCont_, e_lt, e_le, e_gt, e_ge, e_eqI, e_neI, e_eqS, e_neS, e_add, e_sub, List.set_cons_zero, List.set_cons_succ, kTu1, kTu2, kTu3, kTu4, kTu5, kLs0, kLs1, kLs2, kLs3, kLs4, kLs5, mM_, mM0_, sAsg_, sFor_, iRng_, iSeq_, d1, Bool.false_eq_true, if_false, e_a0, e_a1, d2, q1, rw_ix hp, e_p1]
      rfl
end K07

namespace K07
open PySem PySem.Spec L2 Mi
/-! ### with_cell -/
theorem cut_lo {ds : List D} {k : Nat} : cutD ds (some (k : Int)) none = ds.drop k := by
  unfold cutD
  have e : HT.sIx ds.length 0 (some (k : Int)) = min k ds.length := HT.sIx_nat _ _ k
  have e0 : HT.sIx ds.length ds.length none = ds.length := rfl
  rw [e, e0]
  by_cases h : k ≤ ds.length
  · rw [Nat.min_eq_left h]
    exact List.take_of_length_le (by rw [List.length_drop]; omega)
  · rw [Nat.min_eq_right (by omega), List.drop_of_length_le (Nat.le_refl _), List.drop_of_length_le (by omega), List.take_nil]
theorem cut_hi {ds : List D} {k : Nat} : cutD ds none (some (k : Int)) = ds.take k := by
  unfold cutD
  have e : HT.sIx ds.length ds.length (some (k : Int)) = min k ds.length := HT.sIx_nat _ _ k
  have e0 : HT.sIx ds.length 0 none = 0 := rfl
  rw [e, e0, List.drop_zero, Nat.sub_zero, List.take_eq_take_iff]
  omega
def endE (n : Int) : Row → Int
  | [] => n
  | p :: _ => p.1
def tail2 (v : Int) : Row → Row
  | [] => []
  | p :: r => if p.2 = v then r else p :: r
theorem tailE_eq (n z v h : Int) (post : Row) : tailE n z v h post = if z + 1 < endE n post then (z + 1, h) :: post else tail2 v post := by
  cases post <;> rfl
def WS1 : MS := (sIf (mB (m2 fLt (mV 6) (mV 1)))
  (sExpr (mM "list" fAppend (mV 10) (mCons (mTup (mCons (mV 6) (mCons (mV 7) mNil))) mNil)))
  sNil)
def WS2 : MS := (sIf (mOrT (mB (m2 fLt (mV 6) (mV 1))) (mOrT (mB (m2 fEq (mV 5) (mC (.int 0)))) (mB (m2 fNe (m2 fIx (m2 fIx (mV 4) (m2 fSub (mV 5) (mC (.int 1)))) (mC (.int 1))) (mV 2)))))
  (sExpr (mM "list" fAppend (mV 10) (mCons (mTup (mCons (mV 1) (mCons (mV 2) mNil))) mNil)))
  sNil)
def WS3 : MS := (sIf (mB (m2 fLt (m2 fAdd (mV 1) (mC (.int 1))) (mV 9)))
  (sExpr (mM "list" fAppend (mV 10) (mCons (mTup (mCons (m2 fAdd (mV 1) (mC (.int 1))) (mCons (mV 7) mNil))) mNil)))
  (sIf (mAndT (mB (m2 fLt (mV 8) (mB1 (f1L fLen) (mCons (mV 4) mNil)))) (mB (m2 fEq (m2 fIx (m2 fIx (mV 4) (mV 8)) (mC (.int 1))) (mV 2))))
  (sSet 8 (m2 fAdd (mV 8) (mC (.int 1))))
  sNil))
section
variable {S : Sto} {x0 : Option D} {n z v s h e : Int} {r : Row} {at_ b : Nat} {acc : Row}
theorem app_pr (a c : Int) (hl : acc.length < 900000) : fAppend (.obj S.length) [.tup [.int a, .int c]] (S ++ [.lst (acc.map prD)]) = some (.non, S ++ [.lst ((acc ++ [(a, c)]).map prD)]) := by
  rw [e_append last0 (by rw [sizeLine_eq, List.length_map]; omega), sa0, List.map_append]; rfl
theorem ws1 (hl : acc.length < 900000) : WS1 [x0, some (.int z), some (.int v), some (.int n), some (rwD r), some (.int (at_ : Int)), some (.int s), some (.int h), some (.int (b : Int)), some (.int e), some (.obj S.length)] (S ++ [.lst (acc.map prD)]) =
    .nx [x0, some (.int z), some (.int v), some (.int n), some (rwD r), some (.int (at_ : Int)), some (.int s), some (.int h), some (.int (b : Int)), some (.int e), some (.obj S.length)] (S ++ [.lst ((acc ++ (if s < z then [(s, h)] else [])).map prD)]) := by
  unfold WS1
  by_cases h1 : s < z
  · have d1 : decide (s < z) = true := decide_eq_true h1
    rw [if_pos h1]
    simp only [bind_ok, bind_ex, of_some, rs_ok, rs_ex, then_nx, then_rt, then_ex, then_bk, then_ct, mV0, mVs, mC_, m2_, m1_, mB_, kB_bl, mB1_, mNil_, mCons_, f1L_, f2L_, mTup_, mLst_, mCall_, mNotT_, mAndT_, mOrT_, mIf_, mAndV_, mOrV_, mNotV_, kAndV_bl, kOrV_bl, kNotV_bl, mSl_, mPart_, kPart_, mNoPart_, sSeq_, sSet_, sRet_, sIf_, sExpr_, sNil_, sBreak_, sCont_, e_lt, e_le, e_gt, e_ge, e_eqI, e_neI, e_eqS, e_neS, e_add, e_sub, List.set_cons_zero, List.set_cons_succ, kTu1, kTu2, kTu3, kTu4, kTu5, kLs0, kLs1, kLs2, kLs3, kLs4, kLs5, mM_, mM0_, sAsg_, sFor_, iRng_, iSeq_, d1, if_true, tyL last0, app_pr s h hl]
  · have d1 : decide (s < z) = false := decide_eq_false h1
    rw [if_neg h1, List.append_nil]
    simp only [bind_ok, bind_ex, of_some, rs_ok, rs_ex, then_nx, then_rt, then_ex, then_bk, then_ct, mV0, mVs, mC_, m2_, m1_, mB_, kB_bl, mB1_, mNil_, mCons_, f1L_, f2L_, mTup_, mLst_, mCall_, mNotT_, mAndT_, mOrT_, mIf_, mAndV_, mOrV_, mNotV_, kAndV_bl, kOrV_bl, kNotV_bl, mSl_, mPart_, kPart_, mNoPart_, sSeq_, sSet_, sRet_, sIf_, sExpr_, sNil_, sBreak_, sCont_, e_lt, e_le, e_gt, e_ge, e_eqI, e_neI, e_eqS, e_neS, e_add, e_sub, List.set_cons_zero, List.set_cons_succ, kTu1, kTu2, kTu3, kTu4, kTu5, kLs0, kLs1, kLs2, kLs3, kLs4, kLs5, mM_, mM0_, sAsg_, sFor_, iRng_, iSeq_, d1, Bool.false_eq_true, if_false]
theorem ws2 (hl : acc.length < 900000) {c : Prop} [Decidable c] (hc : c ↔ (s < z ∨ at_ = 0 ∨ ∀ q, r[at_ - 1]? = some q → q.2 ≠ v)) (hat : at_ ≤ r.length) : WS2 [x0, some (.int z), some (.int v), some (.int n), some (rwD r), some (.int (at_ : Int)), some (.int s), some (.int h), some (.int (b : Int)), some (.int e), some (.obj S.length)] (S ++ [.lst (acc.map prD)]) =
    .nx [x0, some (.int z), some (.int v), some (.int n), some (rwD r), some (.int (at_ : Int)), some (.int s), some (.int h), some (.int (b : Int)), some (.int e), some (.obj S.length)] (S ++ [.lst ((acc ++ (if c then [(z, v)] else [])).map prD)]) := by
  unfold WS2
  by_cases h1 : s < z
  · have d1 : decide (s < z) = true := decide_eq_true h1
    rw [if_pos (hc.mpr (.inl h1))]
    simp only [bind_ok, bind_ex, of_some, rs_ok, rs_ex, then_nx, then_rt, then_ex, then_bk, then_ct, mV0, mVs, mC_, m2_, m1_, mB_, kB_bl, mB1_, mNil_, mCons_, f1L_, f2L_, mTup_, mLst_, mCall_, mNotT_, mAndT_, mOrT_, mIf_, mAndV_, mOrV_, mNotV_, kAndV_bl, kOrV_bl, kNotV_bl, mSl_, mPart_, kPart_, mNoPart_, sSeq_, sSet_, sRet_, sIf_, sExpr_, sNil_, sBreak_, sCont_, e_lt, e_le, e_gt, e_ge, e_eqI, e_neI, e_eqS, e_neS, e_add, e_sub, List.set_cons_zero, List.set_cons_succ, kTu1, kTu2, kTu3, kTu4, kTu5, kLs0, kLs1, kLs2, kLs3, kLs4, kLs5, mM_, mM0_, sAsg_, sFor_, iRng_, iSeq_, d1, if_true, tyL last0, app_pr z v hl]
  · have d1 : decide (s < z) = false := decide_eq_false h1
    by_cases h2 : at_ = 0
    · have d2 : decide ((at_ : Int) = 0) = true := decide_eq_true (by omega)
      rw [if_pos (hc.mpr (.inr (.inl h2)))]
      simp only [bind_ok, bind_ex, of_some, rs_ok, rs_ex, then_nx, then_rt, then_ex, then_bk, then_ct, mV0, mVs, mC_, m2_, m1_, mB_, kB_bl, mB1_, mNil_, mCons_, f1L_, f2L_, mTup_, mLst_, mCall_, mNotT_, mAndT_, mOrT_, mIf_, mAndV_, mOrV_, mNotV_, kAndV_bl, kOrV_bl, kNotV_bl, mSl_, mPart_, kPart_, mNoPart_, sSeq_, sSet_, sRet_, sIf_, sExpr_, sNil_, sBreak_, sCont_, e_lt, e_le, e_gt, e_ge, e_eqI, e_neI, e_eqS, e_neS, e_add, e_sub, List.set_cons_zero, List.set_cons_succ, kTu1, kTu2, kTu3, kTu4, kTu5, kLs0, kLs1, kLs2, kLs3, kLs4, kLs5, mM_, mM0_, sAsg_, sFor_, iRng_, iSeq_, d1, d2, Bool.false_eq_true, if_false, if_true, tyL last0, app_pr z v hl]
    · have d2 : decide ((at_ : Int) = 0) = false := decide_eq_false (by omega)
      obtain ⟨q, hq⟩ : ∃ q, r[at_ - 1]? = some q := ⟨_, List.getElem?_eq_getElem (by omega)⟩
      have hix : ∀ S : Sto, fIx (rwD r) (.int ((at_ : Int) - 1)) S = some (prD q, S) := fun S => by
        rw [show (at_ : Int) - 1 = ((at_ - 1 : Nat) : Int) by omega]
        exact rw_ix hq
      by_cases h3 : q.2 = v
      · have d3 : decide (q.2 = v) = true := decide_eq_true h3
        rw [if_neg (fun hh => by
          rcases hc.mp hh with a | a | a
          · exact h1 a
          · exact h2 a
          · exact a q hq h3), List.append_nil]
        simp only [bind_ok, bind_ex, of_some, rs_ok, rs_ex, then_nx, then_rt, then_ex, then_bk, then_ct, mV0, mVs, mC_, m2_, m1_, mB_, kB_bl, mB1_, mNil_, mCons_, f1L_, f2L_, mTup_, mLst_, mCall_, mNotT_, mAndT_, mOrT_, mIf_, mAndV_, mOrV_, mNotV_, kAndV_bl, kOrV_bl, kNotV_bl, mSl_, mPart_, kPart_, mNoPart_, sSeq_, sSet_, sRet_, sIf_, sExpr_, sNil_, sBreak_, sCont_, e_lt, e_le, e_gt, e_ge, e_eqI, e_neI, e_eqS, e_neS, e_add, e_sub, List.set_cons_zero, List.set_cons_succ, kTu1, kTu2, kTu3, kTu4, kTu5, kLs0, kLs1, kLs2, kLs3, kLs4, kLs5, mM_, mM0_, sAsg_, sFor_, iRng_, iSeq_, d1, d2, Bool.false_eq_true, if_false, hix, e_p1, d3, Bool.not_true]
      · have d3 : decide (q.2 = v) = false := decide_eq_false h3
        rw [if_pos (hc.mpr (.inr (.inr fun q' hq' => by rw [hq] at hq'; cases hq'; exact h3)))]
        simp only [bind_ok, bind_ex, of_some, rs_ok, rs_ex, then_nx, then_rt, then_ex, then_bk, then_ct, mV0, mVs, mC_, m2_, m1_, mB_, kB_bl, mB1_, mNil_, mCons_, f1L_, f2L_, mTup_, mLst_, mCall_, mNotT_, mAndT_, mOrT_, mIf_, mAndV_, mOrV_, mNotV_, kAndV_bl, kOrV_bl, kNotV_bl, mSl_, mPart_, kPart_, mNoPart_, sSeq_, sSet_, sRet_, sIf_, sExpr_, sNil_, sBreak_, sCont_, e_lt, e_le, e_gt, e_ge, e_eqI, e_neI, e_eqS, e_neS, e_add, e_sub, List.set_cons_zero, List.set_cons_succ, kTu1, kTu2, kTu3, kTu4, kTu5, kLs0, kLs1, kLs2, kLs3, kLs4, kLs5, mM_, mM0_, sAsg_, sFor_, iRng_, iSeq_, d1, d2, Bool.false_eq_true, if_false, hix, e_p1, d3, Bool.not_false, if_true, tyL last0, app_pr z v hl]
/-- the last part: what is added, how much of the old rows is left -/
theorem ws3 (hl : acc.length < 900000) (hb : b ≤ r.length) (he : e = endE n (r.drop b)) : ∃ (m : Row) (b' : Nat), WS3 [x0, some (.int z), some (.int v), some (.int n), some (rwD r), some (.int (at_ : Int)), some (.int s), some (.int h), some (.int (b : Int)), some (.int e), some (.obj S.length)] (S ++ [.lst (acc.map prD)]) =
    .nx [x0, some (.int z), some (.int v), some (.int n), some (rwD r), some (.int (at_ : Int)), some (.int s), some (.int h), some (.int (b' : Int)), some (.int e), some (.obj S.length)] (S ++ [.lst ((acc ++ m).map prD)]) ∧ m ++ r.drop b' = tailE n z v h (r.drop b) ∧ m.length ≤ 1 := by
  unfold WS3
  by_cases h1 : z + 1 < e
  · have d1 : decide (z + 1 < e) = true := decide_eq_true h1
    refine ⟨[(z + 1, h)], b, ?_, ?_, Nat.le_refl _⟩
    · simp only [bind_ok, bind_ex, of_some, rs_ok, rs_ex, then_nx, then_rt, then_ex, then_bk, then_ct, mV0, mVs, mC_, m2_, m1_, mB_, kB_bl, mB1_, mNil_, mCons_, f1L_, f2L_, mTup_, mLst_, mCall_, mNotT_, mAndT_, mOrT_, mIf_, mAndV_, mOrV_, mNotV_, kAndV_bl, kOrV_bl, kNotV_bl, mSl_, mPart_, kPart_, mNoPart_, sSeq_, sSet_, sRet_, sIf_, sExpr_, sNil_, sBreak_, sCont_, e_lt, e_le, e_gt, e_ge, e_eqI, e_neI, e_eqS, e_neS, e_add, e_sub, List.set_cons_zero, List.set_cons_succ, kTu1, kTu2, kTu3, kTu4, kTu5, kLs0, kLs1, kLs2, kLs3, kLs4, kLs5, mM_, mM0_, sAsg_, sFor_, iRng_, iSeq_, d1, if_true, tyL last0, app_pr (z + 1) h hl]
    · rw [tailE_eq, ← he, if_pos h1]; rfl
  · have d1 : decide (z + 1 < e) = false := decide_eq_false h1
    have hlen : ∀ S : Sto, fLen (rwD r) S = some (.int (r.length : Int), S) := fun S => by
      show some (D.int ((r.map prD).length : Int), S) = _
      rw [List.length_map]
    by_cases h2 : b < r.length
    · have d2 : decide ((b : Int) < (r.length : Int)) = true := decide_eq_true (by omega)
      obtain ⟨p, hp⟩ : ∃ p, r[b]? = some p := ⟨_, List.getElem?_eq_getElem h2⟩
      have hdrop : r.drop b = p :: r.drop (b + 1) := by
        rw [List.drop_eq_getElem_cons h2]
        rw [(List.getElem?_eq_some_iff.mp hp).2]
      by_cases h3 : p.2 = v
      · have d3 : decide (p.2 = v) = true := decide_eq_true h3
        refine ⟨[], b + 1, ?_, ?_, Nat.zero_le _⟩
        · rw [List.append_nil]
          simp only [bind_ok, bind_ex, of_some, rs_ok, rs_ex, then_nx, then_rt, then_ex, then_bk, then_ct, mV0, mVs, mC_, m2_, m1_, mB_, kB_bl, mB1_, mNil_, mCons_, f1L_, f2L_, mTup_, mLst_, mCall_, mNotT_, mAndT_, mOrT_, mIf_, mAndV_, mOrV_, mNotV_, kAndV_bl, kOrV_bl, kNotV_bl, mSl_, mPart_, kPart_, mNoPart_, sSeq_, sSet_, sRet_, sIf_, sExpr_, sNil_, sBreak_, sCont_, e_lt, e_le, e_gt, e_ge, e_eqI, e_neI, e_eqS, e_neS, e_add, e_sub, List.set_cons_zero, List.set_cons_succ, kTu1, kTu2, kTu3, kTu4, kTu5, kLs0, kLs1, kLs2, kLs3, kLs4, kLs5, mM_, mM0_, sAsg_, sFor_, iRng_, iSeq_, d1, Bool.false_eq_true, if_false, hlen, d2, if_true, rw_ix hp, e_p1, d3]
          rfl
        · rw [tailE_eq, ← he, if_neg h1, hdrop, List.nil_append]
          show _ = (if p.2 = v then _ else _)
          rw [if_pos h3]
      · have d3 : decide (p.2 = v) = false := decide_eq_false h3
        refine ⟨[], b, ?_, ?_, Nat.zero_le _⟩
        · rw [List.append_nil]
          simp only [bind_ok, bind_ex, of_some, rs_ok, rs_ex, then_nx, then_rt, then_ex, then_bk, then_ct, mV0, mVs, mC_, m2_, m1_, mB_, kB_bl, mB1_, mNil_, mCons_, f1L_, f2L_, mTup_, mLst_, mCall_, mNotT_, mAndT_, mOrT_, mIf_, mAndV_, mOrV_, mNotV_, kAndV_bl, kOrV_bl, kNotV_bl, mSl_, mPart_, kPart_, mNoPart_, sSeq_, sSet_, sRet_, sIf_, sExpr_, sNil_, sBreak_, sCont_, e_lt, e_le, e_gt, e_ge, e_eqI, e_neI, e_eqS, e_neS, e_add, e_sub, List.set_cons_zero, List.set_cons_succ, kTu1, kTu2, kTu3, kTu4, kTu5, kLs0, kLs1, kLs2, kLs3, kLs4, kLs5, mM_, mM0_, sAsg_, sFor_, iRng_, iSeq_, d1, Bool.false_eq_true, if_false, hlen, d2, if_true, rw_ix hp, e_p1, d3]
        · rw [tailE_eq, ← he, if_neg h1, hdrop, List.nil_append]
          show _ = (if p.2 = v then _ else _)
          rw [if_neg h3]
    · have d2 : decide ((b : Int) < (r.length : Int)) = false := decide_eq_false (by omega)
      have hdrop : r.drop b = [] := List.drop_of_length_le (by omega)
      refine ⟨[], b, ?_, ?_, Nat.zero_le _⟩
      · rw [List.append_nil]
        simp only [bind_ok, bind_ex, of_some, rs_ok, rs_ex, then_nx, then_rt, then_ex, then_bk, then_ct, mV0, mVs, mC_, m2_, m1_, mB_, kB_bl, mB1_, mNil_, mCons_, f1L_, f2L_, mTup_, mLst_, mCall_, mNotT_, mAndT_, mOrT_, mIf_, mAndV_, mOrV_, mNotV_, kAndV_bl, kOrV_bl, kNotV_bl, mSl_, mPart_, kPart_, mNoPart_, sSeq_, sSet_, sRet_, sIf_, sExpr_, sNil_, sBreak_, sCont_, e_lt, e_le, e_gt, e_ge, e_eqI, e_neI, e_eqS, e_neS, e_add, e_sub, List.set_cons_zero, List.set_cons_succ, kTu1, kTu2, kTu3, kTu4, kTu5, kLs0, kLs1, kLs2, kLs3, kLs4, kLs5, mM_, mM0_, sAsg_, sFor_, iRng_, iSeq_, d1, Bool.false_eq_true, if_false, hlen, d2]
      · rw [tailE_eq, ← he, if_neg h1, hdrop]; rfl
end
end K07

namespace K07
open PySem PySem.Spec L2 Mi
theorem kasg2 {S : Sto} {env : Mi.Env} {i j : Nat} {a b : D} : kAsg (gT 2 (gsCons (gN i) (gsCons (gN j) gsNil))) env (.tup [a, b]) S = .nx ((env.set i (some a)).set j (some b)) S := (rfl)
theorem tail2_len (v : Int) : ∀ post : Row, (tail2 v post).length ≤ post.length
  | [] => Nat.le_refl _
  | p :: r => by
    show (if p.2 = v then r else p :: r).length ≤ (p :: r).length
    split
    · rw [List.length_cons]; omega
    · exact Nat.le_refl _
/-- the array behind a put -/
structure PutOk (n z v : Int) (r r' : Row) : Prop where
  canon : Canon n r'
  val : ∀ x, 0 ≤ x → x < n → val 0 r' x = if x = z then v else K07.val 0 r x
  len : r'.length ≤ r.length + 2
theorem with_cell {S : Sto} {n z v : Int} {r : Row} (hc : Canon n r) (hl : r.length < 800000) : ∃ (r' : Row) (X : Sto), M_with_cell [aD n r, .int z, .int v] S = .ok (aD n r') (S ++ X) ∧ PutOk n z v r r' := by
  have ka : kAsg (gT 2 (gsCons (gN 3) (gsCons (gN 4) gsNil))) [some (aD n r), some (.int z), some (.int v), none, none, none, none, none, none, none, none] (aD n r) S = .nx [some (aD n r), some (.int z), some (.int v), some (.int n), some (rwD r), none, none, none, none, none, none] S := rfl
  by_cases h1 : z < 0 ∨ n ≤ z
  · refine ⟨r, [], ?_, hc, fun x x0 x1 => by rw [if_neg (by omega)], by omega⟩
    rw [List.append_nil]
    unfold M_with_cell mFn B_with_cell
    simp only [List.length_cons, List.length_nil, Nat.reduceAdd, if_true, List.map_cons, List.map_nil, List.replicate, List.cons_append, List.nil_append, Nat.reduceSub]
    by_cases h2 : z < 0
    · have d1 : decide (z < 0) = true := decide_eq_true h2
      simp only [bind_ok, bind_ex, of_some, rs_ok, rs_ex, then_nx, then_rt, then_ex, then_bk, then_ct, mV0, mVs, mC_, m2_, m1_, mB_, kB_bl, mB1_, mNil_, mCons_, f1L_, f2L_, mTup_, mLst_, mCall_, mNotT_, mAndT_, mOrT_, mIf_, mAndV_, mOrV_, mNotV_, kAndV_bl, kOrV_bl, kNotV_bl, mSl_, mPart_, kPart_, mNoPart_, sSeq_, sSet_, sRet_, sIf_, sExpr_, sNil_, sBreak_, sCont_, e_lt, e_le, e_gt, e_ge, e_eqI, e_neI, e_eqS, e_neS, e_add, e_sub, List.set_cons_zero, List.set_cons_succ, kTu1, kTu2, kTu3, kTu4, kTu5, kLs0, kLs1, kLs2, kLs3, kLs4, kLs5, mM_, mM0_, sAsg_, sFor_, iRng_, iSeq_, ka, d1, if_true]
      rfl
    · have d1 : decide (z < 0) = false := decide_eq_false h2
      have d2 : decide (n ≤ z) = true := decide_eq_true (by omega)
      simp only [bind_ok, bind_ex, of_some, rs_ok, rs_ex, then_nx, then_rt, then_ex, then_bk, then_ct, mV0, mVs, mC_, m2_, m1_, mB_, kB_bl, mB1_, mNil_, mCons_, f1L_, f2L_, mTup_, mLst_, mCall_, mNotT_, mAndT_, mOrT_, mIf_, mAndV_, mOrV_, mNotV_, kAndV_bl, kOrV_bl, kNotV_bl, mSl_, mPart_, kPart_, mNoPart_, sSeq_, sSet_, sRet_, sIf_, sExpr_, sNil_, sBreak_, sCont_, e_lt, e_le, e_gt, e_ge, e_eqI, e_neI, e_eqS, e_neS, e_add, e_sub, List.set_cons_zero, List.set_cons_succ, kTu1, kTu2, kTu3, kTu4, kTu5, kLs0, kLs1, kLs2, kLs3, kLs4, kLs5, mM_, mM0_, sAsg_, sFor_, iRng_, iSeq_, ka, d1, d2, Bool.false_eq_true, if_false, if_true]
      rfl
  · have d1 : decide (z < 0) = false := decide_eq_false (fun h => h1 (.inl h))
    have d2 : decide (n ≤ z) = false := decide_eq_false (fun h => h1 (.inr h))
    have hz0 : 0 ≤ z := by omega
    have hzn : z < n := by omega
    obtain ⟨g1, g2⟩ := canon_ne (n := n) hc (by omega)
    obtain ⟨i, q1, q2, q3, q4⟩ := run_at (S := S) (z := z) g1 (fun p hp => by rw [g2 p hp]; omega) (by omega)
    obtain ⟨p, hp⟩ : ∃ p, r[i]? = some p := ⟨_, List.getElem?_eq_getElem q2⟩
    obtain ⟨s, h⟩ := p
    have hs : s ≤ z := q3 _ hp
    have hval : val 0 r z = h := canon_at hc hp hs q4
    have kp : kAsg (gT 2 (gsCons (gN 6) (gsCons (gN 7) gsNil))) [some (aD n r), some (.int z), some (.int v), some (.int n), some (rwD r), some (.int (i : Int)), none, none, none, none, none] (prD (s, h)) S = .nx [some (aD n r), some (.int z), some (.int v), some (.int n), some (rwD r), some (.int (i : Int)), some (.int s), some (.int h), none, none, none] S := rfl
    by_cases hv : h = v
    · have d3 : decide (h = v) = true := decide_eq_true hv
      refine ⟨r, [], ?_, hc, fun x x0 x1 => ?_, by omega⟩
      · rw [List.append_nil]
        unfold M_with_cell mFn B_with_cell
        simp only [List.length_cons, List.length_nil, Nat.reduceAdd, if_true, List.map_cons, List.map_nil, List.replicate, List.cons_append, List.nil_append, Nat.reduceSub]
        simp only [bind_ok, bind_ex, of_some, rs_ok, rs_ex, then_nx, then_rt, then_ex, then_bk, then_ct, mV0, mVs, mC_, m2_, m1_, mB_, kB_bl, mB1_, mNil_, mCons_, f1L_, f2L_, mTup_, mLst_, mCall_, mNotT_, mAndT_, mOrT_, mIf_, mAndV_, mOrV_, mNotV_, kAndV_bl, kOrV_bl, kNotV_bl, mSl_, mPart_, kPart_, mNoPart_, sSeq_, sSet_, sRet_, sIf_, sExpr_, sNil_, sBreak_, sCont_, e_lt, e_le, e_gt, e_ge, e_eqI, e_neI, e_eqS, e_neS, e_add, e_sub, List.set_cons_zero, List.set_cons_succ, kTu1, kTu2, kTu3, kTu4, kTu5, kLs0, kLs1, kLs2, kLs3, kLs4, kLs5, mM_, mM0_, sAsg_, sFor_, iRng_, iSeq_, ka, d1, d2, Bool.false_eq_true, if_false, q1, rw_ix hp, kp, d3, if_true]
        rfl
      · by_cases hx : x = z
        · rw [if_pos hx, hx, hval, hv]
        · rw [if_neg hx]
    · have d3 : decide (h = v) = false := decide_eq_false hv
      -- the split
      have hsplit : r = r.take i ++ (s, h) :: r.drop (i + 1) := by
        have e := List.take_append_drop i r
        rw [List.drop_eq_getElem_cons q2, (List.getElem?_eq_some_iff.mp hp).2] at e
        exact e.symm
      have hi1 : i + 1 ≤ r.length := q2
      have hlen : ∀ S : Sto, fLen (rwD r) S = some (.int (r.length : Int), S) := fun S => by
        show some (D.int ((r.map prD).length : Int), S) = _
        rw [List.length_map]
      -- the end of the run
      have hend : ∀ (x0 x9 x10 : Option D), (mIf (mB (m2 fLt (mV 8) (mB1 (f1L fLen) (mCons (mV 4) mNil)))) (m2 fIx (m2 fIx (mV 4) (mV 8)) (mC (.int 0))) (mV 3)) [x0, some (.int z), some (.int v), some (.int n), some (rwD r), some (.int (i : Int)), some (.int s), some (.int h), some (.int ((i + 1 : Nat) : Int)), x9, x10] S = .ok (.int (endE n (r.drop (i + 1)))) S := fun x0 x9 x10 => by
        by_cases hb : i + 1 < r.length
        · have d4 : decide (((i + 1 : Nat) : Int) < (r.length : Int)) = true := decide_eq_true (by omega)
          obtain ⟨p2, hp2⟩ : ∃ p2, r[i + 1]? = some p2 := ⟨_, List.getElem?_eq_getElem hb⟩
          have hd : r.drop (i + 1) = p2 :: r.drop (i + 1 + 1) := by rw [List.drop_eq_getElem_cons hb, (List.getElem?_eq_some_iff.mp hp2).2]
          rw [hd]
          simp only [bind_ok, bind_ex, of_some, rs_ok, rs_ex, then_nx, then_rt, then_ex, then_bk, then_ct, mV0, mVs, mC_, m2_, m1_, mB_, kB_bl, mB1_, mNil_, mCons_, f1L_, f2L_, mTup_, mLst_, mCall_, mNotT_, mAndT_, mOrT_, mIf_, mAndV_, mOrV_, mNotV_, kAndV_bl, kOrV_bl, kNotV_bl, mSl_, mPart_, kPart_, mNoPart_, sSeq_, sSet_, sRet_, sIf_, sExpr_, sNil_, sBreak_, sCont_, e_lt, e_le, e_gt, e_ge, e_eqI, e_neI, e_eqS, e_neS, e_add, e_sub, List.set_cons_zero, List.set_cons_succ, kTu1, kTu2, kTu3, kTu4, kTu5, kLs0, kLs1, kLs2, kLs3, kLs4, kLs5, mM_, mM0_, sAsg_, sFor_, iRng_, iSeq_, hlen, d4, if_true, rw_ix hp2, e_p0]
          rfl
        · have d4 : decide (((i + 1 : Nat) : Int) < (r.length : Int)) = false := decide_eq_false (by omega)
          rw [List.drop_of_length_le (by omega)]
          simp only [bind_ok, bind_ex, of_some, rs_ok, rs_ex, then_nx, then_rt, then_ex, then_bk, then_ct, mV0, mVs, mC_, m2_, m1_, mB_, kB_bl, mB1_, mNil_, mCons_, f1L_, f2L_, mTup_, mLst_, mCall_, mNotT_, mAndT_, mOrT_, mIf_, mAndV_, mOrV_, mNotV_, kAndV_bl, kOrV_bl, kNotV_bl, mSl_, mPart_, kPart_, mNoPart_, sSeq_, sSet_, sRet_, sIf_, sExpr_, sNil_, sBreak_, sCont_, e_lt, e_le, e_gt, e_ge, e_eqI, e_neI, e_eqS, e_neS, e_add, e_sub, List.set_cons_zero, List.set_cons_succ, kTu1, kTu2, kTu3, kTu4, kTu5, kLs0, kLs1, kLs2, kLs3, kLs4, kLs5, mM_, mM0_, sAsg_, sFor_, iRng_, iSeq_, hlen, d4, Bool.false_eq_true, if_false]
          rfl
      have w1 := ws1 (S := S) (x0 := some (aD n r)) (n := n) (z := z) (v := v) (s := s) (h := h) (e := endE n (r.drop (i + 1))) (r := r) (at_ := i) (b := i + 1) (acc := []) (by simp)
      generalize ha1 : (([] : Row) ++ (if s < z then [(s, h)] else [])) = a1 at w1
      have ha1l : a1.length ≤ 1 := by rw [← ha1]; split <;> simp
      have hcond : (s < z ∨ r.take i = [] ∨ (∀ q, (r.take i).getLast? = some q → q.2 ≠ v)) ↔ (s < z ∨ i = 0 ∨ ∀ q, r[i - 1]? = some q → q.2 ≠ v) := by
        have e1 : r.take i = [] ↔ i = 0 := by
          rw [← List.length_eq_zero_iff, List.length_take]; omega
        by_cases hi0 : i = 0
        · exact ⟨fun _ => .inr (.inl hi0), fun _ => .inr (.inl (e1.mpr hi0))⟩
        · have e2 : (r.take i).getLast? = r[i - 1]? := by
            rw [List.getLast?_eq_getElem?, List.length_take, Nat.min_eq_left (by omega), List.getElem?_take, if_pos (by omega)]
          rw [e1, e2]
      have w2 := ws2 (S := S) (x0 := some (aD n r)) (n := n) (z := z) (v := v) (s := s) (h := h) (e := endE n (r.drop (i + 1))) (r := r) (at_ := i) (b := i + 1) (acc := a1) (by omega) hcond (by omega)
      generalize ha2 : a1 ++ (if (s < z ∨ r.take i = [] ∨ (∀ q, (r.take i).getLast? = some q → q.2 ≠ v)) then [(z, v)] else []) = a2 at w2
      have ha2l : a2.length ≤ 2 := by rw [← ha2, List.length_append]; split <;> simp <;> omega
      obtain ⟨m, b', w3, t1, t2⟩ := ws3 (S := S) (x0 := some (aD n r)) (n := n) (z := z) (v := v) (s := s) (h := h) (e := endE n (r.drop (i + 1))) (r := r) (at_ := i) (b := i + 1) (acc := a2) (by omega) hi1 rfl
      -- the pieces joined
      have hput : r.take i ++ (a2 ++ m) ++ r.drop b' = putE n (r.take i) s h (r.drop (i + 1)) z v := by
        unfold putE midE
        rw [← t1, ← ha2, ← ha1]
        simp only [List.nil_append, List.append_assoc]
      have hpo : ∀ p ∈ (r.drop (i + 1)).head?, z < p.1 := fun p hp => q4 p (by rw [List.head?_drop] at hp; exact hp)
      have hc2 : Canon n (r.take i ++ (s, h) :: r.drop (i + 1)) := by rw [← hsplit]; exact hc
      obtain ⟨k1, k2⟩ := putE_ok hc2 hz0 hs hzn hpo hv
      rw [← hput] at k1 k2
      have htl : (r.take i).length ≤ r.length := by rw [List.length_take]; omega
      have hdl : (r.drop b').length ≤ r.length := by rw [List.length_drop]; omega
      have hpl : (r.take i ++ (a2 ++ m) ++ r.drop b').length ≤ r.length + 2 := by
        have hb' : (m ++ r.drop b').length ≤ (r.drop (i + 1)).length + 1 := by
          rw [t1, tailE_eq]
          split
          · simp
          · exact Nat.le_trans (tail2_len v _) (Nat.le_succ _)
        simp only [List.length_append, List.length_take, List.length_drop] at hb' ⊢
        have : a2.length ≤ 2 := ha2l
        omega
      have htu : fTuple (.obj S.length) (S ++ [.lst ((a2 ++ m).map prD)]) = some (rwD (a2 ++ m), S ++ [.lst ((a2 ++ m).map prD)]) := by
        show (lstAt _ _).map _ = _
        rw [lst_at last0]; rfl
      have hs1 : ∀ S : Sto, fSl (rwD r) none (some (i : Int)) S = some (rwD (r.take i), S) := fun S => by
        show some (D.tup (cutD (r.map prD) none (some (i : Int))), S) = _
        rw [cut_hi, ← List.map_take]; rfl
      have hs2 : ∀ S : Sto, fSl (rwD r) (some (b' : Int)) none S = some (rwD (r.drop b'), S) := fun S => by
        show some (D.tup (cutD (r.map prD) (some (b' : Int)) none), S) = _
        rw [cut_lo, ← List.map_drop]; rfl
      have addR : ∀ (S : Sto) (a b : Row), a.length + b.length < 2000000 → fAdd (rwD a) (rwD b) S = some (rwD (a ++ b), S) := fun S a b hab => by
        show (if (a.map prD).length + (b.map prD).length ≤ sizeLine then some (D.tup (a.map prD ++ b.map prD), S) else none) = _
        rw [if_pos (by rw [sizeLine_eq, List.length_map, List.length_map]; omega), ← List.map_append]; rfl
      have hm2 : (a2 ++ m).length ≤ 3 := by rw [List.length_append]; omega
      have ad1 := fun S => addR S (r.take i) (a2 ++ m) (by omega)
      have ad2 := fun S => addR S (r.take i ++ (a2 ++ m)) (r.drop b') (by rw [List.length_append]; omega)
      refine ⟨r.take i ++ (a2 ++ m) ++ r.drop b', [.lst ((a2 ++ m).map prD)], ?_, k1, fun x x0 x1 => ?_, hpl⟩
      · unfold M_with_cell mFn B_with_cell
        simp only [List.length_cons, List.length_nil, Nat.reduceAdd, if_true, List.map_cons, List.map_nil, List.replicate, List.cons_append, List.nil_append, Nat.reduceSub]
        have ec : ((i + 1 : Nat) : Int) = (i : Int) + 1 := by omega
        rw [ec] at w1 w2 w3
        rw [show (([] : Row).map prD) = [] from rfl] at w1
        have s1 : (sAsg (mV 0) (gT 2 (gsCons (gN 3) (gsCons (gN 4) gsNil)))) [some (aD n r), some (.int z), some (.int v), none, none, none, none, none, none, none, none] S = .nx [some (aD n r), some (.int z), some (.int v), some (.int n), some (rwD r), none, none, none, none, none, none] S := by
          simp only [bind_ok, bind_ex, of_some, rs_ok, rs_ex, then_nx, then_rt, then_ex, then_bk, then_ct, mV0, mVs, mC_, m2_, m1_, mB_, kB_bl, mB1_, mNil_, mCons_, f1L_, f2L_, mTup_, mLst_, mCall_, mNotT_, mAndT_, mOrT_, mIf_, mAndV_, mOrV_, mNotV_, kAndV_bl, kOrV_bl, kNotV_bl, mSl_, mPart_, kPart_, mNoPart_, sSeq_, sSet_, sRet_, sIf_, sExpr_, sNil_, sBreak_, sCont_, e_lt, e_le, e_gt, e_ge, e_eqI, e_neI, e_eqS, e_neS, e_add, e_sub, List.set_cons_zero, List.set_cons_succ, kTu1, kTu2, kTu3, kTu4, kTu5, kLs0, kLs1, kLs2, kLs3, kLs4, kLs5, mM_, mM0_, sAsg_, sFor_, iRng_, iSeq_, ka]
        have s2 : (sIf (mOrT (mB (m2 fLt (mV 1) (mC (.int 0)))) (mB (m2 fGe (mV 1) (mV 3)))) (sRet (mV 0)) sNil) [some (aD n r), some (.int z), some (.int v), some (.int n), some (rwD r), none, none, none, none, none, none] S = .nx [some (aD n r), some (.int z), some (.int v), some (.int n), some (rwD r), none, none, none, none, none, none] S := by
          simp only [bind_ok, bind_ex, of_some, rs_ok, rs_ex, then_nx, then_rt, then_ex, then_bk, then_ct, mV0, mVs, mC_, m2_, m1_, mB_, kB_bl, mB1_, mNil_, mCons_, f1L_, f2L_, mTup_, mLst_, mCall_, mNotT_, mAndT_, mOrT_, mIf_, mAndV_, mOrV_, mNotV_, kAndV_bl, kOrV_bl, kNotV_bl, mSl_, mPart_, kPart_, mNoPart_, sSeq_, sSet_, sRet_, sIf_, sExpr_, sNil_, sBreak_, sCont_, e_lt, e_le, e_gt, e_ge, e_eqI, e_neI, e_eqS, e_neS, e_add, e_sub, List.set_cons_zero, List.set_cons_succ, kTu1, kTu2, kTu3, kTu4, kTu5, kLs0, kLs1, kLs2, kLs3, kLs4, kLs5, mM_, mM0_, sAsg_, sFor_, iRng_, iSeq_, d1, d2, Bool.false_eq_true, if_false]
        have s3 : (sSet 5 (mCall M_run_at (mCons (mV 4) (mCons (mV 1) mNil)))) [some (aD n r), some (.int z), some (.int v), some (.int n), some (rwD r), none, none, none, none, none, none] S = .nx [some (aD n r), some (.int z), some (.int v), some (.int n), some (rwD r), some (.int (i : Int)), none, none, none, none, none] S := by
          simp only [bind_ok, bind_ex, of_some, rs_ok, rs_ex, then_nx, then_rt, then_ex, then_bk, then_ct, mV0, mVs, mC_, m2_, m1_, mB_, kB_bl, mB1_, mNil_, mCons_, f1L_, f2L_, mTup_, mLst_, mCall_, mNotT_, mAndT_, mOrT_, mIf_, mAndV_, mOrV_, mNotV_, kAndV_bl, kOrV_bl, kNotV_bl, mSl_, mPart_, kPart_, mNoPart_, sSeq_, sSet_, sRet_, sIf_, sExpr_, sNil_, sBreak_, sCont_, e_lt, e_le, e_gt, e_ge, e_eqI, e_neI, e_eqS, e_neS, e_add, e_sub, List.set_cons_zero, List.set_cons_succ, kTu1, kTu2, kTu3, kTu4, kTu5, kLs0, kLs1, kLs2, kLs3, kLs4, kLs5, mM_, mM0_, sAsg_, sFor_, iRng_, iSeq_, q1]
        have s4 : (sAsg (m2 fIx (mV 4) (mV 5)) (gT 2 (gsCons (gN 6) (gsCons (gN 7) gsNil)))) [some (aD n r), some (.int z), some (.int v), some (.int n), some (rwD r), some (.int (i : Int)), none, none, none, none, none] S = .nx [some (aD n r), some (.int z), some (.int v), some (.int n), some (rwD r), some (.int (i : Int)), some (.int s), some (.int h), none, none, none] S := by
          simp only [bind_ok, bind_ex, of_some, rs_ok, rs_ex, then_nx, then_rt, then_ex, then_bk, then_ct, mV0, mVs, mC_, m2_, m1_, mB_, kB_bl, mB1_, mNil_, mCons_, f1L_, f2L_, mTup_, mLst_, mCall_, mNotT_, mAndT_, mOrT_, mIf_, mAndV_, mOrV_, mNotV_, kAndV_bl, kOrV_bl, kNotV_bl, mSl_, mPart_, kPart_, mNoPart_, sSeq_, sSet_, sRet_, sIf_, sExpr_, sNil_, sBreak_, sCont_, e_lt, e_le, e_gt, e_ge, e_eqI, e_neI, e_eqS, e_neS, e_add, e_sub, List.set_cons_zero, List.set_cons_succ, kTu1, kTu2, kTu3, kTu4, kTu5, kLs0, kLs1, kLs2, kLs3, kLs4, kLs5, mM_, mM0_, sAsg_, sFor_, iRng_, iSeq_, rw_ix hp, kp]
        have s5 : (sIf (mB (m2 fEq (mV 7) (mV 2))) (sRet (mV 0)) sNil) [some (aD n r), some (.int z), some (.int v), some (.int n), some (rwD r), some (.int (i : Int)), some (.int s), some (.int h), none, none, none] S = .nx [some (aD n r), some (.int z), some (.int v), some (.int n), some (rwD r), some (.int (i : Int)), some (.int s), some (.int h), none, none, none] S := by
          simp only [bind_ok, bind_ex, of_some, rs_ok, rs_ex, then_nx, then_rt, then_ex, then_bk, then_ct, mV0, mVs, mC_, m2_, m1_, mB_, kB_bl, mB1_, mNil_, mCons_, f1L_, f2L_, mTup_, mLst_, mCall_, mNotT_, mAndT_, mOrT_, mIf_, mAndV_, mOrV_, mNotV_, kAndV_bl, kOrV_bl, kNotV_bl, mSl_, mPart_, kPart_, mNoPart_, sSeq_, sSet_, sRet_, sIf_, sExpr_, sNil_, sBreak_, sCont_, e_lt, e_le, e_gt, e_ge, e_eqI, e_neI, e_eqS, e_neS, e_add, e_sub, List.set_cons_zero, List.set_cons_succ, kTu1, kTu2, kTu3, kTu4, kTu5, kLs0, kLs1, kLs2, kLs3, kLs4, kLs5, mM_, mM0_, sAsg_, sFor_, iRng_, iSeq_, d3, Bool.false_eq_true, if_false]
        have s6 : (sSet 8 (m2 fAdd (mV 5) (mC (.int 1)))) [some (aD n r), some (.int z), some (.int v), some (.int n), some (rwD r), some (.int (i : Int)), some (.int s), some (.int h), none, none, none] S = .nx [some (aD n r), some (.int z), some (.int v), some (.int n), some (rwD r), some (.int (i : Int)), some (.int s), some (.int h), some (.int ((i : Int) + 1)), none, none] S := by
          simp only [bind_ok, bind_ex, of_some, rs_ok, rs_ex, then_nx, then_rt, then_ex, then_bk, then_ct, mV0, mVs, mC_, m2_, m1_, mB_, kB_bl, mB1_, mNil_, mCons_, f1L_, f2L_, mTup_, mLst_, mCall_, mNotT_, mAndT_, mOrT_, mIf_, mAndV_, mOrV_, mNotV_, kAndV_bl, kOrV_bl, kNotV_bl, mSl_, mPart_, kPart_, mNoPart_, sSeq_, sSet_, sRet_, sIf_, sExpr_, sNil_, sBreak_, sCont_, e_lt, e_le, e_gt, e_ge, e_eqI, e_neI, e_eqS, e_neS, e_add, e_sub, List.set_cons_zero, List.set_cons_succ, kTu1, kTu2, kTu3, kTu4, kTu5, kLs0, kLs1, kLs2, kLs3, kLs4, kLs5, mM_, mM0_, sAsg_, sFor_, iRng_, iSeq_]
        have s7 : (sSet 9 (mIf (mB (m2 fLt (mV 8) (mB1 (f1L fLen) (mCons (mV 4) mNil)))) (m2 fIx (m2 fIx (mV 4) (mV 8)) (mC (.int 0))) (mV 3))) [some (aD n r), some (.int z), some (.int v), some (.int n), some (rwD r), some (.int (i : Int)), some (.int s), some (.int h), some (.int ((i : Int) + 1)), none, none] S = .nx [some (aD n r), some (.int z), some (.int v), some (.int n), some (rwD r), some (.int (i : Int)), some (.int s), some (.int h), some (.int ((i : Int) + 1)), some (.int (endE n (r.drop (i + 1)))), none] S := by
          have := hend (some (aD n r)) none none
          rw [ec] at this
          rw [sSet_, this, rs_ok]; rfl
        have s8 : (sSet 10 (mLst mNil)) [some (aD n r), some (.int z), some (.int v), some (.int n), some (rwD r), some (.int (i : Int)), some (.int s), some (.int h), some (.int ((i : Int) + 1)), some (.int (endE n (r.drop (i + 1)))), none] S = .nx [some (aD n r), some (.int z), some (.int v), some (.int n), some (rwD r), some (.int (i : Int)), some (.int s), some (.int h), some (.int ((i : Int) + 1)), some (.int (endE n (r.drop (i + 1)))), some (.obj S.length)] (S ++ [.lst []]) := by
          simp only [bind_ok, bind_ex, of_some, rs_ok, rs_ex, then_nx, then_rt, then_ex, then_bk, then_ct, mV0, mVs, mC_, m2_, m1_, mB_, kB_bl, mB1_, mNil_, mCons_, f1L_, f2L_, mTup_, mLst_, mCall_, mNotT_, mAndT_, mOrT_, mIf_, mAndV_, mOrV_, mNotV_, kAndV_bl, kOrV_bl, kNotV_bl, mSl_, mPart_, kPart_, mNoPart_, sSeq_, sSet_, sRet_, sIf_, sExpr_, sNil_, sBreak_, sCont_, e_lt, e_le, e_gt, e_ge, e_eqI, e_neI, e_eqS, e_neS, e_add, e_sub, List.set_cons_zero, List.set_cons_succ, kTu1, kTu2, kTu3, kTu4, kTu5, kLs0, kLs1, kLs2, kLs3, kLs4, kLs5, mM_, mM0_, sAsg_, sFor_, iRng_, iSeq_]
        have s9 : (sRet (mTup (mCons (mV 3) (mCons (m2 fAdd (m2 fAdd (mSl (mV 4) mNoPart (mPart (mV 5))) (mB1 (f1L fTuple) (mCons (mV 10) mNil))) (mSl (mV 4) (mPart (mV 8)) mNoPart)) mNil)))) [some (aD n r), some (.int z), some (.int v), some (.int n), some (rwD r), some (.int (i : Int)), some (.int s), some (.int h), some (.int (b' : Int)), some (.int (endE n (r.drop (i + 1)))), some (.obj S.length)] (S ++ [.lst ((a2 ++ m).map prD)]) = .rt (aD n (r.take i ++ (a2 ++ m) ++ r.drop b')) (S ++ [.lst ((a2 ++ m).map prD)]) := by
          simp only [bind_ok, bind_ex, of_some, rs_ok, rs_ex, then_nx, then_rt, then_ex, then_bk, then_ct, mV0, mVs, mC_, m2_, m1_, mB_, kB_bl, mB1_, mNil_, mCons_, f1L_, f2L_, mTup_, mLst_, mCall_, mNotT_, mAndT_, mOrT_, mIf_, mAndV_, mOrV_, mNotV_, kAndV_bl, kOrV_bl, kNotV_bl, mSl_, mPart_, kPart_, mNoPart_, sSeq_, sSet_, sRet_, sIf_, sExpr_, sNil_, sBreak_, sCont_, e_lt, e_le, e_gt, e_ge, e_eqI, e_neI, e_eqS, e_neS, e_add, e_sub, List.set_cons_zero, List.set_cons_succ, kTu1, kTu2, kTu3, kTu4, kTu5, kLs0, kLs1, kLs2, kLs3, kLs4, kLs5, mM_, mM0_, sAsg_, sFor_, iRng_, iSeq_, hs1, hs2, htu, ad1, ad2]
          rfl
        unfold WS1 at w1
        unfold WS2 at w2
        unfold WS3 at w3
        rw [sSeq_, s1, then_nx, sSeq_, s2, then_nx, sSeq_, s3, then_nx, sSeq_, s4, then_nx, sSeq_, s5, then_nx, sSeq_, s6, then_nx, sSeq_, s7, then_nx, sSeq_, s8, then_nx, sSeq_, w1, then_nx, sSeq_, w2, then_nx, sSeq_, w3, then_nx, s9]
        rfl
      · rw [k2 x x0 x1, ← hsplit]
end K07

namespace K07
open PySem PySem.Spec L2 Mi
theorem put_cell {S : Sto} {n z v : Int} {r : Row} (hc : Canon n r) (hl : r.length < 800000) : ∃ (r' : Row) (X : Sto), M_put_cell [aD n r, .int z, .int v] S = .ok (aD n r') (S ++ X) ∧ PutOk n z v r r' := by
  obtain ⟨r', X, h1, h2⟩ := with_cell (S := S) (z := z) (v := v) hc hl
  refine ⟨r', X, ?_, h2⟩
  unfold M_put_cell mFn B_put_cell
  simp only [List.length_cons, List.length_nil, Nat.reduceAdd, if_true, List.map_cons, List.map_nil, List.replicate, List.cons_append, List.nil_append, Nat.sub_self]
  simp only [bind_ok, bind_ex, of_some, rs_ok, rs_ex, then_nx, then_rt, then_ex, then_bk, then_ct, mV0, mVs, mC_, m2_, m1_, mB_, kB_bl, mB1_, mNil_, mCons_, f1L_, f2L_, mTup_, mLst_, mCall_, mNotT_, mAndT_, mOrT_, mIf_, mAndV_, mOrV_, mNotV_, kAndV_bl, kOrV_bl, kNotV_bl, mSl_, mPart_, kPart_, mNoPart_, sSeq_, sSet_, sRet_, sIf_, sExpr_, sNil_, sBreak_, sCont_, e_lt, e_le, e_gt, e_ge, e_eqI, e_neI, e_eqS, e_neS, e_add, e_sub, List.set_cons_zero, List.set_cons_succ, kTu1, kTu2, kTu3, kTu4, kTu5, kLs0, kLs1, kLs2, kLs3, kLs4, kLs5, mM_, mM0_, sAsg_, sFor_, iRng_, iSeq_, check_arr hc, check_whole, h1]
  rfl
theorem cell_of {S : Sto} {n z : Int} {r : Row} (hc : Canon n r) (hl : r.length < 900000) : M_cell_of [aD n r, .int z] S = .ok (.int (cellv n r z)) S := by
  unfold M_cell_of mFn B_cell_of
  simp only [List.length_cons, List.length_nil, Nat.reduceAdd, if_true, List.map_cons, List.map_nil, List.replicate, List.cons_append, List.nil_append, Nat.sub_self]
  simp only [bind_ok, bind_ex, of_some, rs_ok, rs_ex, then_nx, then_rt, then_ex, then_bk, then_ct, mV0, mVs, mC_, m2_, m1_, mB_, kB_bl, mB1_, mNil_, mCons_, f1L_, f2L_, mTup_, mLst_, mCall_, mNotT_, mAndT_, mOrT_, mIf_, mAndV_, mOrV_, mNotV_, kAndV_bl, kOrV_bl, kNotV_bl, mSl_, mPart_, kPart_, mNoPart_, sSeq_, sSet_, sRet_, sIf_, sExpr_, sNil_, sBreak_, sCont_, e_lt, e_le, e_gt, e_ge, e_eqI, e_neI, e_eqS, e_neS, e_add, e_sub, List.set_cons_zero, List.set_cons_succ, kTu1, kTu2, kTu3, kTu4, kTu5, kLs0, kLs1, kLs2, kLs3, kLs4, kLs5, mM_, mM0_, sAsg_, sFor_, iRng_, iSeq_, check_arr hc, check_whole, cell_at hc hl]
  rfl
theorem runs_of {S : Sto} {n : Int} {r : Row} (hc : Canon n r) : M_runs_of [aD n r] S = .ok (rwD r) S := by
  unfold M_runs_of mFn B_runs_of
  simp only [List.length_cons, List.length_nil, Nat.reduceAdd, if_true, List.map_cons, List.map_nil, List.replicate, List.cons_append, List.nil_append, Nat.sub_self]
  simp only [bind_ok, bind_ex, of_some, rs_ok, rs_ex, then_nx, then_rt, then_ex, then_bk, then_ct, mV0, mVs, mC_, m2_, m1_, mB_, kB_bl, mB1_, mNil_, mCons_, f1L_, f2L_, mTup_, mLst_, mCall_, mNotT_, mAndT_, mOrT_, mIf_, mAndV_, mOrV_, mNotV_, kAndV_bl, kOrV_bl, kNotV_bl, mSl_, mPart_, kPart_, mNoPart_, sSeq_, sSet_, sRet_, sIf_, sExpr_, sNil_, sBreak_, sCont_, e_lt, e_le, e_gt, e_ge, e_eqI, e_neI, e_eqS, e_neS, e_add, e_sub, List.set_cons_zero, List.set_cons_succ, kTu1, kTu2, kTu3, kTu4, kTu5, kLs0, kLs1, kLs2, kLs3, kLs4, kLs5, mM_, mM0_, sAsg_, sFor_, iRng_, iSeq_, check_arr hc, e_a1]
  rfl
theorem length_of {S : Sto} {n : Int} {r : Row} (hc : Canon n r) : M_length_of [aD n r] S = .ok (.int n) S := by
  unfold M_length_of mFn B_length_of
  simp only [List.length_cons, List.length_nil, Nat.reduceAdd, if_true, List.map_cons, List.map_nil, List.replicate, List.cons_append, List.nil_append, Nat.sub_self]
  simp only [bind_ok, bind_ex, of_some, rs_ok, rs_ex, then_nx, then_rt, then_ex, then_bk, then_ct, mV0, mVs, mC_, m2_, m1_, mB_, kB_bl, mB1_, mNil_, mCons_, f1L_, f2L_, mTup_, mLst_, mCall_, mNotT_, mAndT_, mOrT_, mIf_, mAndV_, mOrV_, mNotV_, kAndV_bl, kOrV_bl, kNotV_bl, mSl_, mPart_, kPart_, mNoPart_, sSeq_, sSet_, sRet_, sIf_, sExpr_, sNil_, sBreak_, sCont_, e_lt, e_le, e_gt, e_ge, e_eqI, e_neI, e_eqS, e_neS, e_add, e_sub, List.set_cons_zero, List.set_cons_succ, kTu1, kTu2, kTu3, kTu4, kTu5, kLs0, kLs1, kLs2, kLs3, kLs4, kLs5, mM_, mM0_, sAsg_, sFor_, iRng_, iSeq_, check_arr hc, e_a0]
  rfl
theorem same_arrays {S : Sto} {n m : Int} {r s : Row} (hc : Canon n r) (hc' : Canon m s) (hl : r.length < 900000) (hl' : s.length < 900000) : M_same_arrays [aD n r, aD m s] S = .ok (.bl (decide (n = m ∧ r = s))) S := by
  unfold M_same_arrays mFn B_same_arrays
  simp only [List.length_cons, List.length_nil, Nat.reduceAdd, if_true, List.map_cons, List.map_nil, List.replicate, List.cons_append, List.nil_append, Nat.sub_self]
  simp only [bind_ok, bind_ex, of_some, rs_ok, rs_ex, then_nx, then_rt, then_ex, then_bk, then_ct, mV0, mVs, mC_, m2_, m1_, mB_, kB_bl, mB1_, mNil_, mCons_, f1L_, f2L_, mTup_, mLst_, mCall_, mNotT_, mAndT_, mOrT_, mIf_, mAndV_, mOrV_, mNotV_, kAndV_bl, kOrV_bl, kNotV_bl, mSl_, mPart_, kPart_, mNoPart_, sSeq_, sSet_, sRet_, sIf_, sExpr_, sNil_, sBreak_, sCont_, e_lt, e_le, e_gt, e_ge, e_eqI, e_neI, e_eqS, e_neS, e_add, e_sub, List.set_cons_zero, List.set_cons_succ, kTu1, kTu2, kTu3, kTu4, kTu5, kLs0, kLs1, kLs2, kLs3, kLs4, kLs5, mM_, mM0_, sAsg_, sFor_, iRng_, iSeq_, check_arr hc, check_arr hc', (eq_a (S := S) n m r s (by omega) (by omega)).1]
  rfl
/-! the law's own tests -/
def KB : MS := (sIf (mOrT (mNotT (mB (m1 (fIsi ["tuple"]) (mV 1)))) (mOrT (mB (m2 fNe (mB1 (f1L fLen) (mCons (mV 1) mNil)) (mC (.int 2)))) (mOrT (mNotT (mB (mCall M__law_int (mCons (m2 fIx (mV 1) (mC (.int 0))) mNil)))) (mNotT (mB (mCall M__law_int (mCons (m2 fIx (mV 1) (mC (.int 1))) mNil)))))))
  (sRet (mC (.bl false)))
  sNil)
theorem e_len_pr {S : Sto} {p : Int × Int} : fLen (prD p) S = some (.int 2, S) := (rfl)
theorem kb_step {S : Sto} {x0 : Option D} {p : Int × Int} : KB [x0, some (prD p)] S = .nx [x0, some (prD p)] S := by
  have d2 : decide ((2 : Int) = 2) = true := rfl
  unfold KB
  simp only [bind_ok, bind_ex, of_some, rs_ok, rs_ex, then_nx, then_rt, then_ex, then_bk, then_ct, mV0, mVs, mC_, m2_, m1_, mB_, kB_bl, mB1_, mNil_, mCons_, f1L_, f2L_, mTup_, mLst_, mCall_, mNotT_, mAndT_, mOrT_, mIf_, mAndV_, mOrV_, mNotV_, kAndV_bl, kOrV_bl, kNotV_bl, mSl_, mPart_, kPart_, mNoPart_, sSeq_, sSet_, sRet_, sIf_, sExpr_, sNil_, sBreak_, sCont_, e_lt, e_le, e_gt, e_ge, e_eqI, e_neI, e_eqS, e_neS, e_add, e_sub, List.set_cons_zero, List.set_cons_succ, kTu1, kTu2, kTu3, kTu4, kTu5, kLs0, kLs1, kLs2, kLs3, kLs4, kLs5, mM_, mM0_, sAsg_, sFor_, iRng_, iSeq_, isi_pr, Bool.not_true, Bool.false_eq_true, if_false, e_len_pr, decide_true, e_p0, e_p1, lawint_int]
theorem kb_loop {S : Sto} {x0 : Option D} {r : Row} : ∀ (suf pre : Row) (x1 : Option D), r = pre ++ suf → ∃ y1 : Option D, forI (itFix (r.map prD)) (gN 1) KB suf.length pre.length [x0, x1] S = .nx [x0, y1] S
  | [], pre, x1, he => by
    refine ⟨x1, ?_⟩
    have : pre.length = (r.map prD).length := by rw [he]; simp
    rw [this, fx_end]
  | p :: suf, pre, x1, he => by
    have hd : (r.map prD)[pre.length]? = some (prD p) := by rw [he]; simp
    obtain ⟨y1, q⟩ := kb_loop (S := S) (x0 := x0) (r := r) suf (pre ++ [p]) (some (prD p)) (by rw [he]; simp)
    refine ⟨y1, ?_⟩
    rw [show (p :: suf).length = suf.length + 1 from rfl, fx_nx hd rfl (kb_step (S := S) (x0 := x0) (p := p))]
    rw [List.length_append, List.length_singleton] at q
    exact q
theorem array_kind {S : Sto} {n : Int} {r : Row} : M__law_array_kind [aD n r] S = .ok (.bl true) S := by
  obtain ⟨y1, q⟩ := kb_loop (S := S) (x0 := some (aD n r)) (r := r) r [] none rfl
  have d2 : decide ((2 : Int) = 2) = true := rfl
  have i1 : fIsi ["tuple"] (aD n r) S = some (.bl true, S) := rfl
  have i2 : fIsi ["tuple"] (rwD r) S = some (.bl true, S) := rfl
  have l1 : fLen (aD n r) S = some (.int 2, S) := rfl
  have ks : kSeqI (rwD r) S = .ok (itFix (r.map prD)) S := rfl
  have en : (itFix (r.map prD)).n = r.length := by show (r.map prD).length = _; rw [List.length_map]
  rw [show ([] : Row).length = 0 from rfl] at q
  unfold KB at q
  unfold M__law_array_kind mFn B__law_array_kind
  simp only [List.length_cons, List.length_nil, Nat.reduceAdd, if_true, List.map_cons, List.map_nil, List.replicate, List.cons_append, List.nil_append, Nat.reduceSub]
  simp only [bind_ok, bind_ex, of_some, rs_ok, rs_ex, then_nx, then_rt, then_ex, then_bk, then_ct, mV0, mVs, mC_, m2_, m1_, mB_, kB_bl, mB1_, mNil_, mCons_, f1L_, f2L_, mTup_, mLst_, mCall_, mNotT_, mAndT_, mOrT_, mIf_, mAndV_, mOrV_, mNotV_, kAndV_bl, kOrV_bl, kNotV_bl, mSl_, mPart_, kPart_, mNoPart_, sSeq_, sSet_, sRet_, sIf_, sExpr_, sNil_, sBreak_, sCont_, e_lt, e_le, e_gt, e_ge, e_eqI, e_neI, e_eqS, e_neS, e_add, e_sub, List.set_cons_zero, List.set_cons_succ, kTu1, kTu2, kTu3, kTu4, kTu5, kLs0, kLs1, kLs2, kLs3, kLs4, kLs5, mM_, mM0_, sAsg_, sFor_, iRng_, iSeq_, i1, i2, l1, decide_true, e_a0, e_a1, lawint_int, Bool.not_true, Bool.false_eq_true, if_false, ks, en] at q ⊢
  rw [q]
  rfl
theorem law_is_array {S : Sto} {n : Int} {r : Row} (hl : r.length < 900000) : M__law_is_array [aD n r, aD n r] S = .ok (.bl true) S := by
  have e := (eq_a (S := S) n n r r (by omega) (by omega)).1
  rw [show decide (n = n ∧ r = r) = true from decide_eq_true ⟨rfl, rfl⟩] at e
  unfold M__law_is_array mFn B__law_is_array
  simp only [List.length_cons, List.length_nil, Nat.reduceAdd, if_true, List.map_cons, List.map_nil, List.replicate, List.cons_append, List.nil_append, Nat.sub_self]
  simp only [bind_ok, bind_ex, of_some, rs_ok, rs_ex, then_nx, then_rt, then_ex, then_bk, then_ct, mV0, mVs, mC_, m2_, m1_, mB_, kB_bl, mB1_, mNil_, mCons_, f1L_, f2L_, mTup_, mLst_, mCall_, mNotT_, mAndT_, mOrT_, mIf_, mAndV_, mOrV_, mNotV_, kAndV_bl, kOrV_bl, kNotV_bl, mSl_, mPart_, kPart_, mNoPart_, sSeq_, sSet_, sRet_, sIf_, sExpr_, sNil_, sBreak_, sCont_, e_lt, e_le, e_gt, e_ge, e_eqI, e_neI, e_eqS, e_neS, e_add, e_sub, List.set_cons_zero, List.set_cons_succ, kTu1, kTu2, kTu3, kTu4, kTu5, kLs0, kLs1, kLs2, kLs3, kLs4, kLs5, mM_, mM0_, sAsg_, sFor_, iRng_, iSeq_, array_kind, if_true, e]
  rfl
/-! looks -/
/-- the dict tells the cells -/
def DictOk (S : Sto) (j : Nat) (n : Int) (r : Row) : Prop := ∃ kds, S[j]? = some (.dic kds) ∧ ∀ z, (valD kds (.inl z)).getD (.int 0) = .int (cellv n r z)
theorem tyDi {S : Sto} {j : Nat} {kds : List (Key × D)} (h : S[j]? = some (.dic kds)) : tyOk "dict" (.obj j) S = true := by unfold tyOk; simp only [h]; rfl
theorem e_getD {S : Sto} {j : Nat} {kds : List (Key × D)} {z : Int} (h : S[j]? = some (.dic kds)) : fGet (.obj j) [.int z, .int 0] S = some ((valD kds (.inl z)).getD (.int 0), S) := by
  unfold fGet
  simp only [h]
  rfl
def LB : MS := (sSeq (sSet 5 (mM "dict" fGet (mV 2) (mCons (mV 4) (mCons (mC (.int 0)) mNil))))
  (sSeq (sSet 6 (mCall M_cell_of (mCons (mV 0) (mCons (mV 4) mNil))))
  (sIf (mOrT (mNotT (mB (mCall M__law_int (mCons (mV 6) mNil)))) (mB (m2 fNe (mV 6) (mV 5))))
  (sRet (mC (.bl false)))
  sNil)))
theorem lb_loop {S : Sto} {n : Int} {r : Row} {j k : Nat} {zs : List Int} {x1 x3 x7 : Option D} (hc : Canon n r) (hl : r.length < 900000) (hd : DictOk S j n r) (hk : S[k]? = some (.lst (zs.map D.int))) : ∀ (suf pre : List Int) (x4 x5 x6 : Option D), zs = pre ++ suf → ∃ y4 y5 y6 : Option D,
    forI (itLst zs.length k) (gN 4) LB suf.length pre.length [some (aD n r), x1, some (.obj j), x3, x4, x5, x6, x7] S = .nx [some (aD n r), x1, some (.obj j), x3, y4, y5, y6, x7] S
  | [], pre, x4, x5, x6, he => by
    refine ⟨x4, x5, x6, ?_⟩
    have : pre.length = (zs.map D.int).length := by rw [he]; simp
    rw [this, fl_end hk]
  | z :: suf, pre, x4, x5, x6, he => by
    have hz : (zs.map D.int)[pre.length]? = some (.int z) := by rw [he]; simp
    obtain ⟨kds, h1, h2⟩ := hd
    have hg := e_getD (z := z) h1
    rw [h2 z] at hg
    have d1 : decide (cellv n r z = cellv n r z) = true := decide_eq_true rfl
    obtain ⟨y4, y5, y6, q⟩ := lb_loop (x1 := x1) (x3 := x3) (x7 := x7) hc hl ⟨kds, h1, h2⟩ hk suf (pre ++ [z]) (some (.int z)) (some (.int (cellv n r z))) (some (.int (cellv n r z))) (by rw [he]; simp)
    refine ⟨y4, y5, y6, ?_⟩
    rw [List.length_append, List.length_singleton] at q
    rw [show (z :: suf).length = suf.length + 1 from rfl, fl_nx hk hz rfl (env2 := [some (aD n r), x1, some (.obj j), x3, some (.int z), some (.int (cellv n r z)), some (.int (cellv n r z)), x7]) (S2 := S) ?_, q]
    unfold LB
    simp only [bind_ok, bind_ex, of_some, rs_ok, rs_ex, then_nx, then_rt, then_ex, then_bk, then_ct, mV0, mVs, mC_, m2_, m1_, mB_, kB_bl, mB1_, mNil_, mCons_, f1L_, f2L_, mTup_, mLst_, mCall_, mNotT_, mAndT_, mOrT_, mIf_, mAndV_, mOrV_, mNotV_, kAndV_bl, kOrV_bl, kNotV_bl, mSl_, mPart_, kPart_, mNoPart_, sSeq_, sSet_, sRet_, sIf_, sExpr_, sNil_, sBreak_, sCont_, e_lt, e_le, e_gt, e_ge, e_eqI, e_neI, e_eqS, e_neS, e_add, e_sub, List.set_cons_zero, List.set_cons_succ, kTu1, kTu2, kTu3, kTu4, kTu5, kLs0, kLs1, kLs2, kLs3, kLs4, kLs5, mM_, mM0_, sAsg_, sFor_, iRng_, iSeq_, tyDi h1, if_true, hg, cell_of hc hl, lawint_int, Bool.not_true, Bool.false_eq_true, if_false, decide_true]
theorem law_looks {S : Sto} {n place : Int} {r : Row} {j : Nat} (hc : Canon n r) (hl : r.length < 900000) (hd : DictOk S j n r) : ∃ X : Sto, M__law_looks [aD n r, .int n, .obj j, .int place] S = .ok (.bl true) (S ++ X) := by
  have hd2 : DictOk (S ++ [.lst [.int (place - 1), .int place, .int (place + 1), .int (0 - 1), .int n]]) j n r := by
    obtain ⟨kds, h1, h2⟩ := hd
    exact ⟨kds, get_app h1, h2⟩
  obtain ⟨y4, y5, y6, q⟩ := lb_loop (S := S ++ [.lst [.int (place - 1), .int place, .int (place + 1), .int (0 - 1), .int n]]) (x1 := some (.int n)) (x3 := some (.int place)) (x7 := none) (k := S.length) (zs := [place - 1, place, place + 1, 0 - 1, n]) hc hl hd2 last0 [place - 1, place, place + 1, 0 - 1, n] [] none none none rfl
  have ks : kSeqI (.obj S.length) (S ++ [.lst [.int (place - 1), .int place, .int (place + 1), .int (0 - 1), .int n]]) = .ok (itLst 5 S.length) (S ++ [.lst [.int (place - 1), .int place, .int (place + 1), .int (0 - 1), .int n]]) := kSeqL last0
  have en : (itLst 5 S.length).n = 5 := (rfl)
  have i2 : ∀ S : Sto, fIsi ["tuple"] (rwD r) S = some (.bl true, S) := fun _ => rfl
  have e1 : ∀ S : Sto, fEq (rwD r) (rwD r) S = some (.bl true, S) := fun S => by
    have := (eq_rw (S := S) r r (by omega) (by omega)).1
    rw [show decide (r = r) = true from decide_eq_true rfl] at this
    exact this
  have k5 : ∀ {a b c d e : D} {S : Sto}, kLst [a, b, c, d, e] S = .ok (.obj S.length) (S ++ [.lst [a, b, c, d, e]]) := kLs5
  unfold LB at q
  rw [show ([] : List Int).length = 0 from rfl, show [place - 1, place, place + 1, 0 - 1, n].length = 5 from rfl] at q
  refine ⟨[.lst [.int (place - 1), .int place, .int (place + 1), .int (0 - 1), .int n]], ?_⟩
  unfold M__law_looks mFn B__law_looks
  simp only [List.length_cons, List.length_nil, Nat.reduceAdd, if_true, List.map_cons, List.map_nil, List.replicate, List.cons_append, List.nil_append, Nat.reduceSub]
  rw [sSeq_, sFor_, iSeq_, mLst_]
  have ea : (mCons (m2 fSub (mV 3) (mC (.int 1))) (mCons (mV 3) (mCons (m2 fAdd (mV 3) (mC (.int 1))) (mCons (m2 fSub (mC (.int 0)) (mC (.int 1))) (mCons (mV 1) mNil))))) [some (aD n r), some (.int n), some (.obj j), some (.int place), none, none, none, none] S = .ok [.int (place - 1), .int place, .int (place + 1), .int (0 - 1), .int n] S := by
    simp only [bind_ok, bind_ex, of_some, rs_ok, rs_ex, then_nx, then_rt, then_ex, then_bk, then_ct, mV0, mVs, mC_, m2_, m1_, mB_, kB_bl, mB1_, mNil_, mCons_, f1L_, f2L_, mTup_, mLst_, mCall_, mNotT_, mAndT_, mOrT_, mIf_, mAndV_, mOrV_, mNotV_, kAndV_bl, kOrV_bl, kNotV_bl, mSl_, mPart_, kPart_, mNoPart_, sSeq_, sSet_, sRet_, sIf_, sExpr_, sNil_, sBreak_, sCont_, e_lt, e_le, e_gt, e_ge, e_eqI, e_neI, e_eqS, e_neS, e_add, e_sub, List.set_cons_zero, List.set_cons_succ, kTu1, kTu2, kTu3, kTu4, kTu5, kLs0, kLs1, kLs2, kLs3, kLs4, kLs5, mM_, mM0_, sAsg_, sFor_, iRng_, iSeq_]
  rw [ea, bind_ok, k5, bind_ok, ks, rs_ok, en, q, then_nx]
  simp only [bind_ok, bind_ex, of_some, rs_ok, rs_ex, then_nx, then_rt, then_ex, then_bk, then_ct, mV0, mVs, mC_, m2_, m1_, mB_, kB_bl, mB1_, mNil_, mCons_, f1L_, f2L_, mTup_, mLst_, mCall_, mNotT_, mAndT_, mOrT_, mIf_, mAndV_, mOrV_, mNotV_, kAndV_bl, kOrV_bl, kNotV_bl, mSl_, mPart_, kPart_, mNoPart_, sSeq_, sSet_, sRet_, sIf_, sExpr_, sNil_, sBreak_, sCont_, e_lt, e_le, e_gt, e_ge, e_eqI, e_neI, e_eqS, e_neS, e_add, e_sub, List.set_cons_zero, List.set_cons_succ, kTu1, kTu2, kTu3, kTu4, kTu5, kLs0, kLs1, kLs2, kLs3, kLs4, kLs5, mM_, mM0_, sAsg_, sFor_, iRng_, iSeq_, runs_of hc, i2, if_true, e_a1, e1, length_of hc, lawint_int, decide_true]
  rfl
end K07

namespace K07
open PySem PySem.Spec L2 Mi
/-! ### all cells -/
def expand (n : Int) : Row → List Int
  | [] => []
  | p :: r => List.replicate (endE n r - p.1).toNat p.2 ++ expand n r
theorem expand_val {n : Int} : ∀ {r : Row} {p : Int × Int}, chain n p r → p.1 ≤ n → expand n (p :: r) = (List.range (n - p.1).toNat).map fun i => val p.2 r (p.1 + (i : Nat))
  | [], p, _, _ => by
    show List.replicate (n - p.1).toNat p.2 ++ [] = _
    rw [List.append_nil]
    show _ = (List.range (n - p.1).toNat).map fun _ => p.2
    rw [List.map_const', List.length_range]
  | q :: r, p, h, hp => by
    obtain ⟨h1, h2, h3, h4⟩ := h
    have ih := expand_val h4 (Int.le_of_lt h1)
    show List.replicate (q.1 - p.1).toNat p.2 ++ expand n (q :: r) = _
    rw [ih, show (n - p.1).toNat = (q.1 - p.1).toNat + (n - q.1).toNat by omega, List.range_add, List.map_append, List.map_map]
    congr 1
    · have : (List.range (q.1 - p.1).toNat).map (fun i => val p.2 (q :: r) (p.1 + (i : Nat))) = (List.range (q.1 - p.1).toNat).map fun _ => p.2 := List.map_congr_left fun i hi => by
        rw [List.mem_range] at hi
        rw [val, if_neg (by omega)]
      rw [this, List.map_const', List.length_range]
    · refine List.map_congr_left fun i hi => ?_
      show _ = val p.2 (q :: r) (p.1 + (((q.1 - p.1).toNat + i : Nat) : Int))
      rw [val, if_pos (by omega), show p.1 + (((q.1 - p.1).toNat + i : Nat) : Int) = q.1 + (i : Int) by omega]
theorem expand_canon {n : Int} {r : Row} (h : Canon n r) : expand n r = (List.range n.toNat).map fun (i : Nat) => val 0 r (i : Int) := by
  cases r with
  | nil => have : n = 0 := h; subst this; rfl
  | cons p r =>
    obtain ⟨h1, h2, h3⟩ := h
    rw [expand_val h3 (by omega), h2, Int.sub_zero]
    refine List.map_congr_left fun i hi => ?_
    show val p.2 r (0 + (i : Int)) = val 0 (p :: r) (i : Int)
    rw [val, if_pos (by omega), Int.zero_add]
def CB : MS := (sSeq (sSet 4 (mIf (mB (m2 fLt (m2 fAdd (mV 2) (mC (.int 1))) (mB1 (f1L fLen) (mCons (m2 fIx (mV 0) (mC (.int 1))) mNil)))) (m2 fIx (m2 fIx (m2 fIx (mV 0) (mC (.int 1))) (m2 fAdd (mV 2) (mC (.int 1)))) (mC (.int 0))) (m2 fIx (mV 0) (mC (.int 0)))))
  (sExpr (mM "list" fExtend (mV 1) (mCons (m2 fMulA (mLst (mCons (m2 fIx (mV 3) (mC (.int 1))) mNil)) (m2 fSub (mV 4) (m2 fIx (mV 3) (mC (.int 0))))) mNil))))
theorem len_rw {S : Sto} {r : Row} : fLen (rwD r) S = some (.int (r.length : Int), S) := by
  show some (D.int ((r.map prD).length : Int), S) = _
  rw [List.length_map]
theorem e_mulL {S : Sto} {j : Nat} {d : D} {k : Int} (h : S[j]? = some (.lst [d])) (hk : 0 ≤ k ∧ k ≤ 1000000) : fMulA (.obj j) (.int k) S = some (.obj S.length, S ++ [.lst (List.replicate k.toNat d)]) := by
  show fMul (.obj j) (.int k) S = _
  unfold fMul
  simp only [h]
  rw [if_pos ⟨by omega, by omega, by rw [sizeLine_eq]; simp; omega⟩]
  have : (List.replicate k.toNat [d]).flatten = List.replicate k.toNat d := by
    induction k.toNat with
    | zero => rfl
    | succ n ih => rw [List.replicate_succ, List.flatten_cons, ih, List.replicate_succ]; rfl
  rw [this]
theorem cb_step {S T : Sto} {n : Int} {r : Row} {i : Nat} {p : Int × Int} {x4 : Option D} {acc : List Int} {e : Int} (hp : r[i]? = some p) (he : e = endE n (r.drop (i + 1))) (h1 : 0 ≤ e - p.1 ∧ e - p.1 ≤ 100000) (hacc : acc.length ≤ 100000) :
    ∃ (y4 : Option D) (T' : Sto), CB [some (aD n r), some (.obj S.length), some (.int (i : Int)), some (prD p), x4] (S ++ .lst (acc.map D.int) :: T) = .nx [some (aD n r), some (.obj S.length), some (.int (i : Int)), some (prD p), y4] (S ++ .lst ((acc ++ List.replicate (e - p.1).toNat p.2).map D.int) :: T') := by
  generalize hX : S ++ MO.lst (acc.map D.int) :: T = X
  have hXS : X[S.length]? = some (.lst (acc.map D.int)) := by rw [← hX]; exact ga0
  have hend : (sSet 4 (mIf (mB (m2 fLt (m2 fAdd (mV 2) (mC (.int 1))) (mB1 (f1L fLen) (mCons (m2 fIx (mV 0) (mC (.int 1))) mNil)))) (m2 fIx (m2 fIx (m2 fIx (mV 0) (mC (.int 1))) (m2 fAdd (mV 2) (mC (.int 1)))) (mC (.int 0))) (m2 fIx (mV 0) (mC (.int 0))))) [some (aD n r), some (.obj S.length), some (.int (i : Int)), some (prD p), x4] X = .nx [some (aD n r), some (.obj S.length), some (.int (i : Int)), some (prD p), some (.int e)] X := by
    have hi : i < r.length := (List.getElem?_eq_some_iff.mp hp).1
    by_cases hb : i + 1 < r.length
    · have d4 : decide ((i : Int) + 1 < (r.length : Int)) = true := decide_eq_true (by omega)
      obtain ⟨p2, hp2⟩ : ∃ p2, r[i + 1]? = some p2 := ⟨_, List.getElem?_eq_getElem hb⟩
      have hd : r.drop (i + 1) = p2 :: r.drop (i + 1 + 1) := by rw [List.drop_eq_getElem_cons hb, (List.getElem?_eq_some_iff.mp hp2).2]
      have hix : ∀ S : Sto, fIx (rwD r) (.int ((i : Int) + 1)) S = some (prD p2, S) := fun S => by rw [show (i : Int) + 1 = ((i + 1 : Nat) : Int) by omega]; exact rw_ix hp2
      rw [he, hd]
      simp only [bind_ok, bind_ex, of_some, rs_ok, rs_ex, then_nx, then_rt, then_ex, then_bk, then_ct, mV0, mVs, mC_, m2_, m1_, mB_, kB_bl, mB1_, mNil_, mCons_, f1L_, f2L_, mTup_, mLst_, mCall_, mNotT_, mAndT_, mOrT_, mIf_, mAndV_, mOrV_, mNotV_, kAndV_bl, kOrV_bl, kNotV_bl, mSl_, mPart_, kPart_, mNoPart_, sSeq_, sSet_, sRet_, sIf_, sExpr_, sNil_, sBreak_, sCont_, e_lt, e_le, e_gt, e_ge, e_eqI, e_neI, e_eqS, e_neS, e_add, e_sub, List.set_cons_zero, List.set_cons_succ, kTu1, kTu2, kTu3, kTu4, kTu5, kLs0, kLs1, kLs2, kLs3, kLs4, kLs5, mM_, mM0_, sAsg_, sFor_, iRng_, iSeq_, e_a1, len_rw, d4, if_true, hix, e_p0]
      rfl
    · have d4 : decide ((i : Int) + 1 < (r.length : Int)) = false := decide_eq_false (by omega)
      rw [he, List.drop_of_length_le (by omega)]
      simp only [bind_ok, bind_ex, of_some, rs_ok, rs_ex, then_nx, then_rt, then_ex, then_bk, then_ct, mV0, mVs, mC_, m2_, m1_, mB_, kB_bl, mB1_, mNil_, mCons_, f1L_, f2L_, mTup_, mLst_, mCall_, mNotT_, mAndT_, mOrT_, mIf_, mAndV_, mOrV_, mNotV_, kAndV_bl, kOrV_bl, kNotV_bl, mSl_, mPart_, kPart_, mNoPart_, sSeq_, sSet_, sRet_, sIf_, sExpr_, sNil_, sBreak_, sCont_, e_lt, e_le, e_gt, e_ge, e_eqI, e_neI, e_eqS, e_neS, e_add, e_sub, List.set_cons_zero, List.set_cons_succ, kTu1, kTu2, kTu3, kTu4, kTu5, kLs0, kLs1, kLs2, kLs3, kLs4, kLs5, mM_, mM0_, sAsg_, sFor_, iRng_, iSeq_, e_a1, e_a0, len_rw, d4, Bool.false_eq_true, if_false]
      rfl
  have hm := e_mulL (S := X ++ [.lst [.int p.2]]) (j := X.length) (d := .int p.2) (k := e - p.1) last0 (by omega)
  generalize hY : X ++ [MO.lst [.int p.2]] ++ [MO.lst (List.replicate (e - p.1).toNat (D.int p.2))] = Y at hm
  have hYS : Y[S.length]? = some (.lst (acc.map D.int)) := by rw [← hY]; exact get_app (get_app hXS)
  have hYk : Y[(X ++ [MO.lst [.int p.2]]).length]? = some (.lst (List.replicate (e - p.1).toNat (D.int p.2))) := by rw [← hY]; exact last0
  have hext : fExtend (.obj S.length) [.obj (X ++ [MO.lst [.int p.2]]).length] Y = some (.non, Y.set S.length (.lst (acc.map D.int ++ List.replicate (e - p.1).toNat (D.int p.2)))) := by
    unfold fExtend
    simp only [hYS, hYk]
    rw [if_pos (by rw [sizeLine_eq, List.length_map, List.length_replicate]; omega)]
  refine ⟨some (.int e), T ++ [.lst [.int p.2]] ++ [.lst (List.replicate (e - p.1).toNat (D.int p.2))], ?_⟩
  have hset : Y.set S.length (.lst (acc.map D.int ++ List.replicate (e - p.1).toNat (D.int p.2))) = S ++ .lst ((acc ++ List.replicate (e - p.1).toNat p.2).map D.int) :: (T ++ [.lst [.int p.2]] ++ [.lst (List.replicate (e - p.1).toNat (D.int p.2))]) := by
    rw [← hY, ← hX, List.append_assoc, List.append_assoc, List.map_append, List.map_replicate]
    simp
  unfold CB
  rw [sSeq_, hend, then_nx]
  simp only [bind_ok, bind_ex, of_some, rs_ok, rs_ex, then_nx, then_rt, then_ex, then_bk, then_ct, mV0, mVs, mC_, m2_, m1_, mB_, kB_bl, mB1_, mNil_, mCons_, f1L_, f2L_, mTup_, mLst_, mCall_, mNotT_, mAndT_, mOrT_, mIf_, mAndV_, mOrV_, mNotV_, kAndV_bl, kOrV_bl, kNotV_bl, mSl_, mPart_, kPart_, mNoPart_, sSeq_, sSet_, sRet_, sIf_, sExpr_, sNil_, sBreak_, sCont_, e_lt, e_le, e_gt, e_ge, e_eqI, e_neI, e_eqS, e_neS, e_add, e_sub, List.set_cons_zero, List.set_cons_succ, kTu1, kTu2, kTu3, kTu4, kTu5, kLs0, kLs1, kLs2, kLs3, kLs4, kLs5, mM_, mM0_, sAsg_, sFor_, iRng_, iSeq_, tyL hXS, if_true, e_p1, e_p0, hm, hext, hset]
theorem cb_loop {S : Sto} {n : Int} {r : Row} (hn : n ≤ 100000) (hr : ∀ (i : Nat) (p : Int × Int), r[i]? = some p → 0 ≤ p.1 ∧ p.1 ≤ endE n (r.drop (i + 1)) ∧ endE n (r.drop (i + 1)) ≤ n) : ∀ (k i : Nat) (acc : List Int) (T : Sto) (x2 x3 x4 : Option D), r.length = i + k → (acc.length : Int) + (expand n (r.drop i)).length ≤ 100000 → ∃ (y2 y3 y4 : Option D) (T' : Sto),
    forI (itEnumT (r.map prD)) (gT 2 (gsCons (gN 2) (gsCons (gN 3) gsNil))) CB k i [some (aD n r), some (.obj S.length), x2, x3, x4] (S ++ .lst (acc.map D.int) :: T) = .nx [some (aD n r), some (.obj S.length), y2, y3, y4] (S ++ .lst ((acc ++ expand n (r.drop i)).map D.int) :: T')
  | 0, i, acc, T, x2, x3, x4, hk, ha => by
    refine ⟨x2, x3, x4, T, ?_⟩
    have : i = (r.map prD).length := by rw [List.length_map]; omega
    rw [this, ft_end, List.drop_of_length_le (by rw [List.length_map]; omega)]
    rw [show expand n [] = [] from rfl, List.append_nil]
  | k + 1, i, acc, T, x2, x3, x4, hk, ha => by
    obtain ⟨p, hp⟩ : ∃ p, r[i]? = some p := ⟨_, List.getElem?_eq_getElem (by omega)⟩
    have hd : (r.map prD)[i]? = some (prD p) := by rw [List.getElem?_map, hp]; rfl
    have hdrop : r.drop i = p :: r.drop (i + 1) := by rw [List.drop_eq_getElem_cons (by omega), (List.getElem?_eq_some_iff.mp hp).2]
    obtain ⟨r1, r2, r3⟩ := hr i p hp
    rw [hdrop] at ha ⊢
    have ex : expand n (p :: r.drop (i + 1)) = List.replicate (endE n (r.drop (i + 1)) - p.1).toNat p.2 ++ expand n (r.drop (i + 1)) := rfl
    rw [ex, List.length_append, List.length_replicate] at ha
    obtain ⟨z4, T1, st⟩ := cb_step (S := S) (T := T) (n := n) (x4 := x4) (acc := acc) hp rfl (by omega) (by omega)
    obtain ⟨y2, y3, y4, T', q⟩ := cb_loop (S := S) hn hr k (i + 1) (acc ++ List.replicate (endE n (r.drop (i + 1)) - p.1).toNat p.2) T1 (some (.int (i : Int))) (some (prD p)) z4 (by omega) (by rw [List.length_append, List.length_replicate]; omega)
    refine ⟨y2, y3, y4, T', ?_⟩
    rw [ft_nx hd rfl st, q, ex, List.append_assoc]
theorem chain_ends {n : Int} : ∀ {r : Row} {q : Int × Int}, chain n q r → q.1 < n → ∀ (i : Nat) (p : Int × Int), r[i]? = some p → q.1 ≤ p.1 ∧ p.1 ≤ endE n (r.drop (i + 1)) ∧ endE n (r.drop (i + 1)) ≤ n
  | [], q, _, _, i, p, h => by simp at h
  | x :: r, q, h, hq, 0, p, hp => by
    have : x = p := by simpa using hp
    subst this
    obtain ⟨h1, h2, h3, h4⟩ := h
    refine ⟨by omega, ?_⟩
    show x.1 ≤ endE n r ∧ endE n r ≤ n
    cases r with
    | nil => exact ⟨by show x.1 ≤ n; omega, Int.le_refl _⟩
    | cons y r => exact ⟨by have := h4.2.1; show x.1 ≤ y.1; omega, by have := h4.1; show y.1 ≤ n; omega⟩
  | x :: r, q, h, hq, i + 1, p, hp => by
    obtain ⟨h1, h2, h3, h4⟩ := h
    have := chain_ends h4 h1 i p (by simpa using hp)
    exact ⟨by omega, this.2⟩
theorem canon_ends {n : Int} {r : Row} (h : Canon n r) (i : Nat) (p : Int × Int) (hp : r[i]? = some p) : 0 ≤ p.1 ∧ p.1 ≤ endE n (r.drop (i + 1)) ∧ endE n (r.drop (i + 1)) ≤ n := by
  cases r with
  | nil => simp at hp
  | cons x r =>
    obtain ⟨c1, c2, c3⟩ := h
    have ch : chain n (-1, x.2 + 1) (x :: r) := ⟨by rw [c2]; exact c1, by show (-1 : Int) < x.1; omega, by show x.2 + 1 ≠ x.2; omega, c3⟩
    have e := chain_ends ch (by show (-1 : Int) < n; omega) i p hp
    have h2 : 0 ≤ p.1 := by
      cases i with
      | zero =>
        have : x = p := by simpa using hp
        subst this; omega
      | succ i =>
        have := chain_gt c3 p (List.mem_of_getElem? (show r[i]? = some p by simpa using hp))
        omega
    exact ⟨h2, e.2⟩
theorem cells_of {S : Sto} {n : Int} {r : Row} (hc : Canon n r) (hn : n ≤ 10000) : ∃ X : Sto, M_cells_of [aD n r] S = .ok (.tup (((List.range n.toNat).map fun (i : Nat) => val 0 r (i : Int)).map D.int)) (S ++ X) := by
  have hex := expand_canon hc
  have hlen : (expand n r).length = n.toNat := by rw [hex, List.length_map, List.length_range]
  obtain ⟨y2, y3, y4, T', q⟩ := cb_loop (S := S) (n := n) (r := r) (by omega) (canon_ends hc) r.length 0 [] [] none none none (by omega) (by simp only [List.drop_zero, List.length_nil]; omega)
  rw [List.drop_zero, List.nil_append, hex] at q
  have htu : fTuple (.obj S.length) (S ++ .lst (((List.range n.toNat).map fun (i : Nat) => val 0 r (i : Int)).map D.int) :: T') = some (.tup (((List.range n.toNat).map fun (i : Nat) => val 0 r (i : Int)).map D.int), S ++ .lst (((List.range n.toNat).map fun (i : Nat) => val 0 r (i : Int)).map D.int) :: T') := by
    show (lstAt _ _).map _ = _
    rw [lst_at ga0]; rfl
  have d1 : decide ((10000 : Int) < n) = false := decide_eq_false (by omega)
  have ken : ∀ S : Sto, kEnumA [rwD r] S = .ok (itEnumT (r.map prD)) S := fun _ => rfl
  have iE : ∀ (a : MA) (env : Mi.Env) (S : Sto), iEnumA a env S = (a env S).bind kEnumA := fun _ _ _ => rfl
  have en : (itEnumT (r.map prD)).n = r.length := by show (r.map prD).length = _; rw [List.length_map]
  refine ⟨.lst (((List.range n.toNat).map fun (i : Nat) => val 0 r (i : Int)).map D.int) :: T', ?_⟩
  rw [show (([] : List Int).map D.int) = [] from rfl] at q
  unfold CB at q
  unfold M_cells_of mFn B_cells_of d_MOST_CELLS
  simp only [List.length_cons, List.length_nil, Nat.reduceAdd, if_true, List.map_cons, List.map_nil, List.replicate, List.cons_append, List.nil_append, Nat.reduceSub]
  simp only [bind_ok, bind_ex, of_some, rs_ok, rs_ex, then_nx, then_rt, then_ex, then_bk, then_ct, mV0, mVs, mC_, m2_, m1_, mB_, kB_bl, mB1_, mNil_, mCons_, f1L_, f2L_, mTup_, mLst_, mCall_, mNotT_, mAndT_, mOrT_, mIf_, mAndV_, mOrV_, mNotV_, kAndV_bl, kOrV_bl, kNotV_bl, mSl_, mPart_, kPart_, mNoPart_, sSeq_, sSet_, sRet_, sIf_, sExpr_, sNil_, sBreak_, sCont_, e_lt, e_le, e_gt, e_ge, e_eqI, e_neI, e_eqS, e_neS, e_add, e_sub, List.set_cons_zero, List.set_cons_succ, kTu1, kTu2, kTu3, kTu4, kTu5, kLs0, kLs1, kLs2, kLs3, kLs4, kLs5, mM_, mM0_, sAsg_, sFor_, iRng_, iSeq_, check_arr hc, e_a0, e_a1, d1, Bool.false_eq_true, if_false, iE, ken, en] at q ⊢
  rw [q]
  simp only [bind_ok, bind_ex, of_some, rs_ok, rs_ex, then_nx, then_rt, then_ex, then_bk, then_ct, mV0, mVs, mC_, m2_, m1_, mB_, kB_bl, mB1_, mNil_, mCons_, f1L_, f2L_, mTup_, mLst_, mCall_, mNotT_, mAndT_, mOrT_, mIf_, mAndV_, mOrV_, mNotV_, kAndV_bl, kOrV_bl, kNotV_bl, mSl_, mPart_, kPart_, mNoPart_, sSeq_, sSet_, sRet_, sIf_, sExpr_, sNil_, sBreak_, sCont_, e_lt, e_le, e_gt, e_ge, e_eqI, e_neI, e_eqS, e_neS, e_add, e_sub, List.set_cons_zero, List.set_cons_succ, kTu1, kTu2, kTu3, kTu4, kTu5, kLs0, kLs1, kLs2, kLs3, kLs4, kLs5, mM_, mM0_, sAsg_, sFor_, iRng_, iSeq_, htu]
  rfl
end K07

namespace K07
open PySem PySem.Spec L2 Mi
/-! ### values drawn -/
theorem e_powB {S : Sto} (k : Nat) (h : k ≤ 1000) : fPow (.int 10) (.int (k : Int)) S = some (.int ((10 : Int) ^ k), S) := by
  unfold fPow
  dsimp only
  rw [if_pos ⟨by omega, by omega, by decide⟩, Int.toNat_natCast]
theorem value {S : Sto} {p : Nat} (h : PoolOk S p) : ∃ (v : Int) (S' : Sto), M__law_value [.obj p] S = .ok (.int v) S' ∧ Stp p S S' := by
  obtain ⟨w, S1, a1, a2, a3, _⟩ := pick h (m := 6) (by omega)
  have a1' : M__law_pick [.obj p, .int 6] S = .ok (nD w) S1 := a1
  by_cases hw : w = 5
  · obtain ⟨w2, S2, b1, b2, b3, _⟩ := pick a3.pool (m := 7) (by omega)
    have b1' : M__law_pick [.obj p, .int 7] S1 = .ok (nD w2) S2 := b1
    obtain ⟨w3, S3, c1, c2, c3, _⟩ := pick b3.pool (m := 2) (by omega)
    have c1' : M__law_pick [.obj p, .int 2] S2 = .ok (nD w3) S3 := c1
    have d1 : decide ((w : Int) = 5) = true := decide_eq_true (by omega)
    have pw : fPow (.int 10) (.int 30) S1 = some (.int ((10 : Int) ^ 30), S1) := e_powB 30 (by omega)
    by_cases h3 : w3 = 1
    · have d2 : decide ((w3 : Int) = 1) = true := decide_eq_true (by omega)
      refine ⟨0 - ((10 : Int) ^ 30 + (w2 : Int)), S3, ?_, a3.trans (b3.trans c3)⟩
      unfold M__law_value mFn B__law_value
      simp only [List.length_cons, List.length_nil, Nat.reduceAdd, if_true, List.map_cons, List.map_nil, List.replicate, List.cons_append, List.nil_append, Nat.reduceSub]
      simp only [bind_ok, bind_ex, of_some, rs_ok, rs_ex, then_nx, then_rt, then_ex, then_bk, then_ct, mV0, mVs, mC_, m2_, m1_, mB_, kB_bl, mB1_, mNil_, mCons_, f1L_, f2L_, mTup_, mLst_, mCall_, mNotT_, mAndT_, mOrT_, mIf_, mAndV_, mOrV_, mNotV_, kAndV_bl, kOrV_bl, kNotV_bl, mSl_, mPart_, kPart_, mNoPart_, sSeq_, sSet_, sRet_, sIf_, sExpr_, sNil_, sBreak_, sCont_, e_lt, e_le, e_gt, e_ge, e_eqI, e_neI, e_eqS, e_neS, e_add, e_sub, List.set_cons_zero, List.set_cons_succ, kTu1, kTu2, kTu3, kTu4, kTu5, kLs0, kLs1, kLs2, kLs3, kLs4, kLs5, mM_, mM0_, sAsg_, sFor_, iRng_, iSeq_, a1', d1, if_true, pw, b1', c1', d2]
      rfl
    · have d2 : decide ((w3 : Int) = 1) = false := decide_eq_false (by omega)
      refine ⟨(10 : Int) ^ 30 + (w2 : Int), S3, ?_, a3.trans (b3.trans c3)⟩
      unfold M__law_value mFn B__law_value
      simp only [List.length_cons, List.length_nil, Nat.reduceAdd, if_true, List.map_cons, List.map_nil, List.replicate, List.cons_append, List.nil_append, Nat.reduceSub]
      simp only [bind_ok, bind_ex, of_some, rs_ok, rs_ex, then_nx, then_rt, then_ex, then_bk, then_ct, mV0, mVs, mC_, m2_, m1_, mB_, kB_bl, mB1_, mNil_, mCons_, f1L_, f2L_, mTup_, mLst_, mCall_, mNotT_, mAndT_, mOrT_, mIf_, mAndV_, mOrV_, mNotV_, kAndV_bl, kOrV_bl, kNotV_bl, mSl_, mPart_, kPart_, mNoPart_, sSeq_, sSet_, sRet_, sIf_, sExpr_, sNil_, sBreak_, sCont_, e_lt, e_le, e_gt, e_ge, e_eqI, e_neI, e_eqS, e_neS, e_add, e_sub, List.set_cons_zero, List.set_cons_succ, kTu1, kTu2, kTu3, kTu4, kTu5, kLs0, kLs1, kLs2, kLs3, kLs4, kLs5, mM_, mM0_, sAsg_, sFor_, iRng_, iSeq_, a1', d1, if_true, pw, b1', c1', d2, Bool.false_eq_true, if_false]
      rfl
  · have d1 : decide ((w : Int) = 5) = false := decide_eq_false (by omega)
    refine ⟨(w : Int) - 2, S1, ?_, a3⟩
    unfold M__law_value mFn B__law_value
    simp only [List.length_cons, List.length_nil, Nat.reduceAdd, if_true, List.map_cons, List.map_nil, List.replicate, List.cons_append, List.nil_append, Nat.reduceSub]
    simp only [bind_ok, bind_ex, of_some, rs_ok, rs_ex, then_nx, then_rt, then_ex, then_bk, then_ct, mV0, mVs, mC_, m2_, m1_, mB_, kB_bl, mB1_, mNil_, mCons_, f1L_, f2L_, mTup_, mLst_, mCall_, mNotT_, mAndT_, mOrT_, mIf_, mAndV_, mOrV_, mNotV_, kAndV_bl, kOrV_bl, kNotV_bl, mSl_, mPart_, kPart_, mNoPart_, sSeq_, sSet_, sRet_, sIf_, sExpr_, sNil_, sBreak_, sCont_, e_lt, e_le, e_gt, e_ge, e_eqI, e_neI, e_eqS, e_neS, e_add, e_sub, List.set_cons_zero, List.set_cons_succ, kTu1, kTu2, kTu3, kTu4, kTu5, kLs0, kLs1, kLs2, kLs3, kLs4, kLs5, mM_, mM0_, sAsg_, sFor_, iRng_, iSeq_, a1', d1, Bool.false_eq_true, if_false]
    rfl
/-- a comprehension whose turns draw whole numbers -/
theorem draw_loop {p j v : Nat} {S0 : Sto} {env : Mi.Env} {it : MIt} {e : ME} {N : Nat} (hp : p < j) (h0 : S0.length ≤ j) (hi : ∀ (i : Nat) (S : Sto) (acc : List D), Stp p S0 S → S[j]? = some (.lst acc) → i < N → ∃ d, it.f i S = some (some d)) (hs : ∀ (S : Sto) (acc : List D), Stp p S0 S → S[j]? = some (.lst acc) → it.f N S = some none)
    (he : ∀ (d : D) (S : Sto), PoolOk S p → ∃ (x : Int) (S' : Sto), e (env.set v (some d)) S = .ok (.int x) S' ∧ Stp p S S') : ∀ (k i : Nat) (ys : List Int) (S : Sto), N = i + k → N ≤ 1000 → S[j]? = some (.lst (ys.map D.int)) → ys.length = i → Stp p S0 S →
    ∃ (ys' : List Int) (S' : Sto), lcI it (gN v) tAll e j k i env S = .ok (.obj j) S' ∧ S'[j]? = some (.lst (ys'.map D.int)) ∧ ys'.length = N ∧ Stp p S0 S'
  | 0, i, ys, S, hn, hm, hj, hl, hS => by
    have : i = N := by omega
    subst this
    exact ⟨ys, S, lcI_end (hs S _ hS hj), hj, hl, hS⟩
  | k + 1, i, ys, S, hn, hm, hj, hl, hS => by
    obtain ⟨d, hd⟩ := hi i S _ hS hj (by omega)
    obtain ⟨x, S1, e1, e2⟩ := he d S hS.pool
    have hj1 : S1[j]? = some (.lst (ys.map D.int)) := e2.get hj (by omega)
    have hj2 : (S1.set j (.lst (ys.map D.int ++ [.int x])))[j]? = some (.lst ((ys ++ [x]).map D.int)) := by
      rw [List.getElem?_set_self (get_lt hj1), List.map_append]; rfl
    obtain ⟨ys', S', q1, q2, q3, q4⟩ := draw_loop hp h0 hi hs he k (i + 1) (ys ++ [x]) (S1.set j (.lst (ys.map D.int ++ [.int x]))) (by omega) hm hj2 (by rw [List.length_append, List.length_singleton, hl]) ((hS.trans e2).put h0 hp)
    refine ⟨ys', S', ?_, q2, q3, q4⟩
    rw [lcI_nx hd e1 hj1 (by rw [List.length_map, sizeLine_eq]; omega), q1]
/-- over a range -/
theorem draw_range {p v n : Nat} {S : Sto} {env : Mi.Env} {vs : List Nat} {e : ME} (h : PoolOk S p) (hn : n ≤ 1000) (he : ∀ (d : D) (S : Sto), PoolOk S p → ∃ (x : Int) (S' : Sto), e ((wipeE env vs).set v (some d)) S = .ok (.int x) S' ∧ Stp p S S') :
    ∃ (ys : List Int) (S' : Sto), kLc (gN v) tAll e vs env (itRng 0 n) S = .ok (.obj S.length) S' ∧ S'[S.length]? = some (.lst (ys.map D.int)) ∧ ys.length = n ∧ Stp p S S' := by
  have en : (itRng 0 n).n = n := (rfl)
  obtain ⟨ys, S', q1, q2, q3, q4⟩ := draw_loop (p := p) (j := S.length) (v := v) (S0 := S) (env := wipeE env vs) (it := itRng 0 n) (e := e) (N := n) h.lt (Nat.le_refl _) (fun i S acc _ _ hi => ⟨_, fr_at hi⟩) (fun _ _ _ _ => fr_out) he n 0 [] (S ++ [.lst []]) (by omega) hn last0 rfl (Stp.app h)
  refine ⟨ys, S', ?_, q2, q3, q4⟩
  unfold kLc
  rw [en]
  exact q1
/-- over a list of the store -/
theorem draw_list {p v c : Nat} {S : Sto} {env : Mi.Env} {vs : List Nat} {e : ME} {ds : List D} (h : PoolOk S p) (hc : S[c]? = some (.lst ds)) (hpc : c ≠ p) (hn : ds.length ≤ 1000) (he : ∀ (d : D) (S : Sto), PoolOk S p → ∃ (x : Int) (S' : Sto), e ((wipeE env vs).set v (some d)) S = .ok (.int x) S' ∧ Stp p S S') :
    ∃ (ys : List Int) (S' : Sto), kLc (gN v) tAll e vs env (itLst ds.length c) S = .ok (.obj S.length) S' ∧ S'[S.length]? = some (.lst (ys.map D.int)) ∧ ys.length = ds.length ∧ Stp p S S' := by
  have en : (itLst ds.length c).n = ds.length := (rfl)
  obtain ⟨ys, S', q1, q2, q3, q4⟩ := draw_loop (p := p) (j := S.length) (v := v) (S0 := S) (env := wipeE env vs) (it := itLst ds.length c) (e := e) (N := ds.length) h.lt (Nat.le_refl _)
    (fun i S' acc st _ hi => ⟨ds[i], fl_at (st.get hc hpc) (List.getElem?_eq_getElem hi)⟩) (fun S' acc st _ => by
      show (lstAt S' c).map _ = some none
      rw [lst_at (st.get hc hpc)]; simp) he ds.length 0 [] (S ++ [.lst []]) (by omega) hn last0 rfl (Stp.app h)
  refine ⟨ys, S', ?_, q2, q3, q4⟩
  unfold kLc
  rw [en]
  exact q1
/-! ### a put in the cells -/
def putC (ns : List Int) (z v : Int) : List Int := if 0 ≤ z ∧ z < (ns.length : Int) then ns.set z.toNat v else ns
theorem putC_len (ns : List Int) (z v : Int) : (putC ns z v).length = ns.length := by
  unfold putC; split <;> simp
theorem putC_get (ns : List Int) (z v : Int) (i : Nat) (c : Int) (h : (putC ns z v)[i]? = some c) : c = if (i : Int) = z then v else ns.getD i 0 := by
  unfold putC at h
  split at h
  · rename_i hz
    by_cases e : (i : Int) = z
    · rw [if_pos e]
      have : z.toNat = i := by omega
      rw [this] at h
      have hi : i < ns.length := by omega
      rw [List.getElem?_set_self hi] at h
      exact (Option.some.inj h).symm
    · rw [if_neg e]
      rw [List.getElem?_set_ne (by omega)] at h
      rw [List.getD_eq_getElem?_getD, h]; rfl
  · rename_i hz
    have hi : i < ns.length := (List.getElem?_eq_some_iff.mp h).1
    rw [if_neg (by omega), List.getD_eq_getElem?_getD, h]; rfl
theorem put_cells {ns : List Int} {z v : Int} {r' : Row} (h : PutOk (ns.length : Int) z v (cellsR ns) r') : r' = cellsR (putC ns z v) := by
  obtain ⟨h1, h2⟩ := cellsR_ok (putC ns z v)
  obtain ⟨h3, h4⟩ := cellsR_ok ns
  rw [putC_len] at h1
  refine canon_uniq h.canon h1 fun x hx0 hx1 => ?_
  obtain ⟨i, rfl⟩ : ∃ i : Nat, x = (i : Int) := ⟨x.toNat, by omega⟩
  have hi : i < ns.length := by omega
  obtain ⟨c, hc⟩ : ∃ c, (putC ns z v)[i]? = some c := ⟨_, List.getElem?_eq_getElem (by rw [putC_len]; exact hi)⟩
  obtain ⟨d, hd⟩ : ∃ d, ns[i]? = some d := ⟨_, List.getElem?_eq_getElem hi⟩
  rw [h.val _ hx0 hx1, h2 i c hc, putC_get ns z v i c hc]
  by_cases e : (i : Int) = z
  · rw [if_pos e, if_pos e]
  · rw [if_neg e, if_neg e, h4 i d hd, List.getD_eq_getElem?_getD, hd]; rfl
theorem cellv_cells (ns : List Int) (z : Int) : cellv (ns.length : Int) (cellsR ns) z = if z < 0 ∨ (ns.length : Int) ≤ z then 0 else ns.getD z.toNat 0 := by
  unfold cellv
  by_cases h : z < 0 ∨ (ns.length : Int) ≤ z
  · rw [if_pos h, if_pos h]
  · rw [if_neg h, if_neg h]
    obtain ⟨i, rfl⟩ : ∃ i : Nat, z = (i : Int) := ⟨z.toNat, by omega⟩
    have hi : i < ns.length := by omega
    obtain ⟨d, hd⟩ : ∃ d, ns[i]? = some d := ⟨_, List.getElem?_eq_getElem hi⟩
    rw [(cellsR_ok ns).2 i d hd, Int.toNat_natCast, List.getD_eq_getElem?_getD, hd]; rfl
theorem cells_list (ns : List Int) : ((List.range ((ns.length : Int)).toNat).map fun (i : Nat) => val 0 (cellsR ns) (i : Int)) = ns := by
  refine List.ext_getElem? fun i => ?_
  rw [Int.toNat_natCast, List.getElem?_map]
  by_cases hi : i < ns.length
  · rw [List.getElem?_range hi]
    obtain ⟨d, hd⟩ : ∃ d, ns[i]? = some d := ⟨_, List.getElem?_eq_getElem hi⟩
    rw [hd]
    exact congrArg some ((cellsR_ok ns).2 i d hd)
  · rw [List.getElem?_eq_none (by rw [List.length_range]; omega), List.getElem?_eq_none (by omega)]; rfl
/-! ### the dict of the cells -/
def enK : Nat → List Int → List (Key × D)
  | _, [] => []
  | k, c :: cs => (.inl (k : Int), .int c) :: enK (k + 1) cs
theorem enK_val : ∀ (k : Nat) (ns : List Int) (z : Int), valD (enK k ns) (.inl z) = if (k : Int) ≤ z then ns[(z - k).toNat]?.map D.int else none
  | k, [], z => by
    show none = _
    split <;> simp
  | k, c :: ns, z => by
    show valD ((.inl (k : Int), .int c) :: enK (k + 1) ns) (.inl z) = _
    by_cases e : (k : Int) = z
    · subst e
      rw [valD_pos rfl, if_pos (Int.le_refl _), Int.sub_self]; rfl
    · rw [valD_neg (fun h => e (by injection h)), enK_val (k + 1) ns z]
      by_cases h : (k : Int) ≤ z
      · rw [if_pos h, if_pos (by omega)]
        have : (z - (k : Int)).toNat = (z - ((k + 1 : Nat) : Int)).toNat + 1 := by omega
        rw [this, List.getElem?_cons_succ]
      · rw [if_neg h, if_neg (by omega)]
theorem enK_snoc : ∀ (k : Nat) (ns : List Int) (c : Int), enK k (ns ++ [c]) = enK k ns ++ [(.inl ((k + ns.length : Nat) : Int), .int c)]
  | k, [], c => rfl
  | k, x :: ns, c => by
    show (.inl (k : Int), .int x) :: enK (k + 1) (ns ++ [c]) = (.inl (k : Int), .int x) :: (enK (k + 1) ns ++ _)
    rw [enK_snoc (k + 1) ns c, show k + 1 + ns.length = k + (x :: ns).length by rw [List.length_cons]; omega]
theorem enK_keys : ∀ (k : Nat) (ns : List Int), ∀ q ∈ enK k ns, ∃ i : Nat, q.1 = .inl (i : Int) ∧ i < k + ns.length
  | k, [], q, h => by cases h
  | k, c :: ns, q, h => by
    rcases List.mem_cons.mp h with rfl | h
    · exact ⟨k, rfl, by rw [List.length_cons]; omega⟩
    · obtain ⟨i, e, hi⟩ := enK_keys (k + 1) ns q h
      exact ⟨i, e, by rw [List.length_cons]; omega⟩
theorem putD_enK (ns : List Int) (c : Int) : putD (enK 0 ns) (.inl (ns.length : Int)) (.int c) = enK 0 (ns ++ [c]) := by
  unfold putD
  have : ((enK 0 ns).any fun kv => decide (kv.1 = (.inl (ns.length : Int) : Key))) = false := by
    rw [List.any_eq_false]
    intro q hq
    obtain ⟨i, e, hi⟩ := enK_keys 0 ns q hq
    rw [decide_eq_true_iff, e]
    intro z
    injection z with z
    omega
  rw [this, enK_snoc, Nat.zero_add]
  rfl
theorem enK_len : ∀ (k : Nat) (ns : List Int), (enK k ns).length = ns.length
  | _, [] => rfl
  | k, _ :: ns => congrArg (· + 1) (enK_len (k + 1) ns)
theorem dict_cells {S : Sto} {j : Nat} {ns : List Int} (h : S[j]? = some (.dic (enK 0 ns))) : DictOk S j (ns.length : Int) (cellsR ns) := by
  refine ⟨_, h, fun z => ?_⟩
  rw [enK_val, cellv_cells]
  by_cases h1 : z < 0
  · rw [if_neg (by omega), if_pos (.inl h1)]; rfl
  · rw [if_pos (by omega)]
    by_cases h2 : (ns.length : Int) ≤ z
    · rw [if_pos (.inr h2), List.getElem?_eq_none (by omega)]; rfl
    · rw [if_neg (by omega), show (z - ((0 : Nat) : Int)).toNat = z.toNat by omega, List.getD_eq_getElem?_getD]
      cases ns[z.toNat]? <;> rfl
end K07

namespace K07
open PySem PySem.Spec L2 Mi
/-! ### small arrays: one turn -/
structure SI (S : Sto) (p c : Nat) (ns : List Int) : Prop where
  pool : PoolOk S p
  cells : S[c]? = some (.lst (ns.map D.int))
  ne : c ≠ p
  len : ns.length ≤ 14
theorem SI.stp {S S' : Sto} {p c : Nat} {ns : List Int} (h : SI S p c ns) (a : Stp p S S') : SI S' p c ns := ⟨a.pool, a.get h.cells h.ne, h.ne, h.len⟩
theorem SI.app {S X : Sto} {p c : Nat} {ns : List Int} (h : SI S p c ns) : SI (S ++ X) p c ns := ⟨(Stp.app h.pool).pool, get_app h.cells, h.ne, h.len⟩
theorem SI.lenD {S : Sto} {p c : Nat} {ns : List Int} (h : SI S p c ns) : fLen (.obj c) S = some (.int (ns.length : Int), S) := by rw [e_lenL h.cells, List.length_map]
abbrev arr (ns : List Int) : D := aD (ns.length : Int) (cellsR ns)
def T1 : MS := (sSet 5 (m2 fSub (mCall M__law_pick (mCons (mV 0) (mCons (m2 fAdd (mB1 (f1L fLen) (mCons (mV 1) mNil)) (mC (.int 4))) mNil))) (mC (.int 2))))
def T2 : MS := (sSet 6 (mCall M__law_value (mCons (mV 0) mNil)))
def T3 : MS := (sIf (mAndT (mB (m2 fEq (mCall M__law_pick (mCons (mV 0) (mCons (mC (.int 3)) mNil))) (mC (.int 1)))) (mB (m2 fGt (mB1 (f1L fLen) (mCons (mV 1) mNil)) (mC (.int 0)))))
  (sSet 6 (m2 fIx (mV 1) (mCall M__law_pick (mCons (mV 0) (mCons (mB1 (f1L fLen) (mCons (mV 1) mNil)) mNil)))))
  sNil)
def T4 : MS := (sSet 7 (mV 3))
def T5 : MS := (sSet 3 (mCall M_put_cell (mCons (mV 7) (mCons (mV 5) (mCons (mV 6) mNil)))))
def T6 : MS := (sIf (mAndT (mB (m2 fGe (mV 5) (mC (.int 0)))) (mB (m2 fLt (mV 5) (mB1 (f1L fLen) (mCons (mV 1) mNil)))))
  (sPut (mV 1) (mV 5) (mV 6))
  sNil)
def T7 : MS := (sIf (mNotT (mB (mCall M__law_is_array (mCons (mV 3) (mCons (mCall M__law_runs (mCons (mV 1) mNil)) mNil)))))
  (sRet (mC (.bl false)))
  sNil)
def T9 : MS := (sFor (iRng (mCons (mB1 (f1L fLen) (mCons (mV 1) mNil)) mNil)) (gN 9)
  (sDPut (mV 8) (mV 9) (m2 fIx (mV 1) (mV 9))))
def T10 : MS := (sIf (mNotT (mB (mCall M__law_looks (mCons (mV 3) (mCons (mB1 (f1L fLen) (mCons (mV 1) mNil)) (mCons (mV 8) (mCons (mV 5) mNil)))))))
  (sRet (mC (.bl false)))
  sNil)
def T11 : MS := (sSet 10 (mCall M_cells_of (mCons (mV 3) mNil)))
def T12 : MS := (sIf (mOrT (mNotT (mB (m1 (fIsi ["tuple"]) (mV 10)))) (mOrT (mNotT (mB (mB1 (f1L fAll) (mCons (mLc (iSeq (mV 10)) (gN 13) tAll (mCall M__law_int (mCons (mV 13) mNil)) [13]) mNil)))) (mB (m2 fNe (mV 10) (mB1 (f1L fTuple) (mCons (mV 1) mNil))))))
  (sRet (mC (.bl false)))
  sNil)
def T13 : MS := (sSet 11 (mCall M_same_arrays (mCons (mV 3) (mCons (mV 7) mNil))))
def T14 : MS := (sIf (mOrT (mAndT (mB (m2 fIsN (mV 11) (mC (.bl true)))) (mB (m2 fIsN (mV 11) (mC (.bl false))))) (mB (m2 fNe (mV 11) (m2 fEq (mV 3) (mV 7)))))
  (sRet (mC (.bl false)))
  sNil)
section
variable {S : Sto} {p c : Nat} {ns : List Int} {x2 x3 x4 x5 x6 x7 x8 x9 x10 x11 x12 x13 : Option D} {r : Mi.Env} {z v : Int}
theorem t1 (h : SI S p c ns) : ∃ (z : Int) (S' : Sto), T1 (some (.obj p) :: some (.obj c) :: x2 :: x3 :: x4 :: x5 :: r) S = .nx (some (.obj p) :: some (.obj c) :: x2 :: x3 :: x4 :: some (.int z) :: r) S' ∧ SI S' p c ns := by
  obtain ⟨w, S1, a1, a2, a3, _⟩ := pick h.pool (m := ns.length + 4) (by omega)
  rw [show ((ns.length + 4 : Nat) : Int) = (ns.length : Int) + 4 by omega] at a1
  refine ⟨(w : Int) - 2, S1, ?_, h.stp a3⟩
  unfold T1
  simp only [bind_ok, bind_ex, of_some, rs_ok, rs_ex, then_nx, then_rt, then_ex, then_bk, then_ct, mV0, mVs, mC_, m2_, m1_, mB_, kB_bl, mB1_, mNil_, mCons_, f1L_, f2L_, mTup_, mLst_, mCall_, mNotT_, mAndT_, mOrT_, mIf_, mAndV_, mOrV_, mNotV_, kAndV_bl, kOrV_bl, kNotV_bl, mSl_, mPart_, kPart_, mNoPart_, sSeq_, sSet_, sRet_, sIf_, sExpr_, sNil_, sBreak_, sCont_, e_lt, e_le, e_gt, e_ge, e_eqI, e_neI, e_eqS, e_neS, e_add, e_sub, List.set_cons_zero, List.set_cons_succ, kTu1, kTu2, kTu3, kTu4, kTu5, kLs0, kLs1, kLs2, kLs3, kLs4, kLs5, mM_, mM0_, sAsg_, sFor_, iRng_, iSeq_, h.lenD, a1]
theorem t2 (h : SI S p c ns) : ∃ (v : Int) (S' : Sto), T2 (some (.obj p) :: some (.obj c) :: x2 :: x3 :: x4 :: x5 :: x6 :: r) S = .nx (some (.obj p) :: some (.obj c) :: x2 :: x3 :: x4 :: x5 :: some (.int v) :: r) S' ∧ SI S' p c ns := by
  obtain ⟨v, S1, a1, a2⟩ := value h.pool
  refine ⟨v, S1, ?_, h.stp a2⟩
  unfold T2
  simp only [bind_ok, bind_ex, of_some, rs_ok, rs_ex, then_nx, then_rt, then_ex, then_bk, then_ct, mV0, mVs, mC_, m2_, m1_, mB_, kB_bl, mB1_, mNil_, mCons_, f1L_, f2L_, mTup_, mLst_, mCall_, mNotT_, mAndT_, mOrT_, mIf_, mAndV_, mOrV_, mNotV_, kAndV_bl, kOrV_bl, kNotV_bl, mSl_, mPart_, kPart_, mNoPart_, sSeq_, sSet_, sRet_, sIf_, sExpr_, sNil_, sBreak_, sCont_, e_lt, e_le, e_gt, e_ge, e_eqI, e_neI, e_eqS, e_neS, e_add, e_sub, List.set_cons_zero, List.set_cons_succ, kTu1, kTu2, kTu3, kTu4, kTu5, kLs0, kLs1, kLs2, kLs3, kLs4, kLs5, mM_, mM0_, sAsg_, sFor_, iRng_, iSeq_, a1]
theorem t3 (h : SI S p c ns) : ∃ (v' : Int) (S' : Sto), T3 (some (.obj p) :: some (.obj c) :: x2 :: x3 :: x4 :: x5 :: some (.int v) :: r) S = .nx (some (.obj p) :: some (.obj c) :: x2 :: x3 :: x4 :: x5 :: some (.int v') :: r) S' ∧ SI S' p c ns := by
  obtain ⟨w, S1, a1, a2, a3, _⟩ := pick h.pool (m := 3) (by omega)
  have a1' : M__law_pick [.obj p, .int 3] S = .ok (nD w) S1 := a1
  have h1 := h.stp a3
  by_cases hw : w = 1
  · have d1 : decide ((w : Int) = 1) = true := decide_eq_true (by omega)
    by_cases hl : 0 < ns.length
    · have d2 : decide ((0 : Int) < (ns.length : Int)) = true := decide_eq_true (by omega)
      obtain ⟨w2, S2, b1, b2, b3, _⟩ := pick h1.pool (m := ns.length) hl
      obtain ⟨y, hy⟩ : ∃ y, ns[w2]? = some y := ⟨_, List.getElem?_eq_getElem b2⟩
      have h2 := h1.stp b3
      have hix : fIx (.obj c) (nD w2) S2 = some (.int y, S2) := e_ixL h2.cells (by rw [List.getElem?_map, hy]; rfl)
      refine ⟨y, S2, ?_, h2⟩
      unfold T3
      simp only [bind_ok, bind_ex, of_some, rs_ok, rs_ex, then_nx, then_rt, then_ex, then_bk, then_ct, mV0, mVs, mC_, m2_, m1_, mB_, kB_bl, mB1_, mNil_, mCons_, f1L_, f2L_, mTup_, mLst_, mCall_, mNotT_, mAndT_, mOrT_, mIf_, mAndV_, mOrV_, mNotV_, kAndV_bl, kOrV_bl, kNotV_bl, mSl_, mPart_, kPart_, mNoPart_, sSeq_, sSet_, sRet_, sIf_, sExpr_, sNil_, sBreak_, sCont_, e_lt, e_le, e_gt, e_ge, e_eqI, e_neI, e_eqS, e_neS, e_add, e_sub, List.set_cons_zero, List.set_cons_succ, kTu1, kTu2, kTu3, kTu4, kTu5, kLs0, kLs1, kLs2, kLs3, kLs4, kLs5, mM_, mM0_, sAsg_, sFor_, iRng_, iSeq_, a1', d1, if_true, h1.lenD, d2, b1, hix]
    · have d2 : decide ((0 : Int) < (ns.length : Int)) = false := decide_eq_false (by omega)
      refine ⟨v, S1, ?_, h1⟩
      unfold T3
      simp only [bind_ok, bind_ex, of_some, rs_ok, rs_ex, then_nx, then_rt, then_ex, then_bk, then_ct, mV0, mVs, mC_, m2_, m1_, mB_, kB_bl, mB1_, mNil_, mCons_, f1L_, f2L_, mTup_, mLst_, mCall_, mNotT_, mAndT_, mOrT_, mIf_, mAndV_, mOrV_, mNotV_, kAndV_bl, kOrV_bl, kNotV_bl, mSl_, mPart_, kPart_, mNoPart_, sSeq_, sSet_, sRet_, sIf_, sExpr_, sNil_, sBreak_, sCont_, e_lt, e_le, e_gt, e_ge, e_eqI, e_neI, e_eqS, e_neS, e_add, e_sub, List.set_cons_zero, List.set_cons_succ, kTu1, kTu2, kTu3, kTu4, kTu5, kLs0, kLs1, kLs2, kLs3, kLs4, kLs5, mM_, mM0_, sAsg_, sFor_, iRng_, iSeq_, a1', d1, if_true, h1.lenD, d2, Bool.false_eq_true, if_false]
  · have d1 : decide ((w : Int) = 1) = false := decide_eq_false (by omega)
    refine ⟨v, S1, ?_, h1⟩
    unfold T3
    simp only [bind_ok, bind_ex, of_some, rs_ok, rs_ex, then_nx, then_rt, then_ex, then_bk, then_ct, mV0, mVs, mC_, m2_, m1_, mB_, kB_bl, mB1_, mNil_, mCons_, f1L_, f2L_, mTup_, mLst_, mCall_, mNotT_, mAndT_, mOrT_, mIf_, mAndV_, mOrV_, mNotV_, kAndV_bl, kOrV_bl, kNotV_bl, mSl_, mPart_, kPart_, mNoPart_, sSeq_, sSet_, sRet_, sIf_, sExpr_, sNil_, sBreak_, sCont_, e_lt, e_le, e_gt, e_ge, e_eqI, e_neI, e_eqS, e_neS, e_add, e_sub, List.set_cons_zero, List.set_cons_succ, kTu1, kTu2, kTu3, kTu4, kTu5, kLs0, kLs1, kLs2, kLs3, kLs4, kLs5, mM_, mM0_, sAsg_, sFor_, iRng_, iSeq_, a1', d1, Bool.false_eq_true, if_false]
theorem t5 (h : SI S p c ns) : ∃ X : Sto, T5 (some (.obj p) :: some (.obj c) :: x2 :: x3 :: x4 :: some (.int z) :: some (.int v) :: some (arr ns) :: r) S = .nx (some (.obj p) :: some (.obj c) :: x2 :: some (aD (ns.length : Int) (cellsR (putC ns z v))) :: x4 :: some (.int z) :: some (.int v) :: some (arr ns) :: r) (S ++ X) := by
  have hl := cellsR_len ns
  have h14 := h.len
  obtain ⟨r', X, a1, a2⟩ := put_cell (S := S) (z := z) (v := v) (cellsR_ok ns).1 (by omega)
  rw [put_cells a2] at a1
  refine ⟨X, ?_⟩
  unfold T5
  simp only [bind_ok, bind_ex, of_some, rs_ok, rs_ex, then_nx, then_rt, then_ex, then_bk, then_ct, mV0, mVs, mC_, m2_, m1_, mB_, kB_bl, mB1_, mNil_, mCons_, f1L_, f2L_, mTup_, mLst_, mCall_, mNotT_, mAndT_, mOrT_, mIf_, mAndV_, mOrV_, mNotV_, kAndV_bl, kOrV_bl, kNotV_bl, mSl_, mPart_, kPart_, mNoPart_, sSeq_, sSet_, sRet_, sIf_, sExpr_, sNil_, sBreak_, sCont_, e_lt, e_le, e_gt, e_ge, e_eqI, e_neI, e_eqS, e_neS, e_add, e_sub, List.set_cons_zero, List.set_cons_succ, kTu1, kTu2, kTu3, kTu4, kTu5, kLs0, kLs1, kLs2, kLs3, kLs4, kLs5, mM_, mM0_, sAsg_, sFor_, iRng_, iSeq_, a1]
theorem t6 (h : SI S p c ns) : ∃ S' : Sto, T6 (some (.obj p) :: some (.obj c) :: x2 :: x3 :: x4 :: some (.int z) :: some (.int v) :: r) S = .nx (some (.obj p) :: some (.obj c) :: x2 :: x3 :: x4 :: some (.int z) :: some (.int v) :: r) S' ∧ SI S' p c (putC ns z v) := by
  unfold T6
  by_cases h1 : 0 ≤ z
  · have d1 : decide ((0 : Int) ≤ z) = true := decide_eq_true h1
    by_cases h2 : z < (ns.length : Int)
    · have d2 : decide (z < (ns.length : Int)) = true := decide_eq_true h2
      have hp : fPut (.obj c) (.int z) (.int v) S = some (S.set c (.lst ((putC ns z v).map D.int))) := by
        have hx : ixN (ns.map D.int).length z = some z.toNat := by
          obtain ⟨i, rfl⟩ : ∃ i : Nat, z = (i : Int) := ⟨z.toNat, by omega⟩
          rw [ixN_nat (by rw [List.length_map]; omega), Int.toNat_natCast]
        unfold fPut
        simp only [h.cells, hx, Option.map_some]
        unfold putC
        rw [if_pos ⟨h1, h2⟩, List.map_set]
      refine ⟨S.set c (.lst ((putC ns z v).map D.int)), ?_, ?_⟩
      · simp only [bind_ok, bind_ex, of_some, rs_ok, rs_ex, then_nx, then_rt, then_ex, then_bk, then_ct, mV0, mVs, mC_, m2_, m1_, mB_, kB_bl, mB1_, mNil_, mCons_, f1L_, f2L_, mTup_, mLst_, mCall_, mNotT_, mAndT_, mOrT_, mIf_, mAndV_, mOrV_, mNotV_, kAndV_bl, kOrV_bl, kNotV_bl, mSl_, mPart_, kPart_, mNoPart_, sSeq_, sSet_, sRet_, sIf_, sExpr_, sNil_, sBreak_, sCont_, e_lt, e_le, e_gt, e_ge, e_eqI, e_neI, e_eqS, e_neS, e_add, e_sub, List.set_cons_zero, List.set_cons_succ, kTu1, kTu2, kTu3, kTu4, kTu5, kLs0, kLs1, kLs2, kLs3, kLs4, kLs5, mM_, mM0_, sAsg_, sFor_, iRng_, iSeq_, d1, if_true, h.lenD, d2]
        unfold sPut
        simp only [bind_ok, bind_ex, of_some, rs_ok, rs_ex, then_nx, then_rt, then_ex, then_bk, then_ct, mV0, mVs, mC_, m2_, m1_, mB_, kB_bl, mB1_, mNil_, mCons_, f1L_, f2L_, mTup_, mLst_, mCall_, mNotT_, mAndT_, mOrT_, mIf_, mAndV_, mOrV_, mNotV_, kAndV_bl, kOrV_bl, kNotV_bl, mSl_, mPart_, kPart_, mNoPart_, sSeq_, sSet_, sRet_, sIf_, sExpr_, sNil_, sBreak_, sCont_, e_lt, e_le, e_gt, e_ge, e_eqI, e_neI, e_eqS, e_neS, e_add, e_sub, List.set_cons_zero, List.set_cons_succ, kTu1, kTu2, kTu3, kTu4, kTu5, kLs0, kLs1, kLs2, kLs3, kLs4, kLs5, mM_, mM0_, sAsg_, sFor_, iRng_, iSeq_, hp]
      · refine ⟨?_, List.getElem?_set_self (get_lt h.cells), h.ne, by rw [putC_len]; exact h.len⟩
        obtain ⟨ps, g1, g2⟩ := h.pool
        exact ⟨ps, by rw [List.getElem?_set_ne h.ne]; exact g1, g2⟩
    · have d2 : decide (z < (ns.length : Int)) = false := decide_eq_false h2
      have e : putC ns z v = ns := by unfold putC; rw [if_neg (fun q => h2 q.2)]
      refine ⟨S, ?_, by rw [e]; exact h⟩
      simp only [bind_ok, bind_ex, of_some, rs_ok, rs_ex, then_nx, then_rt, then_ex, then_bk, then_ct, mV0, mVs, mC_, m2_, m1_, mB_, kB_bl, mB1_, mNil_, mCons_, f1L_, f2L_, mTup_, mLst_, mCall_, mNotT_, mAndT_, mOrT_, mIf_, mAndV_, mOrV_, mNotV_, kAndV_bl, kOrV_bl, kNotV_bl, mSl_, mPart_, kPart_, mNoPart_, sSeq_, sSet_, sRet_, sIf_, sExpr_, sNil_, sBreak_, sCont_, e_lt, e_le, e_gt, e_ge, e_eqI, e_neI, e_eqS, e_neS, e_add, e_sub, List.set_cons_zero, List.set_cons_succ, kTu1, kTu2, kTu3, kTu4, kTu5, kLs0, kLs1, kLs2, kLs3, kLs4, kLs5, mM_, mM0_, sAsg_, sFor_, iRng_, iSeq_, d1, if_true, h.lenD, d2, Bool.false_eq_true, if_false]
  · have d1 : decide ((0 : Int) ≤ z) = false := decide_eq_false h1
    have e : putC ns z v = ns := by unfold putC; rw [if_neg (fun q => h1 q.1)]
    refine ⟨S, ?_, by rw [e]; exact h⟩
    simp only [bind_ok, bind_ex, of_some, rs_ok, rs_ex, then_nx, then_rt, then_ex, then_bk, then_ct, mV0, mVs, mC_, m2_, m1_, mB_, kB_bl, mB1_, mNil_, mCons_, f1L_, f2L_, mTup_, mLst_, mCall_, mNotT_, mAndT_, mOrT_, mIf_, mAndV_, mOrV_, mNotV_, kAndV_bl, kOrV_bl, kNotV_bl, mSl_, mPart_, kPart_, mNoPart_, sSeq_, sSet_, sRet_, sIf_, sExpr_, sNil_, sBreak_, sCont_, e_lt, e_le, e_gt, e_ge, e_eqI, e_neI, e_eqS, e_neS, e_add, e_sub, List.set_cons_zero, List.set_cons_succ, kTu1, kTu2, kTu3, kTu4, kTu5, kLs0, kLs1, kLs2, kLs3, kLs4, kLs5, mM_, mM0_, sAsg_, sFor_, iRng_, iSeq_, d1, Bool.false_eq_true, if_false]
theorem t7 (h : SI S p c ns) : ∃ X : Sto, T7 (some (.obj p) :: some (.obj c) :: x2 :: some (arr ns) :: r) S = .nx (some (.obj p) :: some (.obj c) :: x2 :: some (arr ns) :: r) (S ++ X) := by
  have h14 := h.len
  obtain ⟨X, a1⟩ := law_runs h.cells (by omega)
  have hl := cellsR_len ns
  refine ⟨X, ?_⟩
  unfold T7
  simp only [bind_ok, bind_ex, of_some, rs_ok, rs_ex, then_nx, then_rt, then_ex, then_bk, then_ct, mV0, mVs, mC_, m2_, m1_, mB_, kB_bl, mB1_, mNil_, mCons_, f1L_, f2L_, mTup_, mLst_, mCall_, mNotT_, mAndT_, mOrT_, mIf_, mAndV_, mOrV_, mNotV_, kAndV_bl, kOrV_bl, kNotV_bl, mSl_, mPart_, kPart_, mNoPart_, sSeq_, sSet_, sRet_, sIf_, sExpr_, sNil_, sBreak_, sCont_, e_lt, e_le, e_gt, e_ge, e_eqI, e_neI, e_eqS, e_neS, e_add, e_sub, List.set_cons_zero, List.set_cons_succ, kTu1, kTu2, kTu3, kTu4, kTu5, kLs0, kLs1, kLs2, kLs3, kLs4, kLs5, mM_, mM0_, sAsg_, sFor_, iRng_, iSeq_, a1, law_is_array (S := S ++ X) (n := (ns.length : Int)) (r := cellsR ns) (by omega), Bool.not_true, Bool.false_eq_true, if_false]
/-- the dict of the cells, made -/
theorem t9_loop {T : Sto} (h : SI T p c ns) : ∀ (k i n : Nat) (x9 : Option D), n = i + k → n = ns.length → ∃ y9 : Option D, forI (itRng 0 n) (gN 9) (sDPut (mV 8) (mV 9) (m2 fIx (mV 1) (mV 9))) k i (some (.obj p) :: some (.obj c) :: x2 :: x3 :: x4 :: x5 :: x6 :: x7 :: some (.obj T.length) :: x9 :: r) (T ++ [.dic (enK 0 (ns.take i))]) = .nx (some (.obj p) :: some (.obj c) :: x2 :: x3 :: x4 :: x5 :: x6 :: x7 :: some (.obj T.length) :: y9 :: r) (T ++ [.dic (enK 0 ns)])
  | 0, i, n, x9, hn, hl => by
    have : i = n := by omega
    subst this
    refine ⟨x9, ?_⟩
    rw [fr_end, List.take_of_length_le (by omega)]
  | k + 1, i, n, x9, hn, hl => by
    have hi : i < ns.length := by omega
    obtain ⟨y, hy⟩ : ∃ y, ns[i]? = some y := ⟨_, List.getElem?_eq_getElem hi⟩
    obtain ⟨y9, q⟩ := t9_loop h k (i + 1) n (some (.int (0 + (i : Int)))) (by omega) hl
    refine ⟨y9, ?_⟩
    have h14 := h.len
    have hix : fIx (.obj c) (.int (0 + (i : Int))) (T ++ [.dic (enK 0 (ns.take i))]) = some (.int y, T ++ [.dic (enK 0 (ns.take i))]) := by
      rw [Int.zero_add]; exact e_ixL (get_app h.cells) (by rw [List.getElem?_map, hy]; rfl)
    have hput : fDPut (.obj T.length) (.int (0 + (i : Int))) (.int y) (T ++ [.dic (enK 0 (ns.take i))]) = some (T ++ [.dic (enK 0 (ns.take (i + 1)))]) := by
      have e : (ns.take i).length = i := by rw [List.length_take]; omega
      unfold fDPut
      simp only [last0, keyD, Option.bind_some]
      rw [if_pos (by rw [enK_len, sizeLine_eq]; omega), Int.zero_add, sa0]
      have := putD_enK (ns.take i) y
      rw [e] at this
      rw [this, List.take_add_one, hy]; rfl
    rw [fr_nx (by omega) (env2 := (some (.obj p) :: some (.obj c) :: x2 :: x3 :: x4 :: x5 :: x6 :: x7 :: some (.obj T.length) :: some (.int (0 + (i : Int))) :: r)) (S2 := T ++ [.dic (enK 0 (ns.take (i + 1)))]) ?_, q]
    unfold Mi.sDPut
    simp only [bind_ok, bind_ex, of_some, rs_ok, rs_ex, then_nx, then_rt, then_ex, then_bk, then_ct, mV0, mVs, mC_, m2_, m1_, mB_, kB_bl, mB1_, mNil_, mCons_, f1L_, f2L_, mTup_, mLst_, mCall_, mNotT_, mAndT_, mOrT_, mIf_, mAndV_, mOrV_, mNotV_, kAndV_bl, kOrV_bl, kNotV_bl, mSl_, mPart_, kPart_, mNoPart_, sSeq_, sSet_, sRet_, sIf_, sExpr_, sNil_, sBreak_, sCont_, e_lt, e_le, e_gt, e_ge, e_eqI, e_neI, e_eqS, e_neS, e_add, e_sub, List.set_cons_zero, List.set_cons_succ, kTu1, kTu2, kTu3, kTu4, kTu5, kLs0, kLs1, kLs2, kLs3, kLs4, kLs5, mM_, mM0_, sAsg_, sFor_, iRng_, iSeq_, hix, hput]
theorem t9 (h : SI S p c ns) : ∃ y9 : Option D, T9 (some (.obj p) :: some (.obj c) :: x2 :: x3 :: x4 :: x5 :: x6 :: x7 :: some (.obj S.length) :: x9 :: r) (S ++ [.dic []]) = .nx (some (.obj p) :: some (.obj c) :: x2 :: x3 :: x4 :: x5 :: x6 :: x7 :: some (.obj S.length) :: y9 :: r) (S ++ [.dic (enK 0 ns)]) := by
  obtain ⟨y9, q⟩ := t9_loop (x2 := x2) (x3 := x3) (x4 := x4) (x5 := x5) (x6 := x6) (x7 := x7) (r := r) h ns.length 0 ns.length x9 (by omega) rfl
  have h14 := h.len
  have hlen := (h.app (X := [.dic []])).lenD
  have hk : ∀ S : Sto, kRngI [.int (ns.length : Int)] S = .ok (itRng 0 ns.length) S := fun S => by rw [kRng1 (by omega), Int.toNat_natCast]
  have en : ∀ n, (itRng 0 n).n = n := fun _ => (rfl)
  rw [show enK 0 (ns.take 0) = [] from rfl] at q
  refine ⟨y9, ?_⟩
  unfold T9
  simp only [bind_ok, bind_ex, of_some, rs_ok, rs_ex, then_nx, then_rt, then_ex, then_bk, then_ct, mV0, mVs, mC_, m2_, m1_, mB_, kB_bl, mB1_, mNil_, mCons_, f1L_, f2L_, mTup_, mLst_, mCall_, mNotT_, mAndT_, mOrT_, mIf_, mAndV_, mOrV_, mNotV_, kAndV_bl, kOrV_bl, kNotV_bl, mSl_, mPart_, kPart_, mNoPart_, sSeq_, sSet_, sRet_, sIf_, sExpr_, sNil_, sBreak_, sCont_, e_lt, e_le, e_gt, e_ge, e_eqI, e_neI, e_eqS, e_neS, e_add, e_sub, List.set_cons_zero, List.set_cons_succ, kTu1, kTu2, kTu3, kTu4, kTu5, kLs0, kLs1, kLs2, kLs3, kLs4, kLs5, mM_, mM0_, sAsg_, sFor_, iRng_, iSeq_, hlen, hk, en, q]
theorem t10 (h : SI S p c ns) : ∃ X : Sto, T10 (some (.obj p) :: some (.obj c) :: x2 :: some (arr ns) :: x4 :: some (.int z) :: x6 :: x7 :: some (.obj S.length) :: r) (S ++ [.dic (enK 0 ns)]) = .nx (some (.obj p) :: some (.obj c) :: x2 :: some (arr ns) :: x4 :: some (.int z) :: x6 :: x7 :: some (.obj S.length) :: r) (S ++ X) := by
  have h14 := h.len
  have hl := cellsR_len ns
  obtain ⟨X, a1⟩ := law_looks (S := S ++ [.dic (enK 0 ns)]) (n := (ns.length : Int)) (place := z) (r := cellsR ns) (j := S.length) (cellsR_ok ns).1 (by omega) (dict_cells last0)
  have hlen := (h.app (X := [.dic (enK 0 ns)])).lenD
  refine ⟨[.dic (enK 0 ns)] ++ X, ?_⟩
  rw [← List.append_assoc]
  unfold T10
  simp only [bind_ok, bind_ex, of_some, rs_ok, rs_ex, then_nx, then_rt, then_ex, then_bk, then_ct, mV0, mVs, mC_, m2_, m1_, mB_, kB_bl, mB1_, mNil_, mCons_, f1L_, f2L_, mTup_, mLst_, mCall_, mNotT_, mAndT_, mOrT_, mIf_, mAndV_, mOrV_, mNotV_, kAndV_bl, kOrV_bl, kNotV_bl, mSl_, mPart_, kPart_, mNoPart_, sSeq_, sSet_, sRet_, sIf_, sExpr_, sNil_, sBreak_, sCont_, e_lt, e_le, e_gt, e_ge, e_eqI, e_neI, e_eqS, e_neS, e_add, e_sub, List.set_cons_zero, List.set_cons_succ, kTu1, kTu2, kTu3, kTu4, kTu5, kLs0, kLs1, kLs2, kLs3, kLs4, kLs5, mM_, mM0_, sAsg_, sFor_, iRng_, iSeq_, hlen, a1, Bool.not_true, Bool.false_eq_true, if_false]
theorem t11 (h : SI S p c ns) : ∃ X : Sto, T11 (some (.obj p) :: some (.obj c) :: x2 :: some (arr ns) :: x4 :: x5 :: x6 :: x7 :: x8 :: x9 :: x10 :: r) S = .nx (some (.obj p) :: some (.obj c) :: x2 :: some (arr ns) :: x4 :: x5 :: x6 :: x7 :: x8 :: x9 :: some (.tup (ns.map D.int)) :: r) (S ++ X) := by
  have h14 := h.len
  obtain ⟨X, a1⟩ := cells_of (S := S) (cellsR_ok ns).1 (by omega)
  rw [cells_list] at a1
  refine ⟨X, ?_⟩
  unfold T11
  simp only [bind_ok, bind_ex, of_some, rs_ok, rs_ex, then_nx, then_rt, then_ex, then_bk, then_ct, mV0, mVs, mC_, m2_, m1_, mB_, kB_bl, mB1_, mNil_, mCons_, f1L_, f2L_, mTup_, mLst_, mCall_, mNotT_, mAndT_, mOrT_, mIf_, mAndV_, mOrV_, mNotV_, kAndV_bl, kOrV_bl, kNotV_bl, mSl_, mPart_, kPart_, mNoPart_, sSeq_, sSet_, sRet_, sIf_, sExpr_, sNil_, sBreak_, sCont_, e_lt, e_le, e_gt, e_ge, e_eqI, e_neI, e_eqS, e_neS, e_add, e_sub, List.set_cons_zero, List.set_cons_succ, kTu1, kTu2, kTu3, kTu4, kTu5, kLs0, kLs1, kLs2, kLs3, kLs4, kLs5, mM_, mM0_, sAsg_, sFor_, iRng_, iSeq_, a1]
theorem t12 (h : SI S p c ns) : ∃ X : Sto, T12 [some (.obj p), some (.obj c), x2, x3, x4, x5, x6, x7, x8, x9, some (.tup (ns.map D.int)), x11, x12, x13] S = .nx [some (.obj p), some (.obj c), x2, x3, x4, x5, x6, x7, x8, x9, some (.tup (ns.map D.int)), x11, x12, x13] (S ++ X) := by
  have h14 := h.len
  have ha := all_row (S := S) (e := mCall M__law_int (mCons (mV 13) mNil)) (v := 13) (vs := [13]) (env := [some (.obj p), some (.obj c), x2, x3, x4, x5, x6, x7, x8, x9, some (.tup (ns.map D.int)), x11, x12, x13]) (f := fun _ => true) (.inl rfl : RowAt S (.tup (ns.map D.int)) (ns.map D.int)) (fun acc x hx => by
    obtain ⟨n, _, rfl⟩ := List.mem_map.mp hx
    show mCall M__law_int (mCons (mV 13) mNil) [some (.obj p), some (.obj c), x2, x3, x4, x5, x6, x7, x8, x9, some (.tup (ns.map D.int)), x11, x12, some (.int n)] _ = _
    simp only [bind_ok, bind_ex, of_some, rs_ok, rs_ex, then_nx, then_rt, then_ex, then_bk, then_ct, mV0, mVs, mC_, m2_, m1_, mB_, kB_bl, mB1_, mNil_, mCons_, f1L_, f2L_, mTup_, mLst_, mCall_, mNotT_, mAndT_, mOrT_, mIf_, mAndV_, mOrV_, mNotV_, kAndV_bl, kOrV_bl, kNotV_bl, mSl_, mPart_, kPart_, mNoPart_, sSeq_, sSet_, sRet_, sIf_, sExpr_, sNil_, sBreak_, sCont_, e_lt, e_le, e_gt, e_ge, e_eqI, e_neI, e_eqS, e_neS, e_add, e_sub, List.set_cons_zero, List.set_cons_succ, kTu1, kTu2, kTu3, kTu4, kTu5, kLs0, kLs1, kLs2, kLs3, kLs4, kLs5, mM_, mM0_, sAsg_, sFor_, iRng_, iSeq_, lawint_int]) (by rw [List.length_map, sizeLine_eq]; omega)
  rw [show (ns.map D.int).all (fun _ => true) = true from List.all_eq_true.mpr fun _ _ => rfl] at ha
  have e0 : (mLc (iSeq (mV 10)) (gN 13) tAll (mCall M__law_int (mCons (mV 13) mNil)) [13]) [some (.obj p), some (.obj c), x2, x3, x4, x5, x6, x7, x8, x9, some (.tup (ns.map D.int)), x11, x12, x13] S = (kSeqI (.tup (ns.map D.int)) S).bind (kLc (gN 13) tAll (mCall M__law_int (mCons (mV 13) mNil)) [13] [some (.obj p), some (.obj c), x2, x3, x4, x5, x6, x7, x8, x9, some (.tup (ns.map D.int)), x11, x12, x13]) := rfl
  generalize hS1 : S ++ [MO.lst (((ns.map D.int).map fun _ => true).map D.bl)] = S1 at ha
  have e1 : (mB1 (f1L fAll) (mCons (mLc (iSeq (mV 10)) (gN 13) tAll (mCall M__law_int (mCons (mV 13) mNil)) [13]) mNil)) [some (.obj p), some (.obj c), x2, x3, x4, x5, x6, x7, x8, x9, some (.tup (ns.map D.int)), x11, x12, x13] S = .ok (.bl true) S1 := by
    rw [← ha, mB1_, mCons_, e0]
    cases (kSeqI (.tup (ns.map D.int)) S).bind (kLc (gN 13) tAll (mCall M__law_int (mCons (mV 13) mNil)) [13] [some (.obj p), some (.obj c), x2, x3, x4, x5, x6, x7, x8, x9, some (.tup (ns.map D.int)), x11, x12, x13]) <;> rfl
  have htu : fTuple (.obj c) S1 = some (.tup (ns.map D.int), S1) := by
    show (lstAt S1 c).map _ = _
    rw [lst_at (by rw [← hS1]; exact get_app h.cells)]; rfl
  have e2 := (eq_ints (S := S1) ns ns (by omega) (by omega)).2
  rw [show decide (ns = ns) = true from decide_eq_true rfl] at e2
  refine ⟨[.lst (((ns.map D.int).map fun _ => true).map D.bl)], ?_⟩
  rw [hS1]
  unfold T12
  rw [sIf_, mOrT_, mNotT_, mB_, m1_]
  have ev : mV 10 [some (.obj p), some (.obj c), x2, x3, x4, x5, x6, x7, x8, x9, some (.tup (ns.map D.int)), x11, x12, x13] S = .ok (.tup (ns.map D.int)) S := rfl
  rw [ev, bind_ok, isi_tt, of_some, bind_ok, kB_bl, bind_ok, bind_ok, if_neg (by decide), mOrT_, mNotT_, mB_, e1, bind_ok, kB_bl, bind_ok, bind_ok, if_neg (by decide)]
  simp only [bind_ok, bind_ex, of_some, rs_ok, rs_ex, then_nx, then_rt, then_ex, then_bk, then_ct, mV0, mVs, mC_, m2_, m1_, mB_, kB_bl, mB1_, mNil_, mCons_, f1L_, f2L_, mTup_, mLst_, mCall_, mNotT_, mAndT_, mOrT_, mIf_, mAndV_, mOrV_, mNotV_, kAndV_bl, kOrV_bl, kNotV_bl, mSl_, mPart_, kPart_, mNoPart_, sSeq_, sSet_, sRet_, sIf_, sExpr_, sNil_, sBreak_, sCont_, e_lt, e_le, e_gt, e_ge, e_eqI, e_neI, e_eqS, e_neS, e_add, e_sub, List.set_cons_zero, List.set_cons_succ, kTu1, kTu2, kTu3, kTu4, kTu5, kLs0, kLs1, kLs2, kLs3, kLs4, kLs5, mM_, mM0_, sAsg_, sFor_, iRng_, iSeq_, htu, e2, Bool.not_true, Bool.false_eq_true, if_false]
end
end K07

namespace K07
open PySem PySem.Spec L2 Mi
section
variable {S : Sto} {p c : Nat} {ns ms : List Int} {x2 x3 x4 x5 x6 x7 x8 x9 x10 x11 x12 x13 : Option D} {r : Mi.Env} {z v : Int}
def sameB (ns ms : List Int) : Bool := decide ((ns.length : Int) = (ms.length : Int) ∧ cellsR ns = cellsR ms)
theorem e_same (h1 : ns.length ≤ 100) (h2 : ms.length ≤ 100) : M_same_arrays [arr ns, arr ms] S = .ok (.bl (sameB ns ms)) S := by
  have l1 := cellsR_len ns
  have l2 := cellsR_len ms
  exact same_arrays (cellsR_ok ns).1 (cellsR_ok ms).1 (by omega) (by omega)
theorem e_eqA (h1 : ns.length ≤ 100) (h2 : ms.length ≤ 100) : fEq (arr ns) (arr ms) S = some (.bl (sameB ns ms), S) := by
  have l1 := cellsR_len ns
  have l2 := cellsR_len ms
  exact (eq_a _ _ _ _ (by omega) (by omega)).1
theorem sameB_self (ns : List Int) : sameB ns ns = true := decide_eq_true ⟨rfl, rfl⟩
theorem e_isn (b c : Bool) : fIsN (.bl b) (.bl c) S = some (.bl (!decide (b = c)), S) := (rfl)
theorem e_is (b c : Bool) : fIs (.bl b) (.bl c) S = some (.bl (decide (b = c)), S) := (rfl)
theorem e_neB (b c : Bool) : fNe (.bl b) (.bl c) S = some (.bl (!decide (b = c)), S) := (rfl)
theorem t13 (h1 : ns.length ≤ 14) (h2 : ms.length ≤ 14) : T13 (some (.obj p) :: some (.obj c) :: x2 :: some (arr ns) :: x4 :: x5 :: x6 :: some (arr ms) :: x8 :: x9 :: x10 :: x11 :: r) S = .nx (some (.obj p) :: some (.obj c) :: x2 :: some (arr ns) :: x4 :: x5 :: x6 :: some (arr ms) :: x8 :: x9 :: x10 :: some (.bl (sameB ns ms)) :: r) S := by
  unfold T13
  simp only [bind_ok, bind_ex, of_some, rs_ok, rs_ex, then_nx, then_rt, then_ex, then_bk, then_ct, mV0, mVs, mC_, m2_, m1_, mB_, kB_bl, mB1_, mNil_, mCons_, f1L_, f2L_, mTup_, mLst_, mCall_, mNotT_, mAndT_, mOrT_, mIf_, mAndV_, mOrV_, mNotV_, kAndV_bl, kOrV_bl, kNotV_bl, mSl_, mPart_, kPart_, mNoPart_, sSeq_, sSet_, sRet_, sIf_, sExpr_, sNil_, sBreak_, sCont_, e_lt, e_le, e_gt, e_ge, e_eqI, e_neI, e_eqS, e_neS, e_add, e_sub, List.set_cons_zero, List.set_cons_succ, kTu1, kTu2, kTu3, kTu4, kTu5, kLs0, kLs1, kLs2, kLs3, kLs4, kLs5, mM_, mM0_, sAsg_, sFor_, iRng_, iSeq_, e_same (S := S) (ns := ns) (ms := ms) (by omega) (by omega)]
theorem t14 (h1 : ns.length ≤ 14) (h2 : ms.length ≤ 14) : T14 (some (.obj p) :: some (.obj c) :: x2 :: some (arr ns) :: x4 :: x5 :: x6 :: some (arr ms) :: x8 :: x9 :: x10 :: some (.bl (sameB ns ms)) :: r) S = .nx (some (.obj p) :: some (.obj c) :: x2 :: some (arr ns) :: x4 :: x5 :: x6 :: some (arr ms) :: x8 :: x9 :: x10 :: some (.bl (sameB ns ms)) :: r) S := by
  have e := e_eqA (S := S) (ns := ns) (ms := ms) (by omega) (by omega)
  unfold T14
  cases hb : sameB ns ms with
  | true =>
    rw [hb] at e
    have d1 : decide (true = true) = true := rfl
    simp only [bind_ok, bind_ex, of_some, rs_ok, rs_ex, then_nx, then_rt, then_ex, then_bk, then_ct, mV0, mVs, mC_, m2_, m1_, mB_, kB_bl, mB1_, mNil_, mCons_, f1L_, f2L_, mTup_, mLst_, mCall_, mNotT_, mAndT_, mOrT_, mIf_, mAndV_, mOrV_, mNotV_, kAndV_bl, kOrV_bl, kNotV_bl, mSl_, mPart_, kPart_, mNoPart_, sSeq_, sSet_, sRet_, sIf_, sExpr_, sNil_, sBreak_, sCont_, e_lt, e_le, e_gt, e_ge, e_eqI, e_neI, e_eqS, e_neS, e_add, e_sub, List.set_cons_zero, List.set_cons_succ, kTu1, kTu2, kTu3, kTu4, kTu5, kLs0, kLs1, kLs2, kLs3, kLs4, kLs5, mM_, mM0_, sAsg_, sFor_, iRng_, iSeq_, e_isn, e, e_neB, decide_true, Bool.not_true, Bool.false_eq_true, if_false]
  | false =>
    rw [hb] at e
    have d1 : decide (false = true) = false := rfl
    simp only [bind_ok, bind_ex, of_some, rs_ok, rs_ex, then_nx, then_rt, then_ex, then_bk, then_ct, mV0, mVs, mC_, m2_, m1_, mB_, kB_bl, mB1_, mNil_, mCons_, f1L_, f2L_, mTup_, mLst_, mCall_, mNotT_, mAndT_, mOrT_, mIf_, mAndV_, mOrV_, mNotV_, kAndV_bl, kOrV_bl, kNotV_bl, mSl_, mPart_, kPart_, mNoPart_, sSeq_, sSet_, sRet_, sIf_, sExpr_, sNil_, sBreak_, sCont_, e_lt, e_le, e_gt, e_ge, e_eqI, e_neI, e_eqS, e_neS, e_add, e_sub, List.set_cons_zero, List.set_cons_succ, kTu1, kTu2, kTu3, kTu4, kTu5, kLs0, kLs1, kLs2, kLs3, kLs4, kLs5, mM_, mM0_, sAsg_, sFor_, iRng_, iSeq_, e_isn, e, e_neB, d1, decide_true, Bool.not_true, Bool.not_false, if_true, Bool.false_eq_true, if_false, decide_false]
def TT : MS := sSeq T1 (sSeq T2 (sSeq T3 (sSeq T4 (sSeq T5 (sSeq T6 (sSeq T7 (sSeq (sSet 8 mDNew) (sSeq T9 (sSeq T10 (sSeq T11 (sSeq T12 (sSeq T13 T14))))))))))))
theorem turn (h : SI S p c ns) : ∃ (ns' : List Int) (y5 y6 y7 y8 y9 y10 y11 : Option D) (S' : Sto), TT [some (.obj p), some (.obj c), x2, some (arr ns), x4, x5, x6, x7, x8, x9, x10, x11, x12, x13] S = .nx [some (.obj p), some (.obj c), x2, some (arr ns'), x4, y5, y6, y7, y8, y9, y10, y11, x12, x13] S' ∧ SI S' p c ns' := by
  obtain ⟨z, S1, s1, h1⟩ := t1 (x2 := x2) (x3 := some (arr ns)) (x4 := x4) (x5 := x5) (r := [x6, x7, x8, x9, x10, x11, x12, x13]) h
  obtain ⟨v0, S2, s2, h2⟩ := t2 (x2 := x2) (x3 := some (arr ns)) (x4 := x4) (x5 := some (.int z)) (x6 := x6) (r := [x7, x8, x9, x10, x11, x12, x13]) h1
  obtain ⟨v, S3, s3, h3⟩ := t3 (x2 := x2) (x3 := some (arr ns)) (x4 := x4) (x5 := some (.int z)) (v := v0) (r := [x7, x8, x9, x10, x11, x12, x13]) h2
  have s4 : T4 [some (.obj p), some (.obj c), x2, some (arr ns), x4, some (.int z), some (.int v), x7, x8, x9, x10, x11, x12, x13] S3 = .nx [some (.obj p), some (.obj c), x2, some (arr ns), x4, some (.int z), some (.int v), some (arr ns), x8, x9, x10, x11, x12, x13] S3 := by
    unfold T4
    simp only [bind_ok, bind_ex, of_some, rs_ok, rs_ex, then_nx, then_rt, then_ex, then_bk, then_ct, mV0, mVs, mC_, m2_, m1_, mB_, kB_bl, mB1_, mNil_, mCons_, f1L_, f2L_, mTup_, mLst_, mCall_, mNotT_, mAndT_, mOrT_, mIf_, mAndV_, mOrV_, mNotV_, kAndV_bl, kOrV_bl, kNotV_bl, mSl_, mPart_, kPart_, mNoPart_, sSeq_, sSet_, sRet_, sIf_, sExpr_, sNil_, sBreak_, sCont_, e_lt, e_le, e_gt, e_ge, e_eqI, e_neI, e_eqS, e_neS, e_add, e_sub, List.set_cons_zero, List.set_cons_succ, kTu1, kTu2, kTu3, kTu4, kTu5, kLs0, kLs1, kLs2, kLs3, kLs4, kLs5, mM_, mM0_, sAsg_, sFor_, iRng_, iSeq_]
  obtain ⟨X5, s5⟩ := t5 (x2 := x2) (x3 := some (arr ns)) (x4 := x4) (z := z) (v := v) (r := [x8, x9, x10, x11, x12, x13]) h3
  have h5 := h3.app (X := X5)
  generalize hS5 : S3 ++ X5 = S5 at s5 h5
  obtain ⟨S6, s6, h6⟩ := t6 (x2 := x2) (x3 := some (aD (ns.length : Int) (cellsR (putC ns z v)))) (x4 := x4) (z := z) (v := v) (r := [some (arr ns), x8, x9, x10, x11, x12, x13]) h5
  have hl : (putC ns z v).length = ns.length := putC_len ns z v
  have ha : aD (ns.length : Int) (cellsR (putC ns z v)) = arr (putC ns z v) := by
    show _ = aD ((putC ns z v).length : Int) (cellsR (putC ns z v))
    rw [hl]
  rw [ha] at s5 s6
  generalize putC ns z v = ms at *
  have hms := h6.len
  have hns := h.len
  obtain ⟨X7, s7⟩ := t7 (x2 := x2) (r := [x4, some (.int z), some (.int v), some (arr ns), x8, x9, x10, x11, x12, x13]) h6
  have h7 := h6.app (X := X7)
  generalize hS7 : S6 ++ X7 = S7 at s7 h7
  have s8 : (sSet 8 mDNew) [some (.obj p), some (.obj c), x2, some (arr ms), x4, some (.int z), some (.int v), some (arr ns), x8, x9, x10, x11, x12, x13] S7 = .nx [some (.obj p), some (.obj c), x2, some (arr ms), x4, some (.int z), some (.int v), some (arr ns), some (.obj S7.length), x9, x10, x11, x12, x13] (S7 ++ [.dic []]) := rfl
  obtain ⟨y9, s9⟩ := t9 (x2 := x2) (x3 := some (arr ms)) (x4 := x4) (x5 := some (.int z)) (x6 := some (.int v)) (x7 := some (arr ns)) (x9 := x9) (r := [x10, x11, x12, x13]) h7
  obtain ⟨X10, s10⟩ := t10 (x2 := x2) (x4 := x4) (z := z) (x6 := some (.int v)) (x7 := some (arr ns)) (r := [y9, x10, x11, x12, x13]) h7
  have h10 := h7.app (X := X10)
  generalize hS10 : S7 ++ X10 = S10 at s10 h10
  obtain ⟨X11, s11⟩ := t11 (x2 := x2) (x4 := x4) (x5 := some (.int z)) (x6 := some (.int v)) (x7 := some (arr ns)) (x8 := some (.obj S7.length)) (x9 := y9) (x10 := x10) (r := [x11, x12, x13]) h10
  have h11 := h10.app (X := X11)
  generalize hS11 : S10 ++ X11 = S11 at s11 h11
  obtain ⟨X12, s12⟩ := t12 (x2 := x2) (x3 := some (arr ms)) (x4 := x4) (x5 := some (.int z)) (x6 := some (.int v)) (x7 := some (arr ns)) (x8 := some (.obj S7.length)) (x9 := y9) (x11 := x11) (x12 := x12) (x13 := x13) h11
  have h12 := h11.app (X := X12)
  generalize hS12 : S11 ++ X12 = S12 at s12 h12
  have s13 := t13 (S := S12) (p := p) (c := c) (x2 := x2) (x4 := x4) (x5 := some (.int z)) (x6 := some (.int v)) (x8 := some (.obj S7.length)) (x9 := y9) (x10 := some (.tup (ms.map D.int))) (x11 := x11) (r := [x12, x13]) hms hns
  have s14 := t14 (S := S12) (p := p) (c := c) (x2 := x2) (x4 := x4) (x5 := some (.int z)) (x6 := some (.int v)) (x8 := some (.obj S7.length)) (x9 := y9) (x10 := some (.tup (ms.map D.int))) (r := [x12, x13]) hms hns
  refine ⟨ms, some (.int z), some (.int v), some (arr ns), some (.obj S7.length), y9, some (.tup (ms.map D.int)), some (.bl (sameB ms ns)), S12, ?_, h12⟩
  unfold TT
  rw [sSeq_, s1, then_nx, sSeq_, s2, then_nx, sSeq_, s3, then_nx, sSeq_, s4, then_nx, sSeq_, s5, then_nx, sSeq_, s6, then_nx, sSeq_, s7, then_nx, sSeq_, s8, then_nx, sSeq_, s9, then_nx, sSeq_, s10, then_nx, sSeq_, s11, then_nx, sSeq_, s12, then_nx, sSeq_, s13, then_nx, s14]
theorem turns : ∀ (k i n : Nat) (S : Sto) (ns : List Int) (x4 x5 x6 x7 x8 x9 x10 x11 : Option D), n = i + k → SI S p c ns → ∃ (ns' : List Int) (y4 y5 y6 y7 y8 y9 y10 y11 : Option D) (S' : Sto), forI (itRng 0 n) (gN 4) TT k i [some (.obj p), some (.obj c), x2, some (arr ns), x4, x5, x6, x7, x8, x9, x10, x11, x12, x13] S = .nx [some (.obj p), some (.obj c), x2, some (arr ns'), y4, y5, y6, y7, y8, y9, y10, y11, x12, x13] S' ∧ SI S' p c ns'
  | 0, i, n, S, ns, x4, x5, x6, x7, x8, x9, x10, x11, hn, h => by
    have : n = i := by omega
    subst this
    exact ⟨ns, x4, x5, x6, x7, x8, x9, x10, x11, S, by rw [fr_end], h⟩
  | k + 1, i, n, S, ns, x4, x5, x6, x7, x8, x9, x10, x11, hn, h => by
    obtain ⟨ns1, y5, y6, y7, y8, y9, y10, y11, S1, q1, h1⟩ := turn (x2 := x2) (x4 := some (.int (0 + (i : Int)))) (x5 := x5) (x6 := x6) (x7 := x7) (x8 := x8) (x9 := x9) (x10 := x10) (x11 := x11) (x12 := x12) (x13 := x13) h
    obtain ⟨ns2, z4, z5, z6, z7, z8, z9, z10, z11, S2, q2, h2⟩ := turns k (i + 1) n S1 ns1 (some (.int (0 + (i : Int)))) y5 y6 y7 y8 y9 y10 y11 (by omega) h1
    refine ⟨ns2, z4, z5, z6, z7, z8, z9, z10, z11, S2, ?_, h2⟩
    rw [fr_nx (by omega) q1, q2]
end
end K07

namespace K07
open PySem PySem.Spec L2 Mi
/-! ### small arrays -/
def U1 : MS := (sSet 1 (mLc (iRng (mCons (mCall M__law_pick (mCons (mV 0) (mCons (mC (.int 15)) mNil))) mNil)) (gN 4) tAll (mCall M__law_value (mCons (mV 0) mNil)) [4]))
def U2 : MS := (sIf (mB (m2 fEq (mCall M__law_pick (mCons (mV 0) (mCons (mC (.int 3)) mNil))) (mC (.int 1))))
  (sSet 1 (mLc (iSeq (mV 1)) (gN 13) tAll (mCall M__law_pick (mCons (mV 0) (mCons (mC (.int 2)) mNil))) [13]))
  sNil)
def U3 : MS := (sSet 2 (mB1 (f1L fList2) (mCons (mV 1) mNil)))
def U4 : MS := (sSet 3 (mCall M_array_of (mCons (mV 2) mNil)))
def U5 : MS := (sExpr (mM "list" fAppend (mV 2) (mCons (mC (.int 7)) mNil)))
def U6 : MS := (sIf (mOrT (mNotT (mB (mCall M__law_is_array (mCons (mV 3) (mCons (mCall M__law_runs (mCons (mV 1) mNil)) mNil))))) (mNotT (mB (mCall M__law_is_array (mCons (mCall M_array_of (mCons (mB1 (f1L fTuple) (mCons (mV 1) mNil)) mNil)) (mCons (mV 3) mNil))))))
  (sRet (mC (.bl false)))
  sNil)
def U7 : MS := (sFor (iRng (mCons (m2 fAdd (mC (.int 1)) (mCall M__law_pick (mCons (mV 0) (mCons (mC (.int 12)) mNil)))) mNil)) (gN 4) TT)
def U8 : MS := (sSet 12 (mCall M_same_arrays (mCons (mV 3) (mCons (mCall M_array_of (mCons (m2 fAdd (mB1 (f1L fList2) (mCons (mV 1) mNil)) (mSl (mV 1) (mPart (m2 fSub (mB1 (f1L fLen) (mCons (mV 1) mNil)) (mC (.int 1)))) mNoPart)) mNil)) mNil))))
def U9 : MS := (sIf (mOrT (mAndT (mB (m2 fIsN (mV 12) (mC (.bl true)))) (mB (m2 fIsN (mV 12) (mC (.bl false))))) (mB (m2 fNe (mV 12) (m2 fEq (mB1 (f1L fLen) (mCons (mV 1) mNil)) (mC (.int 0))))))
  (sRet (mC (.bl false)))
  sNil)
def U10 : MS := (sRet (m2 fIs (mCall M_same_arrays (mCons (mV 3) (mCons (mCall M_array_of (mCons (mV 1) mNil)) mNil))) (mC (.bl true))))
theorem small_eq : B__law_small = sSeq U1 (sSeq U2 (sSeq U3 (sSeq U4 (sSeq U5 (sSeq U6 (sSeq U7 (sSeq U8 (sSeq U9 U10)))))))) := (rfl)
section
variable {S : Sto} {p c : Nat} {ns : List Int} {x2 x3 x4 x5 x6 x7 x8 x9 x10 x11 x12 x13 : Option D} {r : Mi.Env}
theorem u1 (h : PoolOk S p) : ∃ (c : Nat) (ns : List Int) (S' : Sto), U1 [some (.obj p), none, none, none, none, none, none, none, none, none, none, none, none, none] S = .nx [some (.obj p), some (.obj c), none, none, none, none, none, none, none, none, none, none, none, none] S' ∧ SI S' p c ns ∧ Stp p S S' := by
  obtain ⟨w, S1, a1, a2, a3, _⟩ := pick h (m := 15) (by omega)
  have a1' : M__law_pick [.obj p, .int 15] S = .ok (nD w) S1 := a1
  obtain ⟨ns, S2, b1, b2, b3, b4⟩ := draw_range (p := p) (v := 4) (n := w) (S := S1) (env := [some (.obj p), none, none, none, none, none, none, none, none, none, none, none, none, none]) (vs := [4]) (e := (mCall M__law_value (mCons (mV 0) mNil))) a3.pool (by omega) (fun d S hS => by
    obtain ⟨v, S', c1, c2⟩ := value hS
    refine ⟨v, S', ?_, c2⟩
    show (mCall M__law_value (mCons (mV 0) mNil)) [some (.obj p), none, none, none, some d, none, none, none, none, none, none, none, none, none] S = _
    simp only [bind_ok, bind_ex, of_some, rs_ok, rs_ex, then_nx, then_rt, then_ex, then_bk, then_ct, mV0, mVs, mC_, m2_, m1_, mB_, kB_bl, mB1_, mNil_, mCons_, f1L_, f2L_, mTup_, mLst_, mCall_, mNotT_, mAndT_, mOrT_, mIf_, mAndV_, mOrV_, mNotV_, kAndV_bl, kOrV_bl, kNotV_bl, mSl_, mPart_, kPart_, mNoPart_, sSeq_, sSet_, sRet_, sIf_, sExpr_, sNil_, sBreak_, sCont_, e_lt, e_le, e_gt, e_ge, e_eqI, e_neI, e_eqS, e_neS, e_add, e_sub, List.set_cons_zero, List.set_cons_succ, kTu1, kTu2, kTu3, kTu4, kTu5, kLs0, kLs1, kLs2, kLs3, kLs4, kLs5, mM_, mM0_, sAsg_, sFor_, iRng_, iSeq_, c1])
  have hk : kRngI [nD w] S1 = .ok (itRng 0 w) S1 := by
    show kRngI [.int (w : Int)] S1 = _
    rw [kRng1 (by omega), Int.toNat_natCast]
  have hlt := a3.pool.lt
  refine ⟨S1.length, ns, S2, ?_, ⟨b4.pool, b2, by omega, by omega⟩, a3.trans b4⟩
  unfold U1
  simp only [bind_ok, bind_ex, of_some, rs_ok, rs_ex, then_nx, then_rt, then_ex, then_bk, then_ct, mV0, mVs, mC_, m2_, m1_, mB_, kB_bl, mB1_, mNil_, mCons_, f1L_, f2L_, mTup_, mLst_, mCall_, mNotT_, mAndT_, mOrT_, mIf_, mAndV_, mOrV_, mNotV_, kAndV_bl, kOrV_bl, kNotV_bl, mSl_, mPart_, kPart_, mNoPart_, sSeq_, sSet_, sRet_, sIf_, sExpr_, sNil_, sBreak_, sCont_, e_lt, e_le, e_gt, e_ge, e_eqI, e_neI, e_eqS, e_neS, e_add, e_sub, List.set_cons_zero, List.set_cons_succ, kTu1, kTu2, kTu3, kTu4, kTu5, kLs0, kLs1, kLs2, kLs3, kLs4, kLs5, mM_, mM0_, sAsg_, sFor_, iRng_, iSeq_, mLc_, a1', hk, b1]
theorem u2 (h : SI S p c ns) : ∃ (c' : Nat) (ns' : List Int) (S' : Sto), U2 [some (.obj p), some (.obj c), none, none, none, none, none, none, none, none, none, none, none, none] S = .nx [some (.obj p), some (.obj c'), none, none, none, none, none, none, none, none, none, none, none, none] S' ∧ SI S' p c' ns' := by
  obtain ⟨w, S1, a1, a2, a3, _⟩ := pick h.pool (m := 3) (by omega)
  have a1' : M__law_pick [.obj p, .int 3] S = .ok (nD w) S1 := a1
  have h1 := h.stp a3
  unfold U2
  by_cases hw : w = 1
  · have d1 : decide ((w : Int) = 1) = true := decide_eq_true (by omega)
    have h14 := h1.len
    obtain ⟨ms, S2, b1, b2, b3, b4⟩ := draw_list (p := p) (v := 13) (c := c) (S := S1) (env := [some (.obj p), some (.obj c), none, none, none, none, none, none, none, none, none, none, none, none]) (vs := [13]) (e := (mCall M__law_pick (mCons (mV 0) (mCons (mC (.int 2)) mNil)))) h1.pool h1.cells h1.ne (by rw [List.length_map]; omega) (fun d S hS => by
      obtain ⟨w2, S', c1, c2, c3, _⟩ := pick hS (m := 2) (by omega)
      have c1' : M__law_pick [.obj p, .int 2] S = .ok (nD w2) S' := c1
      refine ⟨(w2 : Int), S', ?_, c3⟩
      show (mCall M__law_pick (mCons (mV 0) (mCons (mC (.int 2)) mNil))) [some (.obj p), some (.obj c), none, none, none, none, none, none, none, none, none, none, none, some d] S = _
      simp only [bind_ok, bind_ex, of_some, rs_ok, rs_ex, then_nx, then_rt, then_ex, then_bk, then_ct, mV0, mVs, mC_, m2_, m1_, mB_, kB_bl, mB1_, mNil_, mCons_, f1L_, f2L_, mTup_, mLst_, mCall_, mNotT_, mAndT_, mOrT_, mIf_, mAndV_, mOrV_, mNotV_, kAndV_bl, kOrV_bl, kNotV_bl, mSl_, mPart_, kPart_, mNoPart_, sSeq_, sSet_, sRet_, sIf_, sExpr_, sNil_, sBreak_, sCont_, e_lt, e_le, e_gt, e_ge, e_eqI, e_neI, e_eqS, e_neS, e_add, e_sub, List.set_cons_zero, List.set_cons_succ, kTu1, kTu2, kTu3, kTu4, kTu5, kLs0, kLs1, kLs2, kLs3, kLs4, kLs5, mM_, mM0_, sAsg_, sFor_, iRng_, iSeq_, c1'])
    have hlt := h1.pool.lt
    have ks : kSeqI (.obj c) S1 = .ok (itLst (ns.map D.int).length c) S1 := kSeqL h1.cells
    rw [List.length_map] at b3
    refine ⟨S1.length, ms, S2, ?_, ⟨b4.pool, b2, by omega, by omega⟩⟩
    simp only [bind_ok, bind_ex, of_some, rs_ok, rs_ex, then_nx, then_rt, then_ex, then_bk, then_ct, mV0, mVs, mC_, m2_, m1_, mB_, kB_bl, mB1_, mNil_, mCons_, f1L_, f2L_, mTup_, mLst_, mCall_, mNotT_, mAndT_, mOrT_, mIf_, mAndV_, mOrV_, mNotV_, kAndV_bl, kOrV_bl, kNotV_bl, mSl_, mPart_, kPart_, mNoPart_, sSeq_, sSet_, sRet_, sIf_, sExpr_, sNil_, sBreak_, sCont_, e_lt, e_le, e_gt, e_ge, e_eqI, e_neI, e_eqS, e_neS, e_add, e_sub, List.set_cons_zero, List.set_cons_succ, kTu1, kTu2, kTu3, kTu4, kTu5, kLs0, kLs1, kLs2, kLs3, kLs4, kLs5, mM_, mM0_, sAsg_, sFor_, iRng_, iSeq_, mLc_, a1', d1, if_true, ks, b1]
  · have d1 : decide ((w : Int) = 1) = false := decide_eq_false (by omega)
    refine ⟨c, ns, S1, ?_, h1⟩
    simp only [bind_ok, bind_ex, of_some, rs_ok, rs_ex, then_nx, then_rt, then_ex, then_bk, then_ct, mV0, mVs, mC_, m2_, m1_, mB_, kB_bl, mB1_, mNil_, mCons_, f1L_, f2L_, mTup_, mLst_, mCall_, mNotT_, mAndT_, mOrT_, mIf_, mAndV_, mOrV_, mNotV_, kAndV_bl, kOrV_bl, kNotV_bl, mSl_, mPart_, kPart_, mNoPart_, sSeq_, sSet_, sRet_, sIf_, sExpr_, sNil_, sBreak_, sCont_, e_lt, e_le, e_gt, e_ge, e_eqI, e_neI, e_eqS, e_neS, e_add, e_sub, List.set_cons_zero, List.set_cons_succ, kTu1, kTu2, kTu3, kTu4, kTu5, kLs0, kLs1, kLs2, kLs3, kLs4, kLs5, mM_, mM0_, sAsg_, sFor_, iRng_, iSeq_, a1', d1, Bool.false_eq_true, if_false]
theorem u345 (h : SI S p c ns) : ∃ (h2 : Nat) (S' : Sto), sSeq U3 (sSeq U4 U5) (some (.obj p) :: some (.obj c) :: x2 :: x3 :: r) S = .nx (some (.obj p) :: some (.obj c) :: some (.obj h2) :: some (arr ns) :: r) S' ∧ SI S' p c ns := by
  have h14 := h.len
  have hfl : fList2 (.obj c) S = some (.obj S.length, S ++ [.lst (ns.map D.int)]) := by
    show (lstAt S c).map _ = _
    rw [lst_at h.cells]; rfl
  obtain ⟨X, a1⟩ := array_of (S := S ++ [.lst (ns.map D.int)]) (d := .obj S.length) (ns := ns) (.inr ⟨_, rfl, last0⟩) (by omega)
  have hh : (S ++ [MO.lst (ns.map D.int)] ++ X)[S.length]? = some (.lst (ns.map D.int)) := get_app last0
  have happ : fAppend (.obj S.length) [.int 7] (S ++ [.lst (ns.map D.int)] ++ X) = some (.non, (S ++ [MO.lst (ns.map D.int)] ++ X).set S.length (MO.lst (ns.map D.int ++ [D.int 7]))) := e_append hh (by rw [sizeLine_eq, List.length_map]; omega)
  have hc := get_lt h.cells
  have hp := h.pool.lt
  have hs : SI (S ++ [.lst (ns.map D.int)] ++ X) p c ns := (h.app).app
  refine ⟨S.length, (S ++ [MO.lst (ns.map D.int)] ++ X).set S.length (MO.lst (ns.map D.int ++ [D.int 7])), ?_, ?_, ?_, h.ne, h.len⟩
  · unfold U3 U4 U5
    simp only [bind_ok, bind_ex, of_some, rs_ok, rs_ex, then_nx, then_rt, then_ex, then_bk, then_ct, mV0, mVs, mC_, m2_, m1_, mB_, kB_bl, mB1_, mNil_, mCons_, f1L_, f2L_, mTup_, mLst_, mCall_, mNotT_, mAndT_, mOrT_, mIf_, mAndV_, mOrV_, mNotV_, kAndV_bl, kOrV_bl, kNotV_bl, mSl_, mPart_, kPart_, mNoPart_, sSeq_, sSet_, sRet_, sIf_, sExpr_, sNil_, sBreak_, sCont_, e_lt, e_le, e_gt, e_ge, e_eqI, e_neI, e_eqS, e_neS, e_add, e_sub, List.set_cons_zero, List.set_cons_succ, kTu1, kTu2, kTu3, kTu4, kTu5, kLs0, kLs1, kLs2, kLs3, kLs4, kLs5, mM_, mM0_, sAsg_, sFor_, iRng_, iSeq_, hfl, a1, tyL hh, if_true, happ]
  · obtain ⟨ps, g1, g2⟩ := hs.pool
    exact ⟨ps, by rw [List.getElem?_set_ne (by omega)]; exact g1, g2⟩
  · rw [List.getElem?_set_ne (by omega)]; exact hs.cells
theorem u6 (h : SI S p c ns) : ∃ X : Sto, U6 (some (.obj p) :: some (.obj c) :: x2 :: some (arr ns) :: r) S = .nx (some (.obj p) :: some (.obj c) :: x2 :: some (arr ns) :: r) (S ++ X) := by
  have h14 := h.len
  have hl := cellsR_len ns
  obtain ⟨X, a1⟩ := law_runs h.cells (by omega)
  have h1 := h.app (X := X)
  have htu : fTuple (.obj c) (S ++ X) = some (.tup (ns.map D.int), S ++ X) := by
    show (lstAt _ c).map _ = _
    rw [lst_at h1.cells]; rfl
  obtain ⟨X2, a2⟩ := array_of (S := S ++ X) (d := .tup (ns.map D.int)) (ns := ns) (.inl rfl) (by omega)
  refine ⟨X ++ X2, ?_⟩
  rw [← List.append_assoc]
  unfold U6
  simp only [bind_ok, bind_ex, of_some, rs_ok, rs_ex, then_nx, then_rt, then_ex, then_bk, then_ct, mV0, mVs, mC_, m2_, m1_, mB_, kB_bl, mB1_, mNil_, mCons_, f1L_, f2L_, mTup_, mLst_, mCall_, mNotT_, mAndT_, mOrT_, mIf_, mAndV_, mOrV_, mNotV_, kAndV_bl, kOrV_bl, kNotV_bl, mSl_, mPart_, kPart_, mNoPart_, sSeq_, sSet_, sRet_, sIf_, sExpr_, sNil_, sBreak_, sCont_, e_lt, e_le, e_gt, e_ge, e_eqI, e_neI, e_eqS, e_neS, e_add, e_sub, List.set_cons_zero, List.set_cons_succ, kTu1, kTu2, kTu3, kTu4, kTu5, kLs0, kLs1, kLs2, kLs3, kLs4, kLs5, mM_, mM0_, sAsg_, sFor_, iRng_, iSeq_, a1, law_is_array (S := S ++ X) (n := (ns.length : Int)) (r := cellsR ns) (by omega), law_is_array (S := S ++ X ++ X2) (n := (ns.length : Int)) (r := cellsR ns) (by omega), Bool.not_true, Bool.false_eq_true, if_false, htu, a2]
theorem u7 (h : SI S p c ns) : ∃ (ns' : List Int) (y4 y5 y6 y7 y8 y9 y10 y11 : Option D) (S' : Sto), U7 [some (.obj p), some (.obj c), x2, some (arr ns), x4, x5, x6, x7, x8, x9, x10, x11, x12, x13] S = .nx [some (.obj p), some (.obj c), x2, some (arr ns'), y4, y5, y6, y7, y8, y9, y10, y11, x12, x13] S' ∧ SI S' p c ns' := by
  obtain ⟨w, S1, a1, a2, a3, _⟩ := pick h.pool (m := 12) (by omega)
  have a1' : M__law_pick [.obj p, .int 12] S = .ok (nD w) S1 := a1
  obtain ⟨ns', y4, y5, y6, y7, y8, y9, y10, y11, S2, b1, b2⟩ := turns (p := p) (c := c) (x2 := x2) (x12 := x12) (x13 := x13) (1 + w) 0 (1 + w) S1 ns x4 x5 x6 x7 x8 x9 x10 x11 (by omega) (h.stp a3)
  have hk : kRngI [.int (1 + (w : Int))] S1 = .ok (itRng 0 (1 + w)) S1 := by
    rw [kRng1 (by omega), show (1 + (w : Int)).toNat = 1 + w by omega]
  have en : ∀ n, (itRng 0 n).n = n := fun _ => (rfl)
  refine ⟨ns', y4, y5, y6, y7, y8, y9, y10, y11, S2, ?_, b2⟩
  unfold U7
  simp only [bind_ok, bind_ex, of_some, rs_ok, rs_ex, then_nx, then_rt, then_ex, then_bk, then_ct, mV0, mVs, mC_, m2_, m1_, mB_, kB_bl, mB1_, mNil_, mCons_, f1L_, f2L_, mTup_, mLst_, mCall_, mNotT_, mAndT_, mOrT_, mIf_, mAndV_, mOrV_, mNotV_, kAndV_bl, kOrV_bl, kNotV_bl, mSl_, mPart_, kPart_, mNoPart_, sSeq_, sSet_, sRet_, sIf_, sExpr_, sNil_, sBreak_, sCont_, e_lt, e_le, e_gt, e_ge, e_eqI, e_neI, e_eqS, e_neS, e_add, e_sub, List.set_cons_zero, List.set_cons_succ, kTu1, kTu2, kTu3, kTu4, kTu5, kLs0, kLs1, kLs2, kLs3, kLs4, kLs5, mM_, mM0_, sAsg_, sFor_, iRng_, iSeq_, a1', hk, en, b1]
/-- the cells, the last one twice -/
def twice (ns : List Int) : List Int := ns ++ ns.drop (ns.length - 1)
theorem cut_last (ns : List Int) : cutD (ns.map D.int) (some ((ns.length : Int) - 1)) none = (ns.drop (ns.length - 1)).map D.int := by
  cases ns with
  | nil => rfl
  | cons x ns =>
    rw [show ((x :: ns).length : Int) - 1 = (((x :: ns).length - 1 : Nat) : Int) by rw [List.length_cons]; omega, cut_lo, List.map_drop]
theorem u8 (h : SI S p c ns) : ∃ X : Sto, U8 (some (.obj p) :: some (.obj c) :: x2 :: some (arr ns) :: x4 :: x5 :: x6 :: x7 :: x8 :: x9 :: x10 :: x11 :: x12 :: r) S = .nx (some (.obj p) :: some (.obj c) :: x2 :: some (arr ns) :: x4 :: x5 :: x6 :: x7 :: x8 :: x9 :: x10 :: x11 :: some (.bl (sameB ns (twice ns))) :: r) (S ++ X) := by
  have h14 := h.len
  have hfl : fList2 (.obj c) S = some (.obj S.length, S ++ [.lst (ns.map D.int)]) := by
    show (lstAt S c).map _ = _
    rw [lst_at h.cells]; rfl
  have h1 := h.app (X := [.lst (ns.map D.int)])
  generalize hS1 : S ++ [MO.lst (ns.map D.int)] = S1 at hfl h1
  have hl1 : S1[S.length]? = some (.lst (ns.map D.int)) := by rw [← hS1]; exact last0
  have hsl : fSl (.obj c) (some ((ns.length : Int) - 1)) none S1 = some (.obj S1.length, S1 ++ [.lst ((ns.drop (ns.length - 1)).map D.int)]) := by
    show (lstAt S1 c).map _ = _
    rw [lst_at h1.cells, ← cut_last]; rfl
  have hadd : fAdd (.obj S.length) (.obj S1.length) (S1 ++ [.lst ((ns.drop (ns.length - 1)).map D.int)]) = some (.obj (S1 ++ [MO.lst ((ns.drop (ns.length - 1)).map D.int)]).length, S1 ++ [.lst ((ns.drop (ns.length - 1)).map D.int)] ++ [.lst ((twice ns).map D.int)]) := by
    have e : twice ns = ns ++ ns.drop (ns.length - 1) := rfl
    unfold fAdd
    simp only [get_app (X := [MO.lst ((ns.drop (ns.length - 1)).map D.int)]) hl1, last0]
    rw [if_pos (by rw [sizeLine_eq, List.length_map, List.length_map, List.length_drop]; omega), e, List.map_append]
  obtain ⟨X, a1⟩ := array_of (S := S1 ++ [.lst ((ns.drop (ns.length - 1)).map D.int)] ++ [.lst ((twice ns).map D.int)]) (d := .obj (S1 ++ [MO.lst ((ns.drop (ns.length - 1)).map D.int)]).length) (ns := twice ns) (.inr ⟨_, rfl, last0⟩) (by unfold twice; rw [List.length_append, List.length_drop]; omega)
  refine ⟨[.lst (ns.map D.int)] ++ ([.lst ((ns.drop (ns.length - 1)).map D.int)] ++ ([.lst ((twice ns).map D.int)] ++ X)), ?_⟩
  rw [← List.append_assoc, hS1, ← List.append_assoc, ← List.append_assoc]
  unfold U8
  simp only [bind_ok, bind_ex, of_some, rs_ok, rs_ex, then_nx, then_rt, then_ex, then_bk, then_ct, mV0, mVs, mC_, m2_, m1_, mB_, kB_bl, mB1_, mNil_, mCons_, f1L_, f2L_, mTup_, mLst_, mCall_, mNotT_, mAndT_, mOrT_, mIf_, mAndV_, mOrV_, mNotV_, kAndV_bl, kOrV_bl, kNotV_bl, mSl_, mPart_, kPart_, mNoPart_, sSeq_, sSet_, sRet_, sIf_, sExpr_, sNil_, sBreak_, sCont_, e_lt, e_le, e_gt, e_ge, e_eqI, e_neI, e_eqS, e_neS, e_add, e_sub, List.set_cons_zero, List.set_cons_succ, kTu1, kTu2, kTu3, kTu4, kTu5, kLs0, kLs1, kLs2, kLs3, kLs4, kLs5, mM_, mM0_, sAsg_, sFor_, iRng_, iSeq_, hfl, h1.lenD, hsl, hadd, a1, e_same (ns := ns) (ms := twice ns) (by omega) (by unfold twice; rw [List.length_append, List.length_drop]; omega)]
theorem same_twice (ns : List Int) : sameB ns (twice ns) = decide ((ns.length : Int) = 0) := by
  unfold sameB twice
  cases ns with
  | nil => rfl
  | cons x ns =>
    rw [decide_eq_false (by rw [List.length_append, List.length_drop, List.length_cons]; omega), decide_eq_false (by rw [List.length_cons]; omega)]
theorem u9 (h : SI S p c ns) : U9 (some (.obj p) :: some (.obj c) :: x2 :: x3 :: x4 :: x5 :: x6 :: x7 :: x8 :: x9 :: x10 :: x11 :: some (.bl (sameB ns (twice ns))) :: r) S = .nx (some (.obj p) :: some (.obj c) :: x2 :: x3 :: x4 :: x5 :: x6 :: x7 :: x8 :: x9 :: x10 :: x11 :: some (.bl (sameB ns (twice ns))) :: r) S := by
  rw [same_twice]
  unfold U9
  cases hb : decide ((ns.length : Int) = 0) with
  | true =>
    simp only [bind_ok, bind_ex, of_some, rs_ok, rs_ex, then_nx, then_rt, then_ex, then_bk, then_ct, mV0, mVs, mC_, m2_, m1_, mB_, kB_bl, mB1_, mNil_, mCons_, f1L_, f2L_, mTup_, mLst_, mCall_, mNotT_, mAndT_, mOrT_, mIf_, mAndV_, mOrV_, mNotV_, kAndV_bl, kOrV_bl, kNotV_bl, mSl_, mPart_, kPart_, mNoPart_, sSeq_, sSet_, sRet_, sIf_, sExpr_, sNil_, sBreak_, sCont_, e_lt, e_le, e_gt, e_ge, e_eqI, e_neI, e_eqS, e_neS, e_add, e_sub, List.set_cons_zero, List.set_cons_succ, kTu1, kTu2, kTu3, kTu4, kTu5, kLs0, kLs1, kLs2, kLs3, kLs4, kLs5, mM_, mM0_, sAsg_, sFor_, iRng_, iSeq_, e_isn, h.lenD, hb, e_neB, decide_true, Bool.not_true, Bool.false_eq_true, if_false]
  | false =>
    have d1 : decide (false = true) = false := rfl
    simp only [bind_ok, bind_ex, of_some, rs_ok, rs_ex, then_nx, then_rt, then_ex, then_bk, then_ct, mV0, mVs, mC_, m2_, m1_, mB_, kB_bl, mB1_, mNil_, mCons_, f1L_, f2L_, mTup_, mLst_, mCall_, mNotT_, mAndT_, mOrT_, mIf_, mAndV_, mOrV_, mNotV_, kAndV_bl, kOrV_bl, kNotV_bl, mSl_, mPart_, kPart_, mNoPart_, sSeq_, sSet_, sRet_, sIf_, sExpr_, sNil_, sBreak_, sCont_, e_lt, e_le, e_gt, e_ge, e_eqI, e_neI, e_eqS, e_neS, e_add, e_sub, List.set_cons_zero, List.set_cons_succ, kTu1, kTu2, kTu3, kTu4, kTu5, kLs0, kLs1, kLs2, kLs3, kLs4, kLs5, mM_, mM0_, sAsg_, sFor_, iRng_, iSeq_, e_isn, h.lenD, hb, e_neB, d1, decide_true, decide_false, Bool.not_true, Bool.not_false, if_true, Bool.false_eq_true, if_false]
theorem u10 (h : SI S p c ns) : ∃ X : Sto, U10 (some (.obj p) :: some (.obj c) :: x2 :: some (arr ns) :: r) S = .rt (.bl true) (S ++ X) := by
  have h14 := h.len
  obtain ⟨X, a1⟩ := array_of (S := S) (d := .obj c) (ns := ns) (.inr ⟨_, rfl, h.cells⟩) (by omega)
  refine ⟨X, ?_⟩
  unfold U10
  simp only [bind_ok, bind_ex, of_some, rs_ok, rs_ex, then_nx, then_rt, then_ex, then_bk, then_ct, mV0, mVs, mC_, m2_, m1_, mB_, kB_bl, mB1_, mNil_, mCons_, f1L_, f2L_, mTup_, mLst_, mCall_, mNotT_, mAndT_, mOrT_, mIf_, mAndV_, mOrV_, mNotV_, kAndV_bl, kOrV_bl, kNotV_bl, mSl_, mPart_, kPart_, mNoPart_, sSeq_, sSet_, sRet_, sIf_, sExpr_, sNil_, sBreak_, sCont_, e_lt, e_le, e_gt, e_ge, e_eqI, e_neI, e_eqS, e_neS, e_add, e_sub, List.set_cons_zero, List.set_cons_succ, kTu1, kTu2, kTu3, kTu4, kTu5, kLs0, kLs1, kLs2, kLs3, kLs4, kLs5, mM_, mM0_, sAsg_, sFor_, iRng_, iSeq_, a1, e_same (S := S ++ X) (ns := ns) (ms := ns) (by omega) (by omega), e_is, sameB_self, decide_true]
end
theorem law_small {S : Sto} {p : Nat} (h : PoolOk S p) : ∃ S' : Sto, M__law_small [.obj p] S = .ok (.bl true) S' ∧ PoolOk S' p := by
  obtain ⟨c, ns, S1, s1, h1, _⟩ := u1 h
  obtain ⟨c, ns, S2, s2, h2⟩ := u2 h1
  obtain ⟨h3, S3, s3, i3⟩ := u345 (x2 := none) (x3 := none) (r := [none, none, none, none, none, none, none, none, none, none]) h2
  obtain ⟨X4, s4⟩ := u6 (x2 := some (.obj h3)) (r := [none, none, none, none, none, none, none, none, none, none]) i3
  obtain ⟨ms, y4, y5, y6, y7, y8, y9, y10, y11, S5, s5, i5⟩ := u7 (x2 := some (.obj h3)) (x4 := none) (x5 := none) (x6 := none) (x7 := none) (x8 := none) (x9 := none) (x10 := none) (x11 := none) (x12 := none) (x13 := none) (i3.app (X := X4))
  obtain ⟨X6, s6⟩ := u8 (x2 := some (.obj h3)) (x4 := y4) (x5 := y5) (x6 := y6) (x7 := y7) (x8 := y8) (x9 := y9) (x10 := y10) (x11 := y11) (x12 := none) (r := [none]) i5
  have i6 := i5.app (X := X6)
  have s7 := u9 (x2 := some (.obj h3)) (x3 := some (arr ms)) (x4 := y4) (x5 := y5) (x6 := y6) (x7 := y7) (x8 := y8) (x9 := y9) (x10 := y10) (x11 := y11) (r := [none]) i6
  obtain ⟨X8, s8⟩ := u10 (x2 := some (.obj h3)) (r := [y4, y5, y6, y7, y8, y9, y10, y11, some (.bl (sameB ms (twice ms))), none]) i6
  refine ⟨S5 ++ X6 ++ X8, ?_, (i6.app (X := X8)).pool⟩
  have hb : B__law_small [some (.obj p), none, none, none, none, none, none, none, none, none, none, none, none, none] S = .rt (.bl true) (S5 ++ X6 ++ X8) := by
    have assoc : ∀ (k : MS) (env : Mi.Env) (S : Sto), sSeq U3 (sSeq U4 (sSeq U5 k)) env S = sSeq (sSeq U3 (sSeq U4 U5)) k env S := fun k env S => by
      have tt : ∀ (o : RS) (f g : Mi.Env → Sto → RS), (o.then f).then g = o.then fun e s => (f e s).then g := fun o f g => by cases o <;> rfl
      rw [sSeq_, sSeq_, sSeq_, tt]
      congr 1
      funext e s
      rw [sSeq_, sSeq_, tt]
      congr 1
    rw [small_eq, sSeq_, s1, then_nx, sSeq_, s2, then_nx, assoc, sSeq_, s3, then_nx, sSeq_, s4, then_nx, sSeq_, s5, then_nx, sSeq_, s6, then_nx, sSeq_, s7, then_nx, s8]
  unfold M__law_small mFn
  simp only [List.length_cons, List.length_nil, Nat.reduceAdd, if_true, List.map_cons, List.map_nil, List.replicate, List.cons_append, List.nil_append, Nat.reduceSub]
  rw [hb]
  rfl
end K07

namespace K07
open PySem PySem.Spec L2 Mi
/-! ### marks -/
theorem max_mark {ms : List Int} {z : Int} (h : ∃ m ∈ ms, m ≤ z) : ∃ m ∈ ms, m ≤ z ∧ ∀ m' ∈ ms, m' ≤ z → m' ≤ m := by
  induction ms with
  | nil => obtain ⟨m, hm, _⟩ := h; cases hm
  | cons x ms ih =>
    by_cases h2 : ∃ m ∈ ms, m ≤ z
    · obtain ⟨m, m1, m2, m3⟩ := ih h2
      by_cases hx : x ≤ z ∧ m ≤ x
      · refine ⟨x, List.mem_cons_self .., hx.1, fun m' hm' hz => ?_⟩
        rcases List.mem_cons.mp hm' with rfl | hm'
        · exact Int.le_refl _
        · exact Int.le_trans (m3 m' hm' hz) hx.2
      · refine ⟨m, List.mem_cons_of_mem _ m1, m2, fun m' hm' hz => ?_⟩
        rcases List.mem_cons.mp hm' with rfl | hm'
        · omega
        · exact m3 m' hm' hz
    · obtain ⟨m, hm, hz⟩ := h
      have hx : x ≤ z := by
        rcases List.mem_cons.mp hm with rfl | hm
        · exact hz
        · exact absurd ⟨m, hm, hz⟩ h2
      refine ⟨x, List.mem_cons_self .., hx, fun m' hm' hz' => ?_⟩
      rcases List.mem_cons.mp hm' with rfl | hm'
      · exact Int.le_refl _
      · exact absurd ⟨m', hm', hz'⟩ h2
abbrev mp (f : Int → Int) (ms : List Int) : Row := ms.map fun m => (m, f m)
theorem val_mark {f : Int → Int} : ∀ {ms : List Int} {d z m : Int}, ms.Pairwise (· ≤ ·) → m ∈ ms → m ≤ z → (∀ m' ∈ ms, m' ≤ z → m' ≤ m) → val d (mp f ms) z = f m
  | [], d, z, m, _, h, _, _ => by cases h
  | x :: ms, d, z, m, hp, h, h1, h2 => by
    obtain ⟨p1, p2⟩ := List.pairwise_cons.mp hp
    have hxm : x ≤ m := by
      rcases List.mem_cons.mp h with rfl | h
      · exact Int.le_refl _
      · exact p1 m h
    show (if x ≤ z then val (f x) (mp f ms) z else d) = f m
    rw [if_pos (by omega)]
    by_cases hm : m ∈ ms
    · exact val_mark p2 hm h1 fun m' hm' => h2 m' (List.mem_cons_of_mem _ hm')
    · have e : m = x := by
        rcases List.mem_cons.mp h with e | h
        · exact e
        · exact absurd h hm
      subst e
      refine val_low fun p hp2 => ?_
      obtain ⟨y, hy, rfl⟩ := List.mem_map.mp hp2
      show z < y
      rcases Int.lt_or_le z y with a | a
      · exact a
      · have b1 := h2 y (List.mem_cons_of_mem _ hy) a
        have b2 := p1 y hy
        have : y = m := by omega
        exact absurd (this ▸ hy) hm
theorem srt_mp {f : Int → Int} : ∀ {ms : List Int} {x : Int}, (x :: ms).Pairwise (· ≤ ·) → Srt (x, f x) (mp f ms)
  | [], x, _ => True.intro
  | y :: ms, x, h => by
    obtain ⟨p1, p2⟩ := List.pairwise_cons.mp h
    exact ⟨p1 y (List.mem_cons_self ..), fun e => by have e' : x = y := e; rw [e'], srt_mp p2⟩
/-- rows by marks: the one form of what f tells -/
theorem marks_ok {f : Int → Int} {ms : List Int} {n : Int} {r : Row} (hn : 0 < n) (hc : Canon n r) (hs : ms.Pairwise (· ≤ ·)) (h0 : (0 : Int) ∈ ms) (hnn : ∀ m ∈ ms, 0 ≤ m) (hf : ∀ z, 0 ≤ z → z < n → val 0 r z = f z) (hm : ∀ z m, 0 ≤ z → z < n → m ∈ ms → m ≤ z → (∀ m' ∈ ms, m' ≤ z → m' ≤ m) → f z = f m) : jr0 n (mp f ms) = r := by
  cases ms with
  | nil => cases h0
  | cons x ms =>
    have hx : x = 0 := by
      have a := hnn x (List.mem_cons_self ..)
      rcases List.mem_cons.mp h0 with e | e
      · exact e.symm
      · have := (List.pairwise_cons.mp hs).1 0 e; omega
    obtain ⟨c1, c2⟩ := jr0_ok (n := n) (p := (x, f x)) (r := mp f ms) hn hx (srt_mp hs)
    refine canon_uniq c1 hc fun z z0 z1 => ?_
    have e : val 0 (jr0 n (mp f (x :: ms))) z = val 0 (mp f (x :: ms)) z := c2 z z0 z1
    obtain ⟨m, m1, m2, m3⟩ := max_mark (ms := x :: ms) (z := z) ⟨0, h0, z0⟩
    rw [e, val_mark hs m1 m2 m3, hf z z0 z1, hm z m z0 z1 m1 m2 m3]
theorem marks_nil {f : Int → Int} {ms : List Int} (hs : ms.Pairwise (· ≤ ·)) (hnn : ∀ m ∈ ms, 0 ≤ m) : jr0 0 (mp f ms) = [] := by
  cases ms with
  | nil => rfl
  | cons x ms => exact jr0_nil (p := (x, f x)) (hnn x (List.mem_cons_self ..)) (srt_mp hs)
/-! the law's step -/
def RWB : MS := (sIf (mAndT (mB (m2 fLt (mV 5) (mV 0))) (mOrT (mB (m2 fEq (mB1 (f1L fLen) (mCons (mV 4) mNil)) (mC (.int 0)))) (mB (m2 fNe (m2 fIx (m2 fIx (mV 4) (m2 fSub (mB1 (f1L fLen) (mCons (mV 4) mNil)) (mC (.int 1)))) (mC (.int 1))) (mV 6)))))
  (sExpr (mM "list" fAppend (mV 4) (mCons (mTup (mCons (mV 5) (mCons (mV 6) mNil))) mNil)))
  sNil)
theorem rwb_step {S : Sto} {n m v : Int} {q : Nat} {x1 x2 x3 : Option D} {acc : Row} (hq : S[q]? = some (.lst (acc.map prD))) (hl : acc.length < 900000) : RWB [some (.int n), x1, x2, x3, some (.obj q), some (.int m), some (.int v)] S =
    .nx [some (.int n), x1, x2, x3, some (.obj q), some (.int m), some (.int v)] (if m < n ∧ (∀ a, acc.getLast? = some a → a.2 ≠ v) then S.set q (.lst ((acc ++ [(m, v)]).map prD)) else S) := by
  have hlen : fLen (.obj q) S = some (.int (acc.length : Int), S) := by rw [e_lenL hq, List.length_map]
  have happ : fAppend (.obj q) [.tup [.int m, .int v]] S = some (.non, S.set q (.lst ((acc ++ [(m, v)]).map prD))) := by
    rw [e_append hq (by rw [sizeLine_eq, List.length_map]; omega), List.map_append]; rfl
  unfold RWB
  by_cases h1 : m < n
  · have d1 : decide (m < n) = true := decide_eq_true h1
    cases hg : acc.getLast? with
    | none =>
      have : acc = [] := List.getLast?_eq_none_iff.mp hg
      subst this
      rw [if_pos ⟨h1, fun q z => by cases z⟩]
      have d2 : decide ((([] : Row).length : Int) = 0) = true := rfl
      simp only [bind_ok, bind_ex, of_some, rs_ok, rs_ex, then_nx, then_rt, then_ex, then_bk, then_ct, mV0, mVs, mC_, m2_, m1_, mB_, kB_bl, mB1_, mNil_, mCons_, f1L_, f2L_, mTup_, mLst_, mCall_, mNotT_, mAndT_, mOrT_, mIf_, mAndV_, mOrV_, mNotV_, kAndV_bl, kOrV_bl, kNotV_bl, mSl_, mPart_, kPart_, mNoPart_, sSeq_, sSet_, sRet_, sIf_, sExpr_, sNil_, sBreak_, sCont_, e_lt, e_le, e_gt, e_ge, e_eqI, e_neI, e_eqS, e_neS, e_add, e_sub, List.set_cons_zero, List.set_cons_succ, kTu1, kTu2, kTu3, kTu4, kTu5, kLs0, kLs1, kLs2, kLs3, kLs4, kLs5, mM_, mM0_, sAsg_, sFor_, iRng_, iSeq_, d1, if_true, hlen, d2, tyL hq, happ]
    | some a =>
      have hne : acc ≠ [] := by intro z; subst z; cases hg
      have hpos := List.length_pos_iff.mpr hne
      have d2 : decide ((acc.length : Int) = 0) = false := decide_eq_false (by omega)
      have hix : fIx (.obj q) (.int ((acc.length : Int) - 1)) S = some (prD a, S) := by
        rw [show (acc.length : Int) - 1 = ((acc.length - 1 : Nat) : Int) by omega]
        exact e_ixL hq (by rw [List.getElem?_map, ← List.getLast?_eq_getElem?, hg]; rfl)
      by_cases h2 : a.2 = v
      · have d3 : decide (a.2 = v) = true := decide_eq_true h2
        rw [if_neg (fun z => z.2 a rfl h2)]
        simp only [bind_ok, bind_ex, of_some, rs_ok, rs_ex, then_nx, then_rt, then_ex, then_bk, then_ct, mV0, mVs, mC_, m2_, m1_, mB_, kB_bl, mB1_, mNil_, mCons_, f1L_, f2L_, mTup_, mLst_, mCall_, mNotT_, mAndT_, mOrT_, mIf_, mAndV_, mOrV_, mNotV_, kAndV_bl, kOrV_bl, kNotV_bl, mSl_, mPart_, kPart_, mNoPart_, sSeq_, sSet_, sRet_, sIf_, sExpr_, sNil_, sBreak_, sCont_, e_lt, e_le, e_gt, e_ge, e_eqI, e_neI, e_eqS, e_neS, e_add, e_sub, List.set_cons_zero, List.set_cons_succ, kTu1, kTu2, kTu3, kTu4, kTu5, kLs0, kLs1, kLs2, kLs3, kLs4, kLs5, mM_, mM0_, sAsg_, sFor_, iRng_, iSeq_, d1, if_true, hlen, d2, Bool.false_eq_true, if_false, hix, e_p1, d3, Bool.not_true]
      · have d3 : decide (a.2 = v) = false := decide_eq_false h2
        rw [if_pos ⟨h1, fun q' z => by cases z; exact h2⟩]
        simp only [bind_ok, bind_ex, of_some, rs_ok, rs_ex, then_nx, then_rt, then_ex, then_bk, then_ct, mV0, mVs, mC_, m2_, m1_, mB_, kB_bl, mB1_, mNil_, mCons_, f1L_, f2L_, mTup_, mLst_, mCall_, mNotT_, mAndT_, mOrT_, mIf_, mAndV_, mOrV_, mNotV_, kAndV_bl, kOrV_bl, kNotV_bl, mSl_, mPart_, kPart_, mNoPart_, sSeq_, sSet_, sRet_, sIf_, sExpr_, sNil_, sBreak_, sCont_, e_lt, e_le, e_gt, e_ge, e_eqI, e_neI, e_eqS, e_neS, e_add, e_sub, List.set_cons_zero, List.set_cons_succ, kTu1, kTu2, kTu3, kTu4, kTu5, kLs0, kLs1, kLs2, kLs3, kLs4, kLs5, mM_, mM0_, sAsg_, sFor_, iRng_, iSeq_, d1, if_true, hlen, d2, Bool.false_eq_true, if_false, hix, e_p1, d3, Bool.not_false, tyL hq, happ]
  · have d1 : decide (m < n) = false := decide_eq_false h1
    rw [if_neg (fun z => h1 z.1)]
    simp only [bind_ok, bind_ex, of_some, rs_ok, rs_ex, then_nx, then_rt, then_ex, then_bk, then_ct, mV0, mVs, mC_, m2_, m1_, mB_, kB_bl, mB1_, mNil_, mCons_, f1L_, f2L_, mTup_, mLst_, mCall_, mNotT_, mAndT_, mOrT_, mIf_, mAndV_, mOrV_, mNotV_, kAndV_bl, kOrV_bl, kNotV_bl, mSl_, mPart_, kPart_, mNoPart_, sSeq_, sSet_, sRet_, sIf_, sExpr_, sNil_, sBreak_, sCont_, e_lt, e_le, e_gt, e_ge, e_eqI, e_neI, e_eqS, e_neS, e_add, e_sub, List.set_cons_zero, List.set_cons_succ, kTu1, kTu2, kTu3, kTu4, kTu5, kLs0, kLs1, kLs2, kLs3, kLs4, kLs5, mM_, mM0_, sAsg_, sFor_, iRng_, iSeq_, d1, Bool.false_eq_true, if_false]
/-- all but the object q stands -/
structure But (q : Nat) (S S' : Sto) : Prop where
  len : S'.length = S.length
  old : ∀ i, i ≠ q → S'[i]? = S[i]?
theorem But.refl {q : Nat} {S : Sto} : But q S S := ⟨rfl, fun _ _ => rfl⟩
theorem But.trans {q : Nat} {S S1 S2 : Sto} (a : But q S S1) (b : But q S1 S2) : But q S S2 := ⟨b.len.trans a.len, fun i h => (b.old i h).trans (a.old i h)⟩
theorem But.set {q : Nat} {S : Sto} {x : MO} : But q S (S.set q x) := ⟨List.length_set, fun i h => List.getElem?_set_ne (Ne.symm h)⟩
/-- marks walked: vf tells the value at a mark, by what the turn does first -/
theorem rwb_loop {n : Int} {q k : Nat} {x1 x2 : Option D} {ms : List Int} {f : Int → Int} {B : MS} {S0 : Sto} (hqk : k ≠ q)
    (hB : ∀ (S : Sto) (acc : Row) (m : Int) (y3 y6 : Option D), But q S0 S → S[q]? = some (.lst (acc.map prD)) → m ∈ ms → ∃ y3' : Option D, B [some (.int n), x1, x2, y3, some (.obj q), some (.int m), y6] S = RWB [some (.int n), x1, x2, y3', some (.obj q), some (.int m), some (.int (f m))] S)
    (hk : S0[k]? = some (.lst (ms.map D.int))) (hms : ms.length < 800000) : ∀ (suf pre : List Int) (acc : Row) (S : Sto) (y3 y5 y6 : Option D), ms = pre ++ suf → acc.length ≤ pre.length → But q S0 S → S[q]? = some (.lst (acc.map prD)) → ∃ (z3 z5 z6 : Option D) (S' : Sto),
    forI (itLst ms.length k) (gN 5) B suf.length pre.length [some (.int n), x1, x2, y3, some (.obj q), y5, y6] S = .nx [some (.int n), x1, x2, z3, some (.obj q), z5, z6] S' ∧ S'[q]? = some (.lst ((acc ++ jrA n acc.getLast? (mp f suf)).map prD)) ∧ But q S0 S'
  | [], pre, acc, S, y3, y5, y6, he, ha, hS, hq => by
    refine ⟨y3, y5, y6, S, ?_, ?_, hS⟩
    · have : pre.length = (ms.map D.int).length := by rw [he]; simp
      rw [this, fl_end ((hS.old k hqk).trans hk)]
    · rw [show mp f [] = [] from rfl, jrA_nil, List.append_nil]; exact hq
  | m :: suf, pre, acc, S, y3, y5, y6, he, ha, hS, hq => by
    have hd : (ms.map D.int)[pre.length]? = some (.int m) := by rw [he]; simp
    have hm : m ∈ ms := by rw [he]; simp
    have hlen : ms.length = pre.length + (suf.length + 1) := by rw [he]; simp
    obtain ⟨y3', hb⟩ := hB S acc m y3 y6 hS hq hm
    rw [rwb_step hq (by omega)] at hb
    have hcons : mp f (m :: suf) = (m, f m) :: mp f suf := rfl
    by_cases hc : m < n ∧ (∀ a, acc.getLast? = some a → a.2 ≠ f m)
    · rw [if_pos hc] at hb
      obtain ⟨z3, z5, z6, S', i1, i2, i3⟩ := rwb_loop hqk hB hk hms suf (pre ++ [m]) (acc ++ [(m, f m)]) _ y3' (some (.int m)) (some (.int (f m))) (by rw [he]; simp) (by simp; omega) (hS.trans But.set) (List.getElem?_set_self (get_lt hq))
      refine ⟨z3, z5, z6, S', ?_, ?_, i3⟩
      · rw [show (m :: suf).length = suf.length + 1 from rfl, fl_nx ((hS.old k hqk).trans hk) hd rfl hb]
        rw [List.length_append, List.length_singleton] at i1
        exact i1
      · rw [hcons, jrA_cons, if_pos hc]
        rw [List.getLast?_concat, List.append_assoc] at i2
        exact i2
    · rw [if_neg hc] at hb
      obtain ⟨z3, z5, z6, S', i1, i2, i3⟩ := rwb_loop hqk hB hk hms suf (pre ++ [m]) acc S y3' (some (.int m)) (some (.int (f m))) (by rw [he]; simp) (by simp; omega) hS hq
      refine ⟨z3, z5, z6, S', ?_, ?_, i3⟩
      · rw [show (m :: suf).length = suf.length + 1 from rfl, fl_nx ((hS.old k hqk).trans hk) hd rfl hb]
        rw [List.length_append, List.length_singleton] at i1
        exact i1
      · rw [hcons, jrA_cons, if_neg hc]
        exact i2
theorem toInts_map : ∀ ns : List Int, toInts (ns.map D.int) = some ns
  | [] => rfl
  | n :: ns => by
    show (toInts (ns.map D.int)).map (n :: ·) = _
    rw [toInts_map ns]; rfl
theorem e_sorted {S : Sto} {j : Nat} {ns : List Int} (h : S[j]? = some (.lst (ns.map D.int))) : fSorted (.obj j) S = some (.obj S.length, S ++ [.lst ((srt ns).map D.int)]) := by
  show (lstAt S j).bind _ = _
  rw [lst_at h]
  show (toInts (ns.map D.int)).map _ = _
  rw [toInts_map]; rfl
end K07

namespace K07
open PySem PySem.Spec L2 Mi
/-! ### a dict of whole numbers -/
abbrev kd (e : Int × Int) : Key × D := (.inl e.1, .int e.2)
def lk : Row → Int → Option Int
  | [], _ => none
  | e :: es, z => if e.1 = z then some e.2 else lk es z
def pe (es : Row) (k v : Int) : Row := if es.any (fun e => decide (e.1 = k)) then es.map (fun e => if e.1 = k then (e.1, v) else e) else es ++ [(k, v)]
theorem lk_kd : ∀ (es : Row) (z : Int), valD (es.map kd) (.inl z) = (lk es z).map D.int
  | [], z => rfl
  | e :: es, z => by
    show valD (kd e :: es.map kd) (.inl z) = _
    rw [lk]
    by_cases h : e.1 = z
    · rw [if_pos h, valD_pos (by rw [← h])]; rfl
    · rw [if_neg h, valD_neg (fun q => h (by injection q)), lk_kd es z]
theorem pe_kd (es : Row) (k v : Int) : putD (es.map kd) (.inl k) (.int v) = (pe es k v).map kd := by
  unfold putD pe
  have e : ((es.map kd).any fun kv => decide (kv.1 = (.inl k : Key))) = es.any (fun e => decide (e.1 = k)) := by
    rw [List.any_map]
    congr 1
    funext x
    show decide ((.inl x.1 : Key) = .inl k) = decide (x.1 = k)
    by_cases h : x.1 = k
    · rw [h, decide_eq_true rfl, decide_eq_true rfl]
    · rw [decide_eq_false h, decide_eq_false (fun q => h (by injection q))]
  rw [e]
  cases es.any (fun e => decide (e.1 = k)) with
  | false =>
    show es.map kd ++ [_] = (es ++ [(k, v)]).map kd
    rw [List.map_append]; rfl
  | true =>
    show (es.map kd).map _ = (es.map _).map kd
    rw [List.map_map, List.map_map]
    refine List.map_congr_left fun x _ => ?_
    show (if (.inl x.1 : Key) = .inl k then ((.inl x.1 : Key), D.int v) else kd x) = kd (if x.1 = k then (x.1, v) else x)
    by_cases h : x.1 = k
    · rw [if_pos h, if_pos (by rw [h])]
    · rw [if_neg h, if_neg (fun q => h (by injection q))]
theorem lk_pe (es : Row) (k v z : Int) : lk (pe es k v) z = if z = k then some v else lk es z := by
  unfold pe
  split
  · rename_i h
    induction es with
    | nil => simp at h
    | cons e es ih =>
      show lk ((if e.1 = k then (e.1, v) else e) :: es.map _) z = if z = k then some v else lk (e :: es) z
      by_cases h1 : e.1 = k
      · rw [if_pos h1, lk]
        show (if e.1 = z then some v else lk (es.map _) z) = _
        by_cases h2 : z = k
        · rw [if_pos h2, if_pos (by omega)]
        · rw [if_neg h2, if_neg (by omega), lk, if_neg (by omega)]
          -- the rest: no matter whether k stands there
          have key : ∀ es : Row, lk (es.map fun e => if e.1 = k then (e.1, v) else e) z = lk es z := by
            intro es
            induction es with
            | nil => rfl
            | cons x es ihx =>
              show lk ((if x.1 = k then (x.1, v) else x) :: es.map _) z = lk (x :: es) z
              rw [lk, lk, ihx]
              by_cases h3 : x.1 = k
              · rw [if_pos h3]
                show (if x.1 = z then _ else _) = _
                rw [if_neg (by omega), if_neg (by omega)]
              · rw [if_neg h3]
          exact key es
      · rw [if_neg h1, lk, lk]
        have h' : es.any (fun e => decide (e.1 = k)) = true := by
          rw [List.any_cons, decide_eq_false h1, Bool.false_or] at h; exact h
        rw [ih h']
        by_cases h2 : z = k
        · rw [if_pos h2, if_neg (by omega), if_pos h2]
        · rw [if_neg h2, if_neg h2]
  · rename_i h
    have h0 : ∀ e ∈ es, e.1 ≠ k := fun e he q => h (List.any_eq_true.mpr ⟨e, he, decide_eq_true q⟩)
    clear h
    induction es with
    | nil =>
      show (if k = z then some v else none) = if z = k then some v else none
      by_cases h2 : z = k
      · rw [if_pos h2, if_pos h2.symm]
      · rw [if_neg h2, if_neg (fun q => h2 q.symm)]
    | cons e es ih =>
      show (if e.1 = z then some e.2 else lk (es ++ [(k, v)]) z) = if z = k then some v else (if e.1 = z then some e.2 else lk es z)
      have h1 := h0 e (List.mem_cons_self ..)
      rw [ih fun x hx => h0 x (List.mem_cons_of_mem _ hx)]
      by_cases h2 : z = k
      · rw [if_pos h2, if_pos h2, if_neg (by omega)]
      · rw [if_neg h2, if_neg h2]
theorem pe_keys (es : Row) (k v : Int) : ∀ e ∈ pe es k v, e.1 = k ∨ ∃ e' ∈ es, e'.1 = e.1 := by
  intro e he
  unfold pe at he
  split at he
  · obtain ⟨x, hx, rfl⟩ := List.mem_map.mp he
    refine .inr ⟨x, hx, ?_⟩
    split <;> rfl
  · rcases List.mem_append.mp he with h | h
    · exact .inr ⟨e, h, rfl⟩
    · rw [List.mem_singleton.mp h]; exact .inl rfl
theorem pe_len (es : Row) (k v : Int) : (pe es k v).length ≤ es.length + 1 := by
  unfold pe; split <;> simp
theorem lk_none : ∀ {es : Row} {z : Int}, (∀ e ∈ es, e.1 ≠ z) → lk es z = none
  | [], z, _ => rfl
  | e :: es, z, h => by
    rw [lk, if_neg (h e (List.mem_cons_self ..))]
    exact lk_none fun x hx => h x (List.mem_cons_of_mem _ hx)
theorem lk_mem : ∀ {es : Row} {z : Int}, (∃ e ∈ es, e.1 = z) ∨ lk es z = none
  | [], z => .inr rfl
  | e :: es, z => by
    by_cases h : e.1 = z
    · exact .inl ⟨e, List.mem_cons_self .., h⟩
    · rcases lk_mem (es := es) (z := z) with ⟨x, hx, hz⟩ | hz
      · exact .inl ⟨x, List.mem_cons_of_mem _ hx, hz⟩
      · exact .inr (by rw [lk, if_neg h]; exact hz)
/-! ### the wide rows -/
abbrev fl (es : Row) (z : Int) : Int := (lk es z).getD 0
def marksW : Row → List Int
  | [] => []
  | e :: es => e.1 :: (e.1 + 1) :: marksW es
theorem marksW_mem : ∀ (es : Row) (m : Int), m ∈ marksW es ↔ ∃ e ∈ es, m = e.1 ∨ m = e.1 + 1
  | [], m => by simp [marksW]
  | e :: es, m => by
    show m ∈ e.1 :: (e.1 + 1) :: marksW es ↔ _
    rw [List.mem_cons, List.mem_cons, marksW_mem es m]
    constructor
    · rintro (h | h | ⟨x, hx, h⟩)
      · exact ⟨e, List.mem_cons_self .., .inl h⟩
      · exact ⟨e, List.mem_cons_self .., .inr h⟩
      · exact ⟨x, List.mem_cons_of_mem _ hx, h⟩
    · rintro ⟨x, hx, h⟩
      rcases List.mem_cons.mp hx with rfl | hx
      · rcases h with h | h
        · exact .inl h
        · exact .inr (.inl h)
      · exact .inr (.inr ⟨x, hx, h⟩)
theorem marksW_len : ∀ es : Row, (marksW es).length = 2 * es.length
  | [] => rfl
  | e :: es => by
    show (marksW es).length + 1 + 1 = _
    rw [marksW_len es, List.length_cons]; omega
structure WideOk (n : Int) (es r : Row) : Prop where
  pos : 0 < n
  canon : Canon n r
  keys : ∀ e ∈ es, 0 ≤ e.1 ∧ e.1 < n
  val : ∀ z, 0 ≤ z → z < n → K07.val 0 r z = fl es z
theorem wide_rows {n : Int} {es r : Row} (h : WideOk n es r) : jr0 n (mp (fl es) (srt (0 :: marksW es))) = r := by
  have hp := srt_perm (0 :: marksW es)
  have mem : ∀ m, m ∈ srt (0 :: marksW es) ↔ m = 0 ∨ ∃ e ∈ es, m = e.1 ∨ m = e.1 + 1 := fun m => by
    rw [hp.mem_iff, List.mem_cons, marksW_mem]
  refine marks_ok h.pos h.canon (srt_le _) ((mem 0).mpr (.inl rfl)) (fun m hm => ?_) h.val fun z m z0 z1 hm hmz hmax => ?_
  · rcases (mem m).mp hm with h0 | ⟨e, he, h0 | h0⟩
    · omega
    · have := (h.keys e he).1; omega
    · have := (h.keys e he).1; omega
  · show (lk es z).getD 0 = (lk es m).getD 0
    rcases lk_mem (es := es) (z := z) with ⟨e, he, hz⟩ | hz
    · have : z ≤ m := hmax z ((mem z).mpr (.inr ⟨e, he, .inl hz.symm⟩)) (Int.le_refl _)
      have : m = z := by omega
      rw [this]
    · rcases lk_mem (es := es) (z := m) with ⟨e, he, hz2⟩ | hz2
      · by_cases hne : m = z
        · rw [hne]
        · have := hmax (m + 1) ((mem (m + 1)).mpr (.inr ⟨e, he, .inr (by omega)⟩)) (by omega)
          omega
      · rw [hz, hz2]
end K07

namespace K07
open PySem PySem.Spec L2 Mi
theorem But.eq {q : Nat} {S S' : Sto} {x : MO} (h : But q S S') (hx : S'[q]? = some x) : S' = S.set q x := by
  refine List.ext_getElem? fun i => ?_
  by_cases e : i = q
  · subst e
    have := get_lt hx
    rw [hx, List.getElem?_set_self (by rw [← h.len]; exact this)]
  · rw [h.old i e, List.getElem?_set_ne (Ne.symm e)]
theorem set_back {S : Sto} {j : Nat} {x y : MO} (h : S[j]? = some x) : (S.set j y).set j x = S := by
  rw [List.set_set]
  refine List.ext_getElem? fun i => ?_
  by_cases e : i = j
  · subst e; rw [List.getElem?_set_self (get_lt h), h]
  · rw [List.getElem?_set_ne (Ne.symm e)]
/-! ### the law's own wide rows -/
def KW : MS := (sSeq (sExpr (mM "list" fAppend (mV 2) (mCons (mV 3) mNil)))
  (sExpr (mM "list" fAppend (mV 2) (mCons (m2 fAdd (mV 3) (mC (.int 1))) mNil))))
theorem kw_loop {S : Sto} {x0 x1 x4 x5 x6 : Option D} {es : Row} : ∀ (suf pre : Row) (ms : List Int) (x3 : Option D), es = pre ++ suf → ms.length + 2 * suf.length ≤ 100000 → ∃ y3 : Option D, forI (itKeys (es.map kd)) (gN 3) KW suf.length pre.length [x0, x1, some (.obj S.length), x3, x4, x5, x6] (S ++ [.lst (ms.map D.int)]) = .nx [x0, x1, some (.obj S.length), y3, x4, x5, x6] (S ++ [.lst ((ms ++ marksW suf).map D.int)])
  | [], pre, ms, x3, he, hl => by
    refine ⟨x3, ?_⟩
    have : pre.length = ((es.map kd).map fun p => keyV p.1).length := by rw [he]; simp
    unfold itKeys
    rw [this, fx_end]
    rw [show marksW [] = [] from rfl, List.append_nil]
  | e :: suf, pre, ms, x3, he, hl => by
    have hd : ((es.map kd).map fun p => keyV p.1)[pre.length]? = some (.int e.1) := by rw [he]; simp [keyV]
    have ap : ∀ (l : List Int) (m : Int), l.length ≤ 100000 → fAppend (.obj S.length) [.int m] (S ++ [.lst (l.map D.int)]) = some (.non, S ++ [.lst ((l ++ [m]).map D.int)]) := fun l m hl => by
      rw [e_append last0 (by rw [sizeLine_eq, List.length_map]; omega), sa0, List.map_append]; rfl
    rw [List.length_cons] at hl
    obtain ⟨y3, q⟩ := kw_loop (S := S) (x0 := x0) (x1 := x1) (x4 := x4) (x5 := x5) (x6 := x6) (es := es) suf (pre ++ [e]) (ms ++ [e.1] ++ [e.1 + 1]) (some (.int e.1)) (by rw [he]; simp) (by simp; omega)
    refine ⟨y3, ?_⟩
    have st : KW [x0, x1, some (.obj S.length), some (.int e.1), x4, x5, x6] (S ++ [.lst (ms.map D.int)]) = .nx [x0, x1, some (.obj S.length), some (.int e.1), x4, x5, x6] (S ++ [.lst ((ms ++ [e.1] ++ [e.1 + 1]).map D.int)]) := by
      unfold KW
      simp only [bind_ok, bind_ex, of_some, rs_ok, rs_ex, then_nx, then_rt, then_ex, then_bk, then_ct, mV0, mVs, mC_, m2_, m1_, mB_, kB_bl, mB1_, mNil_, mCons_, f1L_, f2L_, mTup_, mLst_, mCall_, mNotT_, mAndT_, mOrT_, mIf_, mAndV_, mOrV_, mNotV_, kAndV_bl, kOrV_bl, kNotV_bl, mSl_, mPart_, kPart_, mNoPart_, sSeq_, sSet_, sRet_, sIf_, sExpr_, sNil_, sBreak_, sCont_, e_lt, e_le, e_gt, e_ge, e_eqI, e_neI, e_eqS, e_neS, e_add, e_sub, List.set_cons_zero, List.set_cons_succ, kTu1, kTu2, kTu3, kTu4, kTu5, kLs0, kLs1, kLs2, kLs3, kLs4, kLs5, mM_, mM0_, sAsg_, sFor_, iRng_, iSeq_, tyL last0, if_true, ap ms e.1 (by omega), ap (ms ++ [e.1]) (e.1 + 1) (by rw [List.length_append, List.length_singleton]; omega)]
    unfold itKeys at q ⊢
    rw [show (e :: suf).length = suf.length + 1 from rfl, fx_nx hd rfl st]
    rw [List.length_append, List.length_singleton] at q
    rw [q]
    show _ = RS.nx _ (S ++ [.lst ((ms ++ (e.1 :: (e.1 + 1) :: marksW suf)).map D.int)])
    rw [List.append_assoc, List.append_assoc]; rfl
def WBd : MS := (sSeq (sSet 6 (mM "dict" fGet (mV 1) (mCons (mV 5) (mCons (mC (.int 0)) mNil)))) RWB)
theorem wide_eq : B__law_wide_runs = (sSeq (sSet 2 (mLst (mCons (mC (.int 0)) mNil)))
  (sSeq (sForD 1 (gN 3) KW)
  (sSeq (sSet 4 (mLst mNil))
  (sSeq (sFor (iSeq (mB1 (f1L fSorted) (mCons (mV 2) mNil))) (gN 5) WBd)
  (sRet (mTup (mCons (mV 0) (mCons (mB1 (f1L fTuple) (mCons (mV 4) mNil)) mNil)))))))) := (rfl)
theorem e_getK {S : Sto} {j : Nat} {es : Row} {z : Int} (h : S[j]? = some (.dic (es.map kd))) : fGet (.obj j) [.int z, .int 0] S = some (.int (fl es z), S) := by
  rw [e_getD h, lk_kd]
  show some ((Option.map D.int (lk es z)).getD (.int 0), S) = some (.int ((lk es z).getD 0), S)
  cases lk es z <;> rfl
theorem wide_runs {S : Sto} {n : Int} {j : Nat} {es r : Row} (hj : S[j]? = some (.dic (es.map kd))) (h : WideOk n es r) (hl : es.length ≤ 1000) (hrl : r.length ≤ 1000) : ∃ X : Sto, M__law_wide_runs [.int n, .obj j] S = .ok (aD n r) (S ++ X) := by
  have hjl := get_lt hj
  -- the marks
  have s1 : (sSet 2 (mLst (mCons (mC (.int 0)) mNil))) [some (.int n), some (.obj j), none, none, none, none, none] S = .nx [some (.int n), some (.obj j), some (.obj S.length), none, none, none, none] (S ++ [.lst [.int 0]]) := by
    simp only [bind_ok, bind_ex, of_some, rs_ok, rs_ex, then_nx, then_rt, then_ex, then_bk, then_ct, mV0, mVs, mC_, m2_, m1_, mB_, kB_bl, mB1_, mNil_, mCons_, f1L_, f2L_, mTup_, mLst_, mCall_, mNotT_, mAndT_, mOrT_, mIf_, mAndV_, mOrV_, mNotV_, kAndV_bl, kOrV_bl, kNotV_bl, mSl_, mPart_, kPart_, mNoPart_, sSeq_, sSet_, sRet_, sIf_, sExpr_, sNil_, sBreak_, sCont_, e_lt, e_le, e_gt, e_ge, e_eqI, e_neI, e_eqS, e_neS, e_add, e_sub, List.set_cons_zero, List.set_cons_succ, kTu1, kTu2, kTu3, kTu4, kTu5, kLs0, kLs1, kLs2, kLs3, kLs4, kLs5, mM_, mM0_, sAsg_, sFor_, iRng_, iSeq_]
  obtain ⟨y3, q1⟩ := kw_loop (S := S.set j .gap) (x0 := some (.int n)) (x1 := some (.obj j)) (x4 := none) (x5 := none) (x6 := none) (es := es) es [] [0] none rfl (by simp; omega)
  rw [List.length_set] at q1
  have s2 : (sForD 1 (gN 3) KW) [some (.int n), some (.obj j), some (.obj S.length), none, none, none, none] (S ++ [.lst [.int 0]]) = .nx [some (.int n), some (.obj j), some (.obj S.length), y3, none, none, none] (S ++ [.lst ((0 :: marksW es).map D.int)]) := by
    have e0 : (S ++ [MO.lst [.int 0]])[j]? = some (.dic (es.map kd)) := get_app hj
    have e1 : (S ++ [MO.lst [.int 0]]).set j .gap = S.set j .gap ++ [.lst [.int 0]] := List.set_append_left _ _ hjl
    have e2 : (S.set j .gap ++ [MO.lst (([0] ++ marksW es).map D.int)])[j]? = some .gap := by
      rw [List.getElem?_append_left (by rw [List.length_set]; exact hjl), List.getElem?_set_self hjl]
    have e3 : (S.set j .gap ++ [MO.lst (([0] ++ marksW es).map D.int)]).set j (.dic (es.map kd)) = S ++ [.lst ((0 :: marksW es).map D.int)] := by
      rw [List.set_append_left _ _ (by rw [List.length_set]; exact hjl), set_back hj]; rfl
    have q1' : forI (itKeys (es.map kd)) (gN 3) KW (es.map kd).length 0 [some (.int n), some (.obj j), some (.obj S.length), none, none, none, none] (S.set j .gap ++ [.lst [.int 0]]) = .nx [some (.int n), some (.obj j), some (.obj S.length), y3, none, none, none] (S.set j .gap ++ [.lst (([0] ++ marksW es).map D.int)]) := by
      rw [List.length_map]; exact q1
    show (match (S ++ [MO.lst [.int 0]])[j]? with
      | some (.dic kds) => endD j kds (forI (itKeys kds) (gN 3) KW kds.length 0 [some (.int n), some (.obj j), some (.obj S.length), none, none, none, none] ((S ++ [MO.lst [.int 0]]).set j .gap))
      | _ => .no) = _
    rw [e0]
    show endD j (es.map kd) (forI (itKeys (es.map kd)) (gN 3) KW (es.map kd).length 0 [some (.int n), some (.obj j), some (.obj S.length), none, none, none, none] ((S ++ [MO.lst [.int 0]]).set j .gap)) = _
    rw [e1, q1']
    unfold endD
    simp only [e2, e3]
  -- the rows
  generalize hM : 0 :: marksW es = M at s2
  have hMl : M.length ≤ 3000 := by rw [← hM, List.length_cons, marksW_len]; omega
  have s3 : (sSet 4 (mLst mNil)) [some (.int n), some (.obj j), some (.obj S.length), y3, none, none, none] (S ++ [.lst (M.map D.int)]) = .nx [some (.int n), some (.obj j), some (.obj S.length), y3, some (.obj (S.length + 1)), none, none] (S ++ [.lst (M.map D.int), .lst []]) := by
    simp only [bind_ok, bind_ex, of_some, rs_ok, rs_ex, then_nx, then_rt, then_ex, then_bk, then_ct, mV0, mVs, mC_, m2_, m1_, mB_, kB_bl, mB1_, mNil_, mCons_, f1L_, f2L_, mTup_, mLst_, mCall_, mNotT_, mAndT_, mOrT_, mIf_, mAndV_, mOrV_, mNotV_, kAndV_bl, kOrV_bl, kNotV_bl, mSl_, mPart_, kPart_, mNoPart_, sSeq_, sSet_, sRet_, sIf_, sExpr_, sNil_, sBreak_, sCont_, e_lt, e_le, e_gt, e_ge, e_eqI, e_neI, e_eqS, e_neS, e_add, e_sub, List.set_cons_zero, List.set_cons_succ, kTu1, kTu2, kTu3, kTu4, kTu5, kLs0, kLs1, kLs2, kLs3, kLs4, kLs5, mM_, mM0_, sAsg_, sFor_, iRng_, iSeq_, List.length_append, List.length_singleton, List.append_assoc, List.cons_append, List.nil_append]
  have hso : fSorted (.obj S.length) (S ++ [.lst (M.map D.int), .lst []]) = some (.obj (S.length + 2), S ++ [.lst (M.map D.int), .lst [], .lst ((srt M).map D.int)]) := by
    rw [e_sorted ga0]
    simp
  have hsl : (srt M).length ≤ 3000 := by rw [(srt_perm M).length_eq]; exact hMl
  have g2 : (S ++ [MO.lst (M.map D.int), .lst [], .lst ((srt M).map D.int)])[S.length + 2]? = some (.lst ((srt M).map D.int)) := by simp
  have g1 : (S ++ [MO.lst (M.map D.int), .lst [], .lst ((srt M).map D.int)])[S.length + 1]? = some (.lst (([] : Row).map prD)) := by simp
  obtain ⟨z3, z5, z6, S', q2, q3, q4⟩ := rwb_loop (n := n) (q := S.length + 1) (k := S.length + 2) (x1 := some (.obj j)) (x2 := some (.obj S.length)) (ms := srt M) (f := fl es) (B := WBd) (S0 := S ++ [MO.lst (M.map D.int), .lst [], .lst ((srt M).map D.int)]) (by omega)
    (fun S1 acc m y3 y6 hb hq hm => ⟨y3, by
      have hj1 : S1[j]? = some (.dic (es.map kd)) := by rw [hb.old j (by omega)]; exact get_app hj
      unfold WBd
      simp only [bind_ok, bind_ex, of_some, rs_ok, rs_ex, then_nx, then_rt, then_ex, then_bk, then_ct, mV0, mVs, mC_, m2_, m1_, mB_, kB_bl, mB1_, mNil_, mCons_, f1L_, f2L_, mTup_, mLst_, mCall_, mNotT_, mAndT_, mOrT_, mIf_, mAndV_, mOrV_, mNotV_, kAndV_bl, kOrV_bl, kNotV_bl, mSl_, mPart_, kPart_, mNoPart_, sSeq_, sSet_, sRet_, sIf_, sExpr_, sNil_, sBreak_, sCont_, e_lt, e_le, e_gt, e_ge, e_eqI, e_neI, e_eqS, e_neS, e_add, e_sub, List.set_cons_zero, List.set_cons_succ, kTu1, kTu2, kTu3, kTu4, kTu5, kLs0, kLs1, kLs2, kLs3, kLs4, kLs5, mM_, mM0_, sAsg_, sFor_, iRng_, iSeq_, tyDi hj1, if_true, e_getK hj1]⟩) g2 (by omega) (srt M) [] [] _ y3 none none rfl (by simp) But.refl g1
  have hrows : ([] : Row) ++ jrA n ([] : Row).getLast? (mp (fl es) (srt M)) = r := by
    show jr0 n (mp (fl es) (srt M)) = r
    rw [← hM]; exact wide_rows h
  rw [hrows] at q3
  have hS' := q4.eq q3
  have hfin : S' = S ++ [.lst (M.map D.int), .lst (r.map prD), .lst ((srt M).map D.int)] := by
    rw [hS']; simp
  have ks : kSeqI (.obj (S.length + 2)) (S ++ [.lst (M.map D.int), .lst [], .lst ((srt M).map D.int)]) = .ok (itLst (srt M).length (S.length + 2)) (S ++ [.lst (M.map D.int), .lst [], .lst ((srt M).map D.int)]) := by rw [kSeqL g2, List.length_map]
  have en : (itLst (srt M).length (S.length + 2)).n = (srt M).length := (rfl)
  have s4 : (sFor (iSeq (mB1 (f1L fSorted) (mCons (mV 2) mNil))) (gN 5) WBd) [some (.int n), some (.obj j), some (.obj S.length), y3, some (.obj (S.length + 1)), none, none] (S ++ [.lst (M.map D.int), .lst []]) = .nx [some (.int n), some (.obj j), some (.obj S.length), z3, some (.obj (S.length + 1)), z5, z6] S' := by
    simp only [bind_ok, bind_ex, of_some, rs_ok, rs_ex, then_nx, then_rt, then_ex, then_bk, then_ct, mV0, mVs, mC_, m2_, m1_, mB_, kB_bl, mB1_, mNil_, mCons_, f1L_, f2L_, mTup_, mLst_, mCall_, mNotT_, mAndT_, mOrT_, mIf_, mAndV_, mOrV_, mNotV_, kAndV_bl, kOrV_bl, kNotV_bl, mSl_, mPart_, kPart_, mNoPart_, sSeq_, sSet_, sRet_, sIf_, sExpr_, sNil_, sBreak_, sCont_, e_lt, e_le, e_gt, e_ge, e_eqI, e_neI, e_eqS, e_neS, e_add, e_sub, List.set_cons_zero, List.set_cons_succ, kTu1, kTu2, kTu3, kTu4, kTu5, kLs0, kLs1, kLs2, kLs3, kLs4, kLs5, mM_, mM0_, sAsg_, sFor_, iRng_, iSeq_, hso, ks, en]
    exact q2
  have htu : fTuple (.obj (S.length + 1)) S' = some (rwD r, S') := by
    show (lstAt S' _).map _ = _
    rw [lst_at q3]; rfl
  refine ⟨[.lst (M.map D.int), .lst (r.map prD), .lst ((srt M).map D.int)], ?_⟩
  have hb : B__law_wide_runs [some (.int n), some (.obj j), none, none, none, none, none] S = .rt (aD n r) S' := by
    rw [wide_eq, sSeq_, s1, then_nx, sSeq_, s2, then_nx, sSeq_, s3, then_nx, sSeq_, s4, then_nx]
    simp only [bind_ok, bind_ex, of_some, rs_ok, rs_ex, then_nx, then_rt, then_ex, then_bk, then_ct, mV0, mVs, mC_, m2_, m1_, mB_, kB_bl, mB1_, mNil_, mCons_, f1L_, f2L_, mTup_, mLst_, mCall_, mNotT_, mAndT_, mOrT_, mIf_, mAndV_, mOrV_, mNotV_, kAndV_bl, kOrV_bl, kNotV_bl, mSl_, mPart_, kPart_, mNoPart_, sSeq_, sSet_, sRet_, sIf_, sExpr_, sNil_, sBreak_, sCont_, e_lt, e_le, e_gt, e_ge, e_eqI, e_neI, e_eqS, e_neS, e_add, e_sub, List.set_cons_zero, List.set_cons_succ, kTu1, kTu2, kTu3, kTu4, kTu5, kLs0, kLs1, kLs2, kLs3, kLs4, kLs5, mM_, mM0_, sAsg_, sFor_, iRng_, iSeq_, htu]
    rfl
  unfold M__law_wide_runs mFn
  simp only [List.length_cons, List.length_nil, Nat.reduceAdd, if_true, List.map_cons, List.map_nil, List.replicate, List.cons_append, List.nil_append, Nat.reduceSub]
  rw [hb, hfin]
  rfl
end K07

namespace K07
open PySem PySem.Spec L2 Mi
/-! ### wide arrays -/
theorem fresh_array {S : Sto} {n : Int} (hn : 0 < n) : ∃ X : Sto, M_fresh_array [.int n] S = .ok (aD n [(0, 0)]) (S ++ X) := by
  have d1 : decide (n < 0) = false := decide_eq_false (by omega)
  have hj := joined_runs (S := S ++ [.lst [.tup [.int 0, .int 0]]]) (n := n) (j := S.length) (ps := [(0, 0)]) last0 (by simp)
  have e : jr0 n [(0, 0)] = [(0, 0)] := by
    show (if (0 : Int) < n then _ else _) = _
    rw [if_pos hn]; rfl
  rw [e] at hj
  refine ⟨[.lst [.tup [.int 0, .int 0]]] ++ [.lst (([(0, 0)] : Row).map prD)], ?_⟩
  rw [← List.append_assoc]
  unfold M_fresh_array mFn B_fresh_array
  simp only [List.length_cons, List.length_nil, Nat.reduceAdd, if_true, List.map_cons, List.map_nil, List.replicate, List.cons_append, List.nil_append, Nat.sub_self]
  simp only [bind_ok, bind_ex, of_some, rs_ok, rs_ex, then_nx, then_rt, then_ex, then_bk, then_ct, mV0, mVs, mC_, m2_, m1_, mB_, kB_bl, mB1_, mNil_, mCons_, f1L_, f2L_, mTup_, mLst_, mCall_, mNotT_, mAndT_, mOrT_, mIf_, mAndV_, mOrV_, mNotV_, kAndV_bl, kOrV_bl, kNotV_bl, mSl_, mPart_, kPart_, mNoPart_, sSeq_, sSet_, sRet_, sIf_, sExpr_, sNil_, sBreak_, sCont_, e_lt, e_le, e_gt, e_ge, e_eqI, e_neI, e_eqS, e_neS, e_add, e_sub, List.set_cons_zero, List.set_cons_succ, kTu1, kTu2, kTu3, kTu4, kTu5, kLs0, kLs1, kLs2, kLs3, kLs4, kLs5, mM_, mM0_, sAsg_, sFor_, iRng_, iSeq_, whole_int, Bool.not_true, Bool.false_eq_true, if_false, d1, hj]
  rfl
theorem law_length {S : Sto} {p : Nat} (h : PoolOk S p) : ∃ (n : Int) (S' : Sto), M__law_length [.obj p] S = .ok (.int n) S' ∧ 1000 ≤ n ∧ Stp p S S' := by
  obtain ⟨w, S1, a1, a2, a3, _⟩ := pick h (m := 4) (by omega)
  have a1' : M__law_pick [.obj p, .int 4] S = .ok (nD w) S1 := a1
  unfold M__law_length mFn B__law_length
  simp only [List.length_cons, List.length_nil, Nat.reduceAdd, if_true, List.map_cons, List.map_nil, List.replicate, List.cons_append, List.nil_append, Nat.reduceSub]
  have p12 : fPow (.int 10) (.int 12) S1 = some (.int ((10 : Int) ^ 12), S1) := e_powB 12 (by omega)
  have p30 : fPow (.int 10) (.int 30) S1 = some (.int ((10 : Int) ^ 30), S1) := e_powB 30 (by omega)
  have p20 : fPow (.int 10) (.int 20) S1 = some (.int ((10 : Int) ^ 20), S1) := e_powB 20 (by omega)
  by_cases h0 : w = 0
  · have d1 : decide ((w : Int) = 0) = true := decide_eq_true (by omega)
    obtain ⟨w2, S2, b1, b2, b3, _⟩ := pick a3.pool (m := 9) (by omega)
    have b1' : M__law_pick [.obj p, .int 9] S1 = .ok (nD w2) S2 := b1
    refine ⟨(10 : Int) ^ 12 + (w2 : Int), S2, ?_, by have : (10 : Int) ^ 12 = 1000000000000 := by decide
                                                     omega, a3.trans b3⟩
    simp only [bind_ok, bind_ex, of_some, rs_ok, rs_ex, then_nx, then_rt, then_ex, then_bk, then_ct, mV0, mVs, mC_, m2_, m1_, mB_, kB_bl, mB1_, mNil_, mCons_, f1L_, f2L_, mTup_, mLst_, mCall_, mNotT_, mAndT_, mOrT_, mIf_, mAndV_, mOrV_, mNotV_, kAndV_bl, kOrV_bl, kNotV_bl, mSl_, mPart_, kPart_, mNoPart_, sSeq_, sSet_, sRet_, sIf_, sExpr_, sNil_, sBreak_, sCont_, e_lt, e_le, e_gt, e_ge, e_eqI, e_neI, e_eqS, e_neS, e_add, e_sub, List.set_cons_zero, List.set_cons_succ, kTu1, kTu2, kTu3, kTu4, kTu5, kLs0, kLs1, kLs2, kLs3, kLs4, kLs5, mM_, mM0_, sAsg_, sFor_, iRng_, iSeq_, a1', d1, if_true, p12, b1']
    rfl
  · have d1 : decide ((w : Int) = 0) = false := decide_eq_false (by omega)
    by_cases h1 : w = 1
    · have d2 : decide ((w : Int) = 1) = true := decide_eq_true (by omega)
      refine ⟨(10 : Int) ^ 30, S1, ?_, by decide, a3⟩
      simp only [bind_ok, bind_ex, of_some, rs_ok, rs_ex, then_nx, then_rt, then_ex, then_bk, then_ct, mV0, mVs, mC_, m2_, m1_, mB_, kB_bl, mB1_, mNil_, mCons_, f1L_, f2L_, mTup_, mLst_, mCall_, mNotT_, mAndT_, mOrT_, mIf_, mAndV_, mOrV_, mNotV_, kAndV_bl, kOrV_bl, kNotV_bl, mSl_, mPart_, kPart_, mNoPart_, sSeq_, sSet_, sRet_, sIf_, sExpr_, sNil_, sBreak_, sCont_, e_lt, e_le, e_gt, e_ge, e_eqI, e_neI, e_eqS, e_neS, e_add, e_sub, List.set_cons_zero, List.set_cons_succ, kTu1, kTu2, kTu3, kTu4, kTu5, kLs0, kLs1, kLs2, kLs3, kLs4, kLs5, mM_, mM0_, sAsg_, sFor_, iRng_, iSeq_, a1', d1, d2, Bool.false_eq_true, if_false, if_true, p30]
      rfl
    · have d2 : decide ((w : Int) = 1) = false := decide_eq_false (by omega)
      obtain ⟨w2, S2, b1, b2, b3, _⟩ := pick a3.pool (m := 1000) (by omega)
      have b1' : M__law_pick [.obj p, .int 1000] S1 = .ok (nD w2) S2 := b1
      refine ⟨(10 : Int) ^ 20 + (w2 : Int), S2, ?_, by have : (10 : Int) ^ 20 = 100000000000000000000 := by decide
                                                       omega, a3.trans b3⟩
      simp only [bind_ok, bind_ex, of_some, rs_ok, rs_ex, then_nx, then_rt, then_ex, then_bk, then_ct, mV0, mVs, mC_, m2_, m1_, mB_, kB_bl, mB1_, mNil_, mCons_, f1L_, f2L_, mTup_, mLst_, mCall_, mNotT_, mAndT_, mOrT_, mIf_, mAndV_, mOrV_, mNotV_, kAndV_bl, kOrV_bl, kNotV_bl, mSl_, mPart_, kPart_, mNoPart_, sSeq_, sSet_, sRet_, sIf_, sExpr_, sNil_, sBreak_, sCont_, e_lt, e_le, e_gt, e_ge, e_eqI, e_neI, e_eqS, e_neS, e_add, e_sub, List.set_cons_zero, List.set_cons_succ, kTu1, kTu2, kTu3, kTu4, kTu5, kLs0, kLs1, kLs2, kLs3, kLs4, kLs5, mM_, mM0_, sAsg_, sFor_, iRng_, iSeq_, a1', d1, d2, Bool.false_eq_true, if_false, p20, b1']
      rfl
structure WI (S : Sto) (p j : Nat) (n : Int) (es r : Row) (k : Nat) : Prop where
  pool : PoolOk S p
  dic : S[j]? = some (.dic (es.map kd))
  ne : j ≠ p
  ok : WideOk n es r
  big : 1000 ≤ n
  l1 : r.length ≤ 2 * k + 1
  l2 : es.length ≤ k
theorem WI.stp {S S' : Sto} {p j k : Nat} {n : Int} {es r : Row} (h : WI S p j n es r k) (a : Stp p S S') : WI S' p j n es r k := ⟨a.pool, a.get h.dic h.ne, h.ne, h.ok, h.big, h.l1, h.l2⟩
theorem WI.app {S X : Sto} {p j k : Nat} {n : Int} {es r : Row} (h : WI S p j n es r k) : WI (S ++ X) p j n es r k := ⟨(Stp.app h.pool).pool, get_app h.dic, h.ne, h.ok, h.big, h.l1, h.l2⟩
theorem WideOk.put {n z v : Int} {es r r' : Row} (h : WideOk n es r) (hz : 0 ≤ z) (hp : PutOk n z v r r') : WideOk n (if z < n then pe es z v else es) r' := by
  refine ⟨h.pos, hp.canon, ?_, fun x x0 x1 => ?_⟩
  · split
    · intro e he
      rcases pe_keys es z v e he with h1 | ⟨e', h1, h2⟩
      · omega
      · have := h.keys e' h1; omega
    · exact h.keys
  · rw [hp.val x x0 x1]
    show _ = (lk _ x).getD 0
    by_cases hx : x = z
    · rw [if_pos hx, if_pos (by omega), lk_pe, if_pos hx]; rfl
    · rw [if_neg hx, h.val x x0 x1]
      split
      · rw [lk_pe, if_neg hx]
      · rfl
theorem WideOk.dict {S : Sto} {j : Nat} {n : Int} {es r : Row} (h : WideOk n es r) (hd : S[j]? = some (.dic (es.map kd))) : DictOk S j n r := by
  refine ⟨_, hd, fun z => ?_⟩
  rw [lk_kd]
  unfold cellv
  by_cases hz : z < 0 ∨ n ≤ z
  · rw [if_pos hz, lk_none (fun e he q => by have := h.keys e he; omega)]; rfl
  · rw [if_neg hz, h.val z (by omega) (by omega)]
    show _ = D.int ((lk es z).getD 0)
    cases lk es z <;> rfl
def Y1 : MS := (sSet 5 (mCall M__law_pick (mCons (mV 0) (mCons (mC (.int 5)) mNil))))
def Y2 : MS := (sSet 6 (mCall M__law_pick (mCons (mV 0) (mCons (mC (.int 6)) mNil))))
def Y3 : MS := (sIf (mB (m2 fEq (mV 5) (mC (.int 1))))
  (sSet 6 (m2 fSub (m2 fSub (mV 1) (mC (.int 1))) (mV 6)))
  sNil)
def Y4 : MS := (sIf (mB (m2 fEq (mV 5) (mC (.int 2))))
  (sSet 6 (m2 fAdd (m2 fDiv (mV 1) (mC (.int 2))) (mV 6)))
  sNil)
def Y5 : MS := (sIf (mB (m2 fEq (mV 5) (mC (.int 3))))
  (sSet 6 (m2 fAdd (mV 1) (mV 6)))
  sNil)
def Y6 : MS := (sSet 7 (mCall M__law_value (mCons (mV 0) mNil)))
def Y7 : MS := (sSet 2 (mCall M_put_cell (mCons (mV 2) (mCons (mV 6) (mCons (mV 7) mNil)))))
def Y8 : MS := (sIf (mB (m2 fLt (mV 6) (mV 1)))
  (Mi.sDPut (mV 3) (mV 6) (mV 7))
  sNil)
def Y9 : MS := (sIf (mOrT (mNotT (mB (mCall M__law_is_array (mCons (mV 2) (mCons (mCall M__law_wide_runs (mCons (mV 1) (mCons (mV 3) mNil))) mNil))))) (mNotT (mB (mCall M__law_looks (mCons (mV 2) (mCons (mV 1) (mCons (mV 3) (mCons (mV 6) mNil))))))))
  (sRet (mC (.bl false)))
  sNil)
def YT : MS := sSeq Y1 (sSeq Y2 (sSeq Y3 (sSeq Y4 (sSeq Y5 (sSeq Y6 (sSeq Y7 (sSeq Y8 Y9)))))))
section
variable {S : Sto} {p j k : Nat} {n : Int} {es r : Row} {x4 x5 x6 x7 x8 : Option D}
theorem yturn (h : WI S p j n es r k) (hk : k ≤ 20) : ∃ (es' r' : Row) (y5 y6 y7 : Option D) (S' : Sto), YT [some (.obj p), some (.int n), some (aD n r), some (.obj j), x4, x5, x6, x7, x8] S = .nx [some (.obj p), some (.int n), some (aD n r'), some (.obj j), x4, y5, y6, y7, x8] S' ∧ WI S' p j n es' r' (k + 1) := by
  obtain ⟨w, S1, a1, a2, a3, _⟩ := pick h.pool (m := 5) (by omega)
  have a1' : M__law_pick [.obj p, .int 5] S = .ok (nD w) S1 := a1
  obtain ⟨w2, S2, b1, b2, b3, _⟩ := pick a3.pool (m := 6) (by omega)
  have b1' : M__law_pick [.obj p, .int 6] S1 = .ok (nD w2) S2 := b1
  have h2 := (h.stp a3).stp b3
  have hbig := h.big
  have s1 : Y1 [some (.obj p), some (.int n), some (aD n r), some (.obj j), x4, x5, x6, x7, x8] S = .nx [some (.obj p), some (.int n), some (aD n r), some (.obj j), x4, some (nD w), x6, x7, x8] S1 := by
    unfold Y1; simp only [bind_ok, bind_ex, of_some, rs_ok, rs_ex, then_nx, then_rt, then_ex, then_bk, then_ct, mV0, mVs, mC_, m2_, m1_, mB_, kB_bl, mB1_, mNil_, mCons_, f1L_, f2L_, mTup_, mLst_, mCall_, mNotT_, mAndT_, mOrT_, mIf_, mAndV_, mOrV_, mNotV_, kAndV_bl, kOrV_bl, kNotV_bl, mSl_, mPart_, kPart_, mNoPart_, sSeq_, sSet_, sRet_, sIf_, sExpr_, sNil_, sBreak_, sCont_, e_lt, e_le, e_gt, e_ge, e_eqI, e_neI, e_eqS, e_neS, e_add, e_sub, List.set_cons_zero, List.set_cons_succ, kTu1, kTu2, kTu3, kTu4, kTu5, kLs0, kLs1, kLs2, kLs3, kLs4, kLs5, mM_, mM0_, sAsg_, sFor_, iRng_, iSeq_, a1']
  have s2 : Y2 [some (.obj p), some (.int n), some (aD n r), some (.obj j), x4, some (nD w), x6, x7, x8] S1 = .nx [some (.obj p), some (.int n), some (aD n r), some (.obj j), x4, some (nD w), some (nD w2), x7, x8] S2 := by
    unfold Y2; simp only [bind_ok, bind_ex, of_some, rs_ok, rs_ex, then_nx, then_rt, then_ex, then_bk, then_ct, mV0, mVs, mC_, m2_, m1_, mB_, kB_bl, mB1_, mNil_, mCons_, f1L_, f2L_, mTup_, mLst_, mCall_, mNotT_, mAndT_, mOrT_, mIf_, mAndV_, mOrV_, mNotV_, kAndV_bl, kOrV_bl, kNotV_bl, mSl_, mPart_, kPart_, mNoPart_, sSeq_, sSet_, sRet_, sIf_, sExpr_, sNil_, sBreak_, sCont_, e_lt, e_le, e_gt, e_ge, e_eqI, e_neI, e_eqS, e_neS, e_add, e_sub, List.set_cons_zero, List.set_cons_succ, kTu1, kTu2, kTu3, kTu4, kTu5, kLs0, kLs1, kLs2, kLs3, kLs4, kLs5, mM_, mM0_, sAsg_, sFor_, iRng_, iSeq_, b1']
  -- the place
  obtain ⟨z, hz, s345⟩ : ∃ z : Int, 0 ≤ z ∧ sSeq Y3 (sSeq Y4 Y5) [some (.obj p), some (.int n), some (aD n r), some (.obj j), x4, some (nD w), some (nD w2), x7, x8] S2 = .nx [some (.obj p), some (.int n), some (aD n r), some (.obj j), x4, some (nD w), some (.int z), x7, x8] S2 := by
    by_cases e1 : w = 1
    · have d1 : decide ((w : Int) = 1) = true := decide_eq_true (by omega)
      have d2 : decide ((w : Int) = 2) = false := decide_eq_false (by omega)
      have d3 : decide ((w : Int) = 3) = false := decide_eq_false (by omega)
      refine ⟨n - 1 - (w2 : Int), by omega, ?_⟩
      unfold Y3 Y4 Y5
      simp only [bind_ok, bind_ex, of_some, rs_ok, rs_ex, then_nx, then_rt, then_ex, then_bk, then_ct, mV0, mVs, mC_, m2_, m1_, mB_, kB_bl, mB1_, mNil_, mCons_, f1L_, f2L_, mTup_, mLst_, mCall_, mNotT_, mAndT_, mOrT_, mIf_, mAndV_, mOrV_, mNotV_, kAndV_bl, kOrV_bl, kNotV_bl, mSl_, mPart_, kPart_, mNoPart_, sSeq_, sSet_, sRet_, sIf_, sExpr_, sNil_, sBreak_, sCont_, e_lt, e_le, e_gt, e_ge, e_eqI, e_neI, e_eqS, e_neS, e_add, e_sub, List.set_cons_zero, List.set_cons_succ, kTu1, kTu2, kTu3, kTu4, kTu5, kLs0, kLs1, kLs2, kLs3, kLs4, kLs5, mM_, mM0_, sAsg_, sFor_, iRng_, iSeq_, d1, d2, d3, if_true, Bool.false_eq_true, if_false]
    · have d1 : decide ((w : Int) = 1) = false := decide_eq_false (by omega)
      by_cases e2 : w = 2
      · have d2 : decide ((w : Int) = 2) = true := decide_eq_true (by omega)
        have d3 : decide ((w : Int) = 3) = false := decide_eq_false (by omega)
        have hdv : fDiv (.int n) (.int 2) S2 = some (.int (n / 2), S2) := e_div ⟨by decide, by decide⟩
        refine ⟨n / 2 + (w2 : Int), by omega, ?_⟩
        unfold Y3 Y4 Y5
        simp only [bind_ok, bind_ex, of_some, rs_ok, rs_ex, then_nx, then_rt, then_ex, then_bk, then_ct, mV0, mVs, mC_, m2_, m1_, mB_, kB_bl, mB1_, mNil_, mCons_, f1L_, f2L_, mTup_, mLst_, mCall_, mNotT_, mAndT_, mOrT_, mIf_, mAndV_, mOrV_, mNotV_, kAndV_bl, kOrV_bl, kNotV_bl, mSl_, mPart_, kPart_, mNoPart_, sSeq_, sSet_, sRet_, sIf_, sExpr_, sNil_, sBreak_, sCont_, e_lt, e_le, e_gt, e_ge, e_eqI, e_neI, e_eqS, e_neS, e_add, e_sub, List.set_cons_zero, List.set_cons_succ, kTu1, kTu2, kTu3, kTu4, kTu5, kLs0, kLs1, kLs2, kLs3, kLs4, kLs5, mM_, mM0_, sAsg_, sFor_, iRng_, iSeq_, d1, d2, d3, if_true, Bool.false_eq_true, if_false, hdv]
      · have d2 : decide ((w : Int) = 2) = false := decide_eq_false (by omega)
        by_cases e3 : w = 3
        · have d3 : decide ((w : Int) = 3) = true := decide_eq_true (by omega)
          refine ⟨n + (w2 : Int), by omega, ?_⟩
          unfold Y3 Y4 Y5
          simp only [bind_ok, bind_ex, of_some, rs_ok, rs_ex, then_nx, then_rt, then_ex, then_bk, then_ct, mV0, mVs, mC_, m2_, m1_, mB_, kB_bl, mB1_, mNil_, mCons_, f1L_, f2L_, mTup_, mLst_, mCall_, mNotT_, mAndT_, mOrT_, mIf_, mAndV_, mOrV_, mNotV_, kAndV_bl, kOrV_bl, kNotV_bl, mSl_, mPart_, kPart_, mNoPart_, sSeq_, sSet_, sRet_, sIf_, sExpr_, sNil_, sBreak_, sCont_, e_lt, e_le, e_gt, e_ge, e_eqI, e_neI, e_eqS, e_neS, e_add, e_sub, List.set_cons_zero, List.set_cons_succ, kTu1, kTu2, kTu3, kTu4, kTu5, kLs0, kLs1, kLs2, kLs3, kLs4, kLs5, mM_, mM0_, sAsg_, sFor_, iRng_, iSeq_, d1, d2, d3, if_true, Bool.false_eq_true, if_false]
        · have d3 : decide ((w : Int) = 3) = false := decide_eq_false (by omega)
          refine ⟨(w2 : Int), by omega, ?_⟩
          unfold Y3 Y4 Y5
          simp only [bind_ok, bind_ex, of_some, rs_ok, rs_ex, then_nx, then_rt, then_ex, then_bk, then_ct, mV0, mVs, mC_, m2_, m1_, mB_, kB_bl, mB1_, mNil_, mCons_, f1L_, f2L_, mTup_, mLst_, mCall_, mNotT_, mAndT_, mOrT_, mIf_, mAndV_, mOrV_, mNotV_, kAndV_bl, kOrV_bl, kNotV_bl, mSl_, mPart_, kPart_, mNoPart_, sSeq_, sSet_, sRet_, sIf_, sExpr_, sNil_, sBreak_, sCont_, e_lt, e_le, e_gt, e_ge, e_eqI, e_neI, e_eqS, e_neS, e_add, e_sub, List.set_cons_zero, List.set_cons_succ, kTu1, kTu2, kTu3, kTu4, kTu5, kLs0, kLs1, kLs2, kLs3, kLs4, kLs5, mM_, mM0_, sAsg_, sFor_, iRng_, iSeq_, d1, d2, d3, Bool.false_eq_true, if_false]
  obtain ⟨v, S3, c1, c2⟩ := value h2.pool
  have h3 := h2.stp c2
  have s6 : Y6 [some (.obj p), some (.int n), some (aD n r), some (.obj j), x4, some (nD w), some (.int z), x7, x8] S2 = .nx [some (.obj p), some (.int n), some (aD n r), some (.obj j), x4, some (nD w), some (.int z), some (.int v), x8] S3 := by
    unfold Y6; simp only [bind_ok, bind_ex, of_some, rs_ok, rs_ex, then_nx, then_rt, then_ex, then_bk, then_ct, mV0, mVs, mC_, m2_, m1_, mB_, kB_bl, mB1_, mNil_, mCons_, f1L_, f2L_, mTup_, mLst_, mCall_, mNotT_, mAndT_, mOrT_, mIf_, mAndV_, mOrV_, mNotV_, kAndV_bl, kOrV_bl, kNotV_bl, mSl_, mPart_, kPart_, mNoPart_, sSeq_, sSet_, sRet_, sIf_, sExpr_, sNil_, sBreak_, sCont_, e_lt, e_le, e_gt, e_ge, e_eqI, e_neI, e_eqS, e_neS, e_add, e_sub, List.set_cons_zero, List.set_cons_succ, kTu1, kTu2, kTu3, kTu4, kTu5, kLs0, kLs1, kLs2, kLs3, kLs4, kLs5, mM_, mM0_, sAsg_, sFor_, iRng_, iSeq_, c1]
  have hl1 := h.l1
  have hl2 := h.l2
  obtain ⟨r', X4, d1, d2⟩ := put_cell (S := S3) (z := z) (v := v) h3.ok.canon (by omega)
  have h4 := h3.app (X := X4)
  have s7 : Y7 [some (.obj p), some (.int n), some (aD n r), some (.obj j), x4, some (nD w), some (.int z), some (.int v), x8] S3 = .nx [some (.obj p), some (.int n), some (aD n r'), some (.obj j), x4, some (nD w), some (.int z), some (.int v), x8] (S3 ++ X4) := by
    unfold Y7; simp only [bind_ok, bind_ex, of_some, rs_ok, rs_ex, then_nx, then_rt, then_ex, then_bk, then_ct, mV0, mVs, mC_, m2_, m1_, mB_, kB_bl, mB1_, mNil_, mCons_, f1L_, f2L_, mTup_, mLst_, mCall_, mNotT_, mAndT_, mOrT_, mIf_, mAndV_, mOrV_, mNotV_, kAndV_bl, kOrV_bl, kNotV_bl, mSl_, mPart_, kPart_, mNoPart_, sSeq_, sSet_, sRet_, sIf_, sExpr_, sNil_, sBreak_, sCont_, e_lt, e_le, e_gt, e_ge, e_eqI, e_neI, e_eqS, e_neS, e_add, e_sub, List.set_cons_zero, List.set_cons_succ, kTu1, kTu2, kTu3, kTu4, kTu5, kLs0, kLs1, kLs2, kLs3, kLs4, kLs5, mM_, mM0_, sAsg_, sFor_, iRng_, iSeq_, d1]
  generalize hS4 : S3 ++ X4 = S4 at s7 h4
  have hok := h4.ok.put hz d2
  have hlen' := d2.len
  -- the dict
  obtain ⟨S5, s8, h5⟩ : ∃ S5 : Sto, Y8 [some (.obj p), some (.int n), some (aD n r'), some (.obj j), x4, some (nD w), some (.int z), some (.int v), x8] S4 = .nx [some (.obj p), some (.int n), some (aD n r'), some (.obj j), x4, some (nD w), some (.int z), some (.int v), x8] S5 ∧ WI S5 p j n (if z < n then pe es z v else es) r' (k + 1) := by
    by_cases hzn : z < n
    · have e1 : decide (z < n) = true := decide_eq_true hzn
      have hput : fDPut (.obj j) (.int z) (.int v) S4 = some (S4.set j (.dic ((pe es z v).map kd))) := by
        unfold fDPut
        simp only [h4.dic, keyD, Option.bind_some]
        rw [if_pos (by rw [List.length_map, sizeLine_eq]; omega), pe_kd]
      refine ⟨S4.set j (.dic ((pe es z v).map kd)), ?_, ?_⟩
      · unfold Y8 Mi.sDPut
        simp only [bind_ok, bind_ex, of_some, rs_ok, rs_ex, then_nx, then_rt, then_ex, then_bk, then_ct, mV0, mVs, mC_, m2_, m1_, mB_, kB_bl, mB1_, mNil_, mCons_, f1L_, f2L_, mTup_, mLst_, mCall_, mNotT_, mAndT_, mOrT_, mIf_, mAndV_, mOrV_, mNotV_, kAndV_bl, kOrV_bl, kNotV_bl, mSl_, mPart_, kPart_, mNoPart_, sSeq_, sSet_, sRet_, sIf_, sExpr_, sNil_, sBreak_, sCont_, e_lt, e_le, e_gt, e_ge, e_eqI, e_neI, e_eqS, e_neS, e_add, e_sub, List.set_cons_zero, List.set_cons_succ, kTu1, kTu2, kTu3, kTu4, kTu5, kLs0, kLs1, kLs2, kLs3, kLs4, kLs5, mM_, mM0_, sAsg_, sFor_, iRng_, iSeq_, e1, if_true, hput]
      · rw [if_pos hzn] at hok ⊢
        refine ⟨?_, List.getElem?_set_self (get_lt h4.dic), h.ne, hok, h.big, by omega, by have := pe_len es z v; omega⟩
        obtain ⟨ps, g1, g2⟩ := h4.pool
        exact ⟨ps, by rw [List.getElem?_set_ne h.ne]; exact g1, g2⟩
    · have e1 : decide (z < n) = false := decide_eq_false hzn
      refine ⟨S4, ?_, ?_⟩
      · unfold Y8
        simp only [bind_ok, bind_ex, of_some, rs_ok, rs_ex, then_nx, then_rt, then_ex, then_bk, then_ct, mV0, mVs, mC_, m2_, m1_, mB_, kB_bl, mB1_, mNil_, mCons_, f1L_, f2L_, mTup_, mLst_, mCall_, mNotT_, mAndT_, mOrT_, mIf_, mAndV_, mOrV_, mNotV_, kAndV_bl, kOrV_bl, kNotV_bl, mSl_, mPart_, kPart_, mNoPart_, sSeq_, sSet_, sRet_, sIf_, sExpr_, sNil_, sBreak_, sCont_, e_lt, e_le, e_gt, e_ge, e_eqI, e_neI, e_eqS, e_neS, e_add, e_sub, List.set_cons_zero, List.set_cons_succ, kTu1, kTu2, kTu3, kTu4, kTu5, kLs0, kLs1, kLs2, kLs3, kLs4, kLs5, mM_, mM0_, sAsg_, sFor_, iRng_, iSeq_, e1, Bool.false_eq_true, if_false]
      · rw [if_neg hzn] at hok ⊢
        exact ⟨h4.pool, h4.dic, h.ne, hok, h.big, by omega, by omega⟩
  generalize hes : (if z < n then pe es z v else es) = es' at h5
  have hl3 := h5.l1
  have hl4 := h5.l2
  obtain ⟨X6, f1⟩ := wide_runs h5.dic h5.ok (by omega) (by omega)
  have h6 := h5.app (X := X6)
  obtain ⟨X7, f2⟩ := law_looks (S := S5 ++ X6) (n := n) (place := z) (r := r') (j := j) h6.ok.canon (by omega) (h6.ok.dict h6.dic)
  have s9 : Y9 [some (.obj p), some (.int n), some (aD n r'), some (.obj j), x4, some (nD w), some (.int z), some (.int v), x8] S5 = .nx [some (.obj p), some (.int n), some (aD n r'), some (.obj j), x4, some (nD w), some (.int z), some (.int v), x8] (S5 ++ X6 ++ X7) := by
    unfold Y9
    simp only [bind_ok, bind_ex, of_some, rs_ok, rs_ex, then_nx, then_rt, then_ex, then_bk, then_ct, mV0, mVs, mC_, m2_, m1_, mB_, kB_bl, mB1_, mNil_, mCons_, f1L_, f2L_, mTup_, mLst_, mCall_, mNotT_, mAndT_, mOrT_, mIf_, mAndV_, mOrV_, mNotV_, kAndV_bl, kOrV_bl, kNotV_bl, mSl_, mPart_, kPart_, mNoPart_, sSeq_, sSet_, sRet_, sIf_, sExpr_, sNil_, sBreak_, sCont_, e_lt, e_le, e_gt, e_ge, e_eqI, e_neI, e_eqS, e_neS, e_add, e_sub, List.set_cons_zero, List.set_cons_succ, kTu1, kTu2, kTu3, kTu4, kTu5, kLs0, kLs1, kLs2, kLs3, kLs4, kLs5, mM_, mM0_, sAsg_, sFor_, iRng_, iSeq_, f1, law_is_array (S := S5 ++ X6) (n := n) (r := r') (by omega), f2, Bool.not_true, Bool.false_eq_true, if_false]
  refine ⟨es', r', some (nD w), some (.int z), some (.int v), S5 ++ X6 ++ X7, ?_, h6.app⟩
  have assoc : ∀ (k : MS) (env : Mi.Env) (S : Sto), sSeq Y3 (sSeq Y4 (sSeq Y5 k)) env S = sSeq (sSeq Y3 (sSeq Y4 Y5)) k env S := fun k env S => by
    have tt : ∀ (o : RS) (f g : Mi.Env → Sto → RS), (o.then f).then g = o.then fun e s => (f e s).then g := fun o f g => by cases o <;> rfl
    rw [sSeq_, sSeq_, sSeq_, tt]
    congr 1
    funext e s
    rw [sSeq_, sSeq_, tt]
    congr 1
  unfold YT
  rw [sSeq_, s1, then_nx, sSeq_, s2, then_nx, assoc, sSeq_, s345, then_nx, sSeq_, s6, then_nx, sSeq_, s7, then_nx, sSeq_, s8, then_nx, s9]
theorem yturns : ∀ (m i N : Nat) (S : Sto) (es r : Row) (x4 x5 x6 x7 : Option D), N = i + m → N ≤ 20 → WI S p j n es r i → ∃ (es' r' : Row) (y4 y5 y6 y7 : Option D) (S' : Sto), forI (itRng 0 N) (gN 4) YT m i [some (.obj p), some (.int n), some (aD n r), some (.obj j), x4, x5, x6, x7, x8] S = .nx [some (.obj p), some (.int n), some (aD n r'), some (.obj j), y4, y5, y6, y7, x8] S' ∧ WI S' p j n es' r' N
  | 0, i, N, S, es, r, x4, x5, x6, x7, hn, hN, h => by
    have : N = i := by omega
    subst this
    exact ⟨es, r, x4, x5, x6, x7, S, by rw [fr_end], h⟩
  | m + 1, i, N, S, es, r, x4, x5, x6, x7, hn, hN, h => by
    obtain ⟨es1, r1, y5, y6, y7, S1, q1, h1⟩ := yturn (x4 := some (.int (0 + (i : Int)))) (x5 := x5) (x6 := x6) (x7 := x7) (x8 := x8) h (by omega)
    obtain ⟨es2, r2, z4, z5, z6, z7, S2, q2, h2⟩ := yturns m (i + 1) N S1 es1 r1 (some (.int (0 + (i : Int)))) y5 y6 y7 (by omega) hN h1
    refine ⟨es2, r2, z4, z5, z6, z7, S2, ?_, h2⟩
    rw [fr_nx (by omega) q1, q2]
end
end K07

namespace K07
open PySem PySem.Spec L2 Mi
theorem chain_more {n : Int} : ∀ {q : Int × Int} {r : Row}, chain n q r → chain (n + 1) q r
  | q, [], _ => True.intro
  | q, p :: r, h => ⟨Int.lt_trans h.1 (by omega), h.2.1, h.2.2.1, chain_more h.2.2.2⟩
theorem canon_more {n : Int} {r : Row} (hn : 0 < n) (h : Canon n r) : Canon (n + 1) r := by
  cases r with
  | nil => have : n = 0 := h; omega
  | cons p r => exact ⟨by omega, h.2.1, chain_more h.2.2⟩
def Z1 : MS := (sSet 1 (mCall M__law_length (mCons (mV 0) mNil)))
def Z2 : MS := (sSet 2 (mCall M_fresh_array (mCons (mV 1) mNil)))
def Z3 : MS := (sSet 3 mDNew)
def Z4 : MS := (sIf (mNotT (mB (mCall M__law_is_array (mCons (mV 2) (mCons (mTup (mCons (mV 1) (mCons (mTup (mCons (mTup (mCons (mC (.int 0)) (mCons (mC (.int 0)) mNil))) mNil)) mNil))) mNil)))))
  (sRet (mC (.bl false)))
  sNil)
def Z5 : MS := (sFor (iRng (mCons (m2 fAdd (mC (.int 1)) (mCall M__law_pick (mCons (mV 0) (mCons (mC (.int 10)) mNil)))) mNil)) (gN 4) YT)
def Z6 : MS := (sSet 8 (mTup (mCons (m2 fAdd (mV 1) (mC (.int 1))) (mCons (m2 fIx (mV 2) (mC (.int 1))) mNil))))
def Z7 : MS := (sRet (mAndV (m2 fIs (mCall M_same_arrays (mCons (mV 2) (mCons (mTup (mCons (m2 fIx (mV 2) (mC (.int 0))) (mCons (mB1 (f1L fTuple) (mCons (mB1 (f1L fList2) (mCons (m2 fIx (mV 2) (mC (.int 1))) mNil)) mNil)) mNil))) mNil))) (mC (.bl true))) (m2 fIs (mCall M_same_arrays (mCons (mV 2) (mCons (mV 8) mNil))) (mC (.bl false)))))
theorem lwide_eq : B__law_wide = sSeq Z1 (sSeq Z2 (sSeq Z3 (sSeq Z4 (sSeq Z5 (sSeq Z6 Z7))))) := (rfl)
theorem law_wide {S : Sto} {p : Nat} (h : PoolOk S p) : ∃ S' : Sto, M__law_wide [.obj p] S = .ok (.bl true) S' ∧ PoolOk S' p := by
  obtain ⟨n, S1, a1, a2, a3⟩ := law_length h
  have hp1 := a3.pool
  have s1 : Z1 [some (.obj p), none, none, none, none, none, none, none, none] S = .nx [some (.obj p), some (.int n), none, none, none, none, none, none, none] S1 := by
    unfold Z1; simp only [bind_ok, bind_ex, of_some, rs_ok, rs_ex, then_nx, then_rt, then_ex, then_bk, then_ct, mV0, mVs, mC_, m2_, m1_, mB_, kB_bl, mB1_, mNil_, mCons_, f1L_, f2L_, mTup_, mLst_, mCall_, mNotT_, mAndT_, mOrT_, mIf_, mAndV_, mOrV_, mNotV_, kAndV_bl, kOrV_bl, kNotV_bl, mSl_, mPart_, kPart_, mNoPart_, sSeq_, sSet_, sRet_, sIf_, sExpr_, sNil_, sBreak_, sCont_, e_lt, e_le, e_gt, e_ge, e_eqI, e_neI, e_eqS, e_neS, e_add, e_sub, List.set_cons_zero, List.set_cons_succ, kTu1, kTu2, kTu3, kTu4, kTu5, kLs0, kLs1, kLs2, kLs3, kLs4, kLs5, mM_, mM0_, sAsg_, sFor_, iRng_, iSeq_, a1]
  obtain ⟨X2, b1⟩ := fresh_array (S := S1) (n := n) (by omega)
  have s2 : Z2 [some (.obj p), some (.int n), none, none, none, none, none, none, none] S1 = .nx [some (.obj p), some (.int n), some (aD n [(0, 0)]), none, none, none, none, none, none] (S1 ++ X2) := by
    unfold Z2; simp only [bind_ok, bind_ex, of_some, rs_ok, rs_ex, then_nx, then_rt, then_ex, then_bk, then_ct, mV0, mVs, mC_, m2_, m1_, mB_, kB_bl, mB1_, mNil_, mCons_, f1L_, f2L_, mTup_, mLst_, mCall_, mNotT_, mAndT_, mOrT_, mIf_, mAndV_, mOrV_, mNotV_, kAndV_bl, kOrV_bl, kNotV_bl, mSl_, mPart_, kPart_, mNoPart_, sSeq_, sSet_, sRet_, sIf_, sExpr_, sNil_, sBreak_, sCont_, e_lt, e_le, e_gt, e_ge, e_eqI, e_neI, e_eqS, e_neS, e_add, e_sub, List.set_cons_zero, List.set_cons_succ, kTu1, kTu2, kTu3, kTu4, kTu5, kLs0, kLs1, kLs2, kLs3, kLs4, kLs5, mM_, mM0_, sAsg_, sFor_, iRng_, iSeq_, b1]
  have hp2 := (Stp.app (X := X2) hp1).pool
  generalize hS2 : S1 ++ X2 = S2 at s2 hp2
  have s3 : Z3 [some (.obj p), some (.int n), some (aD n [(0, 0)]), none, none, none, none, none, none] S2 = .nx [some (.obj p), some (.int n), some (aD n [(0, 0)]), some (.obj S2.length), none, none, none, none, none] (S2 ++ [.dic []]) := rfl
  have hw : WI (S2 ++ [.dic []]) p S2.length n [] [(0, 0)] 0 := by
    refine ⟨(Stp.app hp2).pool, last0, ?_, ⟨by omega, ⟨by omega, rfl, True.intro⟩, (fun e he => by cases he), fun z z0 z1 => ?_⟩, a2, by simp, by simp⟩
    · have := hp2.lt; omega
    · show (if (0 : Int) ≤ z then val 0 [] z else 0) = 0
      rw [if_pos z0]; rfl
  generalize hS3 : S2 ++ [MO.dic []] = S3 at s3 hw
  have s4 : Z4 [some (.obj p), some (.int n), some (aD n [(0, 0)]), some (.obj S2.length), none, none, none, none, none] S3 = .nx [some (.obj p), some (.int n), some (aD n [(0, 0)]), some (.obj S2.length), none, none, none, none, none] S3 := by
    have e : D.tup [.int n, .tup [.tup [.int 0, .int 0]]] = aD n [(0, 0)] := rfl
    unfold Z4
    simp only [bind_ok, bind_ex, of_some, rs_ok, rs_ex, then_nx, then_rt, then_ex, then_bk, then_ct, mV0, mVs, mC_, m2_, m1_, mB_, kB_bl, mB1_, mNil_, mCons_, f1L_, f2L_, mTup_, mLst_, mCall_, mNotT_, mAndT_, mOrT_, mIf_, mAndV_, mOrV_, mNotV_, kAndV_bl, kOrV_bl, kNotV_bl, mSl_, mPart_, kPart_, mNoPart_, sSeq_, sSet_, sRet_, sIf_, sExpr_, sNil_, sBreak_, sCont_, e_lt, e_le, e_gt, e_ge, e_eqI, e_neI, e_eqS, e_neS, e_add, e_sub, List.set_cons_zero, List.set_cons_succ, kTu1, kTu2, kTu3, kTu4, kTu5, kLs0, kLs1, kLs2, kLs3, kLs4, kLs5, mM_, mM0_, sAsg_, sFor_, iRng_, iSeq_, e, law_is_array (S := S3) (n := n) (r := [(0, 0)]) (by simp), Bool.not_true, Bool.false_eq_true, if_false]
  obtain ⟨w, S4, c1, c2, c3, _⟩ := pick hw.pool (m := 10) (by omega)
  have c1' : M__law_pick [.obj p, .int 10] S3 = .ok (nD w) S4 := c1
  have hw4 := hw.stp c3
  obtain ⟨es, r, y4, y5, y6, y7, S5, d1, hw5⟩ := yturns (x8 := none) (1 + w) 0 (1 + w) S4 [] [(0, 0)] none none none none (by omega) (by omega) hw4
  have hk : kRngI [.int (1 + (w : Int))] S4 = .ok (itRng 0 (1 + w)) S4 := by
    rw [kRng1 (by omega), show (1 + (w : Int)).toNat = 1 + w by omega]
  have en : ∀ n, (itRng 0 n).n = n := fun _ => (rfl)
  have s5 : Z5 [some (.obj p), some (.int n), some (aD n [(0, 0)]), some (.obj S2.length), none, none, none, none, none] S3 = .nx [some (.obj p), some (.int n), some (aD n r), some (.obj S2.length), y4, y5, y6, y7, none] S5 := by
    unfold Z5
    simp only [bind_ok, bind_ex, of_some, rs_ok, rs_ex, then_nx, then_rt, then_ex, then_bk, then_ct, mV0, mVs, mC_, m2_, m1_, mB_, kB_bl, mB1_, mNil_, mCons_, f1L_, f2L_, mTup_, mLst_, mCall_, mNotT_, mAndT_, mOrT_, mIf_, mAndV_, mOrV_, mNotV_, kAndV_bl, kOrV_bl, kNotV_bl, mSl_, mPart_, kPart_, mNoPart_, sSeq_, sSet_, sRet_, sIf_, sExpr_, sNil_, sBreak_, sCont_, e_lt, e_le, e_gt, e_ge, e_eqI, e_neI, e_eqS, e_neS, e_add, e_sub, List.set_cons_zero, List.set_cons_succ, kTu1, kTu2, kTu3, kTu4, kTu5, kLs0, kLs1, kLs2, kLs3, kLs4, kLs5, mM_, mM0_, sAsg_, sFor_, iRng_, iSeq_, c1', hk, en, d1]
  have hl := hw5.l1
  have s6 : Z6 [some (.obj p), some (.int n), some (aD n r), some (.obj S2.length), y4, y5, y6, y7, none] S5 = .nx [some (.obj p), some (.int n), some (aD n r), some (.obj S2.length), y4, y5, y6, y7, some (aD (n + 1) r)] S5 := by
    have e : D.tup [.int (n + 1), rwD r] = aD (n + 1) r := rfl
    unfold Z6
    simp only [bind_ok, bind_ex, of_some, rs_ok, rs_ex, then_nx, then_rt, then_ex, then_bk, then_ct, mV0, mVs, mC_, m2_, m1_, mB_, kB_bl, mB1_, mNil_, mCons_, f1L_, f2L_, mTup_, mLst_, mCall_, mNotT_, mAndT_, mOrT_, mIf_, mAndV_, mOrV_, mNotV_, kAndV_bl, kOrV_bl, kNotV_bl, mSl_, mPart_, kPart_, mNoPart_, sSeq_, sSet_, sRet_, sIf_, sExpr_, sNil_, sBreak_, sCont_, e_lt, e_le, e_gt, e_ge, e_eqI, e_neI, e_eqS, e_neS, e_add, e_sub, List.set_cons_zero, List.set_cons_succ, kTu1, kTu2, kTu3, kTu4, kTu5, kLs0, kLs1, kLs2, kLs3, kLs4, kLs5, mM_, mM0_, sAsg_, sFor_, iRng_, iSeq_, e_a1, e]
  have hfl : fList2 (rwD r) S5 = some (.obj S5.length, S5 ++ [.lst (r.map prD)]) := rfl
  have htu : fTuple (.obj S5.length) (S5 ++ [.lst (r.map prD)]) = some (rwD r, S5 ++ [.lst (r.map prD)]) := by
    show (lstAt _ _).map _ = _
    rw [lst_at last0]; rfl
  have sa1 := same_arrays (S := S5 ++ [.lst (r.map prD)]) hw5.ok.canon hw5.ok.canon (by omega) (by omega)
  rw [show decide (n = n ∧ r = r) = true from decide_eq_true ⟨rfl, rfl⟩] at sa1
  have sa2 := same_arrays (S := S5 ++ [.lst (r.map prD)]) hw5.ok.canon (canon_more hw5.ok.pos hw5.ok.canon) (by omega) (by omega)
  rw [show decide (n = n + 1 ∧ r = r) = false from decide_eq_false (fun z => by omega)] at sa2
  have e0 : D.tup [.int n, rwD r] = aD n r := rfl
  have d2 : decide (true = true) = true := rfl
  have d3 : decide (false = false) = true := rfl
  refine ⟨S5 ++ [.lst (r.map prD)], ?_, (Stp.app hw5.pool).pool⟩
  have hb : B__law_wide [some (.obj p), none, none, none, none, none, none, none, none] S = .rt (.bl true) (S5 ++ [.lst (r.map prD)]) := by
    rw [lwide_eq, sSeq_, s1, then_nx, sSeq_, s2, then_nx, sSeq_, s3, then_nx, sSeq_, s4, then_nx, sSeq_, s5, then_nx, sSeq_, s6, then_nx]
    unfold Z7
    simp only [bind_ok, bind_ex, of_some, rs_ok, rs_ex, then_nx, then_rt, then_ex, then_bk, then_ct, mV0, mVs, mC_, m2_, m1_, mB_, kB_bl, mB1_, mNil_, mCons_, f1L_, f2L_, mTup_, mLst_, mCall_, mNotT_, mAndT_, mOrT_, mIf_, mAndV_, mOrV_, mNotV_, kAndV_bl, kOrV_bl, kNotV_bl, mSl_, mPart_, kPart_, mNoPart_, sSeq_, sSet_, sRet_, sIf_, sExpr_, sNil_, sBreak_, sCont_, e_lt, e_le, e_gt, e_ge, e_eqI, e_neI, e_eqS, e_neS, e_add, e_sub, List.set_cons_zero, List.set_cons_succ, kTu1, kTu2, kTu3, kTu4, kTu5, kLs0, kLs1, kLs2, kLs3, kLs4, kLs5, mM_, mM0_, sAsg_, sFor_, iRng_, iSeq_, e_a0, e_a1, hfl, htu, e0, sa1, e_is, decide_true, if_true, sa2]
  unfold M__law_wide mFn
  simp only [List.length_cons, List.length_nil, Nat.reduceAdd, if_true, List.map_cons, List.map_nil, List.replicate, List.cons_append, List.nil_append, Nat.reduceSub]
  rw [hb]
  rfl
end K07

namespace K07
open PySem PySem.Spec L2 Mi
/-! ### points, in plain numbers -/
/-- the value of the last pair, in order, that starts at most at z -/
def pv (d : Int) : Row → Int → Int
  | [], _ => d
  | p :: r, z => if p.1 ≤ z then pv p.2 r z else pv d r z
theorem pv_snoc : ∀ {r : Row} {d z : Int} {p : Int × Int}, pv d (r ++ [p]) z = if p.1 ≤ z then p.2 else pv d r z
  | [], d, z, p => rfl
  | q :: r, d, z, p => by
    show (if q.1 ≤ z then pv q.2 (r ++ [p]) z else pv d (r ++ [p]) z) = if p.1 ≤ z then p.2 else (if q.1 ≤ z then pv q.2 r z else pv d r z)
    rw [pv_snoc, pv_snoc]
    by_cases h1 : q.1 ≤ z <;> by_cases h2 : p.1 ≤ z <;> simp [h1, h2]
theorem pv_congr : ∀ {r : Row} {d z m : Int}, (∀ p ∈ r, (p.1 ≤ z ↔ p.1 ≤ m)) → pv d r z = pv d r m
  | [], _, _, _, _ => rfl
  | q :: r, d, z, m, h => by
    have hq := h q (List.mem_cons_self ..)
    have hr : ∀ p ∈ r, (p.1 ≤ z ↔ p.1 ≤ m) := fun p hp => h p (List.mem_cons_of_mem _ hp)
    rw [pv, pv, pv_congr hr, pv_congr hr]
    by_cases h1 : q.1 ≤ z
    · rw [if_pos h1, if_pos (hq.mp h1)]
    · rw [if_neg h1, if_neg (fun x => h1 (hq.mpr x))]
theorem val_snoc : ∀ {r : Row} {d z : Int} {p : Int × Int}, (∀ q ∈ r, q.1 ≤ p.1) → val d (r ++ [p]) z = if p.1 ≤ z then p.2 else val d r z
  | [], d, z, p, _ => rfl
  | q :: r, d, z, p, h => by
    have hq := h q (List.mem_cons_self ..)
    show (if q.1 ≤ z then val q.2 (r ++ [p]) z else d) = if p.1 ≤ z then p.2 else (if q.1 ≤ z then val q.2 r z else d)
    rw [val_snoc fun x hx => h x (List.mem_cons_of_mem _ hx)]
    by_cases h1 : q.1 ≤ z
    · rw [if_pos h1, if_pos h1]
    · rw [if_neg h1, if_neg h1, if_neg (by omega)]
/-- one pair taken -/
def fpS (s : Int × Row) (p : Int × Int) : Int × Row :=
  if p.1 ≤ 0 then (p.2, s.2)
  else match s.2.getLast? with
    | some l => if l.1 = p.1 then (s.1, s.2.dropLast ++ [p]) else (s.1, s.2 ++ [p])
    | none => (s.1, s.2 ++ [p])
structure FpOk' (pre : Row) (s : Int × Row) : Prop where
  asc : s.2.Pairwise fun a b => a.1 < b.1
  pos : ∀ q ∈ s.2, 0 < q.1
  src : ∀ q ∈ s.2, ∃ p ∈ pre, p.1 = q.1
  val : ∀ z, 0 ≤ z → val s.1 s.2 z = pv 0 pre z
  len : s.2.length ≤ pre.length
theorem fpS_ok {pre : Row} {s : Int × Row} {p : Int × Int} (h : FpOk' pre s) (hp : ∀ q ∈ pre, q.1 ≤ p.1) : FpOk' (pre ++ [p]) (fpS s p) := by
  have hle : ∀ q ∈ s.2, q.1 ≤ p.1 := fun q hq => by obtain ⟨x, hx, e⟩ := h.src q hq; rw [← e]; exact hp x hx
  unfold fpS
  by_cases h1 : p.1 ≤ 0
  · rw [if_pos h1]
    have hs : s.2 = [] := by
      cases hs : s.2 with
      | nil => rfl
      | cons q r =>
        have a := h.pos q (by rw [hs]; exact List.mem_cons_self ..)
        have b := hle q (by rw [hs]; exact List.mem_cons_self ..)
        omega
    refine ⟨h.asc, h.pos, fun q hq => ?_, fun z hz => ?_, ?_⟩
    · rw [show (p.2, s.2).2 = s.2 from rfl, hs] at hq; cases hq
    · rw [pv_snoc, if_pos (by omega)]
      show K07.val p.2 s.2 z = p.2
      rw [hs]; rfl
    · show s.2.length ≤ _
      rw [hs]; simp
  · rw [if_neg h1]
    have app : (∀ q ∈ s.2, q.1 < p.1) → FpOk' (pre ++ [p]) (s.1, s.2 ++ [p]) := fun hlt => by
      refine ⟨?_, fun q hq => ?_, fun q hq => ?_, fun z hz => ?_, ?_⟩
      · show (s.2 ++ [p]).Pairwise _
        rw [List.pairwise_append]
        exact ⟨h.asc, List.pairwise_singleton _ _, fun a ha b hb => by rw [List.mem_singleton.mp hb]; exact hlt a ha⟩
      · rcases List.mem_append.mp hq with hq | hq
        · exact h.pos q hq
        · rw [List.mem_singleton.mp hq]; omega
      · rcases List.mem_append.mp hq with hq | hq
        · obtain ⟨x, hx, e⟩ := h.src q hq
          exact ⟨x, List.mem_append_left _ hx, e⟩
        · exact ⟨p, by simp, by rw [List.mem_singleton.mp hq]⟩
      · show K07.val s.1 (s.2 ++ [p]) z = _
        rw [val_snoc hle, pv_snoc, h.val z hz]
      · show (s.2 ++ [p]).length ≤ _
        rw [List.length_append, List.length_append]
        have := h.len
        simp; omega
    cases hg : s.2.getLast? with
    | none =>
      have : s.2 = [] := List.getLast?_eq_none_iff.mp hg
      show FpOk' _ (s.1, s.2 ++ [p])
      exact app fun q hq => by rw [this] at hq; cases hq
    | some l =>
      have hne : s.2 ≠ [] := by intro z; rw [z] at hg; cases hg
      have hdec : s.2.dropLast ++ [l] = s.2 := by
        have := List.dropLast_concat_getLast hne
        rw [List.getLast?_eq_some_getLast hne] at hg
        rw [← Option.some.inj hg]; exact this
      show FpOk' _ (if l.1 = p.1 then (s.1, s.2.dropLast ++ [p]) else (s.1, s.2 ++ [p]))
      by_cases h2 : l.1 = p.1
      · rw [if_pos h2]
        have hasc := h.asc
        rw [← hdec, List.pairwise_append] at hasc
        have hd : ∀ q ∈ s.2.dropLast, q.1 < p.1 := fun q hq => by rw [← h2]; exact hasc.2.2 q hq l (by simp)
        have hdm : ∀ q ∈ s.2.dropLast, q ∈ s.2 := fun q hq => by rw [← hdec]; exact List.mem_append_left _ hq
        refine ⟨?_, fun q hq => ?_, fun q hq => ?_, fun z hz => ?_, ?_⟩
        · show (s.2.dropLast ++ [p]).Pairwise _
          rw [List.pairwise_append]
          exact ⟨hasc.1, List.pairwise_singleton _ _, fun a ha b hb => by rw [List.mem_singleton.mp hb]; exact hd a ha⟩
        · rcases List.mem_append.mp hq with hq | hq
          · exact h.pos q (hdm q hq)
          · rw [List.mem_singleton.mp hq]; omega
        · rcases List.mem_append.mp hq with hq | hq
          · obtain ⟨x, hx, e⟩ := h.src q (hdm q hq)
            exact ⟨x, List.mem_append_left _ hx, e⟩
          · exact ⟨p, by simp, by rw [List.mem_singleton.mp hq]⟩
        · show K07.val s.1 (s.2.dropLast ++ [p]) z = _
          have e := h.val z hz
          rw [← hdec, val_snoc (fun q hq => by rw [h2]; exact Int.le_of_lt (hd q hq))] at e
          rw [val_snoc (fun q hq => Int.le_of_lt (hd q hq)), pv_snoc]
          by_cases h3 : p.1 ≤ z
          · rw [if_pos h3, if_pos h3]
          · rw [if_neg (by omega)] at e
            rw [if_neg h3, if_neg h3, e]
        · show (s.2.dropLast ++ [p]).length ≤ _
          rw [List.length_append, List.length_append, List.length_dropLast]
          have := h.len
          simp; omega
      · rw [if_neg h2]
        have hasc := h.asc
        rw [← hdec, List.pairwise_append] at hasc
        refine app fun q hq => ?_
        rw [← hdec] at hq
        have hl : l.1 ≤ p.1 := hle l (by rw [← hdec]; simp)
        rcases List.mem_append.mp hq with hq | hq
        · have := hasc.2.2 q hq l (by simp); omega
        · rw [List.mem_singleton.mp hq]; omega
theorem fp0 : FpOk' [] (0, []) := ⟨List.Pairwise.nil, (fun q h => by cases h), (fun q h => by cases h), fun z _ => rfl, Nat.le_refl _⟩
def fpAll (row : Row) : Int × Row := row.foldl fpS (0, [])
theorem fpAll_ok {row : Row} (h : row.Pairwise fun a b => a.1 ≤ b.1) : FpOk' row (fpAll row) := by
  have key : ∀ (suf pre : Row) (s : Int × Row), (pre ++ suf).Pairwise (fun a b => a.1 ≤ b.1) → FpOk' pre s → FpOk' (pre ++ suf) (suf.foldl fpS s) := by
    intro suf
    induction suf with
    | nil => intro pre s _ h; rw [List.append_nil]; exact h
    | cons p suf ih =>
      intro pre s hp h
      have hp' := hp
      rw [List.pairwise_append] at hp'
      have := ih (pre ++ [p]) (fpS s p) (by rw [List.append_assoc]; exact hp) (fpS_ok h fun q hq => hp'.2.2 q hq p (by simp))
      rw [List.append_assoc] at this
      exact this
  exact key row [] (0, []) h fp0
/-- the array of points -/
def ptsR (n : Int) (row : Row) : Row := jr0 n ((0, (fpAll row).1) :: (fpAll row).2)
theorem srt_of_asc : ∀ {q : Int × Int} {r : Row}, (∀ p ∈ r, q.1 < p.1) → r.Pairwise (fun a b => a.1 < b.1) → Srt q r
  | _, [], _, _ => True.intro
  | q, p :: r, h1, h2 => by
    have a := h1 p (List.mem_cons_self ..)
    obtain ⟨b1, b2⟩ := List.pairwise_cons.mp h2
    exact ⟨by omega, fun e => by omega, srt_of_asc b1 b2⟩
theorem ptsR_ok {n : Int} {row : Row} (hn : 0 ≤ n) (h : row.Pairwise fun a b => a.1 ≤ b.1) : Canon n (ptsR n row) ∧ ∀ z, 0 ≤ z → z < n → val 0 (ptsR n row) z = pv 0 row z := by
  have f := fpAll_ok h
  have hs : Srt (0, (fpAll row).1) (fpAll row).2 := srt_of_asc (fun p hp => f.pos p hp) f.asc
  unfold ptsR
  rcases Int.lt_or_eq_of_le hn with h1 | h1
  · obtain ⟨c1, c2⟩ := jr0_ok (n := n) (p := (0, (fpAll row).1)) h1 rfl hs
    refine ⟨c1, fun z z0 z1 => ?_⟩
    rw [c2 z z0 z1, ← f.val z z0]
    show (if (0 : Int) ≤ z then _ else _) = _
    rw [if_pos z0]
  · subst h1
    rw [jr0_nil (p := (0, (fpAll row).1)) (Int.le_refl _) hs]
    exact ⟨rfl, fun z z0 z1 => by omega⟩
theorem ptsR_len {n : Int} {row : Row} (h : row.Pairwise fun a b => a.1 ≤ b.1) : (ptsR n row).length ≤ row.length + 1 := by
  have f := fpAll_ok h
  have := jr0_le (n := n) ((0, (fpAll row).1) :: (fpAll row).2)
  rw [List.length_cons] at this
  have := f.len
  unfold ptsR
  omega
/-- the law's marks of points -/
def marksP : Row → List Int
  | [] => []
  | p :: r => if 0 < p.1 then p.1 :: marksP r else marksP r
theorem marksP_mem : ∀ (r : Row) (m : Int), m ∈ marksP r ↔ 0 < m ∧ ∃ p ∈ r, p.1 = m
  | [], m => by simp [marksP]
  | p :: r, m => by
    rw [marksP]
    by_cases h : 0 < p.1
    · rw [if_pos h, List.mem_cons, marksP_mem r m]
      constructor
      · rintro (e | ⟨a, x, hx, e⟩)
        · exact ⟨by omega, p, List.mem_cons_self .., e.symm⟩
        · exact ⟨a, x, List.mem_cons_of_mem _ hx, e⟩
      · rintro ⟨a, x, hx, e⟩
        rcases List.mem_cons.mp hx with rfl | hx
        · exact .inl e.symm
        · exact .inr ⟨a, x, hx, e⟩
    · rw [if_neg h, marksP_mem r m]
      constructor
      · rintro ⟨a, x, hx, e⟩
        exact ⟨a, x, List.mem_cons_of_mem _ hx, e⟩
      · rintro ⟨a, x, hx, e⟩
        rcases List.mem_cons.mp hx with rfl | hx
        · omega
        · exact ⟨a, x, hx, e⟩
theorem marksP_len : ∀ r : Row, (marksP r).length ≤ r.length
  | [] => Nat.le_refl _
  | p :: r => by
    rw [marksP]
    have := marksP_len r
    split <;> simp <;> omega
theorem pts_rows {n : Int} {row : Row} (hn : 0 ≤ n) (h : row.Pairwise fun a b => a.1 ≤ b.1) : jr0 n (mp (pv 0 row) (srt (0 :: marksP row))) = ptsR n row := by
  obtain ⟨c1, c2⟩ := ptsR_ok hn h
  have hp := srt_perm (0 :: marksP row)
  have mem : ∀ m, m ∈ srt (0 :: marksP row) ↔ m = 0 ∨ (0 < m ∧ ∃ p ∈ row, p.1 = m) := fun m => by
    rw [hp.mem_iff, List.mem_cons, marksP_mem]
  have hnn : ∀ m ∈ srt (0 :: marksP row), 0 ≤ m := fun m hm => by
    rcases (mem m).mp hm with h0 | ⟨h0, _⟩ <;> omega
  rcases Int.lt_or_eq_of_le hn with h1 | h1
  · refine marks_ok h1 c1 (srt_le _) ((mem 0).mpr (.inl rfl)) hnn c2 fun z m z0 z1 hm hmz hmax => ?_
    have hm0 : 0 ≤ m := hnn m hm
    refine pv_congr fun p hp => ⟨fun a => ?_, fun a => by omega⟩
    by_cases h2 : 0 < p.1
    · exact hmax p.1 ((mem p.1).mpr (.inr ⟨h2, p, hp, rfl⟩)) a
    · omega
  · subst h1
    rw [marks_nil (srt_le _) hnn]
    have : ptsR 0 row = [] := by
      cases hr : ptsR 0 row with
      | nil => rfl
      | cons q r => rw [hr] at c1; have := c1.1; omega
    rw [this]
end K07

namespace K07
open PySem PySem.Spec L2 Mi
/-! ### from_points -/
def PrAt (S : Sto) (d : D) (p : Int × Int) : Prop := d = prD p ∨ ∃ j, d = .obj j ∧ S[j]? = some (.lst [.int p.1, .int p.2])
theorem PrAt.seq {S : Sto} {d : D} {p : Int × Int} (h : PrAt S d p) : SeqAtD S d [.int p.1, .int p.2] := by
  rcases h with rfl | ⟨j, rfl, h⟩
  · exact seq_tup
  · exact seq_lst h
theorem PrAt.app {S X : Sto} {d : D} {p : Int × Int} (h : PrAt S d p) : PrAt (S ++ X) d p := by
  rcases h with h | ⟨j, h, h2⟩
  · exact .inl h
  · exact .inr ⟨j, h, get_app h2⟩
theorem PrAt.but {S S' : Sto} {q : Nat} {d : D} {p : Int × Int} (h : PrAt S d p) (b : But q S S') (hq : ∀ j, d = .obj j → j ≠ q) : PrAt S' d p := by
  rcases h with h | ⟨j, h, h2⟩
  · exact .inl h
  · exact .inr ⟨j, h, by rw [b.old j (hq j h)]; exact h2⟩
theorem PrAt.e0 {S : Sto} {d : D} {p : Int × Int} (h : PrAt S d p) : fIx d (.int 0) S = some (.int p.1, S) := h.seq.ix 0 _ rfl
theorem PrAt.e1 {S : Sto} {d : D} {p : Int × Int} (h : PrAt S d p) : fIx d (.int 1) S = some (.int p.2, S) := h.seq.ix 1 _ rfl
theorem PrAt.whole {S : Sto} {d : D} {p : Int × Int} (h : PrAt S d p) : M_is_whole_pair [d] S = .ok (.bl true) S := whole_pair h.seq fun e he => by
  simp only [List.mem_cons, List.not_mem_nil, or_false] at he
  rcases he with rfl | rfl <;> exact ty_int
theorem gi_end {it : MIt} {S : Sto} {k i : Nat} {g : MG} {b : MS} {env : Mi.Env} (h : it.f i S = some none) : forI it g b k i env S = .nx env S := by
  cases k <;> (unfold forI; simp only [h])
theorem gi_nx {it : MIt} {S S2 : Sto} {d : D} {i k : Nat} {g : MG} {b : MS} {env env1 env2 : Mi.Env} (h : it.f i S = some (some d)) (hg : g d env S = some env1) (hb : b env1 S = .nx env2 S2) : forI it g b (k + 1) i env S = forI it g b k (i + 1) env2 S2 := by
  rw [forI]; simp only [h, hg, hb]
def FB : MS := (sSeq (sIf (mAndT (mB (m2 fGt (mV 4) (mC (.int 0)))) (mB (m2 fGt (m2 fIx (m2 fIx (mV 1) (m2 fSub (mV 4) (mC (.int 1)))) (mC (.int 0))) (m2 fIx (mV 5) (mC (.int 0))))))
  (sRaise "BadArguments" 1 (fl_BadArguments D .non) (mCons (mC (.int 1)) mNil))
  sNil)
  (sIf (mB (m2 fLe (m2 fIx (mV 5) (mC (.int 0))) (mC (.int 0))))
  (sSet 2 (m2 fIx (mV 5) (mC (.int 1))))
  (sIf (mAndT (mB (m2 fGt (mB1 (f1L fLen) (mCons (mV 3) mNil)) (mC (.int 0)))) (mB (m2 fEq (m2 fIx (m2 fIx (mV 3) (m1 fNeg (mC (.int 1)))) (mC (.int 0))) (m2 fIx (mV 5) (mC (.int 0))))))
  (sPut (mV 3) (m1 fNeg (mC (.int 1))) (mTup (mCons (m2 fIx (mV 5) (mC (.int 0))) (mCons (m2 fIx (mV 5) (mC (.int 1))) mNil))))
  (sExpr (mM "list" fAppend (mV 3) (mCons (mTup (mCons (m2 fIx (mV 5) (mC (.int 0))) (mCons (m2 fIx (mV 5) (mC (.int 1))) mNil))) mNil))))))
theorem fb_step {S : Sto} {x0 : Option D} {d pd : D} {i q : Nat} {s : Int × Row} {p : Int × Int} (hq : S[q]? = some (.lst (s.2.map prD))) (hl : s.2.length < 900000) (hp : PrAt S pd p)
    (hprev : i = 0 ∨ (0 < i ∧ ∃ (d' : D) (p' : Int × Int), fIx d (.int ((i : Int) - 1)) S = some (d', S) ∧ PrAt S d' p' ∧ p'.1 ≤ p.1)) :
    FB [x0, some d, some (.int s.1), some (.obj q), some (.int (i : Int)), some pd] S = .nx [x0, some d, some (.int (fpS s p).1), some (.obj q), some (.int (i : Int)), some pd] (S.set q (.lst ((fpS s p).2.map prD))) := by
  have first : (sIf (mAndT (mB (m2 fGt (mV 4) (mC (.int 0)))) (mB (m2 fGt (m2 fIx (m2 fIx (mV 1) (m2 fSub (mV 4) (mC (.int 1)))) (mC (.int 0))) (m2 fIx (mV 5) (mC (.int 0))))))
  (sRaise "BadArguments" 1 (fl_BadArguments D .non) (mCons (mC (.int 1)) mNil))
  sNil) [x0, some d, some (.int s.1), some (.obj q), some (.int (i : Int)), some pd] S = .nx [x0, some d, some (.int s.1), some (.obj q), some (.int (i : Int)), some pd] S := by
    rcases hprev with rfl | ⟨hi, d', p', h1, h2, h3⟩
    · have d1 : decide ((0 : Int) < ((0 : Nat) : Int)) = false := rfl
      simp only [bind_ok, bind_ex, of_some, rs_ok, rs_ex, then_nx, then_rt, then_ex, then_bk, then_ct, mV0, mVs, mC_, m2_, m1_, mB_, kB_bl, mB1_, mNil_, mCons_, f1L_, f2L_, mTup_, mLst_, mCall_, mNotT_, mAndT_, mOrT_, mIf_, mAndV_, mOrV_, mNotV_, kAndV_bl, kOrV_bl, kNotV_bl, mSl_, mPart_, kPart_, mNoPart_, sSeq_, sSet_, sRet_, sIf_, sExpr_, sNil_, sBreak_, sCont_, e_lt, e_le, e_gt, e_ge, e_eqI, e_neI, e_eqS, e_neS, e_add, e_sub, List.set_cons_zero, List.set_cons_succ, kTu1, kTu2, kTu3, kTu4, kTu5, kLs0, kLs1, kLs2, kLs3, kLs4, kLs5, mM_, mM0_, sAsg_, sFor_, iRng_, iSeq_, d1, Bool.false_eq_true, if_false]
    · have d1 : decide ((0 : Int) < (i : Int)) = true := decide_eq_true (by omega)
      have d2 : decide (p.1 < p'.1) = false := decide_eq_false (by omega)
      simp only [bind_ok, bind_ex, of_some, rs_ok, rs_ex, then_nx, then_rt, then_ex, then_bk, then_ct, mV0, mVs, mC_, m2_, m1_, mB_, kB_bl, mB1_, mNil_, mCons_, f1L_, f2L_, mTup_, mLst_, mCall_, mNotT_, mAndT_, mOrT_, mIf_, mAndV_, mOrV_, mNotV_, kAndV_bl, kOrV_bl, kNotV_bl, mSl_, mPart_, kPart_, mNoPart_, sSeq_, sSet_, sRet_, sIf_, sExpr_, sNil_, sBreak_, sCont_, e_lt, e_le, e_gt, e_ge, e_eqI, e_neI, e_eqS, e_neS, e_add, e_sub, List.set_cons_zero, List.set_cons_succ, kTu1, kTu2, kTu3, kTu4, kTu5, kLs0, kLs1, kLs2, kLs3, kLs4, kLs5, mM_, mM0_, sAsg_, sFor_, iRng_, iSeq_, d1, if_true, h1, h2.e0, hp.e0, d2, Bool.false_eq_true, if_false]
  have same : ∀ r : Row, r = s.2 → S.set q (.lst (r.map prD)) = S := fun r e => by
    subst e
    refine List.ext_getElem? fun j => ?_
    by_cases ej : j = q
    · subst ej; rw [List.getElem?_set_self (get_lt hq), hq]
    · rw [List.getElem?_set_ne (Ne.symm ej)]
  unfold FB
  rw [sSeq_, first, then_nx]
  unfold fpS
  by_cases h1 : p.1 ≤ 0
  · have d1 : decide (p.1 ≤ 0) = true := decide_eq_true h1
    rw [if_pos h1]
    rw [show ((p.2, s.2) : Int × Row).2 = s.2 from rfl, same s.2 rfl]
    simp only [bind_ok, bind_ex, of_some, rs_ok, rs_ex, then_nx, then_rt, then_ex, then_bk, then_ct, mV0, mVs, mC_, m2_, m1_, mB_, kB_bl, mB1_, mNil_, mCons_, f1L_, f2L_, mTup_, mLst_, mCall_, mNotT_, mAndT_, mOrT_, mIf_, mAndV_, mOrV_, mNotV_, kAndV_bl, kOrV_bl, kNotV_bl, mSl_, mPart_, kPart_, mNoPart_, sSeq_, sSet_, sRet_, sIf_, sExpr_, sNil_, sBreak_, sCont_, e_lt, e_le, e_gt, e_ge, e_eqI, e_neI, e_eqS, e_neS, e_add, e_sub, List.set_cons_zero, List.set_cons_succ, kTu1, kTu2, kTu3, kTu4, kTu5, kLs0, kLs1, kLs2, kLs3, kLs4, kLs5, mM_, mM0_, sAsg_, sFor_, iRng_, iSeq_, hp.e0, hp.e1, d1, if_true]
  · have d1 : decide (p.1 ≤ 0) = false := decide_eq_false h1
    rw [if_neg h1]
    have hlen : fLen (.obj q) S = some (.int (s.2.length : Int), S) := by rw [e_lenL hq, List.length_map]
    have happ : fAppend (.obj q) [.tup [.int p.1, .int p.2]] S = some (.non, S.set q (.lst ((s.2 ++ [p]).map prD))) := by
      rw [e_append hq (by rw [sizeLine_eq, List.length_map]; omega), List.map_append]; rfl
    cases hg : s.2.getLast? with
    | none =>
      have hs : s.2 = [] := List.getLast?_eq_none_iff.mp hg
      have d2 : decide ((0 : Int) < (s.2.length : Int)) = false := by rw [hs]; rfl
      simp only [bind_ok, bind_ex, of_some, rs_ok, rs_ex, then_nx, then_rt, then_ex, then_bk, then_ct, mV0, mVs, mC_, m2_, m1_, mB_, kB_bl, mB1_, mNil_, mCons_, f1L_, f2L_, mTup_, mLst_, mCall_, mNotT_, mAndT_, mOrT_, mIf_, mAndV_, mOrV_, mNotV_, kAndV_bl, kOrV_bl, kNotV_bl, mSl_, mPart_, kPart_, mNoPart_, sSeq_, sSet_, sRet_, sIf_, sExpr_, sNil_, sBreak_, sCont_, e_lt, e_le, e_gt, e_ge, e_eqI, e_neI, e_eqS, e_neS, e_add, e_sub, List.set_cons_zero, List.set_cons_succ, kTu1, kTu2, kTu3, kTu4, kTu5, kLs0, kLs1, kLs2, kLs3, kLs4, kLs5, mM_, mM0_, sAsg_, sFor_, iRng_, iSeq_, hp.e0, hp.e1, d1, Bool.false_eq_true, if_false, hlen, d2, tyL hq, if_true, happ]
    | some l =>
      have hne : s.2 ≠ [] := by intro z; rw [z] at hg; cases hg
      have hpos := List.length_pos_iff.mpr hne
      have d2 : decide ((0 : Int) < (s.2.length : Int)) = true := decide_eq_true (by omega)
      have hlast : fIx (.obj q) (.int (-1)) S = some (prD l, S) := e_lastL hq (by rw [List.getLast?_map, hg]; rfl)
      by_cases h2 : l.1 = p.1
      · have d3 : decide (l.1 = p.1) = true := decide_eq_true h2
        have hput : fPut (.obj q) (.int (-1)) (.tup [.int p.1, .int p.2]) S = some (S.set q (.lst ((s.2.dropLast ++ [p]).map prD))) := by
          have hx : ixN (s.2.map prD).length (-1) = some (s.2.length - 1) := by
            unfold ixN
            rw [if_neg (by omega), if_pos (by rw [List.length_map]; omega), List.length_map]
            congr 1
            omega
          unfold fPut
          simp only [hq, hx, Option.map_some]
          congr 3
          have hdec : s.2.dropLast ++ [l] = s.2 := by
            have := List.dropLast_concat_getLast hne
            rw [List.getLast?_eq_some_getLast hne] at hg
            rw [← Option.some.inj hg]; exact this
          have hdl : s.2.dropLast.length = s.2.length - 1 := List.length_dropLast ..
          have e1 : s.2.set (s.2.length - 1) p = s.2.dropLast ++ [p] := by
            rw [← hdl]
            conv => lhs; rw [← hdec]
            rw [hdec, hdl]
            have : (s.2.dropLast ++ [l]).set s.2.dropLast.length p = s.2.dropLast ++ [p] := by simp
            rw [hdec, hdl] at this
            exact this
          rw [← e1, List.map_set]
          rfl
        show _ = RS.nx [x0, some d, some (.int (if l.1 = p.1 then (s.1, s.2.dropLast ++ [p]) else (s.1, s.2 ++ [p])).1), some (.obj q), some (.int (i : Int)), some pd] (S.set q (.lst ((if l.1 = p.1 then (s.1, s.2.dropLast ++ [p]) else (s.1, s.2 ++ [p])).2.map prD)))
        rw [if_pos h2]
        have hneg : fNeg (.int 1) S = some (.int (-1), S) := rfl
        simp only [bind_ok, bind_ex, of_some, rs_ok, rs_ex, then_nx, then_rt, then_ex, then_bk, then_ct, mV0, mVs, mC_, m2_, m1_, mB_, kB_bl, mB1_, mNil_, mCons_, f1L_, f2L_, mTup_, mLst_, mCall_, mNotT_, mAndT_, mOrT_, mIf_, mAndV_, mOrV_, mNotV_, kAndV_bl, kOrV_bl, kNotV_bl, mSl_, mPart_, kPart_, mNoPart_, sSeq_, sSet_, sRet_, sIf_, sExpr_, sNil_, sBreak_, sCont_, e_lt, e_le, e_gt, e_ge, e_eqI, e_neI, e_eqS, e_neS, e_add, e_sub, List.set_cons_zero, List.set_cons_succ, kTu1, kTu2, kTu3, kTu4, kTu5, kLs0, kLs1, kLs2, kLs3, kLs4, kLs5, mM_, mM0_, sAsg_, sFor_, iRng_, iSeq_, hp.e0, hp.e1, d1, Bool.false_eq_true, if_false, hlen, d2, if_true, hneg, hlast, e_p0, d3]
        unfold sPut
        simp only [bind_ok, bind_ex, of_some, rs_ok, rs_ex, then_nx, then_rt, then_ex, then_bk, then_ct, mV0, mVs, mC_, m2_, m1_, mB_, kB_bl, mB1_, mNil_, mCons_, f1L_, f2L_, mTup_, mLst_, mCall_, mNotT_, mAndT_, mOrT_, mIf_, mAndV_, mOrV_, mNotV_, kAndV_bl, kOrV_bl, kNotV_bl, mSl_, mPart_, kPart_, mNoPart_, sSeq_, sSet_, sRet_, sIf_, sExpr_, sNil_, sBreak_, sCont_, e_lt, e_le, e_gt, e_ge, e_eqI, e_neI, e_eqS, e_neS, e_add, e_sub, List.set_cons_zero, List.set_cons_succ, kTu1, kTu2, kTu3, kTu4, kTu5, kLs0, kLs1, kLs2, kLs3, kLs4, kLs5, mM_, mM0_, sAsg_, sFor_, iRng_, iSeq_, hp.e0, hp.e1, hneg, hput]
      · have d3 : decide (l.1 = p.1) = false := decide_eq_false h2
        show _ = RS.nx [x0, some d, some (.int (if l.1 = p.1 then (s.1, s.2.dropLast ++ [p]) else (s.1, s.2 ++ [p])).1), some (.obj q), some (.int (i : Int)), some pd] (S.set q (.lst ((if l.1 = p.1 then (s.1, s.2.dropLast ++ [p]) else (s.1, s.2 ++ [p])).2.map prD)))
        rw [if_neg h2]
        have hneg : fNeg (.int 1) S = some (.int (-1), S) := rfl
        simp only [bind_ok, bind_ex, of_some, rs_ok, rs_ex, then_nx, then_rt, then_ex, then_bk, then_ct, mV0, mVs, mC_, m2_, m1_, mB_, kB_bl, mB1_, mNil_, mCons_, f1L_, f2L_, mTup_, mLst_, mCall_, mNotT_, mAndT_, mOrT_, mIf_, mAndV_, mOrV_, mNotV_, kAndV_bl, kOrV_bl, kNotV_bl, mSl_, mPart_, kPart_, mNoPart_, sSeq_, sSet_, sRet_, sIf_, sExpr_, sNil_, sBreak_, sCont_, e_lt, e_le, e_gt, e_ge, e_eqI, e_neI, e_eqS, e_neS, e_add, e_sub, List.set_cons_zero, List.set_cons_succ, kTu1, kTu2, kTu3, kTu4, kTu5, kLs0, kLs1, kLs2, kLs3, kLs4, kLs5, mM_, mM0_, sAsg_, sFor_, iRng_, iSeq_, hp.e0, hp.e1, d1, Bool.false_eq_true, if_false, hlen, d2, if_true, hneg, hlast, e_p0, d3, tyL hq, happ]
theorem fpS_len (s : Int × Row) (p : Int × Int) : (fpS s p).2.length ≤ s.2.length + 1 := by
  unfold fpS
  split
  · exact Nat.le_succ _
  · split
    · split
      · show (s.2.dropLast ++ [p]).length ≤ _
        rw [List.length_append, List.length_dropLast]; simp <;> omega
      · show (s.2 ++ [p]).length ≤ _
        rw [List.length_append]; simp
    · show (s.2 ++ [p]).length ≤ _
      rw [List.length_append]; simp
theorem fb_loop {S0 : Sto} {x0 : Option D} {d : D} {q : Nat} {es : List D} {row : Row} {it : MIt} (hsize : row.length ≤ 100000) (hasc : row.Pairwise fun a b => a.1 ≤ b.1) (hes : es.length = row.length) (hit : ∀ (S : Sto) (i : Nat), But q S0 S → it.f i S = some (es[i]?.map fun e => .tup [.int (i : Int), e]))
    (hix : ∀ (S : Sto) (i : Nat) (e : D), But q S0 S → es[i]? = some e → fIx d (.int (i : Int)) S = some (e, S)) (hp : ∀ (S : Sto) (i : Nat) (e : D) (p : Int × Int), But q S0 S → es[i]? = some e → row[i]? = some p → PrAt S e p) :
    ∀ (k i : Nat) (S : Sto) (s : Int × Row) (x4 x5 : Option D), row.length = i + k → But q S0 S → S[q]? = some (.lst (s.2.map prD)) → s.2.length ≤ i → ∃ (y4 y5 : Option D) (S' : Sto),
      forI it (gT 2 (gsCons (gN 4) (gsCons (gN 5) gsNil))) FB k i [x0, some d, some (.int s.1), some (.obj q), x4, x5] S = .nx [x0, some d, some (.int ((row.drop i).foldl fpS s).1), some (.obj q), y4, y5] S' ∧ S'[q]? = some (.lst (((row.drop i).foldl fpS s).2.map prD)) ∧ But q S0 S'
  | 0, i, S, s, x4, x5, hk, hS, hq, hl => by
    have hf : it.f i S = some none := by
      rw [hit S i hS, List.getElem?_eq_none (by omega)]; rfl
    refine ⟨x4, x5, S, ?_, ?_, hS⟩
    · rw [gi_end hf, List.drop_of_length_le (by omega)]; rfl
    · rw [List.drop_of_length_le (by omega)]; exact hq
  | k + 1, i, S, s, x4, x5, hk, hS, hq, hl => by
    have hi : i < row.length := by omega
    obtain ⟨p, hpi⟩ : ∃ p, row[i]? = some p := ⟨_, List.getElem?_eq_getElem hi⟩
    obtain ⟨e, hei⟩ : ∃ e, es[i]? = some e := ⟨_, List.getElem?_eq_getElem (by omega)⟩
    have hf : it.f i S = some (some (.tup [.int (i : Int), e])) := by rw [hit S i hS, hei]; rfl
    have hprev : i = 0 ∨ (0 < i ∧ ∃ (d' : D) (p' : Int × Int), fIx d (.int ((i : Int) - 1)) S = some (d', S) ∧ PrAt S d' p' ∧ p'.1 ≤ p.1) := by
      by_cases h0 : i = 0
      · exact .inl h0
      · obtain ⟨p', hp'⟩ : ∃ p', row[i - 1]? = some p' := ⟨_, List.getElem?_eq_getElem (by omega)⟩
        obtain ⟨e', he'⟩ : ∃ e', es[i - 1]? = some e' := ⟨_, List.getElem?_eq_getElem (by omega)⟩
        refine .inr ⟨by omega, e', p', ?_, hp S (i - 1) e' p' hS he' hp', ?_⟩
        · rw [show (i : Int) - 1 = ((i - 1 : Nat) : Int) by omega]
          exact hix S (i - 1) e' hS he'
        · have := List.pairwise_iff_getElem.mp hasc (i - 1) i (by omega) hi (by omega)
          rw [(List.getElem?_eq_some_iff.mp hp').2, (List.getElem?_eq_some_iff.mp hpi).2] at this
          exact this
    have st := fb_step (x0 := x0) (d := d) (s := s) hq (by omega) (hp S i e p hS hei hpi) hprev
    obtain ⟨y4, y5, S', i1, i2, i3⟩ := fb_loop hsize hasc hes hit hix hp k (i + 1) (S.set q (.lst ((fpS s p).2.map prD))) (fpS s p) (some (.int (i : Int))) (some e) (by omega) (hS.trans But.set) (List.getElem?_set_self (get_lt hq)) (by have := fpS_len s p; omega)
    have hdrop : row.drop i = p :: row.drop (i + 1) := by rw [List.drop_eq_getElem_cons hi, (List.getElem?_eq_some_iff.mp hpi).2]
    have hfold : (row.drop i).foldl fpS s = (row.drop (i + 1)).foldl fpS (fpS s p) := by rw [hdrop]; rfl
    rw [hfold]
    refine ⟨y4, y5, S', ?_, i2, i3⟩
    rw [gi_nx hf rfl st, i1]
end K07

namespace K07
open PySem PySem.Spec L2 Mi
/-- a row of pairs in a list or a tuple -/
structure PsAt (S : Sto) (d : D) (es : List D) (row : Row) : Prop where
  at_ : RowAt S d es
  len : es.length = row.length
  prs : ∀ (i : Nat) (e : D) (p : Int × Int), es[i]? = some e → row[i]? = some p → PrAt S e p
theorem PsAt.app {S X : Sto} {d : D} {es : List D} {row : Row} (h : PsAt S d es row) : PsAt (S ++ X) d es row := ⟨h.at_.app, h.len, fun i e p h1 h2 => (h.prs i e p h1 h2).app⟩
theorem kEn2 {ds : List D} {S : Sto} {j : Nat} (h : S[j]? = some (.lst ds)) : kEnumA [.obj j] S = .ok (itEnumL ds.length j) S := by
  unfold kEnumA
  simp only [lst_at h]
def F1' : MS := (sIf (mOrT (mNotT (mB (mCall M_is_whole (mCons (mV 0) mNil)))) (mB (m2 fLt (mV 0) (mC (.int 0)))))
  (sRaise "BadArguments" 1 (fl_BadArguments D .non) (mCons (mC (.int 0)) mNil))
  sNil)
def F2' : MS := (sIf (mOrT (mNotT (mB (m1 (fIsi ["list", "tuple"]) (mV 1)))) (mNotT (mB (mB1 (f1L fAll) (mCons (mLc (iSeq (mV 1)) (gN 5) tAll (mCall M_is_whole_pair (mCons (mV 5) mNil)) [5]) mNil)))))
  (sRaise "BadArguments" 1 (fl_BadArguments D .non) (mCons (mC (.int 1)) mNil))
  sNil)
theorem fp_eq : B_from_points = (sSeq F1' (sSeq F2' (sSeq (sSet 2 (mC (.int 0))) (sSeq (sSet 3 (mLst mNil))
  (sSeq (sFor (iEnumA (mCons (mV 1) mNil)) (gT 2 (gsCons (gN 4) (gsCons (gN 5) gsNil))) FB)
  (sRet (mCall M_joined_runs (mCons (mV 0) (mCons (m2 fAdd (mLst (mCons (mTup (mCons (mC (.int 0)) (mCons (mV 2) mNil))) mNil)) (mV 3)) mNil))))))))) := (rfl)
theorem f1_ok {S : Sto} {n : Int} {r : Mi.Env} (hn : 0 ≤ n) : F1' (some (.int n) :: r) S = .nx (some (.int n) :: r) S := by
  have d1 : decide (n < 0) = false := decide_eq_false (by omega)
  unfold F1'
  simp only [bind_ok, bind_ex, of_some, rs_ok, rs_ex, then_nx, then_rt, then_ex, then_bk, then_ct, mV0, mVs, mC_, m2_, m1_, mB_, kB_bl, mB1_, mNil_, mCons_, f1L_, f2L_, mTup_, mLst_, mCall_, mNotT_, mAndT_, mOrT_, mIf_, mAndV_, mOrV_, mNotV_, kAndV_bl, kOrV_bl, kNotV_bl, mSl_, mPart_, kPart_, mNoPart_, sSeq_, sSet_, sRet_, sIf_, sExpr_, sNil_, sBreak_, sCont_, e_lt, e_le, e_gt, e_ge, e_eqI, e_neI, e_eqS, e_neS, e_add, e_sub, List.set_cons_zero, List.set_cons_succ, kTu1, kTu2, kTu3, kTu4, kTu5, kLs0, kLs1, kLs2, kLs3, kLs4, kLs5, mM_, mM0_, sAsg_, sFor_, iRng_, iSeq_, whole_int, Bool.not_true, Bool.false_eq_true, if_false, d1]
theorem from_points {S : Sto} {n : Int} {d : D} {es : List D} {row : Row} (h : PsAt S d es row) (hn : 0 ≤ n) (hasc : row.Pairwise fun a b => a.1 ≤ b.1) (hl : row.length ≤ 1000) : ∃ X : Sto, M_from_points [.int n, d] S = .ok (aD n (ptsR n row)) (S ++ X) := by
  have hlen := h.len
  have s1 := f1_ok (S := S) (r := [some d, none, none, none, none]) hn
  -- all pairs are right
  have ha := all_row (S := S) (e := mCall M_is_whole_pair (mCons (mV 5) mNil)) (v := 5) (vs := [5]) (env := [some (.int n), some d, none, none, none, none]) (f := fun _ => true) h.at_ (fun acc x hx => by
    obtain ⟨i, hi⟩ := List.mem_iff_getElem?.mp hx
    obtain ⟨p, hp⟩ : ∃ p, row[i]? = some p := ⟨_, List.getElem?_eq_getElem (by have := (List.getElem?_eq_some_iff.mp hi).1; omega)⟩
    have hw := (((h.prs i x p hi hp).app (X := [.lst acc])).whole)
    show mCall M_is_whole_pair (mCons (mV 5) mNil) [some (.int n), some d, none, none, none, some x] _ = _
    simp only [bind_ok, bind_ex, of_some, rs_ok, rs_ex, then_nx, then_rt, then_ex, then_bk, then_ct, mV0, mVs, mC_, m2_, m1_, mB_, kB_bl, mB1_, mNil_, mCons_, f1L_, f2L_, mTup_, mLst_, mCall_, mNotT_, mAndT_, mOrT_, mIf_, mAndV_, mOrV_, mNotV_, kAndV_bl, kOrV_bl, kNotV_bl, mSl_, mPart_, kPart_, mNoPart_, sSeq_, sSet_, sRet_, sIf_, sExpr_, sNil_, sBreak_, sCont_, e_lt, e_le, e_gt, e_ge, e_eqI, e_neI, e_eqS, e_neS, e_add, e_sub, List.set_cons_zero, List.set_cons_succ, kTu1, kTu2, kTu3, kTu4, kTu5, kLs0, kLs1, kLs2, kLs3, kLs4, kLs5, mM_, mM0_, sAsg_, sFor_, iRng_, iSeq_, hw]) (by rw [sizeLine_eq]; omega)
  rw [show es.all (fun _ => true) = true from List.all_eq_true.mpr fun _ _ => rfl] at ha
  generalize hS1 : S ++ [MO.lst ((es.map fun _ => true).map D.bl)] = S1 at ha
  have h1 : PsAt S1 d es row := by rw [← hS1]; exact h.app
  have e0 : (mLc (iSeq (mV 1)) (gN 5) tAll (mCall M_is_whole_pair (mCons (mV 5) mNil)) [5]) [some (.int n), some d, none, none, none, none] S = (kSeqI d S).bind (kLc (gN 5) tAll (mCall M_is_whole_pair (mCons (mV 5) mNil)) [5] [some (.int n), some d, none, none, none, none]) := rfl
  have e1 : (mB1 (f1L fAll) (mCons (mLc (iSeq (mV 1)) (gN 5) tAll (mCall M_is_whole_pair (mCons (mV 5) mNil)) [5]) mNil)) [some (.int n), some d, none, none, none, none] S = .ok (.bl true) S1 := by
    rw [← ha, mB1_, mCons_, e0]
    cases (kSeqI d S).bind (kLc (gN 5) tAll (mCall M_is_whole_pair (mCons (mV 5) mNil)) [5] [some (.int n), some d, none, none, none, none]) <;> rfl
  have s2 : F2' [some (.int n), some d, none, none, none, none] S = .nx [some (.int n), some d, none, none, none, none] S1 := by
    have ev : mV 1 [some (.int n), some d, none, none, none, none] S = .ok d S := rfl
    unfold F2'
    rw [sIf_, mOrT_, mNotT_, mB_, m1_, ev, bind_ok, h.at_.seq.isi, of_some, bind_ok, kB_bl, bind_ok, bind_ok, if_neg (by decide), mNotT_, mB_, e1, bind_ok, kB_bl, bind_ok, rs_ok, if_neg (by decide), sNil_]
  have s3 : (sSet 2 (mC (.int 0))) [some (.int n), some d, none, none, none, none] S1 = .nx [some (.int n), some d, some (.int 0), none, none, none] S1 := rfl
  have s4 : (sSet 3 (mLst mNil)) [some (.int n), some d, some (.int 0), none, none, none] S1 = .nx [some (.int n), some d, some (.int 0), some (.obj S1.length), none, none] (S1 ++ [.lst []]) := by
    simp only [bind_ok, bind_ex, of_some, rs_ok, rs_ex, then_nx, then_rt, then_ex, then_bk, then_ct, mV0, mVs, mC_, m2_, m1_, mB_, kB_bl, mB1_, mNil_, mCons_, f1L_, f2L_, mTup_, mLst_, mCall_, mNotT_, mAndT_, mOrT_, mIf_, mAndV_, mOrV_, mNotV_, kAndV_bl, kOrV_bl, kNotV_bl, mSl_, mPart_, kPart_, mNoPart_, sSeq_, sSet_, sRet_, sIf_, sExpr_, sNil_, sBreak_, sCont_, e_lt, e_le, e_gt, e_ge, e_eqI, e_neI, e_eqS, e_neS, e_add, e_sub, List.set_cons_zero, List.set_cons_succ, kTu1, kTu2, kTu3, kTu4, kTu5, kLs0, kLs1, kLs2, kLs3, kLs4, kLs5, mM_, mM0_, sAsg_, sFor_, iRng_, iSeq_]
  have h2 : PsAt (S1 ++ [.lst []]) d es row := h1.app
  -- nothing of the row stands at the new list's place
  have far : ∀ j, (d = .obj j ∨ ∃ (i : Nat), es[i]? = some (.obj j)) → j ≠ S1.length := by
    rintro j (e | ⟨i, hi⟩)
    · rcases h1.at_ with e' | ⟨j', e', hj'⟩
      · rw [e] at e'; cases e'
      · rw [e] at e'; cases e'
        have := get_lt hj'; omega
    · obtain ⟨p, hp⟩ : ∃ p, row[i]? = some p := ⟨_, List.getElem?_eq_getElem (by have := (List.getElem?_eq_some_iff.mp hi).1; omega)⟩
      rcases h1.prs i _ p hi hp with e' | ⟨j', e', hj'⟩
      · cases e'
      · cases e'
        have := get_lt hj'; omega
  obtain ⟨it, hken, hitn, hit⟩ : ∃ it : MIt, kEnumA [d] (S1 ++ [.lst []]) = .ok it (S1 ++ [.lst []]) ∧ it.n = row.length ∧ ∀ (S' : Sto) (i : Nat), But S1.length (S1 ++ [.lst []]) S' → it.f i S' = some (es[i]?.map fun e => .tup [.int (i : Int), e]) := by
    rcases h2.at_ with e | ⟨j, e, hj⟩
    · subst e
      exact ⟨itEnumT es, rfl, hlen, fun S' i _ => rfl⟩
    · subst e
      refine ⟨itEnumL es.length j, kEn2 hj, hlen, fun S' i hb => ?_⟩
      show (lstAt S' j).map _ = _
      rw [lst_at (by rw [hb.old j (far j (.inl rfl))]; exact hj)]; rfl
  have hix : ∀ (S' : Sto) (i : Nat) (e : D), But S1.length (S1 ++ [.lst []]) S' → es[i]? = some e → fIx d (.int (i : Int)) S' = some (e, S') := fun S' i e hb he => by
    rcases h2.at_ with e' | ⟨j, e', hj⟩
    · subst e'; exact e_ixT he
    · subst e'; exact e_ixL (by rw [hb.old j (far j (.inl rfl))]; exact hj) he
  have hpp : ∀ (S' : Sto) (i : Nat) (e : D) (p : Int × Int), But S1.length (S1 ++ [.lst []]) S' → es[i]? = some e → row[i]? = some p → PrAt S' e p := fun S' i e p hb he hp => (h2.prs i e p he hp).but hb fun j ej => far j (.inr ⟨i, by rw [he, ej]⟩)
  obtain ⟨y4, y5, S5, q1, q2, q3⟩ := fb_loop (x0 := some (.int n)) (by omega) hasc hlen hit hix hpp row.length 0 (S1 ++ [.lst []]) (0, []) none none (by omega) But.refl last0 (Nat.zero_le _)
  rw [List.drop_zero] at q1 q2
  have efold : row.foldl fpS (0, []) = fpAll row := rfl
  rw [efold] at q1 q2
  have hS5 := q3.eq q2
  have hS5' : S5 = S1 ++ [.lst ((fpAll row).2.map prD)] := by rw [hS5, sa0]
  have s5 : (sFor (iEnumA (mCons (mV 1) mNil)) (gT 2 (gsCons (gN 4) (gsCons (gN 5) gsNil))) FB) [some (.int n), some d, some (.int 0), some (.obj S1.length), none, none] (S1 ++ [.lst []]) = .nx [some (.int n), some d, some (.int (fpAll row).1), some (.obj S1.length), y4, y5] S5 := by
    have iE : ∀ (a : MA) (env : Mi.Env) (S : Sto), iEnumA a env S = (a env S).bind kEnumA := fun _ _ _ => rfl
    simp only [bind_ok, bind_ex, of_some, rs_ok, rs_ex, then_nx, then_rt, then_ex, then_bk, then_ct, mV0, mVs, mC_, m2_, m1_, mB_, kB_bl, mB1_, mNil_, mCons_, f1L_, f2L_, mTup_, mLst_, mCall_, mNotT_, mAndT_, mOrT_, mIf_, mAndV_, mOrV_, mNotV_, kAndV_bl, kOrV_bl, kNotV_bl, mSl_, mPart_, kPart_, mNoPart_, sSeq_, sSet_, sRet_, sIf_, sExpr_, sNil_, sBreak_, sCont_, e_lt, e_le, e_gt, e_ge, e_eqI, e_neI, e_eqS, e_neS, e_add, e_sub, List.set_cons_zero, List.set_cons_succ, kTu1, kTu2, kTu3, kTu4, kTu5, kLs0, kLs1, kLs2, kLs3, kLs4, kLs5, mM_, mM0_, sAsg_, sFor_, iRng_, iSeq_, iE, hken, hitn]
    exact q1
  -- the end
  have fok := fpAll_ok hasc
  have hl2 := fok.len
  have hadd : fAdd (.obj S5.length) (.obj S1.length) (S5 ++ [.lst [.tup [.int 0, .int (fpAll row).1]]]) = some (.obj (S5 ++ [MO.lst [.tup [.int 0, .int (fpAll row).1]]]).length, S5 ++ [.lst [.tup [.int 0, .int (fpAll row).1]]] ++ [.lst (((0, (fpAll row).1) :: (fpAll row).2).map prD)]) := by
    unfold fAdd
    simp only [get_app (X := [MO.lst [.tup [.int 0, .int (fpAll row).1]]]) q2, last0]
    rw [if_pos (by rw [sizeLine_eq, List.length_map]; simp; omega)]
    rfl
  have hj := joined_runs (S := S5 ++ [.lst [.tup [.int 0, .int (fpAll row).1]]] ++ [.lst (((0, (fpAll row).1) :: (fpAll row).2).map prD)]) (n := n) (j := (S5 ++ [MO.lst [.tup [.int 0, .int (fpAll row).1]]]).length) (ps := (0, (fpAll row).1) :: (fpAll row).2) last0 (by rw [List.length_cons]; omega)
  refine ⟨[.lst ((es.map fun _ => true).map D.bl)] ++ ([.lst ((fpAll row).2.map prD)] ++ ([.lst [.tup [.int 0, .int (fpAll row).1]]] ++ ([.lst (((0, (fpAll row).1) :: (fpAll row).2).map prD)] ++ [.lst ((ptsR n row).map prD)]))), ?_⟩
  rw [← List.append_assoc, hS1, ← List.append_assoc, ← hS5', ← List.append_assoc, ← List.append_assoc]
  have hb : B_from_points [some (.int n), some d, none, none, none, none] S = .rt (aD n (ptsR n row)) (S5 ++ [.lst [.tup [.int 0, .int (fpAll row).1]]] ++ [.lst (((0, (fpAll row).1) :: (fpAll row).2).map prD)] ++ [.lst ((ptsR n row).map prD)]) := by
    rw [fp_eq, sSeq_, s1, then_nx, sSeq_, s2, then_nx, sSeq_, s3, then_nx, sSeq_, s4, then_nx, sSeq_, s5, then_nx]
    simp only [bind_ok, bind_ex, of_some, rs_ok, rs_ex, then_nx, then_rt, then_ex, then_bk, then_ct, mV0, mVs, mC_, m2_, m1_, mB_, kB_bl, mB1_, mNil_, mCons_, f1L_, f2L_, mTup_, mLst_, mCall_, mNotT_, mAndT_, mOrT_, mIf_, mAndV_, mOrV_, mNotV_, kAndV_bl, kOrV_bl, kNotV_bl, mSl_, mPart_, kPart_, mNoPart_, sSeq_, sSet_, sRet_, sIf_, sExpr_, sNil_, sBreak_, sCont_, e_lt, e_le, e_gt, e_ge, e_eqI, e_neI, e_eqS, e_neS, e_add, e_sub, List.set_cons_zero, List.set_cons_succ, kTu1, kTu2, kTu3, kTu4, kTu5, kLs0, kLs1, kLs2, kLs3, kLs4, kLs5, mM_, mM0_, sAsg_, sFor_, iRng_, iSeq_, hadd, hj]
    rfl
  unfold M_from_points mFn
  simp only [List.length_cons, List.length_nil, Nat.reduceAdd, if_true, List.map_cons, List.map_nil, List.replicate, List.cons_append, List.nil_append, Nat.reduceSub]
  rw [hb]
  rfl
end K07

namespace K07
open PySem PySem.Spec L2 Mi
/-! ### the law's own rows of points -/
def MB1 : MS := (sIf (mB (m2 fGt (m2 fIx (mV 3) (mC (.int 0))) (mC (.int 0))))
  (sExpr (mM "list" fAppend (mV 2) (mCons (m2 fIx (mV 3) (mC (.int 0))) mNil)))
  sNil)
theorem mb1_loop {S : Sto} {x0 x1 x4 x5 x6 : Option D} {j : Nat} {row : Row} (hj : S[j]? = some (.lst (row.map prD))) : ∀ (suf pre : Row) (ms : List Int) (x3 : Option D), row = pre ++ suf → ms.length + suf.length ≤ 100000 → ∃ y3 : Option D, forI (itLst row.length j) (gN 3) MB1 suf.length pre.length [x0, x1, some (.obj S.length), x3, x4, x5, x6] (S ++ [.lst (ms.map D.int)]) = .nx [x0, x1, some (.obj S.length), y3, x4, x5, x6] (S ++ [.lst ((ms ++ marksP suf).map D.int)])
  | [], pre, ms, x3, he, hl => by
    refine ⟨x3, ?_⟩
    have : pre.length = (row.map prD).length := by rw [he]; simp
    rw [this, fl_end (get_app hj), show marksP [] = [] from rfl, List.append_nil]
  | p :: suf, pre, ms, x3, he, hl => by
    have hd : (row.map prD)[pre.length]? = some (prD p) := by rw [he]; simp
    rw [List.length_cons] at hl
    by_cases h : 0 < p.1
    · have d1 : decide (0 < p.1) = true := decide_eq_true h
      obtain ⟨y3, q⟩ := mb1_loop (x0 := x0) (x1 := x1) (x4 := x4) (x5 := x5) (x6 := x6) hj suf (pre ++ [p]) (ms ++ [p.1]) (some (prD p)) (by rw [he]; simp) (by rw [List.length_append, List.length_singleton]; omega)
      refine ⟨y3, ?_⟩
      have ap : fAppend (.obj S.length) [.int p.1] (S ++ [.lst (ms.map D.int)]) = some (.non, S ++ [.lst ((ms ++ [p.1]).map D.int)]) := by
        rw [e_append last0 (by rw [sizeLine_eq, List.length_map]; omega), sa0, List.map_append]; rfl
      have st : MB1 [x0, x1, some (.obj S.length), some (prD p), x4, x5, x6] (S ++ [.lst (ms.map D.int)]) = .nx [x0, x1, some (.obj S.length), some (prD p), x4, x5, x6] (S ++ [.lst ((ms ++ [p.1]).map D.int)]) := by
        unfold MB1
        simp only [bind_ok, bind_ex, of_some, rs_ok, rs_ex, then_nx, then_rt, then_ex, then_bk, then_ct, mV0, mVs, mC_, m2_, m1_, mB_, kB_bl, mB1_, mNil_, mCons_, f1L_, f2L_, mTup_, mLst_, mCall_, mNotT_, mAndT_, mOrT_, mIf_, mAndV_, mOrV_, mNotV_, kAndV_bl, kOrV_bl, kNotV_bl, mSl_, mPart_, kPart_, mNoPart_, sSeq_, sSet_, sRet_, sIf_, sExpr_, sNil_, sBreak_, sCont_, e_lt, e_le, e_gt, e_ge, e_eqI, e_neI, e_eqS, e_neS, e_add, e_sub, List.set_cons_zero, List.set_cons_succ, kTu1, kTu2, kTu3, kTu4, kTu5, kLs0, kLs1, kLs2, kLs3, kLs4, kLs5, mM_, mM0_, sAsg_, sFor_, iRng_, iSeq_, e_p0, d1, if_true, tyL last0, ap]
      rw [show (p :: suf).length = suf.length + 1 from rfl, fl_nx (get_app hj) hd rfl st]
      rw [List.length_append, List.length_singleton, List.append_assoc] at q
      rw [marksP, if_pos h]
      exact q
    · have d1 : decide (0 < p.1) = false := decide_eq_false h
      obtain ⟨y3, q⟩ := mb1_loop (x0 := x0) (x1 := x1) (x4 := x4) (x5 := x5) (x6 := x6) hj suf (pre ++ [p]) ms (some (prD p)) (by rw [he]; simp) (by omega)
      refine ⟨y3, ?_⟩
      have st : MB1 [x0, x1, some (.obj S.length), some (prD p), x4, x5, x6] (S ++ [.lst (ms.map D.int)]) = .nx [x0, x1, some (.obj S.length), some (prD p), x4, x5, x6] (S ++ [.lst (ms.map D.int)]) := by
        unfold MB1
        simp only [bind_ok, bind_ex, of_some, rs_ok, rs_ex, then_nx, then_rt, then_ex, then_bk, then_ct, mV0, mVs, mC_, m2_, m1_, mB_, kB_bl, mB1_, mNil_, mCons_, f1L_, f2L_, mTup_, mLst_, mCall_, mNotT_, mAndT_, mOrT_, mIf_, mAndV_, mOrV_, mNotV_, kAndV_bl, kOrV_bl, kNotV_bl, mSl_, mPart_, kPart_, mNoPart_, sSeq_, sSet_, sRet_, sIf_, sExpr_, sNil_, sBreak_, sCont_, e_lt, e_le, e_gt, e_ge, e_eqI, e_neI, e_eqS, e_neS, e_add, e_sub, List.set_cons_zero, List.set_cons_succ, kTu1, kTu2, kTu3, kTu4, kTu5, kLs0, kLs1, kLs2, kLs3, kLs4, kLs5, mM_, mM0_, sAsg_, sFor_, iRng_, iSeq_, e_p0, d1, Bool.false_eq_true, if_false]
      rw [show (p :: suf).length = suf.length + 1 from rfl, fl_nx (get_app hj) hd rfl st]
      rw [List.length_append, List.length_singleton] at q
      rw [marksP, if_neg h]
      exact q
def IB1 : MS := (sIf (mB (m2 fLe (m2 fIx (mV 3) (mC (.int 0))) (mV 5)))
  (sSet 6 (m2 fIx (mV 3) (mC (.int 1))))
  sNil)
theorem ib1_loop {S : Sto} {x0 x1 x2 x4 : Option D} {j : Nat} {row : Row} {m : Int} (hj : S[j]? = some (.lst (row.map prD))) : ∀ (suf pre : Row) (v : Int) (x3 : Option D), row = pre ++ suf → ∃ y3 : Option D, forI (itLst row.length j) (gN 3) IB1 suf.length pre.length [x0, x1, x2, x3, x4, some (.int m), some (.int v)] S = .nx [x0, x1, x2, y3, x4, some (.int m), some (.int (pv v suf m))] S
  | [], pre, v, x3, he => by
    refine ⟨x3, ?_⟩
    have : pre.length = (row.map prD).length := by rw [he]; simp
    rw [this, fl_end hj]; rfl
  | p :: suf, pre, v, x3, he => by
    have hd : (row.map prD)[pre.length]? = some (prD p) := by rw [he]; simp
    by_cases h : p.1 ≤ m
    · have d1 : decide (p.1 ≤ m) = true := decide_eq_true h
      obtain ⟨y3, q⟩ := ib1_loop (x0 := x0) (x1 := x1) (x2 := x2) (x4 := x4) (m := m) hj suf (pre ++ [p]) p.2 (some (prD p)) (by rw [he]; simp)
      refine ⟨y3, ?_⟩
      have st : IB1 [x0, x1, x2, some (prD p), x4, some (.int m), some (.int v)] S = .nx [x0, x1, x2, some (prD p), x4, some (.int m), some (.int p.2)] S := by
        unfold IB1
        simp only [bind_ok, bind_ex, of_some, rs_ok, rs_ex, then_nx, then_rt, then_ex, then_bk, then_ct, mV0, mVs, mC_, m2_, m1_, mB_, kB_bl, mB1_, mNil_, mCons_, f1L_, f2L_, mTup_, mLst_, mCall_, mNotT_, mAndT_, mOrT_, mIf_, mAndV_, mOrV_, mNotV_, kAndV_bl, kOrV_bl, kNotV_bl, mSl_, mPart_, kPart_, mNoPart_, sSeq_, sSet_, sRet_, sIf_, sExpr_, sNil_, sBreak_, sCont_, e_lt, e_le, e_gt, e_ge, e_eqI, e_neI, e_eqS, e_neS, e_add, e_sub, List.set_cons_zero, List.set_cons_succ, kTu1, kTu2, kTu3, kTu4, kTu5, kLs0, kLs1, kLs2, kLs3, kLs4, kLs5, mM_, mM0_, sAsg_, sFor_, iRng_, iSeq_, e_p0, e_p1, d1, if_true]
      rw [show (p :: suf).length = suf.length + 1 from rfl, fl_nx hj hd rfl st]
      rw [List.length_append, List.length_singleton] at q
      rw [pv, if_pos h]
      exact q
    · have d1 : decide (p.1 ≤ m) = false := decide_eq_false h
      obtain ⟨y3, q⟩ := ib1_loop (x0 := x0) (x1 := x1) (x2 := x2) (x4 := x4) (m := m) hj suf (pre ++ [p]) v (some (prD p)) (by rw [he]; simp)
      refine ⟨y3, ?_⟩
      have st : IB1 [x0, x1, x2, some (prD p), x4, some (.int m), some (.int v)] S = .nx [x0, x1, x2, some (prD p), x4, some (.int m), some (.int v)] S := by
        unfold IB1
        simp only [bind_ok, bind_ex, of_some, rs_ok, rs_ex, then_nx, then_rt, then_ex, then_bk, then_ct, mV0, mVs, mC_, m2_, m1_, mB_, kB_bl, mB1_, mNil_, mCons_, f1L_, f2L_, mTup_, mLst_, mCall_, mNotT_, mAndT_, mOrT_, mIf_, mAndV_, mOrV_, mNotV_, kAndV_bl, kOrV_bl, kNotV_bl, mSl_, mPart_, kPart_, mNoPart_, sSeq_, sSet_, sRet_, sIf_, sExpr_, sNil_, sBreak_, sCont_, e_lt, e_le, e_gt, e_ge, e_eqI, e_neI, e_eqS, e_neS, e_add, e_sub, List.set_cons_zero, List.set_cons_succ, kTu1, kTu2, kTu3, kTu4, kTu5, kLs0, kLs1, kLs2, kLs3, kLs4, kLs5, mM_, mM0_, sAsg_, sFor_, iRng_, iSeq_, e_p0, d1, Bool.false_eq_true, if_false]
      rw [show (p :: suf).length = suf.length + 1 from rfl, fl_nx hj hd rfl st]
      rw [List.length_append, List.length_singleton] at q
      rw [pv, if_neg h]
      exact q
def PBd : MS := (sSeq (sSet 6 (mC (.int 0))) (sSeq (sFor (iSeq (mV 1)) (gN 3) IB1) RWB))
theorem points_eq : B__law_point_runs = (sSeq (sSet 2 (mLst (mCons (mC (.int 0)) mNil)))
  (sSeq (sFor (iSeq (mV 1)) (gN 3) MB1)
  (sSeq (sSet 4 (mLst mNil))
  (sSeq (sFor (iSeq (mB1 (f1L fSorted) (mCons (mV 2) mNil))) (gN 5) PBd)
  (sRet (mTup (mCons (mV 0) (mCons (mB1 (f1L fTuple) (mCons (mV 4) mNil)) mNil)))))))) := (rfl)
theorem point_runs {S : Sto} {n : Int} {j : Nat} {row : Row} (hj : S[j]? = some (.lst (row.map prD))) (hn : 0 ≤ n) (hasc : row.Pairwise fun a b => a.1 ≤ b.1) (hl : row.length ≤ 1000) : ∃ X : Sto, M__law_point_runs [.int n, .obj j] S = .ok (aD n (ptsR n row)) (S ++ X) := by
  have hjl := get_lt hj
  have s1 : (sSet 2 (mLst (mCons (mC (.int 0)) mNil))) [some (.int n), some (.obj j), none, none, none, none, none] S = .nx [some (.int n), some (.obj j), some (.obj S.length), none, none, none, none] (S ++ [.lst [.int 0]]) := by
    simp only [bind_ok, bind_ex, of_some, rs_ok, rs_ex, then_nx, then_rt, then_ex, then_bk, then_ct, mV0, mVs, mC_, m2_, m1_, mB_, kB_bl, mB1_, mNil_, mCons_, f1L_, f2L_, mTup_, mLst_, mCall_, mNotT_, mAndT_, mOrT_, mIf_, mAndV_, mOrV_, mNotV_, kAndV_bl, kOrV_bl, kNotV_bl, mSl_, mPart_, kPart_, mNoPart_, sSeq_, sSet_, sRet_, sIf_, sExpr_, sNil_, sBreak_, sCont_, e_lt, e_le, e_gt, e_ge, e_eqI, e_neI, e_eqS, e_neS, e_add, e_sub, List.set_cons_zero, List.set_cons_succ, kTu1, kTu2, kTu3, kTu4, kTu5, kLs0, kLs1, kLs2, kLs3, kLs4, kLs5, mM_, mM0_, sAsg_, sFor_, iRng_, iSeq_]
  obtain ⟨y3, q1⟩ := mb1_loop (x0 := some (.int n)) (x1 := some (.obj j)) (x4 := none) (x5 := none) (x6 := none) hj row [] [0] none rfl (by simp; omega)
  have ks0 : kSeqI (.obj j) (S ++ [.lst [.int 0]]) = .ok (itLst row.length j) (S ++ [.lst [.int 0]]) := by rw [kSeqL (get_app hj), List.length_map]
  have enL : ∀ n k, (itLst n k).n = n := fun _ _ => (rfl)
  generalize hM : [0] ++ marksP row = M at q1
  have hMl : M.length ≤ 3000 := by rw [← hM, List.length_append, List.length_singleton]; have := marksP_len row; omega
  have s2 : (sFor (iSeq (mV 1)) (gN 3) MB1) [some (.int n), some (.obj j), some (.obj S.length), none, none, none, none] (S ++ [.lst [.int 0]]) = .nx [some (.int n), some (.obj j), some (.obj S.length), y3, none, none, none] (S ++ [.lst (M.map D.int)]) := by
    simp only [bind_ok, bind_ex, of_some, rs_ok, rs_ex, then_nx, then_rt, then_ex, then_bk, then_ct, mV0, mVs, mC_, m2_, m1_, mB_, kB_bl, mB1_, mNil_, mCons_, f1L_, f2L_, mTup_, mLst_, mCall_, mNotT_, mAndT_, mOrT_, mIf_, mAndV_, mOrV_, mNotV_, kAndV_bl, kOrV_bl, kNotV_bl, mSl_, mPart_, kPart_, mNoPart_, sSeq_, sSet_, sRet_, sIf_, sExpr_, sNil_, sBreak_, sCont_, e_lt, e_le, e_gt, e_ge, e_eqI, e_neI, e_eqS, e_neS, e_add, e_sub, List.set_cons_zero, List.set_cons_succ, kTu1, kTu2, kTu3, kTu4, kTu5, kLs0, kLs1, kLs2, kLs3, kLs4, kLs5, mM_, mM0_, sAsg_, sFor_, iRng_, iSeq_, ks0, enL]
    exact q1
  have s3 : (sSet 4 (mLst mNil)) [some (.int n), some (.obj j), some (.obj S.length), y3, none, none, none] (S ++ [.lst (M.map D.int)]) = .nx [some (.int n), some (.obj j), some (.obj S.length), y3, some (.obj (S.length + 1)), none, none] (S ++ [.lst (M.map D.int), .lst []]) := by
    simp only [bind_ok, bind_ex, of_some, rs_ok, rs_ex, then_nx, then_rt, then_ex, then_bk, then_ct, mV0, mVs, mC_, m2_, m1_, mB_, kB_bl, mB1_, mNil_, mCons_, f1L_, f2L_, mTup_, mLst_, mCall_, mNotT_, mAndT_, mOrT_, mIf_, mAndV_, mOrV_, mNotV_, kAndV_bl, kOrV_bl, kNotV_bl, mSl_, mPart_, kPart_, mNoPart_, sSeq_, sSet_, sRet_, sIf_, sExpr_, sNil_, sBreak_, sCont_, e_lt, e_le, e_gt, e_ge, e_eqI, e_neI, e_eqS, e_neS, e_add, e_sub, List.set_cons_zero, List.set_cons_succ, kTu1, kTu2, kTu3, kTu4, kTu5, kLs0, kLs1, kLs2, kLs3, kLs4, kLs5, mM_, mM0_, sAsg_, sFor_, iRng_, iSeq_, List.length_append, List.length_singleton, List.append_assoc, List.cons_append, List.nil_append]
  have hso : fSorted (.obj S.length) (S ++ [.lst (M.map D.int), .lst []]) = some (.obj (S.length + 2), S ++ [.lst (M.map D.int), .lst [], .lst ((srt M).map D.int)]) := by
    rw [e_sorted ga0]
    simp
  have hsl : (srt M).length ≤ 3000 := by rw [(srt_perm M).length_eq]; exact hMl
  have g2 : (S ++ [MO.lst (M.map D.int), .lst [], .lst ((srt M).map D.int)])[S.length + 2]? = some (.lst ((srt M).map D.int)) := by simp
  have g1 : (S ++ [MO.lst (M.map D.int), .lst [], .lst ((srt M).map D.int)])[S.length + 1]? = some (.lst (([] : Row).map prD)) := by simp
  obtain ⟨z3, z5, z6, S', q2, q3, q4⟩ := rwb_loop (n := n) (q := S.length + 1) (k := S.length + 2) (x1 := some (.obj j)) (x2 := some (.obj S.length)) (ms := srt M) (f := pv 0 row) (B := PBd) (S0 := S ++ [MO.lst (M.map D.int), .lst [], .lst ((srt M).map D.int)]) (by omega)
    (fun S1 acc m y3 y6 hb hq hm => by
      have hj1 : S1[j]? = some (.lst (row.map prD)) := by rw [hb.old j (by omega)]; exact get_app hj
      obtain ⟨w3, qq⟩ := ib1_loop (x0 := some (.int n)) (x1 := some (.obj j)) (x2 := some (.obj S.length)) (x4 := some (.obj (S.length + 1))) (m := m) hj1 row [] 0 y3 rfl
      have ks1 : kSeqI (.obj j) S1 = .ok (itLst row.length j) S1 := by rw [kSeqL hj1, List.length_map]
      refine ⟨w3, ?_⟩
      unfold PBd
      rw [show ([] : Row).length = 0 from rfl] at qq
      have e1 : (sSet 6 (mC (.int 0))) [some (.int n), some (.obj j), some (.obj S.length), y3, some (.obj (S.length + 1)), some (.int m), y6] S1 = .nx [some (.int n), some (.obj j), some (.obj S.length), y3, some (.obj (S.length + 1)), some (.int m), some (.int 0)] S1 := rfl
      have e2 : (sFor (iSeq (mV 1)) (gN 3) IB1) [some (.int n), some (.obj j), some (.obj S.length), y3, some (.obj (S.length + 1)), some (.int m), some (.int 0)] S1 = .nx [some (.int n), some (.obj j), some (.obj S.length), w3, some (.obj (S.length + 1)), some (.int m), some (.int (pv 0 row m))] S1 := by
        simp only [bind_ok, bind_ex, of_some, rs_ok, rs_ex, then_nx, then_rt, then_ex, then_bk, then_ct, mV0, mVs, mC_, m2_, m1_, mB_, kB_bl, mB1_, mNil_, mCons_, f1L_, f2L_, mTup_, mLst_, mCall_, mNotT_, mAndT_, mOrT_, mIf_, mAndV_, mOrV_, mNotV_, kAndV_bl, kOrV_bl, kNotV_bl, mSl_, mPart_, kPart_, mNoPart_, sSeq_, sSet_, sRet_, sIf_, sExpr_, sNil_, sBreak_, sCont_, e_lt, e_le, e_gt, e_ge, e_eqI, e_neI, e_eqS, e_neS, e_add, e_sub, List.set_cons_zero, List.set_cons_succ, kTu1, kTu2, kTu3, kTu4, kTu5, kLs0, kLs1, kLs2, kLs3, kLs4, kLs5, mM_, mM0_, sAsg_, sFor_, iRng_, iSeq_, ks1, enL]
        exact qq
      rw [sSeq_, e1, then_nx, sSeq_, e2, then_nx]) g2 (by omega) (srt M) [] [] _ y3 none none rfl (by simp) But.refl g1
  have hrows : ([] : Row) ++ jrA n ([] : Row).getLast? (mp (pv 0 row) (srt M)) = ptsR n row := by
    show jr0 n (mp (pv 0 row) (srt M)) = ptsR n row
    rw [← hM]; exact pts_rows hn hasc
  rw [hrows] at q3
  have hS' := q4.eq q3
  have hfin : S' = S ++ [.lst (M.map D.int), .lst ((ptsR n row).map prD), .lst ((srt M).map D.int)] := by
    rw [hS']; simp
  have ks : kSeqI (.obj (S.length + 2)) (S ++ [.lst (M.map D.int), .lst [], .lst ((srt M).map D.int)]) = .ok (itLst (srt M).length (S.length + 2)) (S ++ [.lst (M.map D.int), .lst [], .lst ((srt M).map D.int)]) := by rw [kSeqL g2, List.length_map]
  have s4 : (sFor (iSeq (mB1 (f1L fSorted) (mCons (mV 2) mNil))) (gN 5) PBd) [some (.int n), some (.obj j), some (.obj S.length), y3, some (.obj (S.length + 1)), none, none] (S ++ [.lst (M.map D.int), .lst []]) = .nx [some (.int n), some (.obj j), some (.obj S.length), z3, some (.obj (S.length + 1)), z5, z6] S' := by
    simp only [bind_ok, bind_ex, of_some, rs_ok, rs_ex, then_nx, then_rt, then_ex, then_bk, then_ct, mV0, mVs, mC_, m2_, m1_, mB_, kB_bl, mB1_, mNil_, mCons_, f1L_, f2L_, mTup_, mLst_, mCall_, mNotT_, mAndT_, mOrT_, mIf_, mAndV_, mOrV_, mNotV_, kAndV_bl, kOrV_bl, kNotV_bl, mSl_, mPart_, kPart_, mNoPart_, sSeq_, sSet_, sRet_, sIf_, sExpr_, sNil_, sBreak_, sCont_, e_lt, e_le, e_gt, e_ge, e_eqI, e_neI, e_eqS, e_neS, e_add, e_sub, List.set_cons_zero, List.set_cons_succ, kTu1, kTu2, kTu3, kTu4, kTu5, kLs0, kLs1, kLs2, kLs3, kLs4, kLs5, mM_, mM0_, sAsg_, sFor_, iRng_, iSeq_, hso, ks, enL]
    exact q2
  have htu : fTuple (.obj (S.length + 1)) S' = some (rwD (ptsR n row), S') := by
    show (lstAt S' _).map _ = _
    rw [lst_at q3]; rfl
  refine ⟨[.lst (M.map D.int), .lst ((ptsR n row).map prD), .lst ((srt M).map D.int)], ?_⟩
  have hb : B__law_point_runs [some (.int n), some (.obj j), none, none, none, none, none] S = .rt (aD n (ptsR n row)) S' := by
    rw [points_eq, sSeq_, s1, then_nx, sSeq_, s2, then_nx, sSeq_, s3, then_nx, sSeq_, s4, then_nx]
    simp only [bind_ok, bind_ex, of_some, rs_ok, rs_ex, then_nx, then_rt, then_ex, then_bk, then_ct, mV0, mVs, mC_, m2_, m1_, mB_, kB_bl, mB1_, mNil_, mCons_, f1L_, f2L_, mTup_, mLst_, mCall_, mNotT_, mAndT_, mOrT_, mIf_, mAndV_, mOrV_, mNotV_, kAndV_bl, kOrV_bl, kNotV_bl, mSl_, mPart_, kPart_, mNoPart_, sSeq_, sSet_, sRet_, sIf_, sExpr_, sNil_, sBreak_, sCont_, e_lt, e_le, e_gt, e_ge, e_eqI, e_neI, e_eqS, e_neS, e_add, e_sub, List.set_cons_zero, List.set_cons_succ, kTu1, kTu2, kTu3, kTu4, kTu5, kLs0, kLs1, kLs2, kLs3, kLs4, kLs5, mM_, mM0_, sAsg_, sFor_, iRng_, iSeq_, htu]
    rfl
  unfold M__law_point_runs mFn
  simp only [List.length_cons, List.length_nil, Nat.reduceAdd, if_true, List.map_cons, List.map_nil, List.replicate, List.cons_append, List.nil_append, Nat.reduceSub]
  rw [hb, hfin]
  rfl
end K07

namespace K07
open PySem PySem.Spec L2 Mi
/-! ### the law's points: the drawing -/
structure PI' (S : Sto) (p j : Nat) (row : Row) (start : Int) : Prop where
  pool : PoolOk S p
  rowS : S[j]? = some (.lst (row.map prD))
  ne : j ≠ p
  asc : row.Pairwise fun a b => a.1 ≤ b.1
  top : ∀ q ∈ row, q.1 ≤ start
theorem PI'.stp {S S' : Sto} {p j : Nat} {row : Row} {start : Int} (h : PI' S p j row start) (a : Stp p S S') : PI' S' p j row start := ⟨a.pool, a.get h.rowS h.ne, h.ne, h.asc, h.top⟩
theorem PI'.app {S X : Sto} {p j : Nat} {row : Row} {start : Int} (h : PI' S p j row start) : PI' (S ++ X) p j row start := ⟨(Stp.app h.pool).pool, get_app h.rowS, h.ne, h.asc, h.top⟩
def DB : MS := (sSeq (sExpr (mM "list" fAppend (mV 2) (mCons (mTup (mCons (mV 3) (mCons (mCall M__law_value (mCons (mV 0) mNil)) mNil))) mNil)))
  (sSet 3 (m2 fAdd (mV 3) (m2 fIx (mLst (mCons (mC (.int 0)) (mCons (mC (.int 1)) (mCons (mC (.int 1)) (mCons (mC (.int 2)) (mCons (mC (.int 5)) (mCons (mV 1) mNil))))))) (mCall M__law_pick (mCons (mV 0) (mCons (mC (.int 6)) mNil)))))))
section
variable {S : Sto} {p j : Nat} {n start : Int} {row : Row} {x4 x5 x6 x7 x8 x9 x10 : Option D}
theorem db_step (h : PI' S p j row start) (hn : 0 ≤ n) (hl : row.length ≤ 100) : ∃ (start' : Int) (row' : Row) (S' : Sto), DB [some (.obj p), some (.int n), some (.obj j), some (.int start), x4, x5, x6, x7, x8, x9, x10] S = .nx [some (.obj p), some (.int n), some (.obj j), some (.int start'), x4, x5, x6, x7, x8, x9, x10] S' ∧ PI' S' p j row' start' ∧ row'.length = row.length + 1 := by
  obtain ⟨v, S1, a1, a2⟩ := value h.pool
  have h1 := h.stp a2
  have happ : fAppend (.obj j) [.tup [.int start, .int v]] S1 = some (.non, S1.set j (.lst ((row ++ [(start, v)]).map prD))) := by
    rw [e_append h1.rowS (by rw [sizeLine_eq, List.length_map]; omega), List.map_append]; rfl
  have h2 : PI' (S1.set j (.lst ((row ++ [(start, v)]).map prD))) p j (row ++ [(start, v)]) start := by
    refine ⟨?_, List.getElem?_set_self (get_lt h1.rowS), h.ne, ?_, fun q hq => ?_⟩
    · obtain ⟨ps, g1, g2⟩ := h1.pool
      exact ⟨ps, by rw [List.getElem?_set_ne h.ne]; exact g1, g2⟩
    · rw [List.pairwise_append]
      exact ⟨h.asc, List.pairwise_singleton _ _, fun a ha b hb => by rw [List.mem_singleton.mp hb]; exact h.top a ha⟩
    · rcases List.mem_append.mp hq with hq | hq
      · exact h.top q hq
      · rw [List.mem_singleton.mp hq]; exact Int.le_refl _
  generalize S1.set j (.lst ((row ++ [(start, v)]).map prD)) = S2 at happ h2
  have h3 := h2.app (X := [.lst [.int 0, .int 1, .int 1, .int 2, .int 5, .int n]])
  obtain ⟨w, S3, b1, b2, b3, _⟩ := pick h3.pool (m := 6) (by omega)
  have b1' : M__law_pick [.obj p, .int 6] (S2 ++ [.lst [.int 0, .int 1, .int 1, .int 2, .int 5, .int n]]) = .ok (nD w) S3 := b1
  have h4 := h3.stp b3
  have hgl : S3[S2.length]? = some (.lst [.int 0, .int 1, .int 1, .int 2, .int 5, .int n]) := b3.get last0 (by have := h2.pool.lt; omega)
  obtain ⟨t, ht, hix⟩ : ∃ t : Int, 0 ≤ t ∧ ([.int 0, .int 1, .int 1, .int 2, .int 5, .int n] : List D)[w]? = some (.int t) := by
    match w, b2 with
    | 0, _ => exact ⟨0, by omega, rfl⟩
    | 1, _ => exact ⟨1, by omega, rfl⟩
    | 2, _ => exact ⟨1, by omega, rfl⟩
    | 3, _ => exact ⟨2, by omega, rfl⟩
    | 4, _ => exact ⟨5, by omega, rfl⟩
    | 5, _ => exact ⟨n, hn, rfl⟩
  have hixD : fIx (.obj S2.length) (nD w) S3 = some (.int t, S3) := e_ixL hgl hix
  have k6 : ∀ {S : Sto}, kLst [.int 0, .int 1, .int 1, .int 2, .int 5, .int n] S = .ok (.obj S.length) (S ++ [.lst [.int 0, .int 1, .int 1, .int 2, .int 5, .int n]]) := fun {S} => kLst_ (by rw [sizeLine_eq]; simp)
  refine ⟨start + t, row ++ [(start, v)], S3, ?_, ⟨h4.pool, h4.rowS, h.ne, h4.asc, fun q hq => by have := h4.top q hq; omega⟩, by rw [List.length_append]; rfl⟩
  unfold DB
  simp only [bind_ok, bind_ex, of_some, rs_ok, rs_ex, then_nx, then_rt, then_ex, then_bk, then_ct, mV0, mVs, mC_, m2_, m1_, mB_, kB_bl, mB1_, mNil_, mCons_, f1L_, f2L_, mTup_, mLst_, mCall_, mNotT_, mAndT_, mOrT_, mIf_, mAndV_, mOrV_, mNotV_, kAndV_bl, kOrV_bl, kNotV_bl, mSl_, mPart_, kPart_, mNoPart_, sSeq_, sSet_, sRet_, sIf_, sExpr_, sNil_, sBreak_, sCont_, e_lt, e_le, e_gt, e_ge, e_eqI, e_neI, e_eqS, e_neS, e_add, e_sub, List.set_cons_zero, List.set_cons_succ, kTu1, kTu2, kTu3, kTu4, kTu5, kLs0, kLs1, kLs2, kLs3, kLs4, kLs5, mM_, mM0_, sAsg_, sFor_, iRng_, iSeq_, tyL h.rowS, if_true, a1, happ, k6, b1', hixD]
theorem db_loop (hn : 0 ≤ n) : ∀ (k i N : Nat) (S : Sto) (row : Row) (st0 : Int) (x4 : Option D), N = i + k → N ≤ 50 → row.length = i → PI' S p j row st0 → ∃ (st1 : Int) (row' : Row) (y4 : Option D) (S' : Sto), forI (itRng 0 N) (gN 4) DB k i [some (.obj p), some (.int n), some (.obj j), some (.int st0), x4, x5, x6, x7, x8, x9, x10] S = .nx [some (.obj p), some (.int n), some (.obj j), some (.int st1), y4, x5, x6, x7, x8, x9, x10] S' ∧ PI' S' p j row' st1 ∧ row'.length = N
  | 0, i, N, S, row, st0, x4, hN, hm, hl, h => by
    have : N = i := by omega
    subst this
    exact ⟨st0, row, x4, S, by rw [fr_end], h, hl⟩
  | k + 1, i, N, S, row, st0, x4, hN, hm, hl, h => by
    obtain ⟨s1, r1, S1, q1, h1, l1⟩ := db_step (x4 := some (.int (0 + (i : Int)))) (x5 := x5) (x6 := x6) (x7 := x7) (x8 := x8) (x9 := x9) (x10 := x10) h hn (by omega)
    obtain ⟨s2, r2, y4, S2, q2, h2, l2⟩ := db_loop hn k (i + 1) N S1 r1 s1 (some (.int (0 + (i : Int)))) (by omega) hm (by omega) h1
    refine ⟨s2, r2, y4, S2, ?_, h2, l2⟩
    rw [fr_nx (by omega) q1, q2]
end
/-! the pairs handed over are changed afterwards -/
def HB : MS := (sPut (mV 7) (mC (.int 1)) (mC (.int 99)))
structure Hand (S : Sto) (b n : Nat) : Prop where
  list : S[b]? = some (.lst ((rng (b + 1) n).map D.obj))
  prs : ∀ i, i < n → ∃ x y : D, S[b + 1 + i]? = some (.lst [x, y])
theorem hb_loop {b n : Nat} {x0 x1 x2 x3 x4 x5 x6 x8 x9 x10 : Option D} : ∀ (k i : Nat) (S : Sto) (x7 : Option D), n = i + k → Hand S b n → ∃ (y7 : Option D) (S' : Sto), forI (itLst n b) (gN 7) HB k i [x0, x1, x2, x3, x4, x5, x6, x7, x8, x9, x10] S = .nx [x0, x1, x2, x3, x4, x5, x6, y7, x8, x9, x10] S' ∧ S'.length = S.length ∧ ∀ m, m ≤ b → S'[m]? = S[m]?
  | 0, i, S, x7, hn, h => by
    refine ⟨x7, S, ?_, rfl, fun _ _ => rfl⟩
    have : i = ((rng (b + 1) n).map D.obj).length := by rw [List.length_map, rng_len]; omega
    rw [this, fl_end h.list]
  | k + 1, i, S, x7, hn, h => by
    have hi : i < n := by omega
    have hd : ((rng (b + 1) n).map D.obj)[i]? = some (.obj (b + 1 + i)) := by rw [List.getElem?_map, rng_get hi]; rfl
    obtain ⟨x, y, hxy⟩ := h.prs i hi
    have hput : fPut (.obj (b + 1 + i)) (.int 1) (.int 99) S = some (S.set (b + 1 + i) (.lst [x, .int 99])) := by
      unfold fPut
      simp only [hxy]
      rfl
    have h' : Hand (S.set (b + 1 + i) (.lst [x, .int 99])) b n := by
      refine ⟨by rw [List.getElem?_set_ne (by omega)]; exact h.list, fun m hm => ?_⟩
      by_cases e : m = i
      · subst e; exact ⟨x, .int 99, List.getElem?_set_self (get_lt hxy)⟩
      · obtain ⟨u, v, huv⟩ := h.prs m hm
        exact ⟨u, v, by rw [List.getElem?_set_ne (by omega)]; exact huv⟩
    obtain ⟨y7, S', q1, q2, q3⟩ := hb_loop (x0 := x0) (x1 := x1) (x2 := x2) (x3 := x3) (x4 := x4) (x5 := x5) (x6 := x6) (x8 := x8) (x9 := x9) (x10 := x10) k (i + 1) (S.set (b + 1 + i) (.lst [x, .int 99])) (some (.obj (b + 1 + i))) (by omega) h'
    refine ⟨y7, S', ?_, by rw [q2, List.length_set], fun m hm => by rw [q3 m hm, List.getElem?_set_ne (by omega)]⟩
    have st : HB [x0, x1, x2, x3, x4, x5, x6, some (.obj (b + 1 + i)), x8, x9, x10] S = .nx [x0, x1, x2, x3, x4, x5, x6, some (.obj (b + 1 + i)), x8, x9, x10] (S.set (b + 1 + i) (.lst [x, .int 99])) := by
      unfold HB sPut
      simp only [bind_ok, bind_ex, of_some, rs_ok, rs_ex, then_nx, then_rt, then_ex, then_bk, then_ct, mV0, mVs, mC_, m2_, m1_, mB_, kB_bl, mB1_, mNil_, mCons_, f1L_, f2L_, mTup_, mLst_, mCall_, mNotT_, mAndT_, mOrT_, mIf_, mAndV_, mOrV_, mNotV_, kAndV_bl, kOrV_bl, kNotV_bl, mSl_, mPart_, kPart_, mNoPart_, sSeq_, sSet_, sRet_, sIf_, sExpr_, sNil_, sBreak_, sCont_, e_lt, e_le, e_gt, e_ge, e_eqI, e_neI, e_eqS, e_neS, e_add, e_sub, List.set_cons_zero, List.set_cons_succ, kTu1, kTu2, kTu3, kTu4, kTu5, kLs0, kLs1, kLs2, kLs3, kLs4, kLs5, mM_, mM0_, sAsg_, sFor_, iRng_, iSeq_, hput]
    rw [fl_nx h.list hd rfl st, q1]
/-! the known values at a place -/
def kn : Row → Int → List Int
  | [], _ => []
  | p :: r, z => if p.1 ≤ z then p.2 :: kn r z else kn r z
theorem kn_len : ∀ (r : Row) (z : Int), (kn r z).length ≤ r.length
  | [], z => Nat.le_refl _
  | p :: r, z => by
    rw [kn]
    have := kn_len r z
    split <;> simp <;> omega
theorem kn_pv : ∀ (r : Row) (d z : Int), (d :: kn r z)[(kn r z).length]? = some (pv d r z)
  | [], d, z => rfl
  | p :: r, d, z => by
    rw [kn, pv]
    by_cases h : p.1 ≤ z
    · rw [if_pos h, if_pos h, List.length_cons, List.getElem?_cons_succ]
      exact kn_pv r p.2 z
    · rw [if_neg h, if_neg h]
      exact kn_pv r d z
theorem kn_loop {S : Sto} {env : Mi.Env} {j : Nat} {row : Row} {z : Int} {t e : ME} (hj : S[j]? = some (.lst (row.map prD))) (ht : ∀ (p : Int × Int) (S : Sto), t (env.set 7 (some (prD p))) S = .ok (.bl (decide (p.1 ≤ z))) S) (he : ∀ (p : Int × Int) (S : Sto), e (env.set 7 (some (prD p))) S = .ok (.int p.2) S) : ∀ (suf pre : Row) (acc : List Int), row = pre ++ suf → acc.length + suf.length ≤ 1000 →
    lcI (itLst row.length j) (gN 7) (mB t) e S.length suf.length pre.length env (S ++ [.lst (acc.map D.int)]) = .ok (.obj S.length) (S ++ [.lst ((acc ++ kn suf z).map D.int)])
  | [], pre, acc, hr, hl => by
    have : pre.length = (row.map prD).length := by rw [hr]; simp
    have hf : (itLst row.length j).f pre.length (S ++ [.lst (acc.map D.int)]) = some none := by
      show (lstAt _ j).map _ = _
      rw [lst_at (get_app hj), this]; simp
    rw [lcI_end hf, show kn [] z = [] from rfl, List.append_nil]
  | p :: suf, pre, acc, hr, hl => by
    have hd : (row.map prD)[pre.length]? = some (prD p) := by rw [hr]; simp
    have hf : (itLst row.length j).f pre.length (S ++ [.lst (acc.map D.int)]) = some (some (prD p)) := fl_at (get_app hj) hd
    rw [List.length_cons] at hl
    rw [show (p :: suf).length = suf.length + 1 from rfl, lcI]
    simp only [hf, gN, noEx, mB_, ht, bind_ok, kB_bl]
    by_cases h : p.1 ≤ z
    · have ih := kn_loop hj ht he suf (pre ++ [p]) (acc ++ [p.2]) (by rw [hr]; simp) (by rw [List.length_append, List.length_singleton]; omega)
      rw [List.length_append, List.length_singleton, List.append_assoc] at ih
      rw [if_pos (decide_eq_true h)]
      simp only [he, bind_ok, last0]
      rw [if_pos (by rw [sizeLine_eq, List.length_map]; omega), sa0, kn, if_pos h]
      rw [show (acc.map D.int ++ [D.int p.2]) = (acc ++ [p.2]).map D.int by rw [List.map_append]; rfl]
      exact ih
    · have ih := kn_loop hj ht he suf (pre ++ [p]) acc (by rw [hr]; simp) (by omega)
      rw [List.length_append, List.length_singleton] at ih
      rw [if_neg (by rw [decide_eq_true_iff]; exact h), kn, if_neg h]
      exact ih
end K07

namespace K07
open PySem PySem.Spec L2 Mi
/-! ### the law's points, whole -/
def CB2 : MS := (sSeq (sSet 10 (mLc (iSeq (mV 2)) (gN 7) (mB (m2 fLe (m2 fIx (mV 7) (mC (.int 0))) (mV 9))) (m2 fIx (mV 7) (mC (.int 1))) [7]))
  (sExpr (mM "list" fAppend (mV 8) (mCons (m2 fIx (m2 fAdd (mLst (mCons (mC (.int 0)) mNil)) (mV 10)) (mB1 (f1L fLen) (mCons (mV 10) mNil))) mNil))))
theorem cb2_step {S : Sto} {j c : Nat} {row : Row} {ns : List Int} {z : Int} {x0 x1 x3 x4 x5 x6 x7 x10 : Option D} (hj : S[j]? = some (.lst (row.map prD))) (hc : S[c]? = some (.lst (ns.map D.int))) (hl : row.length ≤ 100) (hn : ns.length ≤ 100) : ∃ (X : Sto) (y10 : Option D), CB2 [x0, x1, some (.obj j), x3, x4, x5, x6, x7, some (.obj c), some (.int z), x10] S = .nx [x0, x1, some (.obj j), x3, x4, x5, x6, x7, some (.obj c), some (.int z), y10] ((S ++ X).set c (.lst ((ns ++ [pv 0 row z]).map D.int))) := by
  have hcl := get_lt hc
  have kk := kn_loop (S := S) (env := wipeE [x0, x1, some (.obj j), x3, x4, x5, x6, x7, some (.obj c), some (.int z), x10] [7]) (j := j) (row := row) (z := z) (t := (m2 fLe (m2 fIx (mV 7) (mC (.int 0))) (mV 9))) (e := (m2 fIx (mV 7) (mC (.int 1)))) hj
    (fun p S => by
      show (m2 fLe (m2 fIx (mV 7) (mC (.int 0))) (mV 9)) [x0, x1, some (.obj j), x3, x4, x5, x6, some (prD p), some (.obj c), some (.int z), x10] S = _
      simp only [bind_ok, bind_ex, of_some, rs_ok, rs_ex, then_nx, then_rt, then_ex, then_bk, then_ct, mV0, mVs, mC_, m2_, m1_, mB_, kB_bl, mB1_, mNil_, mCons_, f1L_, f2L_, mTup_, mLst_, mCall_, mNotT_, mAndT_, mOrT_, mIf_, mAndV_, mOrV_, mNotV_, kAndV_bl, kOrV_bl, kNotV_bl, mSl_, mPart_, kPart_, mNoPart_, sSeq_, sSet_, sRet_, sIf_, sExpr_, sNil_, sBreak_, sCont_, e_lt, e_le, e_gt, e_ge, e_eqI, e_neI, e_eqS, e_neS, e_add, e_sub, List.set_cons_zero, List.set_cons_succ, kTu1, kTu2, kTu3, kTu4, kTu5, kLs0, kLs1, kLs2, kLs3, kLs4, kLs5, mM_, mM0_, sAsg_, sFor_, iRng_, iSeq_, e_p0])
    (fun p S => by
      show (m2 fIx (mV 7) (mC (.int 1))) [x0, x1, some (.obj j), x3, x4, x5, x6, some (prD p), some (.obj c), some (.int z), x10] S = _
      simp only [bind_ok, bind_ex, of_some, rs_ok, rs_ex, then_nx, then_rt, then_ex, then_bk, then_ct, mV0, mVs, mC_, m2_, m1_, mB_, kB_bl, mB1_, mNil_, mCons_, f1L_, f2L_, mTup_, mLst_, mCall_, mNotT_, mAndT_, mOrT_, mIf_, mAndV_, mOrV_, mNotV_, kAndV_bl, kOrV_bl, kNotV_bl, mSl_, mPart_, kPart_, mNoPart_, sSeq_, sSet_, sRet_, sIf_, sExpr_, sNil_, sBreak_, sCont_, e_lt, e_le, e_gt, e_ge, e_eqI, e_neI, e_eqS, e_neS, e_add, e_sub, List.set_cons_zero, List.set_cons_succ, kTu1, kTu2, kTu3, kTu4, kTu5, kLs0, kLs1, kLs2, kLs3, kLs4, kLs5, mM_, mM0_, sAsg_, sFor_, iRng_, iSeq_, e_p1]) row [] [] rfl (by simp; omega)
  have ks : kSeqI (.obj j) S = .ok (itLst row.length j) S := by rw [kSeqL hj, List.length_map]
  have hlc : kLc (gN 7) (mB (m2 fLe (m2 fIx (mV 7) (mC (.int 0))) (mV 9))) (m2 fIx (mV 7) (mC (.int 1))) [7] [x0, x1, some (.obj j), x3, x4, x5, x6, x7, some (.obj c), some (.int z), x10] (itLst row.length j) S = .ok (.obj S.length) (S ++ [.lst ((kn row z).map D.int)]) := kk
  have hkl := kn_len row z
  have s1 : (sSet 10 (mLc (iSeq (mV 2)) (gN 7) (mB (m2 fLe (m2 fIx (mV 7) (mC (.int 0))) (mV 9))) (m2 fIx (mV 7) (mC (.int 1))) [7])) [x0, x1, some (.obj j), x3, x4, x5, x6, x7, some (.obj c), some (.int z), x10] S = .nx [x0, x1, some (.obj j), x3, x4, x5, x6, x7, some (.obj c), some (.int z), some (.obj S.length)] (S ++ [.lst ((kn row z).map D.int)]) := by
    rw [sSet_, mLc_, iSeq_]
    have ev : mV 2 [x0, x1, some (.obj j), x3, x4, x5, x6, x7, some (.obj c), some (.int z), x10] S = .ok (.obj j) S := rfl
    rw [ev, bind_ok, ks, bind_ok, hlc, rs_ok]
    rfl
  generalize hS1 : S ++ [MO.lst ((kn row z).map D.int)] = S1 at s1
  have hk1 : S1[S.length]? = some (.lst ((kn row z).map D.int)) := by rw [← hS1]; exact last0
  have hc1 : S1[c]? = some (.lst (ns.map D.int)) := by rw [← hS1]; exact get_app hc
  have hadd : fAdd (.obj S1.length) (.obj S.length) (S1 ++ [.lst [.int 0]]) = some (.obj (S1 ++ [MO.lst [.int 0]]).length, S1 ++ [.lst [.int 0]] ++ [.lst ((0 :: kn row z).map D.int)]) := by
    unfold fAdd
    simp only [last0, get_app (X := [MO.lst [.int 0]]) hk1]
    rw [if_pos (by rw [sizeLine_eq, List.length_map]; simp; omega)]
    rfl
  generalize hS3 : S1 ++ [MO.lst [.int 0]] ++ [.lst ((0 :: kn row z).map D.int)] = S3 at hadd
  have hk3 : S3[S.length]? = some (.lst ((kn row z).map D.int)) := by rw [← hS3]; exact get_app (get_app hk1)
  have hc3 : S3[c]? = some (.lst (ns.map D.int)) := by rw [← hS3]; exact get_app (get_app hc1)
  have hl3 : fLen (.obj S.length) S3 = some (.int ((kn row z).length : Int), S3) := by rw [e_lenL hk3, List.length_map]
  have hix : fIx (.obj (S1 ++ [MO.lst [.int 0]]).length) (.int ((kn row z).length : Int)) S3 = some (.int (pv 0 row z), S3) := by
    refine e_ixL (ds := (0 :: kn row z).map D.int) (by rw [← hS3]; exact last0) ?_
    rw [List.getElem?_map, kn_pv]; rfl
  have happ : fAppend (.obj c) [.int (pv 0 row z)] S3 = some (.non, S3.set c (.lst ((ns ++ [pv 0 row z]).map D.int))) := by
    rw [e_append hc3 (by rw [sizeLine_eq, List.length_map]; omega), List.map_append]; rfl
  refine ⟨[.lst ((kn row z).map D.int)] ++ ([.lst [.int 0]] ++ [.lst ((0 :: kn row z).map D.int)]), some (.obj S.length), ?_⟩
  rw [← List.append_assoc, hS1, ← List.append_assoc, hS3]
  unfold CB2
  rw [sSeq_, s1, then_nx]
  simp only [bind_ok, bind_ex, of_some, rs_ok, rs_ex, then_nx, then_rt, then_ex, then_bk, then_ct, mV0, mVs, mC_, m2_, m1_, mB_, kB_bl, mB1_, mNil_, mCons_, f1L_, f2L_, mTup_, mLst_, mCall_, mNotT_, mAndT_, mOrT_, mIf_, mAndV_, mOrV_, mNotV_, kAndV_bl, kOrV_bl, kNotV_bl, mSl_, mPart_, kPart_, mNoPart_, sSeq_, sSet_, sRet_, sIf_, sExpr_, sNil_, sBreak_, sCont_, e_lt, e_le, e_gt, e_ge, e_eqI, e_neI, e_eqS, e_neS, e_add, e_sub, List.set_cons_zero, List.set_cons_succ, kTu1, kTu2, kTu3, kTu4, kTu5, kLs0, kLs1, kLs2, kLs3, kLs4, kLs5, mM_, mM0_, sAsg_, sFor_, iRng_, iSeq_, tyL hc1, if_true, hadd, hl3, hix, happ]
theorem cb2_loop {j c : Nat} {row : Row} {x0 x1 x3 x4 x5 x6 x7 : Option D} (hjc : j ≠ c) (hl : row.length ≤ 100) : ∀ (k i N : Nat) (S : Sto) (x9 x10 : Option D), N = i + k → N ≤ 50 → S[j]? = some (.lst (row.map prD)) → S[c]? = some (.lst (((List.range i).map fun (m : Nat) => pv 0 row (m : Int)).map D.int)) → ∃ (y9 y10 : Option D) (S' : Sto),
    forI (itRng 0 N) (gN 9) CB2 k i [x0, x1, some (.obj j), x3, x4, x5, x6, x7, some (.obj c), x9, x10] S = .nx [x0, x1, some (.obj j), x3, x4, x5, x6, x7, some (.obj c), y9, y10] S' ∧ S'[c]? = some (.lst (((List.range N).map fun (m : Nat) => pv 0 row (m : Int)).map D.int)) ∧ S.length ≤ S'.length ∧ ∀ m, m < S.length → m ≠ c → S'[m]? = S[m]?
  | 0, i, N, S, x9, x10, hN, hm, hj, hc => by
    have : N = i := by omega
    subst this
    exact ⟨x9, x10, S, by rw [fr_end], hc, Nat.le_refl _, fun _ _ _ => rfl⟩
  | k + 1, i, N, S, x9, x10, hN, hm, hj, hc => by
    obtain ⟨X, y10, st⟩ := cb2_step (z := (0 + (i : Int))) (x0 := x0) (x1 := x1) (x3 := x3) (x4 := x4) (x5 := x5) (x6 := x6) (x7 := x7) (x10 := x10) hj hc hl (by rw [List.length_map, List.length_range]; omega)
    have hcl := get_lt hc
    have hjl := get_lt hj
    have hj2 : ((S ++ X).set c (.lst ((((List.range i).map fun (m : Nat) => pv 0 row (m : Int)) ++ [pv 0 row (0 + (i : Int))]).map D.int)))[j]? = some (.lst (row.map prD)) := by
      rw [List.getElem?_set_ne (Ne.symm hjc)]; exact get_app hj
    have hc2 : ((S ++ X).set c (.lst ((((List.range i).map fun (m : Nat) => pv 0 row (m : Int)) ++ [pv 0 row (0 + (i : Int))]).map D.int)))[c]? = some (.lst (((List.range (i + 1)).map fun (m : Nat) => pv 0 row (m : Int)).map D.int)) := by
      rw [List.getElem?_set_self (by rw [List.length_append]; omega), List.range_succ, Int.zero_add]; simp
    obtain ⟨z9, z10, S', q1, q2, q3, q4⟩ := cb2_loop (x0 := x0) (x1 := x1) (x3 := x3) (x4 := x4) (x5 := x5) (x6 := x6) (x7 := x7) hjc hl k (i + 1) N _ (some (.int (0 + (i : Int)))) y10 (by omega) hm hj2 hc2
    rw [List.length_set, List.length_append] at q3 q4
    refine ⟨z9, z10, S', ?_, q2, by omega, fun m h1 h2 => ?_⟩
    · rw [fr_nx (by omega) st, q1]
    · rw [q4 m (by omega) h2, List.getElem?_set_ne (Ne.symm h2), List.getElem?_append_left h1]
/-- the array of points is the array of its cells -/
theorem pts_cells {n : Nat} {row : Row} (h : row.Pairwise fun a b => a.1 ≤ b.1) : ptsR (n : Int) row = cellsR ((List.range n).map fun (m : Nat) => pv 0 row (m : Int)) := by
  obtain ⟨c1, c2⟩ := ptsR_ok (n := (n : Int)) (by omega) h
  obtain ⟨d1, d2⟩ := cellsR_ok ((List.range n).map fun (m : Nat) => pv 0 row (m : Int))
  rw [List.length_map, List.length_range] at d1
  refine canon_uniq c1 d1 fun z z0 z1 => ?_
  obtain ⟨i, rfl⟩ : ∃ i : Nat, z = (i : Int) := ⟨z.toNat, by omega⟩
  rw [c2 _ z0 z1, d2 i (pv 0 row (i : Int)) (by rw [List.getElem?_map, List.getElem?_range (by omega)]; rfl)]
def A1 : MS := (sSet 1 (mCall M__law_pick (mCons (mV 0) (mCons (mC (.int 9)) mNil))))
def A2 : MS := (sIf (mB (m2 fEq (mCall M__law_pick (mCons (mV 0) (mCons (mC (.int 3)) mNil))) (mC (.int 2))))
  (sSet 1 (mCall M__law_length (mCons (mV 0) mNil)))
  sNil)
def A3 : MS := (sSet 2 (mLst mNil))
def A4 : MS := (sSet 3 (m2 fSub (mCall M__law_pick (mCons (mV 0) (mCons (mC (.int 5)) mNil))) (mC (.int 4))))
def A5 : MS := (sFor (iRng (mCons (mCall M__law_pick (mCons (mV 0) (mCons (mC (.int 7)) mNil))) mNil)) (gN 4) DB)
def A6 : MS := (sSet 5 (mLc (iSeq (mV 2)) (gN 7) tAll (mB1 (f1L fList2) (mCons (mV 7) mNil)) [7]))
def A7 : MS := (sSet 6 (mCall M_from_points (mCons (mV 1) (mCons (mV 5) mNil))))
def A8 : MS := (sFor (iSeq (mV 5)) (gN 7) HB)
def A9 : MS := (sIf (mOrT (mNotT (mB (mCall M__law_is_array (mCons (mV 6) (mCons (mCall M__law_point_runs (mCons (mV 1) (mCons (mV 2) mNil))) mNil))))) (mNotT (mB (mCall M__law_is_array (mCons (mCall M_from_points (mCons (mV 1) (mCons (mB1 (f1L fTuple) (mCons (mV 2) mNil)) mNil))) (mCons (mV 6) mNil))))))
  (sRet (mC (.bl false)))
  sNil)
def A10 : MS := (sIf (mB (m2 fGt (mV 1) (mC (.int 9))))
  (sRet (mC (.bl true)))
  sNil)
def A11 : MS := (sSet 8 (mLst mNil))
def A12 : MS := (sFor (iRng (mCons (mV 1) mNil)) (gN 9) CB2)
def A13 : MS := (sRet (mCall M__law_is_array (mCons (mV 6) (mCons (mCall M__law_runs (mCons (mV 8) mNil)) mNil))))
theorem lpoints_eq : B__law_points = sSeq A1 (sSeq A2 (sSeq A3 (sSeq A4 (sSeq A5 (sSeq A6 (sSeq A7 (sSeq A8 (sSeq A9 (sSeq A10 (sSeq A11 (sSeq A12 A13))))))))))) := (rfl)
end K07

namespace K07
open PySem PySem.Spec L2 Mi
theorem law_points {S : Sto} {p : Nat} (h : PoolOk S p) : ∃ S' : Sto, M__law_points [.obj p] S = .ok (.bl true) S' ∧ PoolOk S' p := by
  -- the length
  obtain ⟨w, S1, a1, a2, a3, _⟩ := pick h (m := 9) (by omega)
  have a1' : M__law_pick [.obj p, .int 9] S = .ok (nD w) S1 := a1
  have s1 : A1 [some (.obj p), none, none, none, none, none, none, none, none, none, none] S = .nx [some (.obj p), some (.int (w : Int)), none, none, none, none, none, none, none, none, none] S1 := by
    unfold A1; simp only [bind_ok, bind_ex, of_some, rs_ok, rs_ex, then_nx, then_rt, then_ex, then_bk, then_ct, mV0, mVs, mC_, m2_, m1_, mB_, kB_bl, mB1_, mNil_, mCons_, f1L_, f2L_, mTup_, mLst_, mCall_, mNotT_, mAndT_, mOrT_, mIf_, mAndV_, mOrV_, mNotV_, kAndV_bl, kOrV_bl, kNotV_bl, mSl_, mPart_, kPart_, mNoPart_, sSeq_, sSet_, sRet_, sIf_, sExpr_, sNil_, sBreak_, sCont_, e_lt, e_le, e_gt, e_ge, e_eqI, e_neI, e_eqS, e_neS, e_add, e_sub, List.set_cons_zero, List.set_cons_succ, kTu1, kTu2, kTu3, kTu4, kTu5, kLs0, kLs1, kLs2, kLs3, kLs4, kLs5, mM_, mM0_, sAsg_, sFor_, iRng_, iSeq_, a1']
  obtain ⟨n, S2, hn, s2, hp2⟩ : ∃ (n : Int) (S2 : Sto), 0 ≤ n ∧ A2 [some (.obj p), some (.int (w : Int)), none, none, none, none, none, none, none, none, none] S1 = .nx [some (.obj p), some (.int n), none, none, none, none, none, none, none, none, none] S2 ∧ PoolOk S2 p := by
    obtain ⟨w2, S2, b1, b2, b3, _⟩ := pick a3.pool (m := 3) (by omega)
    have b1' : M__law_pick [.obj p, .int 3] S1 = .ok (nD w2) S2 := b1
    by_cases h2 : w2 = 2
    · have d1 : decide ((w2 : Int) = 2) = true := decide_eq_true (by omega)
      obtain ⟨n, S3, c1, c2, c3⟩ := law_length b3.pool
      refine ⟨n, S3, by omega, ?_, c3.pool⟩
      unfold A2; simp only [bind_ok, bind_ex, of_some, rs_ok, rs_ex, then_nx, then_rt, then_ex, then_bk, then_ct, mV0, mVs, mC_, m2_, m1_, mB_, kB_bl, mB1_, mNil_, mCons_, f1L_, f2L_, mTup_, mLst_, mCall_, mNotT_, mAndT_, mOrT_, mIf_, mAndV_, mOrV_, mNotV_, kAndV_bl, kOrV_bl, kNotV_bl, mSl_, mPart_, kPart_, mNoPart_, sSeq_, sSet_, sRet_, sIf_, sExpr_, sNil_, sBreak_, sCont_, e_lt, e_le, e_gt, e_ge, e_eqI, e_neI, e_eqS, e_neS, e_add, e_sub, List.set_cons_zero, List.set_cons_succ, kTu1, kTu2, kTu3, kTu4, kTu5, kLs0, kLs1, kLs2, kLs3, kLs4, kLs5, mM_, mM0_, sAsg_, sFor_, iRng_, iSeq_, b1', d1, if_true, c1]
    · have d1 : decide ((w2 : Int) = 2) = false := decide_eq_false (by omega)
      refine ⟨(w : Int), S2, by omega, ?_, b3.pool⟩
      unfold A2; simp only [bind_ok, bind_ex, of_some, rs_ok, rs_ex, then_nx, then_rt, then_ex, then_bk, then_ct, mV0, mVs, mC_, m2_, m1_, mB_, kB_bl, mB1_, mNil_, mCons_, f1L_, f2L_, mTup_, mLst_, mCall_, mNotT_, mAndT_, mOrT_, mIf_, mAndV_, mOrV_, mNotV_, kAndV_bl, kOrV_bl, kNotV_bl, mSl_, mPart_, kPart_, mNoPart_, sSeq_, sSet_, sRet_, sIf_, sExpr_, sNil_, sBreak_, sCont_, e_lt, e_le, e_gt, e_ge, e_eqI, e_neI, e_eqS, e_neS, e_add, e_sub, List.set_cons_zero, List.set_cons_succ, kTu1, kTu2, kTu3, kTu4, kTu5, kLs0, kLs1, kLs2, kLs3, kLs4, kLs5, mM_, mM0_, sAsg_, sFor_, iRng_, iSeq_, b1', d1, Bool.false_eq_true, if_false]
  -- the row
  have s3 : A3 [some (.obj p), some (.int n), none, none, none, none, none, none, none, none, none] S2 = .nx [some (.obj p), some (.int n), some (.obj S2.length), none, none, none, none, none, none, none, none] (S2 ++ [.lst []]) := by
    unfold A3; simp only [bind_ok, bind_ex, of_some, rs_ok, rs_ex, then_nx, then_rt, then_ex, then_bk, then_ct, mV0, mVs, mC_, m2_, m1_, mB_, kB_bl, mB1_, mNil_, mCons_, f1L_, f2L_, mTup_, mLst_, mCall_, mNotT_, mAndT_, mOrT_, mIf_, mAndV_, mOrV_, mNotV_, kAndV_bl, kOrV_bl, kNotV_bl, mSl_, mPart_, kPart_, mNoPart_, sSeq_, sSet_, sRet_, sIf_, sExpr_, sNil_, sBreak_, sCont_, e_lt, e_le, e_gt, e_ge, e_eqI, e_neI, e_eqS, e_neS, e_add, e_sub, List.set_cons_zero, List.set_cons_succ, kTu1, kTu2, kTu3, kTu4, kTu5, kLs0, kLs1, kLs2, kLs3, kLs4, kLs5, mM_, mM0_, sAsg_, sFor_, iRng_, iSeq_]
  have hp3 := Stp.app (X := [.lst []]) hp2
  obtain ⟨w4, S4, d1, d2, d3, _⟩ := pick hp3.pool (m := 5) (by omega)
  have d1' : M__law_pick [.obj p, .int 5] (S2 ++ [.lst []]) = .ok (nD w4) S4 := d1
  have s4 : A4 [some (.obj p), some (.int n), some (.obj S2.length), none, none, none, none, none, none, none, none] (S2 ++ [.lst []]) = .nx [some (.obj p), some (.int n), some (.obj S2.length), some (.int ((w4 : Int) - 4)), none, none, none, none, none, none, none] S4 := by
    unfold A4; simp only [bind_ok, bind_ex, of_some, rs_ok, rs_ex, then_nx, then_rt, then_ex, then_bk, then_ct, mV0, mVs, mC_, m2_, m1_, mB_, kB_bl, mB1_, mNil_, mCons_, f1L_, f2L_, mTup_, mLst_, mCall_, mNotT_, mAndT_, mOrT_, mIf_, mAndV_, mOrV_, mNotV_, kAndV_bl, kOrV_bl, kNotV_bl, mSl_, mPart_, kPart_, mNoPart_, sSeq_, sSet_, sRet_, sIf_, sExpr_, sNil_, sBreak_, sCont_, e_lt, e_le, e_gt, e_ge, e_eqI, e_neI, e_eqS, e_neS, e_add, e_sub, List.set_cons_zero, List.set_cons_succ, kTu1, kTu2, kTu3, kTu4, kTu5, kLs0, kLs1, kLs2, kLs3, kLs4, kLs5, mM_, mM0_, sAsg_, sFor_, iRng_, iSeq_, d1']
  have hlt2 := hp2.lt
  have g4 : S4[S2.length]? = some (.lst []) := d3.get last0 (by omega)
  obtain ⟨w5, S5, e1, e2, e3, _⟩ := pick d3.pool (m := 7) (by omega)
  have e1' : M__law_pick [.obj p, .int 7] S4 = .ok (nD w5) S5 := e1
  have i5 : PI' S5 p S2.length [] ((w4 : Int) - 4) := ⟨e3.pool, e3.get g4 (by omega), by omega, List.Pairwise.nil, fun q hq => by cases hq⟩
  obtain ⟨st, row, y4, S6, f1, i6, l6⟩ := db_loop (x5 := none) (x6 := none) (x7 := none) (x8 := none) (x9 := none) (x10 := none) hn w5 0 w5 S5 [] ((w4 : Int) - 4) none (by omega) (by omega) rfl i5
  have hk5 : kRngI [nD w5] S5 = .ok (itRng 0 w5) S5 := by
    show kRngI [.int (w5 : Int)] S5 = _
    rw [kRng1 (by omega), Int.toNat_natCast]
  have en : ∀ n, (itRng 0 n).n = n := fun _ => (rfl)
  have enL : ∀ n k, (itLst n k).n = n := fun _ _ => (rfl)
  have s5 : A5 [some (.obj p), some (.int n), some (.obj S2.length), some (.int ((w4 : Int) - 4)), none, none, none, none, none, none, none] S4 = .nx [some (.obj p), some (.int n), some (.obj S2.length), some (.int st), y4, none, none, none, none, none, none] S6 := by
    unfold A5; simp only [bind_ok, bind_ex, of_some, rs_ok, rs_ex, then_nx, then_rt, then_ex, then_bk, then_ct, mV0, mVs, mC_, m2_, m1_, mB_, kB_bl, mB1_, mNil_, mCons_, f1L_, f2L_, mTup_, mLst_, mCall_, mNotT_, mAndT_, mOrT_, mIf_, mAndV_, mOrV_, mNotV_, kAndV_bl, kOrV_bl, kNotV_bl, mSl_, mPart_, kPart_, mNoPart_, sSeq_, sSet_, sRet_, sIf_, sExpr_, sNil_, sBreak_, sCont_, e_lt, e_le, e_gt, e_ge, e_eqI, e_neI, e_eqS, e_neS, e_add, e_sub, List.set_cons_zero, List.set_cons_succ, kTu1, kTu2, kTu3, kTu4, kTu5, kLs0, kLs1, kLs2, kLs3, kLs4, kLs5, mM_, mM0_, sAsg_, sFor_, iRng_, iSeq_, e1', hk5, en, f1]
  generalize S2.length = j at *
  -- the copies
  have hrl : row.length ≤ 6 := by omega
  have lc := lcr_lst (S := S6) (e := (mB1 (f1L fList2) (mCons (mV 7) mNil))) (v := 7) (vs := [7]) (env := [some (.obj p), some (.int n), some (.obj j), some (.int st), y4, none, none, none, none, none, none]) (qs := row.map fun q => [D.int q.1, D.int q.2]) i6.rowS (by rw [List.length_map, List.length_map]) (fun acc T i d q hd hq => by
    rw [List.getElem?_map] at hd hq
    cases e0 : row[i]? with
    | none => rw [e0] at hd; cases hd
    | some x =>
      rw [e0] at hd hq
      cases hd
      cases hq
      show (mB1 (f1L fList2) (mCons (mV 7) mNil)) [some (.obj p), some (.int n), some (.obj j), some (.int st), y4, none, none, some (prD x), none, none, none] (S6 ++ MO.lst acc :: T) = _
      have hf : fList2 (prD x) (S6 ++ MO.lst acc :: T) = some (.obj (S6 ++ MO.lst acc :: T).length, (S6 ++ MO.lst acc :: T) ++ [.lst [.int x.1, .int x.2]]) := rfl
      simp only [bind_ok, bind_ex, of_some, rs_ok, rs_ex, then_nx, then_rt, then_ex, then_bk, then_ct, mV0, mVs, mC_, m2_, m1_, mB_, kB_bl, mB1_, mNil_, mCons_, f1L_, f2L_, mTup_, mLst_, mCall_, mNotT_, mAndT_, mOrT_, mIf_, mAndV_, mOrV_, mNotV_, kAndV_bl, kOrV_bl, kNotV_bl, mSl_, mPart_, kPart_, mNoPart_, sSeq_, sSet_, sRet_, sIf_, sExpr_, sNil_, sBreak_, sCont_, e_lt, e_le, e_gt, e_ge, e_eqI, e_neI, e_eqS, e_neS, e_add, e_sub, List.set_cons_zero, List.set_cons_succ, kTu1, kTu2, kTu3, kTu4, kTu5, kLs0, kLs1, kLs2, kLs3, kLs4, kLs5, mM_, mM0_, sAsg_, sFor_, iRng_, iSeq_, hf]) (by rw [List.length_map, sizeLine_eq]; omega)
  rw [List.length_map] at lc
  have ks6 : kSeqI (.obj j) S6 = .ok (itLst row.length j) S6 := by rw [kSeqL i6.rowS, List.length_map]
  have s6 : A6 [some (.obj p), some (.int n), some (.obj j), some (.int st), y4, none, none, none, none, none, none] S6 = .nx [some (.obj p), some (.int n), some (.obj j), some (.int st), y4, some (.obj S6.length), none, none, none, none, none] (S6 ++ .lst ((rng (S6.length + 1) row.length).map D.obj) :: (row.map fun q => [D.int q.1, D.int q.2]).map MO.lst) := by
    have ev : mV 2 [some (.obj p), some (.int n), some (.obj j), some (.int st), y4, none, none, none, none, none, none] S6 = .ok (.obj j) S6 := rfl
    unfold A6
    rw [sSet_, mLc_, iSeq_, ev, bind_ok, ks6, bind_ok, lc, rs_ok]
    rfl
  have i7 := i6.app (X := .lst ((rng (S6.length + 1) row.length).map D.obj) :: (row.map fun q => [D.int q.1, D.int q.2]).map MO.lst)
  have gq : ∀ (i : Nat) (q : Int × Int), row[i]? = some q → (S6 ++ MO.lst ((rng (S6.length + 1) row.length).map D.obj) :: (row.map fun q => [D.int q.1, D.int q.2]).map MO.lst)[S6.length + 1 + i]? = some (.lst [.int q.1, .int q.2]) := fun i q hq => rows_get (by rw [List.getElem?_map, hq]; rfl)
  have gl : (S6 ++ MO.lst ((rng (S6.length + 1) row.length).map D.obj) :: (row.map fun q => [D.int q.1, D.int q.2]).map MO.lst)[S6.length]? = some (.lst ((rng (S6.length + 1) row.length).map D.obj)) := ga0
  generalize hS7 : S6 ++ MO.lst ((rng (S6.length + 1) row.length).map D.obj) :: (row.map fun q => [D.int q.1, D.int q.2]).map MO.lst = S7 at s6 i7 gq gl
  have ps7 : PsAt S7 (.obj S6.length) ((rng (S6.length + 1) row.length).map D.obj) row := by
    refine ⟨.inr ⟨_, rfl, gl⟩, by rw [List.length_map, rng_len], fun i e q he hq => ?_⟩
    rw [List.getElem?_map] at he
    have hi : i < row.length := (List.getElem?_eq_some_iff.mp hq).1
    rw [rng_get hi] at he
    cases he
    exact .inr ⟨_, rfl, gq i q hq⟩
  obtain ⟨X8, g8⟩ := from_points ps7 hn i7.asc (by omega)
  have s7 : A7 [some (.obj p), some (.int n), some (.obj j), some (.int st), y4, some (.obj S6.length), none, none, none, none, none] S7 = .nx [some (.obj p), some (.int n), some (.obj j), some (.int st), y4, some (.obj S6.length), some (aD n (ptsR n row)), none, none, none, none] (S7 ++ X8) := by
    unfold A7; simp only [bind_ok, bind_ex, of_some, rs_ok, rs_ex, then_nx, then_rt, then_ex, then_bk, then_ct, mV0, mVs, mC_, m2_, m1_, mB_, kB_bl, mB1_, mNil_, mCons_, f1L_, f2L_, mTup_, mLst_, mCall_, mNotT_, mAndT_, mOrT_, mIf_, mAndV_, mOrV_, mNotV_, kAndV_bl, kOrV_bl, kNotV_bl, mSl_, mPart_, kPart_, mNoPart_, sSeq_, sSet_, sRet_, sIf_, sExpr_, sNil_, sBreak_, sCont_, e_lt, e_le, e_gt, e_ge, e_eqI, e_neI, e_eqS, e_neS, e_add, e_sub, List.set_cons_zero, List.set_cons_succ, kTu1, kTu2, kTu3, kTu4, kTu5, kLs0, kLs1, kLs2, kLs3, kLs4, kLs5, mM_, mM0_, sAsg_, sFor_, iRng_, iSeq_, g8]
  have i8 := i7.app (X := X8)
  have gl8 : (S7 ++ X8)[S6.length]? = some (.lst ((rng (S6.length + 1) row.length).map D.obj)) := get_app gl
  have hd8 : Hand (S7 ++ X8) S6.length row.length := ⟨gl8, fun i hi => by
    obtain ⟨q, hq⟩ : ∃ q, row[i]? = some q := ⟨_, List.getElem?_eq_getElem hi⟩
    exact ⟨_, _, get_app (gq i q hq)⟩⟩
  generalize S7 ++ X8 = S8 at s7 i8 gl8 hd8
  have hj6 := get_lt i6.rowS
  have hp6 := i6.pool.lt
  obtain ⟨y7, S9, h9, l9, o9⟩ := hb_loop (x0 := some (.obj p)) (x1 := some (.int n)) (x2 := some (.obj j)) (x3 := some (.int st)) (x4 := y4) (x5 := some (.obj S6.length)) (x6 := some (aD n (ptsR n row))) (x8 := none) (x9 := none) (x10 := none) row.length 0 S8 none (by omega) hd8
  have ks8 : kSeqI (.obj S6.length) S8 = .ok (itLst row.length S6.length) S8 := by rw [kSeqL gl8, List.length_map, rng_len]
  have s8 : A8 [some (.obj p), some (.int n), some (.obj j), some (.int st), y4, some (.obj S6.length), some (aD n (ptsR n row)), none, none, none, none] S8 = .nx [some (.obj p), some (.int n), some (.obj j), some (.int st), y4, some (.obj S6.length), some (aD n (ptsR n row)), y7, none, none, none] S9 := by
    unfold A8; simp only [bind_ok, bind_ex, of_some, rs_ok, rs_ex, then_nx, then_rt, then_ex, then_bk, then_ct, mV0, mVs, mC_, m2_, m1_, mB_, kB_bl, mB1_, mNil_, mCons_, f1L_, f2L_, mTup_, mLst_, mCall_, mNotT_, mAndT_, mOrT_, mIf_, mAndV_, mOrV_, mNotV_, kAndV_bl, kOrV_bl, kNotV_bl, mSl_, mPart_, kPart_, mNoPart_, sSeq_, sSet_, sRet_, sIf_, sExpr_, sNil_, sBreak_, sCont_, e_lt, e_le, e_gt, e_ge, e_eqI, e_neI, e_eqS, e_neS, e_add, e_sub, List.set_cons_zero, List.set_cons_succ, kTu1, kTu2, kTu3, kTu4, kTu5, kLs0, kLs1, kLs2, kLs3, kLs4, kLs5, mM_, mM0_, sAsg_, sFor_, iRng_, iSeq_, ks8, enL, h9]
  have i9 : PI' S9 p j row st := by
    refine ⟨?_, by rw [o9 j (by omega)]; exact i8.rowS, i8.ne, i8.asc, i8.top⟩
    obtain ⟨ps, k1, k2⟩ := i8.pool
    exact ⟨ps, by rw [o9 p (by omega)]; exact k1, k2⟩
  -- the checks
  have hpl := ptsR_len (n := n) i9.asc
  obtain ⟨X10, g10⟩ := point_runs i9.rowS hn i9.asc (by omega)
  have i10 := i9.app (X := X10)
  have htu : fTuple (.obj j) (S9 ++ X10) = some (rwD row, S9 ++ X10) := by
    show (lstAt _ j).map _ = _
    rw [lst_at i10.rowS]; rfl
  have ps10 : PsAt (S9 ++ X10) (rwD row) (row.map prD) row := ⟨.inl rfl, List.length_map .., fun i e q he hq => by
    rw [List.getElem?_map, hq] at he
    cases he
    exact .inl rfl⟩
  obtain ⟨X11, g11⟩ := from_points ps10 hn i10.asc (by omega)
  have s9 : A9 [some (.obj p), some (.int n), some (.obj j), some (.int st), y4, some (.obj S6.length), some (aD n (ptsR n row)), y7, none, none, none] S9 = .nx [some (.obj p), some (.int n), some (.obj j), some (.int st), y4, some (.obj S6.length), some (aD n (ptsR n row)), y7, none, none, none] (S9 ++ X10 ++ X11) := by
    unfold A9
    simp only [bind_ok, bind_ex, of_some, rs_ok, rs_ex, then_nx, then_rt, then_ex, then_bk, then_ct, mV0, mVs, mC_, m2_, m1_, mB_, kB_bl, mB1_, mNil_, mCons_, f1L_, f2L_, mTup_, mLst_, mCall_, mNotT_, mAndT_, mOrT_, mIf_, mAndV_, mOrV_, mNotV_, kAndV_bl, kOrV_bl, kNotV_bl, mSl_, mPart_, kPart_, mNoPart_, sSeq_, sSet_, sRet_, sIf_, sExpr_, sNil_, sBreak_, sCont_, e_lt, e_le, e_gt, e_ge, e_eqI, e_neI, e_eqS, e_neS, e_add, e_sub, List.set_cons_zero, List.set_cons_succ, kTu1, kTu2, kTu3, kTu4, kTu5, kLs0, kLs1, kLs2, kLs3, kLs4, kLs5, mM_, mM0_, sAsg_, sFor_, iRng_, iSeq_, g10, law_is_array (S := S9 ++ X10) (n := n) (r := ptsR n row) (by omega), htu, g11, law_is_array (S := S9 ++ X10 ++ X11) (n := n) (r := ptsR n row) (by omega), Bool.not_true, Bool.false_eq_true, if_false]
  have i11 := i10.app (X := X11)
  generalize S9 ++ X10 ++ X11 = S11 at s9 i11
  have fin : ∃ S' : Sto, B__law_points [some (.obj p), none, none, none, none, none, none, none, none, none, none] S = .rt (.bl true) S' ∧ PoolOk S' p := by
    rw [lpoints_eq, sSeq_, s1, then_nx, sSeq_, s2, then_nx, sSeq_, s3, then_nx, sSeq_, s4, then_nx, sSeq_, s5, then_nx, sSeq_, s6, then_nx, sSeq_, s7, then_nx, sSeq_, s8, then_nx, sSeq_, s9, then_nx]
    by_cases h9 : 9 < n
    · have dd : decide ((9 : Int) < n) = true := decide_eq_true h9
      have s10 : A10 [some (.obj p), some (.int n), some (.obj j), some (.int st), y4, some (.obj S6.length), some (aD n (ptsR n row)), y7, none, none, none] S11 = .rt (.bl true) S11 := by
        unfold A10; simp only [bind_ok, bind_ex, of_some, rs_ok, rs_ex, then_nx, then_rt, then_ex, then_bk, then_ct, mV0, mVs, mC_, m2_, m1_, mB_, kB_bl, mB1_, mNil_, mCons_, f1L_, f2L_, mTup_, mLst_, mCall_, mNotT_, mAndT_, mOrT_, mIf_, mAndV_, mOrV_, mNotV_, kAndV_bl, kOrV_bl, kNotV_bl, mSl_, mPart_, kPart_, mNoPart_, sSeq_, sSet_, sRet_, sIf_, sExpr_, sNil_, sBreak_, sCont_, e_lt, e_le, e_gt, e_ge, e_eqI, e_neI, e_eqS, e_neS, e_add, e_sub, List.set_cons_zero, List.set_cons_succ, kTu1, kTu2, kTu3, kTu4, kTu5, kLs0, kLs1, kLs2, kLs3, kLs4, kLs5, mM_, mM0_, sAsg_, sFor_, iRng_, iSeq_, dd, if_true]
      refine ⟨S11, ?_, i11.pool⟩
      rw [sSeq_, s10, then_rt]
    · have dd : decide ((9 : Int) < n) = false := decide_eq_false h9
      have s10 : A10 [some (.obj p), some (.int n), some (.obj j), some (.int st), y4, some (.obj S6.length), some (aD n (ptsR n row)), y7, none, none, none] S11 = .nx [some (.obj p), some (.int n), some (.obj j), some (.int st), y4, some (.obj S6.length), some (aD n (ptsR n row)), y7, none, none, none] S11 := by
        unfold A10; simp only [bind_ok, bind_ex, of_some, rs_ok, rs_ex, then_nx, then_rt, then_ex, then_bk, then_ct, mV0, mVs, mC_, m2_, m1_, mB_, kB_bl, mB1_, mNil_, mCons_, f1L_, f2L_, mTup_, mLst_, mCall_, mNotT_, mAndT_, mOrT_, mIf_, mAndV_, mOrV_, mNotV_, kAndV_bl, kOrV_bl, kNotV_bl, mSl_, mPart_, kPart_, mNoPart_, sSeq_, sSet_, sRet_, sIf_, sExpr_, sNil_, sBreak_, sCont_, e_lt, e_le, e_gt, e_ge, e_eqI, e_neI, e_eqS, e_neS, e_add, e_sub, List.set_cons_zero, List.set_cons_succ, kTu1, kTu2, kTu3, kTu4, kTu5, kLs0, kLs1, kLs2, kLs3, kLs4, kLs5, mM_, mM0_, sAsg_, sFor_, iRng_, iSeq_, dd, Bool.false_eq_true, if_false]
      have s11 : A11 [some (.obj p), some (.int n), some (.obj j), some (.int st), y4, some (.obj S6.length), some (aD n (ptsR n row)), y7, none, none, none] S11 = .nx [some (.obj p), some (.int n), some (.obj j), some (.int st), y4, some (.obj S6.length), some (aD n (ptsR n row)), y7, some (.obj S11.length), none, none] (S11 ++ [.lst []]) := by
        unfold A11; simp only [bind_ok, bind_ex, of_some, rs_ok, rs_ex, then_nx, then_rt, then_ex, then_bk, then_ct, mV0, mVs, mC_, m2_, m1_, mB_, kB_bl, mB1_, mNil_, mCons_, f1L_, f2L_, mTup_, mLst_, mCall_, mNotT_, mAndT_, mOrT_, mIf_, mAndV_, mOrV_, mNotV_, kAndV_bl, kOrV_bl, kNotV_bl, mSl_, mPart_, kPart_, mNoPart_, sSeq_, sSet_, sRet_, sIf_, sExpr_, sNil_, sBreak_, sCont_, e_lt, e_le, e_gt, e_ge, e_eqI, e_neI, e_eqS, e_neS, e_add, e_sub, List.set_cons_zero, List.set_cons_succ, kTu1, kTu2, kTu3, kTu4, kTu5, kLs0, kLs1, kLs2, kLs3, kLs4, kLs5, mM_, mM0_, sAsg_, sFor_, iRng_, iSeq_]
      obtain ⟨N, rfl⟩ : ∃ N : Nat, n = (N : Int) := ⟨n.toNat, by omega⟩
      have i12 := i11.app (X := [.lst []])
      have hj11 := get_lt i11.rowS
      have hp11 := i11.pool.lt
      obtain ⟨z9, z10, S13, q1, q2, q3, q4⟩ := cb2_loop (j := j) (c := S11.length) (row := row) (x0 := some (.obj p)) (x1 := some (.int (N : Int))) (x3 := some (.int st)) (x4 := y4) (x5 := some (.obj S6.length)) (x6 := some (aD (N : Int) (ptsR (N : Int) row))) (x7 := y7) (by omega) (by omega) N 0 N (S11 ++ [.lst []]) none none (by omega) (by omega) i12.rowS last0
      have hkN : ∀ S : Sto, kRngI [.int (N : Int)] S = .ok (itRng 0 N) S := fun S => by rw [kRng1 (by omega), Int.toNat_natCast]
      have s12 : A12 [some (.obj p), some (.int (N : Int)), some (.obj j), some (.int st), y4, some (.obj S6.length), some (aD (N : Int) (ptsR (N : Int) row)), y7, some (.obj S11.length), none, none] (S11 ++ [.lst []]) = .nx [some (.obj p), some (.int (N : Int)), some (.obj j), some (.int st), y4, some (.obj S6.length), some (aD (N : Int) (ptsR (N : Int) row)), y7, some (.obj S11.length), z9, z10] S13 := by
        unfold A12; simp only [bind_ok, bind_ex, of_some, rs_ok, rs_ex, then_nx, then_rt, then_ex, then_bk, then_ct, mV0, mVs, mC_, m2_, m1_, mB_, kB_bl, mB1_, mNil_, mCons_, f1L_, f2L_, mTup_, mLst_, mCall_, mNotT_, mAndT_, mOrT_, mIf_, mAndV_, mOrV_, mNotV_, kAndV_bl, kOrV_bl, kNotV_bl, mSl_, mPart_, kPart_, mNoPart_, sSeq_, sSet_, sRet_, sIf_, sExpr_, sNil_, sBreak_, sCont_, e_lt, e_le, e_gt, e_ge, e_eqI, e_neI, e_eqS, e_neS, e_add, e_sub, List.set_cons_zero, List.set_cons_succ, kTu1, kTu2, kTu3, kTu4, kTu5, kLs0, kLs1, kLs2, kLs3, kLs4, kLs5, mM_, mM0_, sAsg_, sFor_, iRng_, iSeq_, hkN, en, q1]
      obtain ⟨X14, g14⟩ := law_runs q2 (by rw [List.length_map, List.length_range]; omega)
      rw [List.length_map, List.length_range, ← pts_cells i11.asc] at g14
      have s13 : A13 [some (.obj p), some (.int (N : Int)), some (.obj j), some (.int st), y4, some (.obj S6.length), some (aD (N : Int) (ptsR (N : Int) row)), y7, some (.obj S11.length), z9, z10] S13 = .rt (.bl true) (S13 ++ X14) := by
        unfold A13
        simp only [bind_ok, bind_ex, of_some, rs_ok, rs_ex, then_nx, then_rt, then_ex, then_bk, then_ct, mV0, mVs, mC_, m2_, m1_, mB_, kB_bl, mB1_, mNil_, mCons_, f1L_, f2L_, mTup_, mLst_, mCall_, mNotT_, mAndT_, mOrT_, mIf_, mAndV_, mOrV_, mNotV_, kAndV_bl, kOrV_bl, kNotV_bl, mSl_, mPart_, kPart_, mNoPart_, sSeq_, sSet_, sRet_, sIf_, sExpr_, sNil_, sBreak_, sCont_, e_lt, e_le, e_gt, e_ge, e_eqI, e_neI, e_eqS, e_neS, e_add, e_sub, List.set_cons_zero, List.set_cons_succ, kTu1, kTu2, kTu3, kTu4, kTu5, kLs0, kLs1, kLs2, kLs3, kLs4, kLs5, mM_, mM0_, sAsg_, sFor_, iRng_, iSeq_, g14, law_is_array (S := S13 ++ X14) (n := (N : Int)) (r := ptsR (N : Int) row) (by omega)]
      have hp13 : PoolOk S13 p := by
        obtain ⟨ps, k1, k2⟩ := i12.pool
        exact ⟨ps, by rw [q4 p (by rw [List.length_append]; omega) (by omega)]; exact k1, k2⟩
      refine ⟨S13 ++ X14, ?_, (Stp.app hp13).pool⟩
      rw [sSeq_, s10, then_nx, sSeq_, s11, then_nx, sSeq_, s12, then_nx, s13]
  obtain ⟨S', hb, hp'⟩ := fin
  refine ⟨S', ?_, hp'⟩
  unfold M__law_points mFn
  simp only [List.length_cons, List.length_nil, Nat.reduceAdd, if_true, List.map_cons, List.map_nil, List.replicate, List.cons_append, List.nil_append, Nat.reduceSub]
  rw [hb]
  rfl
end K07

namespace K07
open PySem PySem.Spec L2 Mi
/-! ### what is no array -/
def tyC (S : Sto) : Nat → D → Bool
  | _, .obj i => (tyD S (.obj i)).isSome
  | k + 1, .tup es => es.all (tyC S k)
  | _, _ => true
theorem tyC_ty {S : Sto} {k : Nat} {d : D} (h : tyC S k d = true) : Ty S d := by
  intro e
  cases d with
  | obj i =>
    have : (tyD S (.obj i)).isSome = true := by cases k <;> exact h
    rw [e] at this; cases this
  | non => cases e
  | bl _ => cases e
  | int _ => cases e
  | str _ => cases e
  | tup _ => cases e
theorem tyC_mem {S : Sto} {k : Nat} {es : List D} (h : tyC S (k + 1) (.tup es) = true) : ∀ e ∈ es, tyC S k e = true := by
  have h' : es.all (tyC S k) = true := h
  exact List.all_eq_true.mp h'
theorem tyC_ok {S : Sto} {d : D} (h : tyC S 3 d = true) : Ty3 S d := by
  refine ⟨tyC_ty h, fun es e x hx => ?_⟩
  subst e
  have h1 := tyC_mem h x hx
  refine ⟨tyC_ty h1, fun rs e r hr => ?_⟩
  subst e
  have h2 := tyC_mem h1 r hr
  refine ⟨tyC_ty h2, fun ys e y hy => ?_⟩
  subst e
  exact tyC_ty (tyC_mem h2 y hy)
/-- a list grown by a written one -/
theorem grow {S S1 : Sto} {env : Mi.Env} {a : MA} {k : Nat} {ws es : List D} (hv : mV 6 env S = .ok (.obj k) S) (ha : a env S = .ok es S1) (hk : S1[k]? = some (.lst ws)) (h1 : ws.length ≤ 100) (h2 : es.length ≤ 100) : ∃ (k' : Nat) (X' : Sto), (sSet 6 (m2 fAdd (mV 6) (mLst a))) env S = .nx (env.set 6 (some (.obj k'))) (S1 ++ X') ∧ (S1 ++ X')[k']? = some (.lst (ws ++ es)) := by
  have hkl : kLst es S1 = .ok (.obj S1.length) (S1 ++ [.lst es]) := kLst_ (by rw [sizeLine_eq]; omega)
  have hadd : fAdd (.obj k) (.obj S1.length) (S1 ++ [.lst es]) = some (.obj (S1 ++ [MO.lst es]).length, S1 ++ [.lst es] ++ [.lst (ws ++ es)]) := by
    unfold fAdd
    simp only [get_app (X := [MO.lst es]) hk, last0]
    rw [if_pos (by rw [sizeLine_eq]; omega)]
  refine ⟨(S1 ++ [MO.lst es]).length, [.lst es] ++ [.lst (ws ++ es)], ?_, ?_⟩
  · rw [← List.append_assoc]
    rw [sSet_, m2_, hv, bind_ok, mLst_, ha, bind_ok, hkl, bind_ok, hadd, of_some, rs_ok]
  · rw [← List.append_assoc]; exact last0
def W1 (n a c b : Int) (o1 o2 : Nat) : List D := [.obj o1, .tup [.int n, rwD [(0, a), (c, b)], .int 0], .tup [.int n], .tup [.bl true, .tup [prD (0, a)]], .tup [.int (0 - 1), .tup []], .tup [.int n, .obj o2]]
def W2 (n a b : Int) : List D := [.tup [.int n, .tup []], .tup [.int 0, .tup [prD (0, a)]], .tup [.int n, .tup [prD (1, a)]], .tup [.int n, .tup [prD (0, a), prD (0, b)]]]
def W3 (n a c b : Int) : List D := [.tup [.int n, .tup [prD (0, a), prD (c, b), prD (c, a)]], .tup [.int n, .tup [prD (0, a), prD (n, b)]]]
def W4 (n a c b : Int) (o3 : Nat) : List D := [.tup [.int n, .tup [prD (0, a), prD (c, a)]], .tup [.int n, .tup [.obj o3, prD (c, b)]], .tup [.int n, .tup [.tup [.int 0, .bl true], prD (c, b)]]]
def W5 (n a c b : Int) : List D := [.tup [.int n, .tup [.tup [.bl false, .int a], prD (c, b)]], .tup [.int n, .tup [.tup [.int 0, .int a, .int 0]]], .tup [.int n, .tup [prD (0, a), .tup [.int c, .non]]]]
def W6 (n a c b : Int) (z : Str) : List D := [.non, .int n, .str "array", .tup [], .tup [.str z, rwD [(0, a), (c, b)]], .tup [.int n, .tup [prD (0, a), prD (c, b), prD (c - 1, a)]]]
theorem arr_rows {n : Int} {d : D} {rs : List D} (hn : 0 < n) : isArrB (.tup [.int n, .tup (d :: rs)]) = rowsB n none (d :: rs) := by
  show (if n ≤ 0 ∨ (d :: rs) = [] then _ else rowsB n none (d :: rs)) = _
  rw [if_neg (by rintro (z | z); omega; cases z)]
theorem w_false {n a c b : Int} {o1 o2 o3 : Nat} {z : Str} (hn : 2 ≤ n) (hc : 1 ≤ c ∧ c < n) (hab : a ≠ b) : ∀ d ∈ W1 n a c b o1 o2 ++ W2 n a b ++ W3 n a c b ++ W4 n a c b o3 ++ W5 n a c b ++ W6 n a c b z, isArrB d = false := by
  have hn0 : (0 : Int) < n := by omega
  have p0 : ∀ r : List D, rowsB n none (prD (0, a) :: r) = rowsB n (some (0, a)) r := fun r => by
    rw [rowsB_pr, prevB_none, decide_eq_true (show ((0 : Int), a).1 < n from hn0)]; rfl
  have pc : ∀ r : List D, rowsB n (some (0, a)) (prD (c, b) :: r) = rowsB n (some (c, b)) r := fun r => by
    rw [rowsB_pr, prevB_some, decide_eq_true (show ((c, b) : Int × Int).1 < n from hc.2), decide_eq_true (show ((0, a) : Int × Int).1 < (c, b).1 from (by show (0 : Int) < c; omega)), decide_eq_true (show ((0, a) : Int × Int).2 ≠ (c, b).2 from hab)]; rfl
  have bad : ∀ (q p : Int × Int) (r : List D), (p.1 < n → q.1 < p.1 → q.2 = p.2) → rowsB n (some q) (prD p :: r) = false := fun q p r h => by
    rw [rowsB_pr, prevB_some]
    by_cases h1 : p.1 < n
    · by_cases h2 : q.1 < p.1
      · rw [decide_eq_false (show ¬ q.2 ≠ p.2 from fun x => x (h h1 h2)), Bool.and_false, Bool.and_false, Bool.false_and]
      · rw [decide_eq_false h2, Bool.false_and, Bool.and_false, Bool.false_and]
    · rw [decide_eq_false h1, Bool.false_and, Bool.false_and]
  intro d hd
  simp only [W1, W2, W3, W4, W5, W6, List.mem_append, List.mem_cons, List.not_mem_nil, or_false] at hd
  rcases hd with ((((hd | hd) | hd) | hd) | hd) | hd
  · rcases hd with rfl | rfl | rfl | rfl | rfl | rfl
    · rfl
    · rfl
    · rfl
    · rfl
    · rfl
    · rfl
  · rcases hd with rfl | rfl | rfl | rfl
    · show (if n ≤ 0 ∨ ([] : List D) = [] then decide (n = 0) && _ else _) = false
      rw [if_pos (.inr rfl), decide_eq_false (by omega)]; rfl
    · rfl
    · rw [arr_rows hn0, rowsB_pr, prevB_none]
      rw [decide_eq_false (show ¬ ((1, a) : Int × Int).1 = 0 from (by show ¬ (1 : Int) = 0; decide)), Bool.and_false, Bool.false_and]
    · rw [arr_rows hn0, p0, bad _ _ _ (fun _ h => absurd h (Int.lt_irrefl 0))]
  · rcases hd with rfl | rfl
    · rw [arr_rows hn0, p0, pc, bad _ _ _ (fun _ h => absurd h (Int.lt_irrefl c))]
    · rw [arr_rows hn0, p0, bad _ _ _ (fun h _ => absurd h (Int.lt_irrefl n))]
  · rcases hd with rfl | rfl | rfl
    · rw [arr_rows hn0, p0, bad (0, a) (c, a) [] (fun _ _ => rfl)]
    · rw [arr_rows hn0]
      exact rowsB_bad fun es e => by cases e
    · rw [arr_rows hn0]
      exact rowsB_bad fun es e => by cases e; rfl
  · rcases hd with rfl | rfl | rfl
    · rw [arr_rows hn0]
      exact rowsB_bad fun es e => by cases e; rfl
    · rw [arr_rows hn0]
      exact rowsB_bad fun es e => by cases e; rfl
    · rw [arr_rows hn0, p0]
      exact rowsB_bad fun es e => by cases e; rfl
  · rcases hd with rfl | rfl | rfl | rfl | rfl | rfl
    · rfl
    · rfl
    · rfl
    · rfl
    · rfl
    · rw [arr_rows hn0, p0, pc, bad _ _ _ (fun _ h => by have h' : c < c - 1 := h; omega)]
theorem w_ty {S : Sto} {n a c b : Int} {o1 o2 o3 : Nat} {z : Str} (h1 : (tyD S (.obj o1)).isSome = true) (h2 : (tyD S (.obj o2)).isSome = true) (h3 : (tyD S (.obj o3)).isSome = true) : ∀ d ∈ W1 n a c b o1 o2 ++ W2 n a b ++ W3 n a c b ++ W4 n a c b o3 ++ W5 n a c b ++ W6 n a c b z, tyC S 3 d = true := by
  intro d hd
  simp only [W1, W2, W3, W4, W5, W6, List.mem_append, List.mem_cons, List.not_mem_nil, or_false] at hd
  rcases hd with ((((hd | hd) | hd) | hd) | hd) | hd
  · rcases hd with rfl | rfl | rfl | rfl | rfl | rfl
    · exact h1
    · rfl
    · rfl
    · rfl
    · rfl
    · show (true && ((tyD S (.obj o2)).isSome && true)) = true
      rw [h2]; rfl
  · rcases hd with rfl | rfl | rfl | rfl <;> rfl
  · rcases hd with rfl | rfl <;> rfl
  · rcases hd with rfl | rfl | rfl
    · rfl
    · show (true && ((((tyD S (.obj o3)).isSome) && (true && true)) && true)) = true
      rw [h3]; rfl
    · rfl
  · rcases hd with rfl | rfl | rfl <;> rfl
  · rcases hd with rfl | rfl | rfl | rfl | rfl | rfl <;> rfl
theorem some_of {S : Sto} {i : Nat} {ds : List D} (h : S[i]? = some (.lst ds)) : (tyD S (.obj i)).isSome = true := by
  unfold tyD; simp only [h]; rfl
end K07

namespace K07
open PySem PySem.Spec L2 Mi
def J1 : MS := (sSet 1 (m2 fAdd (mC (.int 2)) (mCall M__law_pick (mCons (mV 0) (mCons (mC (.int 6)) mNil)))))
def J2 : MS := (sIf (mB (m2 fEq (mCall M__law_pick (mCons (mV 0) (mCons (mC (.int 4)) mNil))) (mC (.int 3))))
  (sSet 1 (m2 fPow (mC (.int 10)) (mC (.int 30))))
  sNil)
def J3 : MS := (sSet 2 (m2 fAdd (mC (.int 1)) (mCall M__law_pick (mCons (mV 0) (mCons (mB1 (f2L fMin2) (mCons (m2 fSub (mV 1) (mC (.int 1))) (mCons (mC (.int 9)) mNil))) mNil)))))
def J4 : MS := (sSet 3 (mCall M__law_value (mCons (mV 0) mNil)))
def J5 : MS := (sSet 4 (m2 fAdd (m2 fAdd (mV 3) (mC (.int 1))) (mCall M__law_pick (mCons (mV 0) (mCons (mC (.int 5)) mNil)))))
def J6 : MS := (sSet 5 (mTup (mCons (mTup (mCons (mC (.int 0)) (mCons (mV 3) mNil))) (mCons (mTup (mCons (mV 2) (mCons (mV 4) mNil))) mNil))))
def J7 : MS := (sIf (mOrT (mB (m2 fIsN (mCall M_is_array (mCons (mTup (mCons (mV 1) (mCons (mV 5) mNil))) mNil)) (mC (.bl true)))) (mOrT (mB (m2 fIsN (mCall M_is_array (mCons (mTup (mCons (mC (.int 0)) (mCons (mTup mNil) mNil))) mNil)) (mC (.bl true)))) (mB (m2 fIsN (mCall M_is_array (mCons (mTup (mCons (mC (.int 1)) (mCons (mTup (mCons (mTup (mCons (mC (.int 0)) (mCons (mV 3) mNil))) mNil)) mNil))) mNil)) (mC (.bl true))))))
  (sRet (mC (.bl false)))
  sNil)
def J8 : MS := (sSet 6 (mLst (mCons (mLst (mCons (mV 1) (mCons (mV 5) mNil))) (mCons (mTup (mCons (mV 1) (mCons (mV 5) (mCons (mC (.int 0)) mNil)))) (mCons (mTup (mCons (mV 1) mNil)) (mCons (mTup (mCons (mC (.bl true)) (mCons (mTup (mCons (mTup (mCons (mC (.int 0)) (mCons (mV 3) mNil))) mNil)) mNil))) (mCons (mTup (mCons (m2 fSub (mC (.int 0)) (mC (.int 1))) (mCons (mTup mNil) mNil))) (mCons (mTup (mCons (mV 1) (mCons (mB1 (f1L fList2) (mCons (mV 5) mNil)) mNil))) mNil))))))))
def J9 : MS := (sSet 6 (m2 fAdd (mV 6) (mLst (mCons (mTup (mCons (mV 1) (mCons (mTup mNil) mNil))) (mCons (mTup (mCons (mC (.int 0)) (mCons (mTup (mCons (mTup (mCons (mC (.int 0)) (mCons (mV 3) mNil))) mNil)) mNil))) (mCons (mTup (mCons (mV 1) (mCons (mTup (mCons (mTup (mCons (mC (.int 1)) (mCons (mV 3) mNil))) mNil)) mNil))) (mCons (mTup (mCons (mV 1) (mCons (mTup (mCons (mTup (mCons (mC (.int 0)) (mCons (mV 3) mNil))) (mCons (mTup (mCons (mC (.int 0)) (mCons (mV 4) mNil))) mNil))) mNil))) mNil)))))))
def J10 : MS := (sSet 6 (m2 fAdd (mV 6) (mLst (mCons (mTup (mCons (mV 1) (mCons (mTup (mCons (mTup (mCons (mC (.int 0)) (mCons (mV 3) mNil))) (mCons (mTup (mCons (mV 2) (mCons (mV 4) mNil))) (mCons (mTup (mCons (mV 2) (mCons (mV 3) mNil))) mNil)))) mNil))) (mCons (mTup (mCons (mV 1) (mCons (mTup (mCons (mTup (mCons (mC (.int 0)) (mCons (mV 3) mNil))) (mCons (mTup (mCons (mV 1) (mCons (mV 4) mNil))) mNil))) mNil))) mNil)))))
def J11 : MS := (sSet 6 (m2 fAdd (mV 6) (mLst (mCons (mTup (mCons (mV 1) (mCons (mTup (mCons (mTup (mCons (mC (.int 0)) (mCons (mV 3) mNil))) (mCons (mTup (mCons (mV 2) (mCons (mV 3) mNil))) mNil))) mNil))) (mCons (mTup (mCons (mV 1) (mCons (mTup (mCons (mLst (mCons (mC (.int 0)) (mCons (mV 3) mNil))) (mCons (mTup (mCons (mV 2) (mCons (mV 4) mNil))) mNil))) mNil))) (mCons (mTup (mCons (mV 1) (mCons (mTup (mCons (mTup (mCons (mC (.int 0)) (mCons (mC (.bl true)) mNil))) (mCons (mTup (mCons (mV 2) (mCons (mV 4) mNil))) mNil))) mNil))) mNil))))))
def J12 : MS := (sSet 6 (m2 fAdd (mV 6) (mLst (mCons (mTup (mCons (mV 1) (mCons (mTup (mCons (mTup (mCons (mC (.bl false)) (mCons (mV 3) mNil))) (mCons (mTup (mCons (mV 2) (mCons (mV 4) mNil))) mNil))) mNil))) (mCons (mTup (mCons (mV 1) (mCons (mTup (mCons (mTup (mCons (mC (.int 0)) (mCons (mV 3) (mCons (mC (.int 0)) mNil)))) mNil)) mNil))) (mCons (mTup (mCons (mV 1) (mCons (mTup (mCons (mTup (mCons (mC (.int 0)) (mCons (mV 3) mNil))) (mCons (mTup (mCons (mV 2) (mCons (mC .non) mNil))) mNil))) mNil))) mNil))))))
def J13 : MS := (sSet 6 (m2 fAdd (mV 6) (mLst (mCons (mC .non) (mCons (mV 1) (mCons (mC (.str "array")) (mCons (mTup mNil) (mCons (mTup (mCons (mB1 (f1L fStr) (mCons (mV 1) mNil)) (mCons (mV 5) mNil))) (mCons (mTup (mCons (mV 1) (mCons (mTup (mCons (mTup (mCons (mC (.int 0)) (mCons (mV 3) mNil))) (mCons (mTup (mCons (mV 2) (mCons (mV 4) mNil))) (mCons (mTup (mCons (m2 fSub (mV 2) (mC (.int 1))) (mCons (mV 3) mNil))) mNil)))) mNil))) mNil)))))))))
def J14 : MS := (sFor (iSeq (mV 6)) (gN 7)
  (sIf (mB (m2 fIsN (mCall M_is_array (mCons (mV 7) mNil)) (mC (.bl false))))
  (sRet (mC (.bl false)))
  sNil))
def J15 : MS := (sRet (mC (.bl true)))
theorem law_judge_eq : B__law_judge = sSeq J1 (sSeq J2 (sSeq J3 (sSeq J4 (sSeq J5 (sSeq J6 (sSeq J7 (sSeq J8 (sSeq J9 (sSeq J10 (sSeq J11 (sSeq J12 (sSeq J13 (sSeq J14 J15))))))))))))) := (rfl)
theorem kTu0 {S : Sto} : kTup [] S = .ok (.tup []) S := kTup_ (by rw [sizeLine_eq]; simp)
abbrev JE (p : Nat) (n c a b : Int) (w t : Option D) : Mi.Env := [some (.obj p), some (.int n), some (.int c), some (.int a), some (.int b), some (rwD [(0, a), (c, b)]), w, t]
theorem e_str {S : Sto} {n : Int} (h : n.natAbs < 2 ^ 100) : fStr (.int n) S = some (.str (toString n), S) := if_pos (by have := log_small h; omega)
section
variable {S : Sto} {p : Nat} {n c a b : Int}
theorem j8 {t : Option D} : ∃ X : Sto, J8 (JE p n c a b none t) S = .nx (JE p n c a b (some (.obj (S.length + 2))) t) (S ++ X) ∧ (S ++ X)[S.length + 2]? = some (.lst (W1 n a c b S.length (S.length + 1))) ∧ (S ++ X)[S.length]? = some (.lst [.int n, rwD [(0, a), (c, b)]]) ∧ (S ++ X)[S.length + 1]? = some (.lst [prD (0, a), prD (c, b)]) := by
  have hf : ∀ S : Sto, fList2 (rwD [(0, a), (c, b)]) S = some (.obj S.length, S ++ [.lst [prD (0, a), prD (c, b)]]) := fun S => rfl
  have k6 : ∀ {S : Sto} {x0 x1 x2 x3 x4 x5 : D}, kLst [x0, x1, x2, x3, x4, x5] S = .ok (.obj S.length) (S ++ [.lst [x0, x1, x2, x3, x4, x5]]) := fun {S} => kLst_ (by rw [sizeLine_eq]; simp)
  refine ⟨[.lst [.int n, rwD [(0, a), (c, b)]], .lst [prD (0, a), prD (c, b)], .lst (W1 n a c b S.length (S.length + 1))], ?_, ?_, ?_, ?_⟩
  · unfold J8 JE
    simp only [bind_ok, bind_ex, of_some, rs_ok, rs_ex, then_nx, then_rt, then_ex, then_bk, then_ct, mV0, mVs, mC_, m2_, m1_, mB_, kB_bl, mB1_, mNil_, mCons_, f1L_, f2L_, mTup_, mLst_, mCall_, mNotT_, mAndT_, mOrT_, mIf_, mAndV_, mOrV_, mNotV_, kAndV_bl, kOrV_bl, kNotV_bl, mSl_, mPart_, kPart_, mNoPart_, sSeq_, sSet_, sRet_, sIf_, sExpr_, sNil_, sBreak_, sCont_, e_lt, e_le, e_gt, e_ge, e_eqI, e_neI, e_eqS, e_neS, e_add, e_sub, List.set_cons_zero, List.set_cons_succ, kTu1, kTu2, kTu3, kTu4, kTu5, kLs0, kLs1, kLs2, kLs3, kLs4, kLs5, mM_, mM0_, sAsg_, sFor_, iRng_, iSeq_, kTu0, hf, k6, List.length_append, List.length_singleton, List.append_assoc, List.cons_append, List.nil_append] <;> rfl
  · simp [List.getElem?_append_right]
  · simp [List.getElem?_append_right]
  · simp [List.getElem?_append_right]
variable {t : Option D} {k : Nat} {ws : List D} (hk : S[k]? = some (.lst ws)) (hl : ws.length ≤ 100)
include hk hl
theorem j9 : ∃ (k' : Nat) (X : Sto), J9 (JE p n c a b (some (.obj k)) t) S = .nx (JE p n c a b (some (.obj k')) t) (S ++ X) ∧ (S ++ X)[k']? = some (.lst (ws ++ W2 n a b)) := by
  unfold J9
  refine grow rfl ?_ hk hl (by simp [W2])
  unfold JE
  simp only [bind_ok, bind_ex, of_some, rs_ok, rs_ex, then_nx, then_rt, then_ex, then_bk, then_ct, mV0, mVs, mC_, m2_, m1_, mB_, kB_bl, mB1_, mNil_, mCons_, f1L_, f2L_, mTup_, mLst_, mCall_, mNotT_, mAndT_, mOrT_, mIf_, mAndV_, mOrV_, mNotV_, kAndV_bl, kOrV_bl, kNotV_bl, mSl_, mPart_, kPart_, mNoPart_, sSeq_, sSet_, sRet_, sIf_, sExpr_, sNil_, sBreak_, sCont_, e_lt, e_le, e_gt, e_ge, e_eqI, e_neI, e_eqS, e_neS, e_add, e_sub, List.set_cons_zero, List.set_cons_succ, kTu1, kTu2, kTu3, kTu4, kTu5, kLs0, kLs1, kLs2, kLs3, kLs4, kLs5, mM_, mM0_, sAsg_, sFor_, iRng_, iSeq_, kTu0] <;> rfl
theorem j10 : ∃ (k' : Nat) (X : Sto), J10 (JE p n c a b (some (.obj k)) t) S = .nx (JE p n c a b (some (.obj k')) t) (S ++ X) ∧ (S ++ X)[k']? = some (.lst (ws ++ W3 n a c b)) := by
  unfold J10
  refine grow rfl ?_ hk hl (by simp [W3])
  unfold JE
  simp only [bind_ok, bind_ex, of_some, rs_ok, rs_ex, then_nx, then_rt, then_ex, then_bk, then_ct, mV0, mVs, mC_, m2_, m1_, mB_, kB_bl, mB1_, mNil_, mCons_, f1L_, f2L_, mTup_, mLst_, mCall_, mNotT_, mAndT_, mOrT_, mIf_, mAndV_, mOrV_, mNotV_, kAndV_bl, kOrV_bl, kNotV_bl, mSl_, mPart_, kPart_, mNoPart_, sSeq_, sSet_, sRet_, sIf_, sExpr_, sNil_, sBreak_, sCont_, e_lt, e_le, e_gt, e_ge, e_eqI, e_neI, e_eqS, e_neS, e_add, e_sub, List.set_cons_zero, List.set_cons_succ, kTu1, kTu2, kTu3, kTu4, kTu5, kLs0, kLs1, kLs2, kLs3, kLs4, kLs5, mM_, mM0_, sAsg_, sFor_, iRng_, iSeq_, kTu0] <;> rfl
theorem j11 : ∃ (k' : Nat) (X : Sto), J11 (JE p n c a b (some (.obj k)) t) S = .nx (JE p n c a b (some (.obj k')) t) (S ++ [.lst [.int 0, .int a]] ++ X) ∧ (S ++ [.lst [.int 0, .int a]] ++ X)[k']? = some (.lst (ws ++ W4 n a c b S.length)) := by
  unfold J11
  refine grow rfl ?_ (get_app hk) hl (by simp [W4])
  unfold JE
  simp only [bind_ok, bind_ex, of_some, rs_ok, rs_ex, then_nx, then_rt, then_ex, then_bk, then_ct, mV0, mVs, mC_, m2_, m1_, mB_, kB_bl, mB1_, mNil_, mCons_, f1L_, f2L_, mTup_, mLst_, mCall_, mNotT_, mAndT_, mOrT_, mIf_, mAndV_, mOrV_, mNotV_, kAndV_bl, kOrV_bl, kNotV_bl, mSl_, mPart_, kPart_, mNoPart_, sSeq_, sSet_, sRet_, sIf_, sExpr_, sNil_, sBreak_, sCont_, e_lt, e_le, e_gt, e_ge, e_eqI, e_neI, e_eqS, e_neS, e_add, e_sub, List.set_cons_zero, List.set_cons_succ, kTu1, kTu2, kTu3, kTu4, kTu5, kLs0, kLs1, kLs2, kLs3, kLs4, kLs5, mM_, mM0_, sAsg_, sFor_, iRng_, iSeq_, kTu0] <;> rfl
theorem j12 : ∃ (k' : Nat) (X : Sto), J12 (JE p n c a b (some (.obj k)) t) S = .nx (JE p n c a b (some (.obj k')) t) (S ++ X) ∧ (S ++ X)[k']? = some (.lst (ws ++ W5 n a c b)) := by
  unfold J12
  refine grow rfl ?_ hk hl (by simp [W5])
  unfold JE
  simp only [bind_ok, bind_ex, of_some, rs_ok, rs_ex, then_nx, then_rt, then_ex, then_bk, then_ct, mV0, mVs, mC_, m2_, m1_, mB_, kB_bl, mB1_, mNil_, mCons_, f1L_, f2L_, mTup_, mLst_, mCall_, mNotT_, mAndT_, mOrT_, mIf_, mAndV_, mOrV_, mNotV_, kAndV_bl, kOrV_bl, kNotV_bl, mSl_, mPart_, kPart_, mNoPart_, sSeq_, sSet_, sRet_, sIf_, sExpr_, sNil_, sBreak_, sCont_, e_lt, e_le, e_gt, e_ge, e_eqI, e_neI, e_eqS, e_neS, e_add, e_sub, List.set_cons_zero, List.set_cons_succ, kTu1, kTu2, kTu3, kTu4, kTu5, kLs0, kLs1, kLs2, kLs3, kLs4, kLs5, mM_, mM0_, sAsg_, sFor_, iRng_, iSeq_, kTu0] <;> rfl
theorem j13 (hn : n.natAbs < 2 ^ 100) : ∃ (k' : Nat) (X : Sto), J13 (JE p n c a b (some (.obj k)) t) S = .nx (JE p n c a b (some (.obj k')) t) (S ++ X) ∧ (S ++ X)[k']? = some (.lst (ws ++ W6 n a c b (toString n))) := by
  unfold J13
  refine grow rfl ?_ hk hl (by simp [W6])
  unfold JE
  simp only [bind_ok, bind_ex, of_some, rs_ok, rs_ex, then_nx, then_rt, then_ex, then_bk, then_ct, mV0, mVs, mC_, m2_, m1_, mB_, kB_bl, mB1_, mNil_, mCons_, f1L_, f2L_, mTup_, mLst_, mCall_, mNotT_, mAndT_, mOrT_, mIf_, mAndV_, mOrV_, mNotV_, kAndV_bl, kOrV_bl, kNotV_bl, mSl_, mPart_, kPart_, mNoPart_, sSeq_, sSet_, sRet_, sIf_, sExpr_, sNil_, sBreak_, sCont_, e_lt, e_le, e_gt, e_ge, e_eqI, e_neI, e_eqS, e_neS, e_add, e_sub, List.set_cons_zero, List.set_cons_succ, kTu1, kTu2, kTu3, kTu4, kTu5, kLs0, kLs1, kLs2, kLs3, kLs4, kLs5, mM_, mM0_, sAsg_, sFor_, iRng_, iSeq_, kTu0, e_str hn] <;> rfl
omit hl in
theorem j14 (hw : ∀ d ∈ ws, isArrB d = false ∧ Ty3 S d) : ∃ y : Option D, J14 (JE p n c a b (some (.obj k)) t) S = .nx (JE p n c a b (some (.obj k)) y) S := by
  have lp : ∀ (suf pre : List D) (t : Option D), ws = pre ++ suf → ∃ y : Option D, forI (itLst ws.length k) (gN 7) (sIf (mB (m2 fIsN (mCall M_is_array (mCons (mV 7) mNil)) (mC (.bl false)))) (sRet (mC (.bl false))) sNil) suf.length pre.length (JE p n c a b (some (.obj k)) t) S = .nx (JE p n c a b (some (.obj k)) y) S := by
    intro suf
    induction suf with
    | nil =>
      intro pre t he
      have : pre.length = ws.length := by rw [he]; simp
      exact ⟨t, by rw [this, List.length_nil, fl_end hk]⟩
    | cons d suf ih =>
      intro pre t he
      have hd : ws[pre.length]? = some d := by rw [he]; simp
      obtain ⟨y, q⟩ := ih (pre ++ [d]) (some d) (by rw [he]; simp)
      obtain ⟨h1, h2⟩ := hw d (by rw [he]; simp)
      refine ⟨y, ?_⟩
      have a1 := is_array h2
      rw [h1] at a1
      rw [show (d :: suf).length = suf.length + 1 from rfl, fl_nx hk hd (env1 := JE p n c a b (some (.obj k)) (some d)) (env2 := JE p n c a b (some (.obj k)) (some d)) (S2 := S) rfl (by unfold JE; simp only [bind_ok, bind_ex, of_some, rs_ok, rs_ex, then_nx, then_rt, then_ex, then_bk, then_ct, mV0, mVs, mC_, m2_, m1_, mB_, kB_bl, mB1_, mNil_, mCons_, f1L_, f2L_, mTup_, mLst_, mCall_, mNotT_, mAndT_, mOrT_, mIf_, mAndV_, mOrV_, mNotV_, kAndV_bl, kOrV_bl, kNotV_bl, mSl_, mPart_, kPart_, mNoPart_, sSeq_, sSet_, sRet_, sIf_, sExpr_, sNil_, sBreak_, sCont_, e_lt, e_le, e_gt, e_ge, e_eqI, e_neI, e_eqS, e_neS, e_add, e_sub, List.set_cons_zero, List.set_cons_succ, kTu1, kTu2, kTu3, kTu4, kTu5, kLs0, kLs1, kLs2, kLs3, kLs4, kLs5, mM_, mM0_, sAsg_, sFor_, iRng_, iSeq_, a1, e_isn, decide_true, Bool.not_true, Bool.false_eq_true, if_false])]
      rw [List.length_append, List.length_singleton] at q
      exact q
  obtain ⟨y, q⟩ := lp ws [] t rfl
  refine ⟨y, ?_⟩
  have ks : kSeqI (.obj k) S = .ok (itLst ws.length k) S := kSeqL hk
  have en : (itLst ws.length k).n = ws.length := rfl
  have q' : forI (itLst ws.length k) (gN 7) (sIf (mB (m2 fIsN (mCall M_is_array (mCons (mV 7) mNil)) (mC (.bl false)))) (sRet (mC (.bl false))) sNil) ws.length 0 (JE p n c a b (some (.obj k)) t) S = .nx (JE p n c a b (some (.obj k)) y) S := q
  have ev : mV 6 (JE p n c a b (some (.obj k)) t) S = .ok (.obj k) S := rfl
  unfold J14
  rw [sFor_, iSeq_, ev, bind_ok, ks, rs_ok, en, q']
end
end K07

namespace K07
open PySem PySem.Spec L2 Mi
theorem law_judge {S : Sto} {p : Nat} (h : PoolOk S p) : ∃ S' : Sto, M__law_judge [.obj p] S = .ok (.bl true) S' ∧ PoolOk S' p := by
  obtain ⟨w, S1, a1, a2, a3, _⟩ := pick h (m := 6) (by omega)
  have a1' : M__law_pick [.obj p, .int 6] S = .ok (nD w) S1 := a1
  have s1 : J1 [some (.obj p), none, none, none, none, none, none, none] S = .nx [some (.obj p), some (.int (2 + (w : Int))), none, none, none, none, none, none] S1 := by
    unfold J1; simp only [bind_ok, bind_ex, of_some, rs_ok, rs_ex, then_nx, then_rt, then_ex, then_bk, then_ct, mV0, mVs, mC_, m2_, m1_, mB_, kB_bl, mB1_, mNil_, mCons_, f1L_, f2L_, mTup_, mLst_, mCall_, mNotT_, mAndT_, mOrT_, mIf_, mAndV_, mOrV_, mNotV_, kAndV_bl, kOrV_bl, kNotV_bl, mSl_, mPart_, kPart_, mNoPart_, sSeq_, sSet_, sRet_, sIf_, sExpr_, sNil_, sBreak_, sCont_, e_lt, e_le, e_gt, e_ge, e_eqI, e_neI, e_eqS, e_neS, e_add, e_sub, List.set_cons_zero, List.set_cons_succ, kTu1, kTu2, kTu3, kTu4, kTu5, kLs0, kLs1, kLs2, kLs3, kLs4, kLs5, mM_, mM0_, sAsg_, sFor_, iRng_, iSeq_, a1']
  obtain ⟨n, S2, hn, hn2, s2, hp2⟩ : ∃ (n : Int) (S2 : Sto), 2 ≤ n ∧ n.natAbs < 2 ^ 100 ∧ J2 [some (.obj p), some (.int (2 + (w : Int))), none, none, none, none, none, none] S1 = .nx [some (.obj p), some (.int n), none, none, none, none, none, none] S2 ∧ PoolOk S2 p := by
    obtain ⟨w2, S2, b1, b2, b3, _⟩ := pick a3.pool (m := 4) (by omega)
    have b1' : M__law_pick [.obj p, .int 4] S1 = .ok (nD w2) S2 := b1
    by_cases h2 : w2 = 3
    · have d1 : decide ((w2 : Int) = 3) = true := decide_eq_true (by omega)
      have pw : ∀ S : Sto, fPow (.int 10) (.int 30) S = some (.int ((10 : Int) ^ 30), S) := fun S => e_powB 30 (by omega)
      refine ⟨10 ^ 30, S2, by decide, by decide, ?_, b3.pool⟩
      unfold J2; simp only [bind_ok, bind_ex, of_some, rs_ok, rs_ex, then_nx, then_rt, then_ex, then_bk, then_ct, mV0, mVs, mC_, m2_, m1_, mB_, kB_bl, mB1_, mNil_, mCons_, f1L_, f2L_, mTup_, mLst_, mCall_, mNotT_, mAndT_, mOrT_, mIf_, mAndV_, mOrV_, mNotV_, kAndV_bl, kOrV_bl, kNotV_bl, mSl_, mPart_, kPart_, mNoPart_, sSeq_, sSet_, sRet_, sIf_, sExpr_, sNil_, sBreak_, sCont_, e_lt, e_le, e_gt, e_ge, e_eqI, e_neI, e_eqS, e_neS, e_add, e_sub, List.set_cons_zero, List.set_cons_succ, kTu1, kTu2, kTu3, kTu4, kTu5, kLs0, kLs1, kLs2, kLs3, kLs4, kLs5, mM_, mM0_, sAsg_, sFor_, iRng_, iSeq_, b1', d1, if_true, pw]
    · have d1 : decide ((w2 : Int) = 3) = false := decide_eq_false (by omega)
      have h100 : (2 : Nat) ^ 100 = 1267650600228229401496703205376 := by decide
      have hlt : (2 + (w : Int)).natAbs < 2 ^ 100 := by rw [h100]; omega
      refine ⟨2 + (w : Int), S2, by omega, hlt, ?_, b3.pool⟩
      unfold J2; simp only [bind_ok, bind_ex, of_some, rs_ok, rs_ex, then_nx, then_rt, then_ex, then_bk, then_ct, mV0, mVs, mC_, m2_, m1_, mB_, kB_bl, mB1_, mNil_, mCons_, f1L_, f2L_, mTup_, mLst_, mCall_, mNotT_, mAndT_, mOrT_, mIf_, mAndV_, mOrV_, mNotV_, kAndV_bl, kOrV_bl, kNotV_bl, mSl_, mPart_, kPart_, mNoPart_, sSeq_, sSet_, sRet_, sIf_, sExpr_, sNil_, sBreak_, sCont_, e_lt, e_le, e_gt, e_ge, e_eqI, e_neI, e_eqS, e_neS, e_add, e_sub, List.set_cons_zero, List.set_cons_succ, kTu1, kTu2, kTu3, kTu4, kTu5, kLs0, kLs1, kLs2, kLs3, kLs4, kLs5, mM_, mM0_, sAsg_, sFor_, iRng_, iSeq_, b1', d1, Bool.false_eq_true, if_false]
  obtain ⟨c, S3, hc, s3, hp3⟩ : ∃ (c : Int) (S3 : Sto), (1 ≤ c ∧ c < n) ∧ J3 [some (.obj p), some (.int n), none, none, none, none, none, none] S2 = .nx [some (.obj p), some (.int n), some (.int c), none, none, none, none, none] S3 ∧ PoolOk S3 p := by
    obtain ⟨m, hm⟩ : ∃ m : Nat, (m : Int) = if (9 : Int) < n - 1 then 9 else n - 1 := ⟨(if (9 : Int) < n - 1 then 9 else n - 1).toNat, by split <;> omega⟩
    have hmm : 0 < m ∧ (m : Int) ≤ n - 1 := by split at hm <;> omega
    obtain ⟨w3, S3, c1, c2, c3, _⟩ := pick hp2 (m := m) hmm.1
    have hf : ∀ S : Sto, fMin2 (.int (n - 1)) (.int 9) S = some (.int (m : Int), S) := fun S => by rw [hm]; rfl
    refine ⟨1 + (w3 : Int), S3, by omega, ?_, c3.pool⟩
    unfold J3; simp only [bind_ok, bind_ex, of_some, rs_ok, rs_ex, then_nx, then_rt, then_ex, then_bk, then_ct, mV0, mVs, mC_, m2_, m1_, mB_, kB_bl, mB1_, mNil_, mCons_, f1L_, f2L_, mTup_, mLst_, mCall_, mNotT_, mAndT_, mOrT_, mIf_, mAndV_, mOrV_, mNotV_, kAndV_bl, kOrV_bl, kNotV_bl, mSl_, mPart_, kPart_, mNoPart_, sSeq_, sSet_, sRet_, sIf_, sExpr_, sNil_, sBreak_, sCont_, e_lt, e_le, e_gt, e_ge, e_eqI, e_neI, e_eqS, e_neS, e_add, e_sub, List.set_cons_zero, List.set_cons_succ, kTu1, kTu2, kTu3, kTu4, kTu5, kLs0, kLs1, kLs2, kLs3, kLs4, kLs5, mM_, mM0_, sAsg_, sFor_, iRng_, iSeq_, hf, c1]
  obtain ⟨a, S4, v1, v2⟩ := value hp3
  have s4 : J4 [some (.obj p), some (.int n), some (.int c), none, none, none, none, none] S3 = .nx [some (.obj p), some (.int n), some (.int c), some (.int a), none, none, none, none] S4 := by
    unfold J4; simp only [bind_ok, bind_ex, of_some, rs_ok, rs_ex, then_nx, then_rt, then_ex, then_bk, then_ct, mV0, mVs, mC_, m2_, m1_, mB_, kB_bl, mB1_, mNil_, mCons_, f1L_, f2L_, mTup_, mLst_, mCall_, mNotT_, mAndT_, mOrT_, mIf_, mAndV_, mOrV_, mNotV_, kAndV_bl, kOrV_bl, kNotV_bl, mSl_, mPart_, kPart_, mNoPart_, sSeq_, sSet_, sRet_, sIf_, sExpr_, sNil_, sBreak_, sCont_, e_lt, e_le, e_gt, e_ge, e_eqI, e_neI, e_eqS, e_neS, e_add, e_sub, List.set_cons_zero, List.set_cons_succ, kTu1, kTu2, kTu3, kTu4, kTu5, kLs0, kLs1, kLs2, kLs3, kLs4, kLs5, mM_, mM0_, sAsg_, sFor_, iRng_, iSeq_, v1]
  obtain ⟨w5, S5, e1, e2, e3, _⟩ := pick v2.pool (m := 5) (by omega)
  have e1' : M__law_pick [.obj p, .int 5] S4 = .ok (nD w5) S5 := e1
  obtain ⟨b, hb⟩ : ∃ b : Int, b = a + 1 + (w5 : Int) := ⟨_, rfl⟩
  have hab : a ≠ b := by omega
  have s5 : J5 [some (.obj p), some (.int n), some (.int c), some (.int a), none, none, none, none] S4 = .nx [some (.obj p), some (.int n), some (.int c), some (.int a), some (.int b), none, none, none] S5 := by
    unfold J5; simp only [bind_ok, bind_ex, of_some, rs_ok, rs_ex, then_nx, then_rt, then_ex, then_bk, then_ct, mV0, mVs, mC_, m2_, m1_, mB_, kB_bl, mB1_, mNil_, mCons_, f1L_, f2L_, mTup_, mLst_, mCall_, mNotT_, mAndT_, mOrT_, mIf_, mAndV_, mOrV_, mNotV_, kAndV_bl, kOrV_bl, kNotV_bl, mSl_, mPart_, kPart_, mNoPart_, sSeq_, sSet_, sRet_, sIf_, sExpr_, sNil_, sBreak_, sCont_, e_lt, e_le, e_gt, e_ge, e_eqI, e_neI, e_eqS, e_neS, e_add, e_sub, List.set_cons_zero, List.set_cons_succ, kTu1, kTu2, kTu3, kTu4, kTu5, kLs0, kLs1, kLs2, kLs3, kLs4, kLs5, mM_, mM0_, sAsg_, sFor_, iRng_, iSeq_, e1', hb]
  have s6 : J6 [some (.obj p), some (.int n), some (.int c), some (.int a), some (.int b), none, none, none] S5 = .nx (JE p n c a b none none) S5 := by
    unfold J6 JE; simp only [bind_ok, bind_ex, of_some, rs_ok, rs_ex, then_nx, then_rt, then_ex, then_bk, then_ct, mV0, mVs, mC_, m2_, m1_, mB_, kB_bl, mB1_, mNil_, mCons_, f1L_, f2L_, mTup_, mLst_, mCall_, mNotT_, mAndT_, mOrT_, mIf_, mAndV_, mOrV_, mNotV_, kAndV_bl, kOrV_bl, kNotV_bl, mSl_, mPart_, kPart_, mNoPart_, sSeq_, sSet_, sRet_, sIf_, sExpr_, sNil_, sBreak_, sCont_, e_lt, e_le, e_gt, e_ge, e_eqI, e_neI, e_eqS, e_neS, e_add, e_sub, List.set_cons_zero, List.set_cons_succ, kTu1, kTu2, kTu3, kTu4, kTu5, kLs0, kLs1, kLs2, kLs3, kLs4, kLs5, mM_, mM0_, sAsg_, sFor_, iRng_, iSeq_] <;> rfl
  have q1 : M_is_array [.tup [.int n, rwD [(0, a), (c, b)]]] S5 = .ok (.bl true) S5 := is_arr (n := n) (r := [(0, a), (c, b)]) ⟨by omega, rfl, hc.2, by show (0 : Int) < c; omega, hab, trivial⟩
  have q2 : M_is_array [.tup [.int 0, .tup []]] S5 = .ok (.bl true) S5 := is_arr (n := 0) (r := []) rfl
  have q3 : M_is_array [.tup [.int 1, .tup [.tup [.int 0, .int a]]]] S5 = .ok (.bl true) S5 := is_arr (n := 1) (r := [(0, a)]) ⟨by omega, rfl, trivial⟩
  have s7 : J7 (JE p n c a b none none) S5 = .nx (JE p n c a b none none) S5 := by
    unfold J7 JE
    simp only [bind_ok, bind_ex, of_some, rs_ok, rs_ex, then_nx, then_rt, then_ex, then_bk, then_ct, mV0, mVs, mC_, m2_, m1_, mB_, kB_bl, mB1_, mNil_, mCons_, f1L_, f2L_, mTup_, mLst_, mCall_, mNotT_, mAndT_, mOrT_, mIf_, mAndV_, mOrV_, mNotV_, kAndV_bl, kOrV_bl, kNotV_bl, mSl_, mPart_, kPart_, mNoPart_, sSeq_, sSet_, sRet_, sIf_, sExpr_, sNil_, sBreak_, sCont_, e_lt, e_le, e_gt, e_ge, e_eqI, e_neI, e_eqS, e_neS, e_add, e_sub, List.set_cons_zero, List.set_cons_succ, kTu1, kTu2, kTu3, kTu4, kTu5, kLs0, kLs1, kLs2, kLs3, kLs4, kLs5, mM_, mM0_, sAsg_, sFor_, iRng_, iSeq_, kTu0, q1, q2, q3, e_isn, decide_true, Bool.not_true, Bool.false_eq_true, if_false]
  obtain ⟨X8, s8, k8, o1, o2⟩ := j8 (S := S5) (p := p) (n := n) (c := c) (a := a) (b := b) (t := none)
  obtain ⟨k9, X9, s9, g9⟩ := j9 (p := p) (n := n) (c := c) (a := a) (b := b) (t := none) k8 (by simp [W1])
  obtain ⟨k10, X10, s10, g10⟩ := j10 (p := p) (n := n) (c := c) (a := a) (b := b) (t := none) g9 (by simp [W1, W2])
  obtain ⟨k11, X11, s11, g11⟩ := j11 (p := p) (n := n) (c := c) (a := a) (b := b) (t := none) g10 (by simp [W1, W2, W3])
  obtain ⟨k12, X12, s12, g12⟩ := j12 (p := p) (n := n) (c := c) (a := a) (b := b) (t := none) g11 (by simp [W1, W2, W3, W4])
  obtain ⟨k13, X13, s13, g13⟩ := j13 (p := p) (n := n) (c := c) (a := a) (b := b) (t := none) g12 (by simp [W1, W2, W3, W4, W5]) hn2
  have o3 : (S5 ++ X8 ++ X9 ++ X10 ++ [MO.lst [.int 0, .int a]])[(S5 ++ X8 ++ X9 ++ X10).length]? = some (.lst [.int 0, .int a]) := last0
  have t1 := some_of (get_app (X := X13) (get_app (X := X12) (get_app (X := X11) (get_app (X := [MO.lst [.int 0, .int a]]) (get_app (X := X10) (get_app (X := X9) o1))))))
  have t2 := some_of (get_app (X := X13) (get_app (X := X12) (get_app (X := X11) (get_app (X := [MO.lst [.int 0, .int a]]) (get_app (X := X10) (get_app (X := X9) o2))))))
  have t3 := some_of (get_app (X := X13) (get_app (X := X12) (get_app (X := X11) o3)))
  obtain ⟨y, s14⟩ := j14 (p := p) (n := n) (c := c) (a := a) (b := b) (t := none) g13 (fun d hd => ⟨w_false hn hc hab d hd, tyC_ok (w_ty t1 t2 t3 d hd)⟩)
  have i8 := Stp.app (X := X8) e3.pool
  have i9 := Stp.app (X := X9) i8.pool
  have i10 := Stp.app (X := X10) i9.pool
  have i11 := Stp.app (X := X11) (Stp.app (X := [MO.lst [.int 0, .int a]]) i10.pool).pool
  have i12 := Stp.app (X := X12) i11.pool
  have i13 := Stp.app (X := X13) i12.pool
  refine ⟨_, ?_, i13.pool⟩
  have s15 : J15 (JE p n c a b (some (.obj k13)) y) (S5 ++ X8 ++ X9 ++ X10 ++ [MO.lst [.int 0, .int a]] ++ X11 ++ X12 ++ X13) = .rt (.bl true) (S5 ++ X8 ++ X9 ++ X10 ++ [MO.lst [.int 0, .int a]] ++ X11 ++ X12 ++ X13) := rfl
  unfold M__law_judge mFn
  simp only [List.length_cons, List.length_nil, Nat.reduceAdd, if_true, List.map_cons, List.map_nil, List.replicate, List.cons_append, List.nil_append, Nat.reduceSub]
  rw [law_judge_eq, sSeq_, s1, then_nx, sSeq_, s2, then_nx, sSeq_, s3, then_nx, sSeq_, s4, then_nx, sSeq_, s5, then_nx, sSeq_, s6, then_nx, sSeq_, s7, then_nx, sSeq_, s8, then_nx, sSeq_, s9, then_nx, sSeq_, s10, then_nx, sSeq_, s11, then_nx, sSeq_, s12, then_nx, sSeq_, s13, then_nx, sSeq_, s14, then_nx, s15] <;> rfl
end K07

namespace K07
open PySem PySem.Spec L2 Mi
/-! ### refusals -/
theorem whole_no {S : Sto} {d : D} (h : Ty S d) (hb : isI d = false) : M_is_whole [d] S = .ok (.bl false) S := by
  rw [is_whole h, hb]
theorem ty_bl {S : Sto} {b : Bool} : Ty S (.bl b) := fun z => by cases z
theorem ty_non {S : Sto} : Ty S .non := fun z => by cases z
theorem ty_str {S : Sto} {z : Str} : Ty S (.str z) := fun h => by cases h
theorem isi_lt_int {S : Sto} {i : Int} : fIsi ["list", "tuple"] (.int i) S = some (.bl false, S) := (rfl)
theorem isi_lt_str {S : Sto} {z : Str} : fIsi ["list", "tuple"] (.str z) S = some (.bl false, S) := (rfl)
theorem fresh_neg {S : Sto} {i : Int} (h : i < 0) : M_fresh_array [.int i] S = .ex (exBA 0) S := by
  have d1 : decide (i < 0) = true := decide_eq_true h
  unfold M_fresh_array mFn B_fresh_array
  simp only [List.length_cons, List.length_nil, Nat.reduceAdd, if_true, List.map_cons, List.map_nil, List.replicate, List.cons_append, List.nil_append, Nat.reduceSub, Nat.sub_self]
  simp only [bind_ok, bind_ex, of_some, rs_ok, rs_ex, then_nx, then_rt, then_ex, then_bk, then_ct, mV0, mVs, mC_, m2_, m1_, mB_, kB_bl, mB1_, mNil_, mCons_, f1L_, f2L_, mTup_, mLst_, mCall_, mNotT_, mAndT_, mOrT_, mIf_, mAndV_, mOrV_, mNotV_, kAndV_bl, kOrV_bl, kNotV_bl, mSl_, mPart_, kPart_, mNoPart_, sSeq_, sSet_, sRet_, sIf_, sExpr_, sNil_, sBreak_, sCont_, e_lt, e_le, e_gt, e_ge, e_eqI, e_neI, e_eqS, e_neS, e_add, e_sub, List.set_cons_zero, List.set_cons_succ, kTu1, kTu2, kTu3, kTu4, kTu5, kLs0, kLs1, kLs2, kLs3, kLs4, kLs5, mM_, mM0_, sAsg_, sFor_, iRng_, iSeq_, whole_int, Bool.not_true, Bool.false_eq_true, if_false, d1, if_true]
  rfl
theorem fresh_bl {S : Sto} : M_fresh_array [.bl true] S = .ex (exBA 0) S := by
  unfold M_fresh_array mFn B_fresh_array
  simp only [List.length_cons, List.length_nil, Nat.reduceAdd, if_true, List.map_cons, List.map_nil, List.replicate, List.cons_append, List.nil_append, Nat.reduceSub, Nat.sub_self]
  simp only [bind_ok, bind_ex, of_some, rs_ok, rs_ex, then_nx, then_rt, then_ex, then_bk, then_ct, mV0, mVs, mC_, m2_, m1_, mB_, kB_bl, mB1_, mNil_, mCons_, f1L_, f2L_, mTup_, mLst_, mCall_, mNotT_, mAndT_, mOrT_, mIf_, mAndV_, mOrV_, mNotV_, kAndV_bl, kOrV_bl, kNotV_bl, mSl_, mPart_, kPart_, mNoPart_, sSeq_, sSet_, sRet_, sIf_, sExpr_, sNil_, sBreak_, sCont_, e_lt, e_le, e_gt, e_ge, e_eqI, e_neI, e_eqS, e_neS, e_add, e_sub, List.set_cons_zero, List.set_cons_succ, kTu1, kTu2, kTu3, kTu4, kTu5, kLs0, kLs1, kLs2, kLs3, kLs4, kLs5, mM_, mM0_, sAsg_, sFor_, iRng_, iSeq_, whole_no ty_bl (show isI (.bl true) = false from rfl), Bool.not_false, if_true]
  rfl
theorem array_str {S : Sto} {z : Str} : M_array_of [.str z] S = .ex (exBA 0) S := by
  unfold M_array_of mFn B_array_of
  simp only [List.length_cons, List.length_nil, Nat.reduceAdd, if_true, List.map_cons, List.map_nil, List.replicate, List.cons_append, List.nil_append, Nat.reduceSub, Nat.sub_self]
  simp only [bind_ok, bind_ex, of_some, rs_ok, rs_ex, then_nx, then_rt, then_ex, then_bk, then_ct, mV0, mVs, mC_, m2_, m1_, mB_, kB_bl, mB1_, mNil_, mCons_, f1L_, f2L_, mTup_, mLst_, mCall_, mNotT_, mAndT_, mOrT_, mIf_, mAndV_, mOrV_, mNotV_, kAndV_bl, kOrV_bl, kNotV_bl, mSl_, mPart_, kPart_, mNoPart_, sSeq_, sSet_, sRet_, sIf_, sExpr_, sNil_, sBreak_, sCont_, e_lt, e_le, e_gt, e_ge, e_eqI, e_neI, e_eqS, e_neS, e_add, e_sub, List.set_cons_zero, List.set_cons_succ, kTu1, kTu2, kTu3, kTu4, kTu5, kLs0, kLs1, kLs2, kLs3, kLs4, kLs5, mM_, mM0_, sAsg_, sFor_, iRng_, iSeq_, isi_lt_str, Bool.not_false, if_true]
  rfl
theorem points_neg {S : Sto} {i : Int} {d : D} (h : i < 0) : M_from_points [.int i, d] S = .ex (exBA 0) S := by
  have d1 : decide (i < 0) = true := decide_eq_true h
  unfold M_from_points mFn B_from_points
  simp only [List.length_cons, List.length_nil, Nat.reduceAdd, if_true, List.map_cons, List.map_nil, List.replicate, List.cons_append, List.nil_append, Nat.reduceSub, Nat.sub_self]
  simp only [bind_ok, bind_ex, of_some, rs_ok, rs_ex, then_nx, then_rt, then_ex, then_bk, then_ct, mV0, mVs, mC_, m2_, m1_, mB_, kB_bl, mB1_, mNil_, mCons_, f1L_, f2L_, mTup_, mLst_, mCall_, mNotT_, mAndT_, mOrT_, mIf_, mAndV_, mOrV_, mNotV_, kAndV_bl, kOrV_bl, kNotV_bl, mSl_, mPart_, kPart_, mNoPart_, sSeq_, sSet_, sRet_, sIf_, sExpr_, sNil_, sBreak_, sCont_, e_lt, e_le, e_gt, e_ge, e_eqI, e_neI, e_eqS, e_neS, e_add, e_sub, List.set_cons_zero, List.set_cons_succ, kTu1, kTu2, kTu3, kTu4, kTu5, kLs0, kLs1, kLs2, kLs3, kLs4, kLs5, mM_, mM0_, sAsg_, sFor_, iRng_, iSeq_, whole_int, Bool.not_true, Bool.false_eq_true, if_false, d1, if_true]
  rfl
theorem points_int {S : Sto} {i k : Int} (h : 0 ≤ i) : M_from_points [.int i, .int k] S = .ex (exBA 1) S := by
  have d1 : decide (i < 0) = false := decide_eq_false (by omega)
  unfold M_from_points mFn B_from_points
  simp only [List.length_cons, List.length_nil, Nat.reduceAdd, if_true, List.map_cons, List.map_nil, List.replicate, List.cons_append, List.nil_append, Nat.reduceSub, Nat.sub_self]
  simp only [bind_ok, bind_ex, of_some, rs_ok, rs_ex, then_nx, then_rt, then_ex, then_bk, then_ct, mV0, mVs, mC_, m2_, m1_, mB_, kB_bl, mB1_, mNil_, mCons_, f1L_, f2L_, mTup_, mLst_, mCall_, mNotT_, mAndT_, mOrT_, mIf_, mAndV_, mOrV_, mNotV_, kAndV_bl, kOrV_bl, kNotV_bl, mSl_, mPart_, kPart_, mNoPart_, sSeq_, sSet_, sRet_, sIf_, sExpr_, sNil_, sBreak_, sCont_, e_lt, e_le, e_gt, e_ge, e_eqI, e_neI, e_eqS, e_neS, e_add, e_sub, List.set_cons_zero, List.set_cons_succ, kTu1, kTu2, kTu3, kTu4, kTu5, kLs0, kLs1, kLs2, kLs3, kLs4, kLs5, mM_, mM0_, sAsg_, sFor_, iRng_, iSeq_, whole_int, Bool.not_true, Bool.false_eq_true, if_false, d1, isi_lt_int, Bool.not_false, if_true]
  rfl
theorem array_bad {S : Sto} {d : D} {es : List D} (h : RowAt S d es) (hT : ∀ (T : Sto), ∀ e ∈ es, Ty T e) (hb : es.all isI = false) (hl : es.length ≤ 100) : ∃ X : Sto, M_array_of [d] S = .ex (exBA 0) (S ++ X) := by
  have ha := all_row (S := S) (e := mCall M_is_whole (mCons (mV 1) mNil)) (v := 1) (vs := [1]) (env := [some d, none]) (f := isI) h (fun acc x hx => by
    have hw := is_whole (hT (S ++ [.lst acc]) x hx)
    show mCall M_is_whole (mCons (mV 1) mNil) [some d, some x] _ = _
    simp only [bind_ok, bind_ex, of_some, rs_ok, rs_ex, then_nx, then_rt, then_ex, then_bk, then_ct, mV0, mVs, mC_, m2_, m1_, mB_, kB_bl, mB1_, mNil_, mCons_, f1L_, f2L_, mTup_, mLst_, mCall_, mNotT_, mAndT_, mOrT_, mIf_, mAndV_, mOrV_, mNotV_, kAndV_bl, kOrV_bl, kNotV_bl, mSl_, mPart_, kPart_, mNoPart_, sSeq_, sSet_, sRet_, sIf_, sExpr_, sNil_, sBreak_, sCont_, e_lt, e_le, e_gt, e_ge, e_eqI, e_neI, e_eqS, e_neS, e_add, e_sub, List.set_cons_zero, List.set_cons_succ, kTu1, kTu2, kTu3, kTu4, kTu5, kLs0, kLs1, kLs2, kLs3, kLs4, kLs5, mM_, mM0_, sAsg_, sFor_, iRng_, iSeq_, hw]) (by rw [sizeLine_eq]; omega)
  rw [hb] at ha
  refine ⟨[.lst ((es.map isI).map D.bl)], ?_⟩
  generalize S ++ [MO.lst ((es.map isI).map D.bl)] = S1 at ha
  have e0 : (mLc (iSeq (mV 0)) (gN 1) tAll (mCall M_is_whole (mCons (mV 1) mNil)) [1]) [some d, none] S = (kSeqI d S).bind (kLc (gN 1) tAll (mCall M_is_whole (mCons (mV 1) mNil)) [1] [some d, none]) := rfl
  have e1 : (mB1 (f1L fAll) (mCons (mLc (iSeq (mV 0)) (gN 1) tAll (mCall M_is_whole (mCons (mV 1) mNil)) [1]) mNil)) [some d, none] S = .ok (.bl false) S1 := by
    rw [← ha, mB1_, mCons_, e0]
    cases (kSeqI d S).bind (kLc (gN 1) tAll (mCall M_is_whole (mCons (mV 1) mNil)) [1] [some d, none]) <;> rfl
  have ev : mV 0 [some d, none] S = .ok d S := rfl
  unfold M_array_of mFn B_array_of
  simp only [List.length_cons, List.length_nil, Nat.reduceAdd, if_true, List.map_cons, List.map_nil, List.replicate, List.cons_append, List.nil_append, Nat.reduceSub, Nat.sub_self]
  rw [sSeq_, sIf_, mOrT_, mNotT_, mB_, m1_, ev, bind_ok, h.seq.isi, of_some, bind_ok, kB_bl, bind_ok, bind_ok, if_neg (by decide), mNotT_, mB_, e1, bind_ok, kB_bl, bind_ok, rs_ok, if_pos (by decide)]
  rfl
theorem points_all {S : Sto} {n : Int} {d : D} {es : List D} {f : D → Bool} (hn : 0 ≤ n) (h : RowAt S d es) (hf : ∀ (T : Sto), ∀ e ∈ es, M_is_whole_pair [e] T = .ok (.bl (f e)) T) (hl : es.length ≤ 100) : ∃ X : Sto, F2' [some (.int n), some d, none, none, none, none] S = (if es.all f then .nx [some (.int n), some d, none, none, none, none] (S ++ X) else .ex (exBA 1) [some (.int n), some d, none, none, none, none] (S ++ X)) := by
  have ha := all_row (S := S) (e := mCall M_is_whole_pair (mCons (mV 5) mNil)) (v := 5) (vs := [5]) (env := [some (.int n), some d, none, none, none, none]) (f := f) h (fun acc x hx => by
    have hw := hf (S ++ [.lst acc]) x hx
    show mCall M_is_whole_pair (mCons (mV 5) mNil) [some (.int n), some d, none, none, none, some x] _ = _
    simp only [bind_ok, bind_ex, of_some, rs_ok, rs_ex, then_nx, then_rt, then_ex, then_bk, then_ct, mV0, mVs, mC_, m2_, m1_, mB_, kB_bl, mB1_, mNil_, mCons_, f1L_, f2L_, mTup_, mLst_, mCall_, mNotT_, mAndT_, mOrT_, mIf_, mAndV_, mOrV_, mNotV_, kAndV_bl, kOrV_bl, kNotV_bl, mSl_, mPart_, kPart_, mNoPart_, sSeq_, sSet_, sRet_, sIf_, sExpr_, sNil_, sBreak_, sCont_, e_lt, e_le, e_gt, e_ge, e_eqI, e_neI, e_eqS, e_neS, e_add, e_sub, List.set_cons_zero, List.set_cons_succ, kTu1, kTu2, kTu3, kTu4, kTu5, kLs0, kLs1, kLs2, kLs3, kLs4, kLs5, mM_, mM0_, sAsg_, sFor_, iRng_, iSeq_, hw]) (by rw [sizeLine_eq]; omega)
  refine ⟨[.lst ((es.map f).map D.bl)], ?_⟩
  generalize S ++ [MO.lst ((es.map f).map D.bl)] = S1 at ha
  have e0 : (mLc (iSeq (mV 1)) (gN 5) tAll (mCall M_is_whole_pair (mCons (mV 5) mNil)) [5]) [some (.int n), some d, none, none, none, none] S = (kSeqI d S).bind (kLc (gN 5) tAll (mCall M_is_whole_pair (mCons (mV 5) mNil)) [5] [some (.int n), some d, none, none, none, none]) := rfl
  have e1 : (mB1 (f1L fAll) (mCons (mLc (iSeq (mV 1)) (gN 5) tAll (mCall M_is_whole_pair (mCons (mV 5) mNil)) [5]) mNil)) [some (.int n), some d, none, none, none, none] S = .ok (.bl (es.all f)) S1 := by
    rw [← ha, mB1_, mCons_, e0]
    cases (kSeqI d S).bind (kLc (gN 5) tAll (mCall M_is_whole_pair (mCons (mV 5) mNil)) [5] [some (.int n), some d, none, none, none, none]) <;> rfl
  have ev : mV 1 [some (.int n), some d, none, none, none, none] S = .ok d S := rfl
  unfold F2'
  rw [sIf_, mOrT_, mNotT_, mB_, m1_, ev, bind_ok, h.seq.isi, of_some, bind_ok, kB_bl, bind_ok, bind_ok, if_neg (by decide), mNotT_, mB_, e1, bind_ok, kB_bl, bind_ok, rs_ok]
  cases es.all f <;> rfl
theorem points_bad {S : Sto} {n : Int} {d : D} {es : List D} {f : D → Bool} (hn : 0 ≤ n) (h : RowAt S d es) (hf : ∀ (T : Sto), ∀ e ∈ es, M_is_whole_pair [e] T = .ok (.bl (f e)) T) (hl : es.length ≤ 100) (hb : es.all f = false) : ∃ X : Sto, M_from_points [.int n, d] S = .ex (exBA 1) (S ++ X) := by
  obtain ⟨X, s2⟩ := points_all hn h hf hl
  rw [hb, if_neg (by decide)] at s2
  refine ⟨X, ?_⟩
  have s1 := f1_ok (S := S) (r := [some d, none, none, none, none]) hn
  unfold M_from_points mFn
  simp only [List.length_cons, List.length_nil, Nat.reduceAdd, if_true, List.map_cons, List.map_nil, List.replicate, List.cons_append, List.nil_append, Nat.reduceSub, Nat.sub_self]
  rw [fp_eq, sSeq_, s1, then_nx, sSeq_, s2, then_ex] <;> rfl
/-- two points, the second ahead of the first -/
theorem points_desc {S : Sto} {n : Int} {j : Nat} (hn : 0 ≤ n) (h : S[j]? = some (.lst [prD (2, 1), prD (1, 1)])) : ∃ X : Sto, M_from_points [.int n, .obj j] S = .ex (exBA 1) (S ++ X) := by
  obtain ⟨X1, s2⟩ := points_all (f := fun _ => true) (es := [prD (2, 1), prD (1, 1)]) hn (.inr ⟨j, rfl, h⟩) (fun T e he => by
    simp only [List.mem_cons, List.not_mem_nil, or_false] at he
    rcases he with rfl | rfl
    · exact whole_pair (es := [.int 2, .int 1]) seq_tup (fun e he => by
        simp only [List.mem_cons, List.not_mem_nil, or_false] at he
        rcases he with rfl | rfl <;> exact ty_int)
    · exact whole_pair (es := [.int 1, .int 1]) seq_tup (fun e he => by
        simp only [List.mem_cons, List.not_mem_nil, or_false] at he
        rcases he with rfl | rfl <;> exact ty_int)) (by simp)
  rw [show (([prD (2, 1), prD (1, 1)] : List D).all fun _ => true) = true from rfl, if_pos rfl] at s2
  have s1 := f1_ok (S := S) (r := [some (.obj j), none, none, none, none]) hn
  have h1 : (S ++ X1)[j]? = some (.lst [prD (2, 1), prD (1, 1)]) := get_app h
  generalize hS1 : S ++ X1 = S1 at s2 h1
  have hj := get_lt h1
  have s4 : (sSet 3 (mLst mNil)) [some (.int n), some (.obj j), some (.int 0), none, none, none] S1 = .nx [some (.int n), some (.obj j), some (.int 0), some (.obj S1.length), none, none] (S1 ++ [.lst []]) := by
    simp only [bind_ok, bind_ex, of_some, rs_ok, rs_ex, then_nx, then_rt, then_ex, then_bk, then_ct, mV0, mVs, mC_, m2_, m1_, mB_, kB_bl, mB1_, mNil_, mCons_, f1L_, f2L_, mTup_, mLst_, mCall_, mNotT_, mAndT_, mOrT_, mIf_, mAndV_, mOrV_, mNotV_, kAndV_bl, kOrV_bl, kNotV_bl, mSl_, mPart_, kPart_, mNoPart_, sSeq_, sSet_, sRet_, sIf_, sExpr_, sNil_, sBreak_, sCont_, e_lt, e_le, e_gt, e_ge, e_eqI, e_neI, e_eqS, e_neS, e_add, e_sub, List.set_cons_zero, List.set_cons_succ, kTu1, kTu2, kTu3, kTu4, kTu5, kLs0, kLs1, kLs2, kLs3, kLs4, kLs5, mM_, mM0_, sAsg_, sFor_, iRng_, iSeq_]
  have t1 := fb_step (S := S1 ++ [.lst []]) (x0 := some (.int n)) (d := .obj j) (pd := prD (2, 1)) (i := 0) (q := S1.length) (s := (0, [])) (p := (2, 1)) last0 (by simp) (.inl rfl) (.inl rfl)
  have hfp : fpS (0, []) (2, 1) = (0, [(2, 1)]) := rfl
  rw [hfp, sa0] at t1
  have g2 : (S1 ++ [MO.lst [prD (2, 1)]])[j]? = some (.lst [prD (2, 1), prD (1, 1)]) := get_app h1
  have x0 : fIx (.obj j) (.int 0) (S1 ++ [MO.lst [prD (2, 1)]]) = some (prD (2, 1), S1 ++ [MO.lst [prD (2, 1)]]) := e_ix0 g2
  have t2 : FB [some (.int n), some (.obj j), some (.int 0), some (.obj S1.length), some (.int 1), some (prD (1, 1))] (S1 ++ [MO.lst [prD (2, 1)]]) = .ex (exBA 1) [some (.int n), some (.obj j), some (.int 0), some (.obj S1.length), some (.int 1), some (prD (1, 1))] (S1 ++ [MO.lst [prD (2, 1)]]) := by
    have d1 : decide ((0 : Int) < 1) = true := rfl
    have d2 : decide ((1 : Int) < 2) = true := rfl
    have e10 : (1 : Int) - 1 = 0 := rfl
    unfold FB
    simp only [bind_ok, bind_ex, of_some, rs_ok, rs_ex, then_nx, then_rt, then_ex, then_bk, then_ct, mV0, mVs, mC_, m2_, m1_, mB_, kB_bl, mB1_, mNil_, mCons_, f1L_, f2L_, mTup_, mLst_, mCall_, mNotT_, mAndT_, mOrT_, mIf_, mAndV_, mOrV_, mNotV_, kAndV_bl, kOrV_bl, kNotV_bl, mSl_, mPart_, kPart_, mNoPart_, sSeq_, sSet_, sRet_, sIf_, sExpr_, sNil_, sBreak_, sCont_, e_lt, e_le, e_gt, e_ge, e_eqI, e_neI, e_eqS, e_neS, e_add, e_sub, List.set_cons_zero, List.set_cons_succ, kTu1, kTu2, kTu3, kTu4, kTu5, kLs0, kLs1, kLs2, kLs3, kLs4, kLs5, mM_, mM0_, sAsg_, sFor_, iRng_, iSeq_, e10, x0, e_p0, d1, d2, if_true] <;> rfl
  have lp : forI (itEnumL 2 j) (gT 2 (gsCons (gN 4) (gsCons (gN 5) gsNil))) FB 2 0 [some (.int n), some (.obj j), some (.int 0), some (.obj S1.length), none, none] (S1 ++ [.lst []]) = .ex (exBA 1) [some (.int n), some (.obj j), some (.int 0), some (.obj S1.length), some (.int 1), some (prD (1, 1))] (S1 ++ [MO.lst [prD (2, 1)]]) := by
    have i1 : (itEnumL 2 j).f 0 (S1 ++ [.lst []]) = some (some (.tup [.int 0, prD (2, 1)])) := by
      show (lstAt _ j).map _ = _
      rw [lst_at (get_app h1)]; rfl
    have i2 : (itEnumL 2 j).f 1 (S1 ++ [MO.lst [prD (2, 1)]]) = some (some (.tup [.int 1, prD (1, 1)])) := by
      show (lstAt _ j).map _ = _
      rw [lst_at g2]; rfl
    have g1' : (gT 2 (gsCons (gN 4) (gsCons (gN 5) gsNil))) (.tup [.int 0, prD (2, 1)]) [some (.int n), some (.obj j), some (.int 0), some (.obj S1.length), none, none] (S1 ++ [.lst []]) = some [some (.int n), some (.obj j), some (.int 0), some (.obj S1.length), some (.int 0), some (prD (2, 1))] := rfl
    have g2' : (gT 2 (gsCons (gN 4) (gsCons (gN 5) gsNil))) (.tup [.int 1, prD (1, 1)]) [some (.int n), some (.obj j), some (.int 0), some (.obj S1.length), some (.int 0), some (prD (2, 1))] (S1 ++ [MO.lst [prD (2, 1)]]) = some [some (.int n), some (.obj j), some (.int 0), some (.obj S1.length), some (.int 1), some (prD (1, 1))] := rfl
    have t1' : FB [some (.int n), some (.obj j), some (.int 0), some (.obj S1.length), some (.int 0), some (prD (2, 1))] (S1 ++ [.lst []]) = .nx [some (.int n), some (.obj j), some (.int 0), some (.obj S1.length), some (.int 0), some (prD (2, 1))] (S1 ++ [MO.lst [prD (2, 1)]]) := t1
    rw [forI]
    simp only [i1, g1', t1']
    rw [forI]
    simp only [i2, g2', t2]
  have s5 : (sFor (iEnumA (mCons (mV 1) mNil)) (gT 2 (gsCons (gN 4) (gsCons (gN 5) gsNil))) FB) [some (.int n), some (.obj j), some (.int 0), some (.obj S1.length), none, none] (S1 ++ [.lst []]) = .ex (exBA 1) [some (.int n), some (.obj j), some (.int 0), some (.obj S1.length), some (.int 1), some (prD (1, 1))] (S1 ++ [MO.lst [prD (2, 1)]]) := by
    have iE : ∀ (a : MA) (env : Mi.Env) (S : Sto), iEnumA a env S = (a env S).bind kEnumA := fun _ _ _ => rfl
    have hken : kEnumA [.obj j] (S1 ++ [.lst []]) = .ok (itEnumL 2 j) (S1 ++ [.lst []]) := kEn2 (get_app h1)
    have hitn : (itEnumL 2 j).n = 2 := rfl
    simp only [bind_ok, bind_ex, of_some, rs_ok, rs_ex, then_nx, then_rt, then_ex, then_bk, then_ct, mV0, mVs, mC_, m2_, m1_, mB_, kB_bl, mB1_, mNil_, mCons_, f1L_, f2L_, mTup_, mLst_, mCall_, mNotT_, mAndT_, mOrT_, mIf_, mAndV_, mOrV_, mNotV_, kAndV_bl, kOrV_bl, kNotV_bl, mSl_, mPart_, kPart_, mNoPart_, sSeq_, sSet_, sRet_, sIf_, sExpr_, sNil_, sBreak_, sCont_, e_lt, e_le, e_gt, e_ge, e_eqI, e_neI, e_eqS, e_neS, e_add, e_sub, List.set_cons_zero, List.set_cons_succ, kTu1, kTu2, kTu3, kTu4, kTu5, kLs0, kLs1, kLs2, kLs3, kLs4, kLs5, mM_, mM0_, sAsg_, sFor_, iRng_, iSeq_, iE, hken, hitn]
    exact lp
  have s3 : (sSet 2 (mC (.int 0))) [some (.int n), some (.obj j), none, none, none, none] S1 = .nx [some (.int n), some (.obj j), some (.int 0), none, none, none] S1 := rfl
  refine ⟨X1 ++ [MO.lst [prD (2, 1)]], ?_⟩
  rw [← List.append_assoc, hS1]
  unfold M_from_points mFn
  simp only [List.length_cons, List.length_nil, Nat.reduceAdd, if_true, List.map_cons, List.map_nil, List.replicate, List.cons_append, List.nil_append, Nat.reduceSub, Nat.sub_self]
  rw [fp_eq, sSeq_, s1, then_nx, sSeq_, s2, then_nx, sSeq_, s3, then_nx, sSeq_, s4, then_nx, sSeq_, s5, then_ex] <;> rfl
/-! the others: what is no array, no whole number -/
section
variable {S : Sto} {d : D} (h : Ty3 S d) (hb : isArrB d = false)
include h hb
theorem cell_bad {e : D} : M_cell_of [d, e] S = .ex (exBA 0) S := by
  unfold M_cell_of mFn B_cell_of
  simp only [List.length_cons, List.length_nil, Nat.reduceAdd, if_true, List.map_cons, List.map_nil, List.replicate, List.cons_append, List.nil_append, Nat.reduceSub, Nat.sub_self]
  simp only [bind_ok, bind_ex, of_some, rs_ok, rs_ex, then_nx, then_rt, then_ex, then_bk, then_ct, mV0, mVs, mC_, m2_, m1_, mB_, kB_bl, mB1_, mNil_, mCons_, f1L_, f2L_, mTup_, mLst_, mCall_, mNotT_, mAndT_, mOrT_, mIf_, mAndV_, mOrV_, mNotV_, kAndV_bl, kOrV_bl, kNotV_bl, mSl_, mPart_, kPart_, mNoPart_, sSeq_, sSet_, sRet_, sIf_, sExpr_, sNil_, sBreak_, sCont_, e_lt, e_le, e_gt, e_ge, e_eqI, e_neI, e_eqS, e_neS, e_add, e_sub, List.set_cons_zero, List.set_cons_succ, kTu1, kTu2, kTu3, kTu4, kTu5, kLs0, kLs1, kLs2, kLs3, kLs4, kLs5, mM_, mM0_, sAsg_, sFor_, iRng_, iSeq_, check_arr_bad h hb] <;> rfl
theorem put_bad {e f : D} : M_put_cell [d, e, f] S = .ex (exBA 0) S := by
  unfold M_put_cell mFn B_put_cell
  simp only [List.length_cons, List.length_nil, Nat.reduceAdd, if_true, List.map_cons, List.map_nil, List.replicate, List.cons_append, List.nil_append, Nat.reduceSub, Nat.sub_self]
  simp only [bind_ok, bind_ex, of_some, rs_ok, rs_ex, then_nx, then_rt, then_ex, then_bk, then_ct, mV0, mVs, mC_, m2_, m1_, mB_, kB_bl, mB1_, mNil_, mCons_, f1L_, f2L_, mTup_, mLst_, mCall_, mNotT_, mAndT_, mOrT_, mIf_, mAndV_, mOrV_, mNotV_, kAndV_bl, kOrV_bl, kNotV_bl, mSl_, mPart_, kPart_, mNoPart_, sSeq_, sSet_, sRet_, sIf_, sExpr_, sNil_, sBreak_, sCont_, e_lt, e_le, e_gt, e_ge, e_eqI, e_neI, e_eqS, e_neS, e_add, e_sub, List.set_cons_zero, List.set_cons_succ, kTu1, kTu2, kTu3, kTu4, kTu5, kLs0, kLs1, kLs2, kLs3, kLs4, kLs5, mM_, mM0_, sAsg_, sFor_, iRng_, iSeq_, check_arr_bad h hb] <;> rfl
theorem runs_bad : M_runs_of [d] S = .ex (exBA 0) S := by
  unfold M_runs_of mFn B_runs_of
  simp only [List.length_cons, List.length_nil, Nat.reduceAdd, if_true, List.map_cons, List.map_nil, List.replicate, List.cons_append, List.nil_append, Nat.reduceSub, Nat.sub_self]
  simp only [bind_ok, bind_ex, of_some, rs_ok, rs_ex, then_nx, then_rt, then_ex, then_bk, then_ct, mV0, mVs, mC_, m2_, m1_, mB_, kB_bl, mB1_, mNil_, mCons_, f1L_, f2L_, mTup_, mLst_, mCall_, mNotT_, mAndT_, mOrT_, mIf_, mAndV_, mOrV_, mNotV_, kAndV_bl, kOrV_bl, kNotV_bl, mSl_, mPart_, kPart_, mNoPart_, sSeq_, sSet_, sRet_, sIf_, sExpr_, sNil_, sBreak_, sCont_, e_lt, e_le, e_gt, e_ge, e_eqI, e_neI, e_eqS, e_neS, e_add, e_sub, List.set_cons_zero, List.set_cons_succ, kTu1, kTu2, kTu3, kTu4, kTu5, kLs0, kLs1, kLs2, kLs3, kLs4, kLs5, mM_, mM0_, sAsg_, sFor_, iRng_, iSeq_, check_arr_bad h hb] <;> rfl
theorem length_bad : M_length_of [d] S = .ex (exBA 0) S := by
  unfold M_length_of mFn B_length_of
  simp only [List.length_cons, List.length_nil, Nat.reduceAdd, if_true, List.map_cons, List.map_nil, List.replicate, List.cons_append, List.nil_append, Nat.reduceSub, Nat.sub_self]
  simp only [bind_ok, bind_ex, of_some, rs_ok, rs_ex, then_nx, then_rt, then_ex, then_bk, then_ct, mV0, mVs, mC_, m2_, m1_, mB_, kB_bl, mB1_, mNil_, mCons_, f1L_, f2L_, mTup_, mLst_, mCall_, mNotT_, mAndT_, mOrT_, mIf_, mAndV_, mOrV_, mNotV_, kAndV_bl, kOrV_bl, kNotV_bl, mSl_, mPart_, kPart_, mNoPart_, sSeq_, sSet_, sRet_, sIf_, sExpr_, sNil_, sBreak_, sCont_, e_lt, e_le, e_gt, e_ge, e_eqI, e_neI, e_eqS, e_neS, e_add, e_sub, List.set_cons_zero, List.set_cons_succ, kTu1, kTu2, kTu3, kTu4, kTu5, kLs0, kLs1, kLs2, kLs3, kLs4, kLs5, mM_, mM0_, sAsg_, sFor_, iRng_, iSeq_, check_arr_bad h hb] <;> rfl
theorem cells_bad : M_cells_of [d] S = .ex (exBA 0) S := by
  unfold M_cells_of mFn B_cells_of
  simp only [List.length_cons, List.length_nil, Nat.reduceAdd, if_true, List.map_cons, List.map_nil, List.replicate, List.cons_append, List.nil_append, Nat.reduceSub, Nat.sub_self]
  simp only [bind_ok, bind_ex, of_some, rs_ok, rs_ex, then_nx, then_rt, then_ex, then_bk, then_ct, mV0, mVs, mC_, m2_, m1_, mB_, kB_bl, mB1_, mNil_, mCons_, f1L_, f2L_, mTup_, mLst_, mCall_, mNotT_, mAndT_, mOrT_, mIf_, mAndV_, mOrV_, mNotV_, kAndV_bl, kOrV_bl, kNotV_bl, mSl_, mPart_, kPart_, mNoPart_, sSeq_, sSet_, sRet_, sIf_, sExpr_, sNil_, sBreak_, sCont_, e_lt, e_le, e_gt, e_ge, e_eqI, e_neI, e_eqS, e_neS, e_add, e_sub, List.set_cons_zero, List.set_cons_succ, kTu1, kTu2, kTu3, kTu4, kTu5, kLs0, kLs1, kLs2, kLs3, kLs4, kLs5, mM_, mM0_, sAsg_, sFor_, iRng_, iSeq_, check_arr_bad h hb] <;> rfl
theorem same_bad0 {e : D} : M_same_arrays [d, e] S = .ex (exBA 0) S := by
  unfold M_same_arrays mFn B_same_arrays
  simp only [List.length_cons, List.length_nil, Nat.reduceAdd, if_true, List.map_cons, List.map_nil, List.replicate, List.cons_append, List.nil_append, Nat.reduceSub, Nat.sub_self]
  simp only [bind_ok, bind_ex, of_some, rs_ok, rs_ex, then_nx, then_rt, then_ex, then_bk, then_ct, mV0, mVs, mC_, m2_, m1_, mB_, kB_bl, mB1_, mNil_, mCons_, f1L_, f2L_, mTup_, mLst_, mCall_, mNotT_, mAndT_, mOrT_, mIf_, mAndV_, mOrV_, mNotV_, kAndV_bl, kOrV_bl, kNotV_bl, mSl_, mPart_, kPart_, mNoPart_, sSeq_, sSet_, sRet_, sIf_, sExpr_, sNil_, sBreak_, sCont_, e_lt, e_le, e_gt, e_ge, e_eqI, e_neI, e_eqS, e_neS, e_add, e_sub, List.set_cons_zero, List.set_cons_succ, kTu1, kTu2, kTu3, kTu4, kTu5, kLs0, kLs1, kLs2, kLs3, kLs4, kLs5, mM_, mM0_, sAsg_, sFor_, iRng_, iSeq_, check_arr_bad h hb] <;> rfl
theorem same_bad1 {n : Int} {r : Row} (hc : Canon n r) : M_same_arrays [aD n r, d] S = .ex (exBA 1) S := by
  unfold M_same_arrays mFn B_same_arrays
  simp only [List.length_cons, List.length_nil, Nat.reduceAdd, if_true, List.map_cons, List.map_nil, List.replicate, List.cons_append, List.nil_append, Nat.reduceSub, Nat.sub_self]
  simp only [bind_ok, bind_ex, of_some, rs_ok, rs_ex, then_nx, then_rt, then_ex, then_bk, then_ct, mV0, mVs, mC_, m2_, m1_, mB_, kB_bl, mB1_, mNil_, mCons_, f1L_, f2L_, mTup_, mLst_, mCall_, mNotT_, mAndT_, mOrT_, mIf_, mAndV_, mOrV_, mNotV_, kAndV_bl, kOrV_bl, kNotV_bl, mSl_, mPart_, kPart_, mNoPart_, sSeq_, sSet_, sRet_, sIf_, sExpr_, sNil_, sBreak_, sCont_, e_lt, e_le, e_gt, e_ge, e_eqI, e_neI, e_eqS, e_neS, e_add, e_sub, List.set_cons_zero, List.set_cons_succ, kTu1, kTu2, kTu3, kTu4, kTu5, kLs0, kLs1, kLs2, kLs3, kLs4, kLs5, mM_, mM0_, sAsg_, sFor_, iRng_, iSeq_, check_arr hc, check_arr_bad h hb] <;> rfl
end
section
variable {S : Sto} {n : Int} {r : Row} (hc : Canon n r)
include hc
theorem cell_bad1 {d : D} (h : Ty S d) (hb : isI d = false) : M_cell_of [aD n r, d] S = .ex (exBA 1) S := by
  unfold M_cell_of mFn B_cell_of
  simp only [List.length_cons, List.length_nil, Nat.reduceAdd, if_true, List.map_cons, List.map_nil, List.replicate, List.cons_append, List.nil_append, Nat.reduceSub, Nat.sub_self]
  simp only [bind_ok, bind_ex, of_some, rs_ok, rs_ex, then_nx, then_rt, then_ex, then_bk, then_ct, mV0, mVs, mC_, m2_, m1_, mB_, kB_bl, mB1_, mNil_, mCons_, f1L_, f2L_, mTup_, mLst_, mCall_, mNotT_, mAndT_, mOrT_, mIf_, mAndV_, mOrV_, mNotV_, kAndV_bl, kOrV_bl, kNotV_bl, mSl_, mPart_, kPart_, mNoPart_, sSeq_, sSet_, sRet_, sIf_, sExpr_, sNil_, sBreak_, sCont_, e_lt, e_le, e_gt, e_ge, e_eqI, e_neI, e_eqS, e_neS, e_add, e_sub, List.set_cons_zero, List.set_cons_succ, kTu1, kTu2, kTu3, kTu4, kTu5, kLs0, kLs1, kLs2, kLs3, kLs4, kLs5, mM_, mM0_, sAsg_, sFor_, iRng_, iSeq_, check_arr hc, check_whole_bad h hb] <;> rfl
theorem put_bad1 {d e : D} (h : Ty S d) (hb : isI d = false) : M_put_cell [aD n r, d, e] S = .ex (exBA 1) S := by
  unfold M_put_cell mFn B_put_cell
  simp only [List.length_cons, List.length_nil, Nat.reduceAdd, if_true, List.map_cons, List.map_nil, List.replicate, List.cons_append, List.nil_append, Nat.reduceSub, Nat.sub_self]
  simp only [bind_ok, bind_ex, of_some, rs_ok, rs_ex, then_nx, then_rt, then_ex, then_bk, then_ct, mV0, mVs, mC_, m2_, m1_, mB_, kB_bl, mB1_, mNil_, mCons_, f1L_, f2L_, mTup_, mLst_, mCall_, mNotT_, mAndT_, mOrT_, mIf_, mAndV_, mOrV_, mNotV_, kAndV_bl, kOrV_bl, kNotV_bl, mSl_, mPart_, kPart_, mNoPart_, sSeq_, sSet_, sRet_, sIf_, sExpr_, sNil_, sBreak_, sCont_, e_lt, e_le, e_gt, e_ge, e_eqI, e_neI, e_eqS, e_neS, e_add, e_sub, List.set_cons_zero, List.set_cons_succ, kTu1, kTu2, kTu3, kTu4, kTu5, kLs0, kLs1, kLs2, kLs3, kLs4, kLs5, mM_, mM0_, sAsg_, sFor_, iRng_, iSeq_, check_arr hc, check_whole_bad h hb] <;> rfl
theorem put_bad2 {d : D} {k : Int} (h : Ty S d) (hb : isI d = false) : M_put_cell [aD n r, .int k, d] S = .ex (exBA 2) S := by
  unfold M_put_cell mFn B_put_cell
  simp only [List.length_cons, List.length_nil, Nat.reduceAdd, if_true, List.map_cons, List.map_nil, List.replicate, List.cons_append, List.nil_append, Nat.reduceSub, Nat.sub_self]
  simp only [bind_ok, bind_ex, of_some, rs_ok, rs_ex, then_nx, then_rt, then_ex, then_bk, then_ct, mV0, mVs, mC_, m2_, m1_, mB_, kB_bl, mB1_, mNil_, mCons_, f1L_, f2L_, mTup_, mLst_, mCall_, mNotT_, mAndT_, mOrT_, mIf_, mAndV_, mOrV_, mNotV_, kAndV_bl, kOrV_bl, kNotV_bl, mSl_, mPart_, kPart_, mNoPart_, sSeq_, sSet_, sRet_, sIf_, sExpr_, sNil_, sBreak_, sCont_, e_lt, e_le, e_gt, e_ge, e_eqI, e_neI, e_eqS, e_neS, e_add, e_sub, List.set_cons_zero, List.set_cons_succ, kTu1, kTu2, kTu3, kTu4, kTu5, kLs0, kLs1, kLs2, kLs3, kLs4, kLs5, mM_, mM0_, sAsg_, sFor_, iRng_, iSeq_, check_arr hc, check_whole, check_whole_bad h hb] <;> rfl
theorem cells_many (hn : 10000 < n) : M_cells_of [aD n r] S = .ex (exBA 0) S := by
  have d1 : decide ((10000 : Int) < n) = true := decide_eq_true hn
  have e0 : fIx (aD n r) (.int 0) S = some (.int n, S) := e_t0
  unfold M_cells_of mFn B_cells_of
  simp only [List.length_cons, List.length_nil, Nat.reduceAdd, if_true, List.map_cons, List.map_nil, List.replicate, List.cons_append, List.nil_append, Nat.reduceSub, Nat.sub_self]
  simp only [bind_ok, bind_ex, of_some, rs_ok, rs_ex, then_nx, then_rt, then_ex, then_bk, then_ct, mV0, mVs, mC_, m2_, m1_, mB_, kB_bl, mB1_, mNil_, mCons_, f1L_, f2L_, mTup_, mLst_, mCall_, mNotT_, mAndT_, mOrT_, mIf_, mAndV_, mOrV_, mNotV_, kAndV_bl, kOrV_bl, kNotV_bl, mSl_, mPart_, kPart_, mNoPart_, sSeq_, sSet_, sRet_, sIf_, sExpr_, sNil_, sBreak_, sCont_, e_lt, e_le, e_gt, e_ge, e_eqI, e_neI, e_eqS, e_neS, e_add, e_sub, List.set_cons_zero, List.set_cons_succ, kTu1, kTu2, kTu3, kTu4, kTu5, kLs0, kLs1, kLs2, kLs3, kLs4, kLs5, mM_, mM0_, sAsg_, sFor_, iRng_, iSeq_, check_arr hc, e0, d_MOST_CELLS, d1, if_true] <;> rfl
end
end K07

namespace K07
open PySem PySem.Spec L2 Mi
/-! ### the law's own words of refusals -/
def wIf (k : Int) (s t : MS) : MS := sIf (mB (m2 fEq (mV 0) (mC (.int k)))) s t
theorem wIf_no {i k : Int} {s t : MS} {r : Mi.Env} {S : Sto} (h : i ≠ k) : wIf k s t (some (.int i) :: r) S = t (some (.int i) :: r) S := by
  have d1 : decide (i = k) = false := decide_eq_false h
  unfold wIf
  simp only [bind_ok, bind_ex, of_some, rs_ok, rs_ex, then_nx, then_rt, then_ex, then_bk, then_ct, mV0, mVs, mC_, m2_, m1_, mB_, kB_bl, mB1_, mNil_, mCons_, f1L_, f2L_, mTup_, mLst_, mCall_, mNotT_, mAndT_, mOrT_, mIf_, mAndV_, mOrV_, mNotV_, kAndV_bl, kOrV_bl, kNotV_bl, mSl_, mPart_, kPart_, mNoPart_, sSeq_, sSet_, sRet_, sIf_, sExpr_, sNil_, sBreak_, sCont_, e_lt, e_le, e_gt, e_ge, e_eqI, e_neI, e_eqS, e_neS, e_add, e_sub, List.set_cons_zero, List.set_cons_succ, kTu1, kTu2, kTu3, kTu4, kTu5, kLs0, kLs1, kLs2, kLs3, kLs4, kLs5, mM_, mM0_, sAsg_, sFor_, iRng_, iSeq_, d1, Bool.false_eq_true, if_false]
theorem wIf_yes {k : Int} {s t : MS} {r : Mi.Env} {S : Sto} : wIf k s t (some (.int k) :: r) S = s (some (.int k) :: r) S := by
  unfold wIf
  simp only [bind_ok, bind_ex, of_some, rs_ok, rs_ex, then_nx, then_rt, then_ex, then_bk, then_ct, mV0, mVs, mC_, m2_, m1_, mB_, kB_bl, mB1_, mNil_, mCons_, f1L_, f2L_, mTup_, mLst_, mCall_, mNotT_, mAndT_, mOrT_, mIf_, mAndV_, mOrV_, mNotV_, kAndV_bl, kOrV_bl, kNotV_bl, mSl_, mPart_, kPart_, mNoPart_, sSeq_, sSet_, sRet_, sIf_, sExpr_, sNil_, sBreak_, sCont_, e_lt, e_le, e_gt, e_ge, e_eqI, e_neI, e_eqS, e_neS, e_add, e_sub, List.set_cons_zero, List.set_cons_succ, kTu1, kTu2, kTu3, kTu4, kTu5, kLs0, kLs1, kLs2, kLs3, kLs4, kLs5, mM_, mM0_, sAsg_, sFor_, iRng_, iSeq_, decide_true, if_true]
def C0 : MS := (sExpr (mCall M_fresh_array (mCons (m2 fSub (mC (.int 0)) (mC (.int 1))) mNil)))
def C1 : MS := (sExpr (mCall M_fresh_array (mCons (mC (.bl true)) mNil)))
def C2 : MS := (sExpr (mCall M_array_of (mCons (mLst (mCons (mC (.int 1)) (mCons (mC (.bl true)) mNil))) mNil)))
def C3 : MS := (sExpr (mCall M_array_of (mCons (mC (.str "12")) mNil)))
def C4 : MS := (sExpr (mCall M_from_points (mCons (m2 fSub (mC (.int 0)) (mC (.int 1))) (mCons (mC (.int 7)) mNil))))
def C5 : MS := (sExpr (mCall M_from_points (mCons (mC (.int 3)) (mCons (mC (.int 7)) mNil))))
def C6 : MS := (sExpr (mCall M_from_points (mCons (mC (.int 3)) (mCons (mLst (mCons (mTup (mCons (mC (.int 2)) (mCons (mC (.int 1)) mNil))) (mCons (mTup (mCons (mC (.int 1)) (mCons (mC (.int 1)) mNil))) mNil))) mNil))))
def C7 : MS := (sExpr (mCall M_from_points (mCons (mC (.int 3)) (mCons (mLst (mCons (mTup (mCons (mC (.int 1)) (mCons (mC (.int 2)) (mCons (mC (.int 3)) mNil)))) mNil)) mNil))))
def C8 : MS := (sExpr (mCall M_cell_of (mCons (mV 2) (mCons (mC .non) mNil))))
def C9 : MS := (sExpr (mCall M_cell_of (mCons (mV 1) (mCons (mC (.bl true)) mNil))))
def C10 : MS := (sExpr (mCall M_put_cell (mCons (mV 1) (mCons (mC (.int 0)) (mCons (mC .non) mNil)))))
def C11 : MS := (sExpr (mCall M_put_cell (mCons (mV 1) (mCons (mC (.str "0")) (mCons (mC .non) mNil)))))
def C12 : MS := (sExpr (mCall M_put_cell (mCons (mV 2) (mCons (mC (.str "0")) (mCons (mC (.int 1)) mNil)))))
def C13 : MS := (sExpr (mCall M_runs_of (mCons (mV 2) mNil)))
def C14 : MS := (sExpr (mCall M_length_of (mCons (mV 2) mNil)))
def C15 : MS := (sExpr (mCall M_cells_of (mCons (mV 2) mNil)))
def C16 : MS := (sExpr (mCall M_same_arrays (mCons (mV 1) (mCons (mV 2) mNil))))
def C17 : MS := (sExpr (mCall M_same_arrays (mCons (mV 2) (mCons (mV 2) mNil))))
def C18 : MS := (sExpr (mCall M_cells_of (mCons (mTup (mCons (mC (.int 10001)) (mCons (mTup (mCons (mTup (mCons (mC (.int 0)) (mCons (mC (.int 5)) mNil))) mNil)) mNil))) mNil)))
def RfT : MS := (wIf 0 C0 (wIf 1 C1 (wIf 2 C2 (wIf 3 C3 (wIf 4 C4 (wIf 5 C5 (wIf 6 C6 (wIf 7 C7 (wIf 8 C8 (wIf 9 C9 (wIf 10 C10 (wIf 11 C11 (wIf 12 C12 (wIf 13 C13 (wIf 14 C14 (wIf 15 C15 (wIf 16 C16 (wIf 17 C17 C18))))))))))))))))))
def RfB : MS := sTryAs RfT 4 sub_BadArguments (xSet 3 (fun en => if en.cls ∈ xl_number then en.fs.lookup ("number" : Str) else none))
theorem refused_eq : B__law_refused = sSeq (sSet 3 (mC .non)) (sSeq RfB (sRet (mV 3))) := (rfl)
theorem refused_of {S S' : Sto} {i k : Int} {a d : D} (h : RfT [some (.int i), some a, some d, some .non, none] S = .ex (exBA k) [some (.int i), some a, some d, some .non, none] S') : M__law_refused [.int i, a, d] S = .ok (.int k) S' := by
  have h1 : sub_BadArguments "BadArguments" = some true := by decide +kernel
  have h2 : ("BadArguments" : Str) ∈ xl_number := by unfold xl_number; simp
  have s0 : (sSet 3 (mC .non)) [some (.int i), some a, some d, none, none] S = .nx [some (.int i), some a, some d, some .non, none] S := rfl
  have s1 : RfB [some (.int i), some a, some d, some .non, none] S = .nx [some (.int i), some a, some d, some (.int k), none] S' := by
    unfold RfB sTryAs
    simp only [h, h1]
    simp only [xSet, h2, if_true, List.lookup, beq_self_eq_true, unsetEnd, List.set_cons_zero, List.set_cons_succ, Option.bind_some, Option.map_some] <;> rfl
  have s2 : (sRet (mV 3)) [some (.int i), some a, some d, some (.int k), none] S' = .rt (.int k) S' := rfl
  unfold M__law_refused mFn
  simp only [List.length_cons, List.length_nil, Nat.reduceAdd, if_true, List.map_cons, List.map_nil, List.replicate, List.cons_append, List.nil_append, Nat.reduceSub, Nat.sub_self]
  rw [refused_eq, sSeq_, s0, then_nx, sSeq_, s1, then_nx, s2] <;> rfl
section
variable {S : Sto} {n : Int} {r : Row} {d : D} (hc : Canon n r) (h : ∀ X : Sto, Ty3 (S ++ X) d) (hb : isArrB d = false)
include hc h hb
theorem h0 : Ty3 S d := by have := h []; rwa [List.append_nil] at this
theorem w0 : ∃ X : Sto, M__law_refused [.int 0, aD n r, d] S = .ok (.int 0) (S ++ X) := by
  refine ⟨[], ?_⟩
  rw [List.append_nil]
  refine refused_of ?_
  unfold RfT
  rw [wIf_yes]
  have e := fresh_neg (S := S) (show ((0 : Int) - 1) < 0 by decide)
  unfold C0
  simp only [bind_ok, bind_ex, of_some, rs_ok, rs_ex, then_nx, then_rt, then_ex, then_bk, then_ct, mV0, mVs, mC_, m2_, m1_, mB_, kB_bl, mB1_, mNil_, mCons_, f1L_, f2L_, mTup_, mLst_, mCall_, mNotT_, mAndT_, mOrT_, mIf_, mAndV_, mOrV_, mNotV_, kAndV_bl, kOrV_bl, kNotV_bl, mSl_, mPart_, kPart_, mNoPart_, sSeq_, sSet_, sRet_, sIf_, sExpr_, sNil_, sBreak_, sCont_, e_lt, e_le, e_gt, e_ge, e_eqI, e_neI, e_eqS, e_neS, e_add, e_sub, List.set_cons_zero, List.set_cons_succ, kTu1, kTu2, kTu3, kTu4, kTu5, kLs0, kLs1, kLs2, kLs3, kLs4, kLs5, mM_, mM0_, sAsg_, sFor_, iRng_, iSeq_, e] <;> rfl
theorem w1 : ∃ X : Sto, M__law_refused [.int 1, aD n r, d] S = .ok (.int 0) (S ++ X) := by
  refine ⟨[], ?_⟩
  rw [List.append_nil]
  refine refused_of ?_
  unfold RfT
  rw [wIf_no (by decide), wIf_yes]
  have e := fresh_bl (S := S)
  unfold C1
  simp only [bind_ok, bind_ex, of_some, rs_ok, rs_ex, then_nx, then_rt, then_ex, then_bk, then_ct, mV0, mVs, mC_, m2_, m1_, mB_, kB_bl, mB1_, mNil_, mCons_, f1L_, f2L_, mTup_, mLst_, mCall_, mNotT_, mAndT_, mOrT_, mIf_, mAndV_, mOrV_, mNotV_, kAndV_bl, kOrV_bl, kNotV_bl, mSl_, mPart_, kPart_, mNoPart_, sSeq_, sSet_, sRet_, sIf_, sExpr_, sNil_, sBreak_, sCont_, e_lt, e_le, e_gt, e_ge, e_eqI, e_neI, e_eqS, e_neS, e_add, e_sub, List.set_cons_zero, List.set_cons_succ, kTu1, kTu2, kTu3, kTu4, kTu5, kLs0, kLs1, kLs2, kLs3, kLs4, kLs5, mM_, mM0_, sAsg_, sFor_, iRng_, iSeq_, e] <;> rfl
theorem w2 : ∃ X : Sto, M__law_refused [.int 2, aD n r, d] S = .ok (.int 0) (S ++ X) := by
  obtain ⟨X, e⟩ := array_bad (S := S ++ [.lst [.int 1, .bl true]]) (d := .obj S.length) (es := [.int 1, .bl true]) (.inr ⟨_, rfl, last0⟩) (fun T e he => by
    simp only [List.mem_cons, List.not_mem_nil, or_false] at he
    rcases he with rfl | rfl
    · exact ty_int
    · exact ty_bl) rfl (by simp)
  refine ⟨[.lst [.int 1, .bl true]] ++ X, ?_⟩
  rw [← List.append_assoc]
  refine refused_of ?_
  unfold RfT
  rw [wIf_no (by decide), wIf_no (by decide), wIf_yes]
  unfold C2
  simp only [bind_ok, bind_ex, of_some, rs_ok, rs_ex, then_nx, then_rt, then_ex, then_bk, then_ct, mV0, mVs, mC_, m2_, m1_, mB_, kB_bl, mB1_, mNil_, mCons_, f1L_, f2L_, mTup_, mLst_, mCall_, mNotT_, mAndT_, mOrT_, mIf_, mAndV_, mOrV_, mNotV_, kAndV_bl, kOrV_bl, kNotV_bl, mSl_, mPart_, kPart_, mNoPart_, sSeq_, sSet_, sRet_, sIf_, sExpr_, sNil_, sBreak_, sCont_, e_lt, e_le, e_gt, e_ge, e_eqI, e_neI, e_eqS, e_neS, e_add, e_sub, List.set_cons_zero, List.set_cons_succ, kTu1, kTu2, kTu3, kTu4, kTu5, kLs0, kLs1, kLs2, kLs3, kLs4, kLs5, mM_, mM0_, sAsg_, sFor_, iRng_, iSeq_, e] <;> rfl
theorem w3 : ∃ X : Sto, M__law_refused [.int 3, aD n r, d] S = .ok (.int 0) (S ++ X) := by
  refine ⟨[], ?_⟩
  rw [List.append_nil]
  refine refused_of ?_
  unfold RfT
  rw [wIf_no (by decide), wIf_no (by decide), wIf_no (by decide), wIf_yes]
  have e := array_str (S := S) (z := "12")
  unfold C3
  simp only [bind_ok, bind_ex, of_some, rs_ok, rs_ex, then_nx, then_rt, then_ex, then_bk, then_ct, mV0, mVs, mC_, m2_, m1_, mB_, kB_bl, mB1_, mNil_, mCons_, f1L_, f2L_, mTup_, mLst_, mCall_, mNotT_, mAndT_, mOrT_, mIf_, mAndV_, mOrV_, mNotV_, kAndV_bl, kOrV_bl, kNotV_bl, mSl_, mPart_, kPart_, mNoPart_, sSeq_, sSet_, sRet_, sIf_, sExpr_, sNil_, sBreak_, sCont_, e_lt, e_le, e_gt, e_ge, e_eqI, e_neI, e_eqS, e_neS, e_add, e_sub, List.set_cons_zero, List.set_cons_succ, kTu1, kTu2, kTu3, kTu4, kTu5, kLs0, kLs1, kLs2, kLs3, kLs4, kLs5, mM_, mM0_, sAsg_, sFor_, iRng_, iSeq_, e] <;> rfl
theorem w4 : ∃ X : Sto, M__law_refused [.int 4, aD n r, d] S = .ok (.int 0) (S ++ X) := by
  refine ⟨[], ?_⟩
  rw [List.append_nil]
  refine refused_of ?_
  unfold RfT
  rw [wIf_no (by decide), wIf_no (by decide), wIf_no (by decide), wIf_no (by decide), wIf_yes]
  have e := points_neg (S := S) (d := .int 7) (show ((0 : Int) - 1) < 0 by decide)
  unfold C4
  simp only [bind_ok, bind_ex, of_some, rs_ok, rs_ex, then_nx, then_rt, then_ex, then_bk, then_ct, mV0, mVs, mC_, m2_, m1_, mB_, kB_bl, mB1_, mNil_, mCons_, f1L_, f2L_, mTup_, mLst_, mCall_, mNotT_, mAndT_, mOrT_, mIf_, mAndV_, mOrV_, mNotV_, kAndV_bl, kOrV_bl, kNotV_bl, mSl_, mPart_, kPart_, mNoPart_, sSeq_, sSet_, sRet_, sIf_, sExpr_, sNil_, sBreak_, sCont_, e_lt, e_le, e_gt, e_ge, e_eqI, e_neI, e_eqS, e_neS, e_add, e_sub, List.set_cons_zero, List.set_cons_succ, kTu1, kTu2, kTu3, kTu4, kTu5, kLs0, kLs1, kLs2, kLs3, kLs4, kLs5, mM_, mM0_, sAsg_, sFor_, iRng_, iSeq_, e] <;> rfl
theorem w5 : ∃ X : Sto, M__law_refused [.int 5, aD n r, d] S = .ok (.int 1) (S ++ X) := by
  refine ⟨[], ?_⟩
  rw [List.append_nil]
  refine refused_of ?_
  unfold RfT
  rw [wIf_no (by decide), wIf_no (by decide), wIf_no (by decide), wIf_no (by decide), wIf_no (by decide), wIf_yes]
  have e := points_int (S := S) (k := 7) (show (0 : Int) ≤ 3 by decide)
  unfold C5
  simp only [bind_ok, bind_ex, of_some, rs_ok, rs_ex, then_nx, then_rt, then_ex, then_bk, then_ct, mV0, mVs, mC_, m2_, m1_, mB_, kB_bl, mB1_, mNil_, mCons_, f1L_, f2L_, mTup_, mLst_, mCall_, mNotT_, mAndT_, mOrT_, mIf_, mAndV_, mOrV_, mNotV_, kAndV_bl, kOrV_bl, kNotV_bl, mSl_, mPart_, kPart_, mNoPart_, sSeq_, sSet_, sRet_, sIf_, sExpr_, sNil_, sBreak_, sCont_, e_lt, e_le, e_gt, e_ge, e_eqI, e_neI, e_eqS, e_neS, e_add, e_sub, List.set_cons_zero, List.set_cons_succ, kTu1, kTu2, kTu3, kTu4, kTu5, kLs0, kLs1, kLs2, kLs3, kLs4, kLs5, mM_, mM0_, sAsg_, sFor_, iRng_, iSeq_, e] <;> rfl
theorem w6 : ∃ X : Sto, M__law_refused [.int 6, aD n r, d] S = .ok (.int 1) (S ++ X) := by
  obtain ⟨X, e⟩ := points_desc (S := S ++ [.lst [prD (2, 1), prD (1, 1)]]) (n := 3) (by decide) last0
  have e' : M_from_points [.int 3, .obj S.length] (S ++ [.lst [.tup [.int 2, .int 1], .tup [.int 1, .int 1]]]) = .ex (exBA 1) (S ++ [.lst [prD (2, 1), prD (1, 1)]] ++ X) := e
  refine ⟨[.lst [prD (2, 1), prD (1, 1)]] ++ X, ?_⟩
  rw [← List.append_assoc]
  refine refused_of ?_
  unfold RfT
  rw [wIf_no (by decide), wIf_no (by decide), wIf_no (by decide), wIf_no (by decide), wIf_no (by decide), wIf_no (by decide), wIf_yes]
  unfold C6
  simp only [bind_ok, bind_ex, of_some, rs_ok, rs_ex, then_nx, then_rt, then_ex, then_bk, then_ct, mV0, mVs, mC_, m2_, m1_, mB_, kB_bl, mB1_, mNil_, mCons_, f1L_, f2L_, mTup_, mLst_, mCall_, mNotT_, mAndT_, mOrT_, mIf_, mAndV_, mOrV_, mNotV_, kAndV_bl, kOrV_bl, kNotV_bl, mSl_, mPart_, kPart_, mNoPart_, sSeq_, sSet_, sRet_, sIf_, sExpr_, sNil_, sBreak_, sCont_, e_lt, e_le, e_gt, e_ge, e_eqI, e_neI, e_eqS, e_neS, e_add, e_sub, List.set_cons_zero, List.set_cons_succ, kTu1, kTu2, kTu3, kTu4, kTu5, kLs0, kLs1, kLs2, kLs3, kLs4, kLs5, mM_, mM0_, sAsg_, sFor_, iRng_, iSeq_, e'] <;> rfl
theorem w7 : ∃ X : Sto, M__law_refused [.int 7, aD n r, d] S = .ok (.int 1) (S ++ X) := by
  obtain ⟨X, e⟩ := points_bad (S := S ++ [.lst [.tup [.int 1, .int 2, .int 3]]]) (n := 3) (d := .obj S.length) (es := [.tup [.int 1, .int 2, .int 3]]) (f := fun _ => false) (by decide) (.inr ⟨_, rfl, last0⟩) (fun T e he => by
    rw [List.mem_singleton.mp he]
    exact whole_pair (es := [.int 1, .int 2, .int 3]) seq_tup (fun e he => by
      simp only [List.mem_cons, List.not_mem_nil, or_false] at he
      rcases he with rfl | rfl | rfl <;> exact ty_int)) (by simp) rfl
  refine ⟨[.lst [.tup [.int 1, .int 2, .int 3]]] ++ X, ?_⟩
  rw [← List.append_assoc]
  refine refused_of ?_
  unfold RfT
  rw [wIf_no (by decide), wIf_no (by decide), wIf_no (by decide), wIf_no (by decide), wIf_no (by decide), wIf_no (by decide), wIf_no (by decide), wIf_yes]
  unfold C7
  simp only [bind_ok, bind_ex, of_some, rs_ok, rs_ex, then_nx, then_rt, then_ex, then_bk, then_ct, mV0, mVs, mC_, m2_, m1_, mB_, kB_bl, mB1_, mNil_, mCons_, f1L_, f2L_, mTup_, mLst_, mCall_, mNotT_, mAndT_, mOrT_, mIf_, mAndV_, mOrV_, mNotV_, kAndV_bl, kOrV_bl, kNotV_bl, mSl_, mPart_, kPart_, mNoPart_, sSeq_, sSet_, sRet_, sIf_, sExpr_, sNil_, sBreak_, sCont_, e_lt, e_le, e_gt, e_ge, e_eqI, e_neI, e_eqS, e_neS, e_add, e_sub, List.set_cons_zero, List.set_cons_succ, kTu1, kTu2, kTu3, kTu4, kTu5, kLs0, kLs1, kLs2, kLs3, kLs4, kLs5, mM_, mM0_, sAsg_, sFor_, iRng_, iSeq_, e] <;> rfl
theorem w8 : ∃ X : Sto, M__law_refused [.int 8, aD n r, d] S = .ok (.int 0) (S ++ X) := by
  refine ⟨[], ?_⟩
  rw [List.append_nil]
  refine refused_of ?_
  unfold RfT
  rw [wIf_no (by decide), wIf_no (by decide), wIf_no (by decide), wIf_no (by decide), wIf_no (by decide), wIf_no (by decide), wIf_no (by decide), wIf_no (by decide), wIf_yes]
  have e := cell_bad (h0 hc h hb) hb (e := .non)
  unfold C8
  simp only [bind_ok, bind_ex, of_some, rs_ok, rs_ex, then_nx, then_rt, then_ex, then_bk, then_ct, mV0, mVs, mC_, m2_, m1_, mB_, kB_bl, mB1_, mNil_, mCons_, f1L_, f2L_, mTup_, mLst_, mCall_, mNotT_, mAndT_, mOrT_, mIf_, mAndV_, mOrV_, mNotV_, kAndV_bl, kOrV_bl, kNotV_bl, mSl_, mPart_, kPart_, mNoPart_, sSeq_, sSet_, sRet_, sIf_, sExpr_, sNil_, sBreak_, sCont_, e_lt, e_le, e_gt, e_ge, e_eqI, e_neI, e_eqS, e_neS, e_add, e_sub, List.set_cons_zero, List.set_cons_succ, kTu1, kTu2, kTu3, kTu4, kTu5, kLs0, kLs1, kLs2, kLs3, kLs4, kLs5, mM_, mM0_, sAsg_, sFor_, iRng_, iSeq_, e] <;> rfl
theorem w9 : ∃ X : Sto, M__law_refused [.int 9, aD n r, d] S = .ok (.int 1) (S ++ X) := by
  refine ⟨[], ?_⟩
  rw [List.append_nil]
  refine refused_of ?_
  unfold RfT
  rw [wIf_no (by decide), wIf_no (by decide), wIf_no (by decide), wIf_no (by decide), wIf_no (by decide), wIf_no (by decide), wIf_no (by decide), wIf_no (by decide), wIf_no (by decide), wIf_yes]
  have e := cell_bad1 (S := S) (d := .bl true) hc ty_bl rfl
  unfold C9
  simp only [bind_ok, bind_ex, of_some, rs_ok, rs_ex, then_nx, then_rt, then_ex, then_bk, then_ct, mV0, mVs, mC_, m2_, m1_, mB_, kB_bl, mB1_, mNil_, mCons_, f1L_, f2L_, mTup_, mLst_, mCall_, mNotT_, mAndT_, mOrT_, mIf_, mAndV_, mOrV_, mNotV_, kAndV_bl, kOrV_bl, kNotV_bl, mSl_, mPart_, kPart_, mNoPart_, sSeq_, sSet_, sRet_, sIf_, sExpr_, sNil_, sBreak_, sCont_, e_lt, e_le, e_gt, e_ge, e_eqI, e_neI, e_eqS, e_neS, e_add, e_sub, List.set_cons_zero, List.set_cons_succ, kTu1, kTu2, kTu3, kTu4, kTu5, kLs0, kLs1, kLs2, kLs3, kLs4, kLs5, mM_, mM0_, sAsg_, sFor_, iRng_, iSeq_, e] <;> rfl
theorem w10 : ∃ X : Sto, M__law_refused [.int 10, aD n r, d] S = .ok (.int 2) (S ++ X) := by
  refine ⟨[], ?_⟩
  rw [List.append_nil]
  refine refused_of ?_
  unfold RfT
  rw [wIf_no (by decide), wIf_no (by decide), wIf_no (by decide), wIf_no (by decide), wIf_no (by decide), wIf_no (by decide), wIf_no (by decide), wIf_no (by decide), wIf_no (by decide), wIf_no (by decide), wIf_yes]
  have e := put_bad2 (S := S) (d := .non) (k := 0) hc ty_non rfl
  unfold C10
  simp only [bind_ok, bind_ex, of_some, rs_ok, rs_ex, then_nx, then_rt, then_ex, then_bk, then_ct, mV0, mVs, mC_, m2_, m1_, mB_, kB_bl, mB1_, mNil_, mCons_, f1L_, f2L_, mTup_, mLst_, mCall_, mNotT_, mAndT_, mOrT_, mIf_, mAndV_, mOrV_, mNotV_, kAndV_bl, kOrV_bl, kNotV_bl, mSl_, mPart_, kPart_, mNoPart_, sSeq_, sSet_, sRet_, sIf_, sExpr_, sNil_, sBreak_, sCont_, e_lt, e_le, e_gt, e_ge, e_eqI, e_neI, e_eqS, e_neS, e_add, e_sub, List.set_cons_zero, List.set_cons_succ, kTu1, kTu2, kTu3, kTu4, kTu5, kLs0, kLs1, kLs2, kLs3, kLs4, kLs5, mM_, mM0_, sAsg_, sFor_, iRng_, iSeq_, e] <;> rfl
theorem w11 : ∃ X : Sto, M__law_refused [.int 11, aD n r, d] S = .ok (.int 1) (S ++ X) := by
  refine ⟨[], ?_⟩
  rw [List.append_nil]
  refine refused_of ?_
  unfold RfT
  rw [wIf_no (by decide), wIf_no (by decide), wIf_no (by decide), wIf_no (by decide), wIf_no (by decide), wIf_no (by decide), wIf_no (by decide), wIf_no (by decide), wIf_no (by decide), wIf_no (by decide), wIf_no (by decide), wIf_yes]
  have e := put_bad1 (S := S) (d := .str "0") (e := .non) hc ty_str rfl
  unfold C11
  simp only [bind_ok, bind_ex, of_some, rs_ok, rs_ex, then_nx, then_rt, then_ex, then_bk, then_ct, mV0, mVs, mC_, m2_, m1_, mB_, kB_bl, mB1_, mNil_, mCons_, f1L_, f2L_, mTup_, mLst_, mCall_, mNotT_, mAndT_, mOrT_, mIf_, mAndV_, mOrV_, mNotV_, kAndV_bl, kOrV_bl, kNotV_bl, mSl_, mPart_, kPart_, mNoPart_, sSeq_, sSet_, sRet_, sIf_, sExpr_, sNil_, sBreak_, sCont_, e_lt, e_le, e_gt, e_ge, e_eqI, e_neI, e_eqS, e_neS, e_add, e_sub, List.set_cons_zero, List.set_cons_succ, kTu1, kTu2, kTu3, kTu4, kTu5, kLs0, kLs1, kLs2, kLs3, kLs4, kLs5, mM_, mM0_, sAsg_, sFor_, iRng_, iSeq_, e] <;> rfl
theorem w12 : ∃ X : Sto, M__law_refused [.int 12, aD n r, d] S = .ok (.int 0) (S ++ X) := by
  refine ⟨[], ?_⟩
  rw [List.append_nil]
  refine refused_of ?_
  unfold RfT
  rw [wIf_no (by decide), wIf_no (by decide), wIf_no (by decide), wIf_no (by decide), wIf_no (by decide), wIf_no (by decide), wIf_no (by decide), wIf_no (by decide), wIf_no (by decide), wIf_no (by decide), wIf_no (by decide), wIf_no (by decide), wIf_yes]
  have e := put_bad (h0 hc h hb) hb (e := .str "0") (f := .int 1)
  unfold C12
  simp only [bind_ok, bind_ex, of_some, rs_ok, rs_ex, then_nx, then_rt, then_ex, then_bk, then_ct, mV0, mVs, mC_, m2_, m1_, mB_, kB_bl, mB1_, mNil_, mCons_, f1L_, f2L_, mTup_, mLst_, mCall_, mNotT_, mAndT_, mOrT_, mIf_, mAndV_, mOrV_, mNotV_, kAndV_bl, kOrV_bl, kNotV_bl, mSl_, mPart_, kPart_, mNoPart_, sSeq_, sSet_, sRet_, sIf_, sExpr_, sNil_, sBreak_, sCont_, e_lt, e_le, e_gt, e_ge, e_eqI, e_neI, e_eqS, e_neS, e_add, e_sub, List.set_cons_zero, List.set_cons_succ, kTu1, kTu2, kTu3, kTu4, kTu5, kLs0, kLs1, kLs2, kLs3, kLs4, kLs5, mM_, mM0_, sAsg_, sFor_, iRng_, iSeq_, e] <;> rfl
theorem w13 : ∃ X : Sto, M__law_refused [.int 13, aD n r, d] S = .ok (.int 0) (S ++ X) := by
  refine ⟨[], ?_⟩
  rw [List.append_nil]
  refine refused_of ?_
  unfold RfT
  rw [wIf_no (by decide), wIf_no (by decide), wIf_no (by decide), wIf_no (by decide), wIf_no (by decide), wIf_no (by decide), wIf_no (by decide), wIf_no (by decide), wIf_no (by decide), wIf_no (by decide), wIf_no (by decide), wIf_no (by decide), wIf_no (by decide), wIf_yes]
  have e := runs_bad (h0 hc h hb) hb
  unfold C13
  simp only [bind_ok, bind_ex, of_some, rs_ok, rs_ex, then_nx, then_rt, then_ex, then_bk, then_ct, mV0, mVs, mC_, m2_, m1_, mB_, kB_bl, mB1_, mNil_, mCons_, f1L_, f2L_, mTup_, mLst_, mCall_, mNotT_, mAndT_, mOrT_, mIf_, mAndV_, mOrV_, mNotV_, kAndV_bl, kOrV_bl, kNotV_bl, mSl_, mPart_, kPart_, mNoPart_, sSeq_, sSet_, sRet_, sIf_, sExpr_, sNil_, sBreak_, sCont_, e_lt, e_le, e_gt, e_ge, e_eqI, e_neI, e_eqS, e_neS, e_add, e_sub, List.set_cons_zero, List.set_cons_succ, kTu1, kTu2, kTu3, kTu4, kTu5, kLs0, kLs1, kLs2, kLs3, kLs4, kLs5, mM_, mM0_, sAsg_, sFor_, iRng_, iSeq_, e] <;> rfl
theorem w14 : ∃ X : Sto, M__law_refused [.int 14, aD n r, d] S = .ok (.int 0) (S ++ X) := by
  refine ⟨[], ?_⟩
  rw [List.append_nil]
  refine refused_of ?_
  unfold RfT
  rw [wIf_no (by decide), wIf_no (by decide), wIf_no (by decide), wIf_no (by decide), wIf_no (by decide), wIf_no (by decide), wIf_no (by decide), wIf_no (by decide), wIf_no (by decide), wIf_no (by decide), wIf_no (by decide), wIf_no (by decide), wIf_no (by decide), wIf_no (by decide), wIf_yes]
  have e := length_bad (h0 hc h hb) hb
  unfold C14
  simp only [bind_ok, bind_ex, of_some, rs_ok, rs_ex, then_nx, then_rt, then_ex, then_bk, then_ct, mV0, mVs, mC_, m2_, m1_, mB_, kB_bl, mB1_, mNil_, mCons_, f1L_, f2L_, mTup_, mLst_, mCall_, mNotT_, mAndT_, mOrT_, mIf_, mAndV_, mOrV_, mNotV_, kAndV_bl, kOrV_bl, kNotV_bl, mSl_, mPart_, kPart_, mNoPart_, sSeq_, sSet_, sRet_, sIf_, sExpr_, sNil_, sBreak_, sCont_, e_lt, e_le, e_gt, e_ge, e_eqI, e_neI, e_eqS, e_neS, e_add, e_sub, List.set_cons_zero, List.set_cons_succ, kTu1, kTu2, kTu3, kTu4, kTu5, kLs0, kLs1, kLs2, kLs3, kLs4, kLs5, mM_, mM0_, sAsg_, sFor_, iRng_, iSeq_, e] <;> rfl
theorem w15 : ∃ X : Sto, M__law_refused [.int 15, aD n r, d] S = .ok (.int 0) (S ++ X) := by
  refine ⟨[], ?_⟩
  rw [List.append_nil]
  refine refused_of ?_
  unfold RfT
  rw [wIf_no (by decide), wIf_no (by decide), wIf_no (by decide), wIf_no (by decide), wIf_no (by decide), wIf_no (by decide), wIf_no (by decide), wIf_no (by decide), wIf_no (by decide), wIf_no (by decide), wIf_no (by decide), wIf_no (by decide), wIf_no (by decide), wIf_no (by decide), wIf_no (by decide), wIf_yes]
  have e := cells_bad (h0 hc h hb) hb
  unfold C15
  simp only [bind_ok, bind_ex, of_some, rs_ok, rs_ex, then_nx, then_rt, then_ex, then_bk, then_ct, mV0, mVs, mC_, m2_, m1_, mB_, kB_bl, mB1_, mNil_, mCons_, f1L_, f2L_, mTup_, mLst_, mCall_, mNotT_, mAndT_, mOrT_, mIf_, mAndV_, mOrV_, mNotV_, kAndV_bl, kOrV_bl, kNotV_bl, mSl_, mPart_, kPart_, mNoPart_, sSeq_, sSet_, sRet_, sIf_, sExpr_, sNil_, sBreak_, sCont_, e_lt, e_le, e_gt, e_ge, e_eqI, e_neI, e_eqS, e_neS, e_add, e_sub, List.set_cons_zero, List.set_cons_succ, kTu1, kTu2, kTu3, kTu4, kTu5, kLs0, kLs1, kLs2, kLs3, kLs4, kLs5, mM_, mM0_, sAsg_, sFor_, iRng_, iSeq_, e] <;> rfl
theorem w16 : ∃ X : Sto, M__law_refused [.int 16, aD n r, d] S = .ok (.int 1) (S ++ X) := by
  refine ⟨[], ?_⟩
  rw [List.append_nil]
  refine refused_of ?_
  unfold RfT
  rw [wIf_no (by decide), wIf_no (by decide), wIf_no (by decide), wIf_no (by decide), wIf_no (by decide), wIf_no (by decide), wIf_no (by decide), wIf_no (by decide), wIf_no (by decide), wIf_no (by decide), wIf_no (by decide), wIf_no (by decide), wIf_no (by decide), wIf_no (by decide), wIf_no (by decide), wIf_no (by decide), wIf_yes]
  have e := same_bad1 (h0 hc h hb) hb hc
  unfold C16
  simp only [bind_ok, bind_ex, of_some, rs_ok, rs_ex, then_nx, then_rt, then_ex, then_bk, then_ct, mV0, mVs, mC_, m2_, m1_, mB_, kB_bl, mB1_, mNil_, mCons_, f1L_, f2L_, mTup_, mLst_, mCall_, mNotT_, mAndT_, mOrT_, mIf_, mAndV_, mOrV_, mNotV_, kAndV_bl, kOrV_bl, kNotV_bl, mSl_, mPart_, kPart_, mNoPart_, sSeq_, sSet_, sRet_, sIf_, sExpr_, sNil_, sBreak_, sCont_, e_lt, e_le, e_gt, e_ge, e_eqI, e_neI, e_eqS, e_neS, e_add, e_sub, List.set_cons_zero, List.set_cons_succ, kTu1, kTu2, kTu3, kTu4, kTu5, kLs0, kLs1, kLs2, kLs3, kLs4, kLs5, mM_, mM0_, sAsg_, sFor_, iRng_, iSeq_, e] <;> rfl
theorem w17 : ∃ X : Sto, M__law_refused [.int 17, aD n r, d] S = .ok (.int 0) (S ++ X) := by
  refine ⟨[], ?_⟩
  rw [List.append_nil]
  refine refused_of ?_
  unfold RfT
  rw [wIf_no (by decide), wIf_no (by decide), wIf_no (by decide), wIf_no (by decide), wIf_no (by decide), wIf_no (by decide), wIf_no (by decide), wIf_no (by decide), wIf_no (by decide), wIf_no (by decide), wIf_no (by decide), wIf_no (by decide), wIf_no (by decide), wIf_no (by decide), wIf_no (by decide), wIf_no (by decide), wIf_no (by decide), wIf_yes]
  have e := same_bad0 (h0 hc h hb) hb (e := d)
  unfold C17
  simp only [bind_ok, bind_ex, of_some, rs_ok, rs_ex, then_nx, then_rt, then_ex, then_bk, then_ct, mV0, mVs, mC_, m2_, m1_, mB_, kB_bl, mB1_, mNil_, mCons_, f1L_, f2L_, mTup_, mLst_, mCall_, mNotT_, mAndT_, mOrT_, mIf_, mAndV_, mOrV_, mNotV_, kAndV_bl, kOrV_bl, kNotV_bl, mSl_, mPart_, kPart_, mNoPart_, sSeq_, sSet_, sRet_, sIf_, sExpr_, sNil_, sBreak_, sCont_, e_lt, e_le, e_gt, e_ge, e_eqI, e_neI, e_eqS, e_neS, e_add, e_sub, List.set_cons_zero, List.set_cons_succ, kTu1, kTu2, kTu3, kTu4, kTu5, kLs0, kLs1, kLs2, kLs3, kLs4, kLs5, mM_, mM0_, sAsg_, sFor_, iRng_, iSeq_, e] <;> rfl
theorem w18 : ∃ X : Sto, M__law_refused [.int 18, aD n r, d] S = .ok (.int 0) (S ++ X) := by
  have e := cells_many (S := S) (n := 10001) (r := [(0, 5)]) ⟨by decide, rfl, trivial⟩ (by decide)
  have e' : M_cells_of [.tup [.int 10001, .tup [.tup [.int 0, .int 5]]]] S = .ex (exBA 0) S := e
  refine ⟨[], ?_⟩
  rw [List.append_nil]
  refine refused_of ?_
  unfold RfT
  rw [wIf_no (by decide), wIf_no (by decide), wIf_no (by decide), wIf_no (by decide), wIf_no (by decide), wIf_no (by decide), wIf_no (by decide), wIf_no (by decide), wIf_no (by decide), wIf_no (by decide), wIf_no (by decide), wIf_no (by decide), wIf_no (by decide), wIf_no (by decide), wIf_no (by decide), wIf_no (by decide), wIf_no (by decide), wIf_no (by decide)]
  unfold C18
  simp only [bind_ok, bind_ex, of_some, rs_ok, rs_ex, then_nx, then_rt, then_ex, then_bk, then_ct, mV0, mVs, mC_, m2_, m1_, mB_, kB_bl, mB1_, mNil_, mCons_, f1L_, f2L_, mTup_, mLst_, mCall_, mNotT_, mAndT_, mOrT_, mIf_, mAndV_, mOrV_, mNotV_, kAndV_bl, kOrV_bl, kNotV_bl, mSl_, mPart_, kPart_, mNoPart_, sSeq_, sSet_, sRet_, sIf_, sExpr_, sNil_, sBreak_, sCont_, e_lt, e_le, e_gt, e_ge, e_eqI, e_neI, e_eqS, e_neS, e_add, e_sub, List.set_cons_zero, List.set_cons_succ, kTu1, kTu2, kTu3, kTu4, kTu5, kLs0, kLs1, kLs2, kLs3, kLs4, kLs5, mM_, mM0_, sAsg_, sFor_, iRng_, iSeq_, e'] <;> rfl
def dueL : List Int := [0, 0, 0, 0, 0, 1, 1, 1, 0, 1, 2, 1, 0, 0, 0, 0, 1, 0, 0]
theorem words (i : Nat) (k : Int) (hi : dueL[i]? = some k) : ∃ X : Sto, M__law_refused [.int (i : Int), aD n r, d] S = .ok (.int k) (S ++ X) := by
  match i, hi with
  | 0, hi => cases hi; exact w0 hc h hb
  | 1, hi => cases hi; exact w1 hc h hb
  | 2, hi => cases hi; exact w2 hc h hb
  | 3, hi => cases hi; exact w3 hc h hb
  | 4, hi => cases hi; exact w4 hc h hb
  | 5, hi => cases hi; exact w5 hc h hb
  | 6, hi => cases hi; exact w6 hc h hb
  | 7, hi => cases hi; exact w7 hc h hb
  | 8, hi => cases hi; exact w8 hc h hb
  | 9, hi => cases hi; exact w9 hc h hb
  | 10, hi => cases hi; exact w10 hc h hb
  | 11, hi => cases hi; exact w11 hc h hb
  | 12, hi => cases hi; exact w12 hc h hb
  | 13, hi => cases hi; exact w13 hc h hb
  | 14, hi => cases hi; exact w14 hc h hb
  | 15, hi => cases hi; exact w15 hc h hb
  | 16, hi => cases hi; exact w16 hc h hb
  | 17, hi => cases hi; exact w17 hc h hb
  | 18, hi => cases hi; exact w18 hc h hb
  | i + 19, hi => cases hi
end
end K07

namespace K07
open PySem PySem.Spec L2 Mi
def V1 : MS := (sSet 1 (mCall M_array_of (mCons (mLc (iRng (mCons (mC (.int 3)) mNil)) (gN 6) tAll (mCall M__law_value (mCons (mV 0) mNil)) [6]) mNil)))
def V2 : MS := (sSet 2 (m2 fIx (mLst (mCons (mTup (mCons (mC (.int 2)) (mCons (mTup (mCons (mTup (mCons (mC (.int 0)) (mCons (mC (.int 1)) mNil))) (mCons (mTup (mCons (mC (.int 1)) (mCons (mC (.int 1)) mNil))) mNil))) mNil))) (mCons (mLst (mCons (mC (.int 0)) (mCons (mTup mNil) mNil))) (mCons (mC .non) (mCons (mTup (mCons (mC (.int 1)) (mCons (mTup mNil) mNil))) mNil))))) (mCall M__law_pick (mCons (mV 0) (mCons (mC (.int 4)) mNil)))))
def V3 : MS := (sSet 3 (mLst (mCons (mC (.int 0)) (mCons (mC (.int 0)) (mCons (mC (.int 0)) (mCons (mC (.int 0)) (mCons (mC (.int 0)) (mCons (mC (.int 1)) (mCons (mC (.int 1)) (mCons (mC (.int 1)) (mCons (mC (.int 0)) (mCons (mC (.int 1)) (mCons (mC (.int 2)) (mCons (mC (.int 1)) (mCons (mC (.int 0)) (mCons (mC (.int 0)) (mCons (mC (.int 0)) (mCons (mC (.int 0)) (mCons (mC (.int 1)) (mCons (mC (.int 0)) (mCons (mC (.int 0)) mNil)))))))))))))))))))))
def V4 : MS := (sFor (iRng (mCons (mB1 (f1L fLen) (mCons (mV 3) mNil)) mNil)) (gN 4)
  (sSeq (sSet 5 (mCall M__law_refused (mCons (mV 4) (mCons (mV 1) (mCons (mV 2) mNil)))))
  (sIf (mOrT (mNotT (mB (mCall M__law_int (mCons (mV 5) mNil)))) (mB (m2 fNe (mV 5) (m2 fIx (mV 3) (mV 4)))))
  (sRet (mC (.bl false)))
  sNil)))
def V5 : MS := (sRet (mC (.bl true)))
theorem law_refusals_eq : B__law_refusals = sSeq V1 (sSeq V2 (sSeq V3 (sSeq V4 V5))) := (rfl)
def VB : MS := (sSeq (sSet 5 (mCall M__law_refused (mCons (mV 4) (mCons (mV 1) (mCons (mV 2) mNil)))))
  (sIf (mOrT (mNotT (mB (mCall M__law_int (mCons (mV 5) mNil)))) (mB (m2 fNe (mV 5) (m2 fIx (mV 3) (mV 4)))))
  (sRet (mC (.bl false)))
  sNil))
theorem v4_eq : V4 = sFor (iRng (mCons (mB1 (f1L fLen) (mCons (mV 3) mNil)) mNil)) (gN 4) VB := (rfl)
theorem vb_loop {S0 : Sto} {n : Int} {r : Row} {d : D} {j : Nat} {x0 x6 : Option D} (hc : Canon n r) (h : ∀ X : Sto, Ty3 (S0 ++ X) d) (hb : isArrB d = false) (hj : S0[j]? = some (.lst (dueL.map D.int))) : ∀ (k i : Nat) (X : Sto) (y4 y5 : Option D), 19 = i + k → ∃ (X' : Sto) (z4 z5 : Option D), forI (itRng 0 19) (gN 4) VB k i [x0, some (aD n r), some d, some (.obj j), y4, y5, x6] (S0 ++ X) = .nx [x0, some (aD n r), some d, some (.obj j), z4, z5, x6] (S0 ++ X')
  | 0, i, X, y4, y5, hk => by
    have : i = 19 := by omega
    subst this
    exact ⟨X, y4, y5, by rw [fr_end]⟩
  | k + 1, i, X, y4, y5, hk => by
    obtain ⟨w, hw⟩ : ∃ w, dueL[i]? = some w := ⟨_, List.getElem?_eq_getElem (by show i < 19; omega)⟩
    obtain ⟨X1, e⟩ := words (S := S0 ++ X) hc (fun X' => by rw [List.append_assoc]; exact h _) hb i w hw
    rw [List.append_assoc] at e
    have hix : fIx (.obj j) (.int (i : Int)) (S0 ++ (X ++ X1)) = some (.int w, S0 ++ (X ++ X1)) := e_ixL (get_app hj) (by rw [List.getElem?_map, hw]; rfl)
    obtain ⟨X', z4, z5, q⟩ := vb_loop hc h hb hj k (i + 1) (X ++ X1) (some (.int (i : Int))) (some (.int w)) (by omega)
    refine ⟨X', z4, z5, ?_⟩
    rw [fr_nx (env2 := [x0, some (aD n r), some d, some (.obj j), some (.int (i : Int)), some (.int w), x6]) (S2 := S0 ++ (X ++ X1)) (by omega) (by
      rw [Int.zero_add]
      unfold VB
      simp only [bind_ok, bind_ex, of_some, rs_ok, rs_ex, then_nx, then_rt, then_ex, then_bk, then_ct, mV0, mVs, mC_, m2_, m1_, mB_, kB_bl, mB1_, mNil_, mCons_, f1L_, f2L_, mTup_, mLst_, mCall_, mNotT_, mAndT_, mOrT_, mIf_, mAndV_, mOrV_, mNotV_, kAndV_bl, kOrV_bl, kNotV_bl, mSl_, mPart_, kPart_, mNoPart_, sSeq_, sSet_, sRet_, sIf_, sExpr_, sNil_, sBreak_, sCont_, e_lt, e_le, e_gt, e_ge, e_eqI, e_neI, e_eqS, e_neS, e_add, e_sub, List.set_cons_zero, List.set_cons_succ, kTu1, kTu2, kTu3, kTu4, kTu5, kLs0, kLs1, kLs2, kLs3, kLs4, kLs5, mM_, mM0_, sAsg_, sFor_, iRng_, iSeq_, e, lawint_int, hix, Bool.not_true, Bool.false_eq_true, if_false, decide_true]), q]
theorem law_refusals {S : Sto} {p : Nat} (h : PoolOk S p) : ∃ S' : Sto, M__law_refusals [.obj p] S = .ok (.bl true) S' ∧ PoolOk S' p := by
  obtain ⟨ys, S1, k1, g1, l1, st1⟩ := draw_range (p := p) (v := 6) (n := 3) (env := [some (.obj p), none, none, none, none, none, none]) (vs := [6]) (e := mCall M__law_value (mCons (mV 0) mNil)) h (by omega) (fun d S hp => by
    obtain ⟨v, S', v1, v2⟩ := value hp
    refine ⟨v, S', ?_, v2⟩
    show mCall M__law_value (mCons (mV 0) mNil) [some (.obj p), none, none, none, none, none, some d] _ = _
    simp only [bind_ok, bind_ex, of_some, rs_ok, rs_ex, then_nx, then_rt, then_ex, then_bk, then_ct, mV0, mVs, mC_, m2_, m1_, mB_, kB_bl, mB1_, mNil_, mCons_, f1L_, f2L_, mTup_, mLst_, mCall_, mNotT_, mAndT_, mOrT_, mIf_, mAndV_, mOrV_, mNotV_, kAndV_bl, kOrV_bl, kNotV_bl, mSl_, mPart_, kPart_, mNoPart_, sSeq_, sSet_, sRet_, sIf_, sExpr_, sNil_, sBreak_, sCont_, e_lt, e_le, e_gt, e_ge, e_eqI, e_neI, e_eqS, e_neS, e_add, e_sub, List.set_cons_zero, List.set_cons_succ, kTu1, kTu2, kTu3, kTu4, kTu5, kLs0, kLs1, kLs2, kLs3, kLs4, kLs5, mM_, mM0_, sAsg_, sFor_, iRng_, iSeq_, v1])
  obtain ⟨X2, a1⟩ := array_of (S := S1) (d := .obj S.length) (ns := ys) (.inr ⟨_, rfl, g1⟩) (by omega)
  have hk3 : ∀ S : Sto, kRngI [.int 3] S = .ok (itRng 0 3) S := fun S => by rw [kRng1 (by omega)]; rfl
  have e1 : mLc (iRng (mCons (mC (.int 3)) mNil)) (gN 6) tAll (mCall M__law_value (mCons (mV 0) mNil)) [6] [some (.obj p), none, none, none, none, none, none] S = .ok (.obj S.length) S1 := by
    rw [mLc_, iRng_, mCons_, mC_, bind_ok, mNil_, bind_ok, bind_ok, hk3, bind_ok, k1]
  have s1 : V1 [some (.obj p), none, none, none, none, none, none] S = .nx [some (.obj p), some (arr ys), none, none, none, none, none] (S1 ++ X2) := by
    unfold V1
    simp only [bind_ok, bind_ex, of_some, rs_ok, rs_ex, then_nx, then_rt, then_ex, then_bk, then_ct, mV0, mVs, mC_, m2_, m1_, mB_, kB_bl, mB1_, mNil_, mCons_, f1L_, f2L_, mTup_, mLst_, mCall_, mNotT_, mAndT_, mOrT_, mIf_, mAndV_, mOrV_, mNotV_, kAndV_bl, kOrV_bl, kNotV_bl, mSl_, mPart_, kPart_, mNoPart_, sSeq_, sSet_, sRet_, sIf_, sExpr_, sNil_, sBreak_, sCont_, e_lt, e_le, e_gt, e_ge, e_eqI, e_neI, e_eqS, e_neS, e_add, e_sub, List.set_cons_zero, List.set_cons_succ, kTu1, kTu2, kTu3, kTu4, kTu5, kLs0, kLs1, kLs2, kLs3, kLs4, kLs5, mM_, mM0_, sAsg_, sFor_, iRng_, iSeq_, e1, a1]
  have i2 := Stp.app (X := X2) st1.pool
  generalize S1 ++ X2 = S2 at s1 i2
  have i3 := Stp.app (X := [MO.lst [.int 0, .tup []]] ++ [MO.lst [.tup [.int 2, .tup [.tup [.int 0, .int 1], .tup [.int 1, .int 1]]], .obj S2.length, .non, .tup [.int 1, .tup []]]]) i2.pool
  rw [← List.append_assoc] at i3
  obtain ⟨w, S4, b1, b2, b3, b4⟩ := pick i3.pool (m := 4) (by omega)
  have b1' : M__law_pick [.obj p, .int 4] (S2 ++ [MO.lst [.int 0, .tup []]] ++ [MO.lst [.tup [.int 2, .tup [.tup [.int 0, .int 1], .tup [.int 1, .int 1]]], .obj S2.length, .non, .tup [.int 1, .tup []]]]) = .ok (nD w) S4 := b1
  have hlt := i2.pool.lt
  have g4 : S4[S2.length]? = some (.lst [.int 0, .tup []]) := b3.get (get_app last0) (by omega)
  have g5 : S4[(S2 ++ [MO.lst [.int 0, .tup []]]).length]? = some (.lst [.tup [.int 2, .tup [.tup [.int 0, .int 1], .tup [.int 1, .int 1]]], .obj S2.length, .non, .tup [.int 1, .tup []]]) := b3.get last0 (by rw [List.length_append]; omega)
  obtain ⟨d, hd, hbad, hty⟩ : ∃ d : D, ([.tup [.int 2, .tup [.tup [.int 0, .int 1], .tup [.int 1, .int 1]]], .obj S2.length, .non, .tup [.int 1, .tup []]] : List D)[w]? = some d ∧ isArrB d = false ∧ ∀ X : Sto, Ty3 (S4 ++ X) d := by
    match w, b2 with
    | 0, _ => exact ⟨_, rfl, rfl, fun X => tyC_ok rfl⟩
    | 1, _ => exact ⟨_, rfl, rfl, fun X => tyC_ok (some_of (get_app g4))⟩
    | 2, _ => exact ⟨_, rfl, rfl, fun X => tyC_ok rfl⟩
    | 3, _ => exact ⟨_, rfl, rfl, fun X => tyC_ok rfl⟩
    | w + 4, z => omega
  have hix : fIx (.obj (S2 ++ [MO.lst [.int 0, .tup []]]).length) (.int (w : Int)) S4 = some (d, S4) := e_ixL g5 hd
  have s2 : V2 [some (.obj p), some (arr ys), none, none, none, none, none] S2 = .nx [some (.obj p), some (arr ys), some d, none, none, none, none] S4 := by
    unfold V2
    simp only [bind_ok, bind_ex, of_some, rs_ok, rs_ex, then_nx, then_rt, then_ex, then_bk, then_ct, mV0, mVs, mC_, m2_, m1_, mB_, kB_bl, mB1_, mNil_, mCons_, f1L_, f2L_, mTup_, mLst_, mCall_, mNotT_, mAndT_, mOrT_, mIf_, mAndV_, mOrV_, mNotV_, kAndV_bl, kOrV_bl, kNotV_bl, mSl_, mPart_, kPart_, mNoPart_, sSeq_, sSet_, sRet_, sIf_, sExpr_, sNil_, sBreak_, sCont_, e_lt, e_le, e_gt, e_ge, e_eqI, e_neI, e_eqS, e_neS, e_add, e_sub, List.set_cons_zero, List.set_cons_succ, kTu1, kTu2, kTu3, kTu4, kTu5, kLs0, kLs1, kLs2, kLs3, kLs4, kLs5, mM_, mM0_, sAsg_, sFor_, iRng_, iSeq_, kTu0, b1', hix]
  have s3 : V3 [some (.obj p), some (arr ys), some d, none, none, none, none] S4 = .nx [some (.obj p), some (arr ys), some d, some (.obj S4.length), none, none, none] (S4 ++ [.lst (dueL.map D.int)]) := by
    unfold V3
    simp only [bind_ok, bind_ex, of_some, rs_ok, rs_ex, then_nx, then_rt, then_ex, then_bk, then_ct, mV0, mVs, mC_, m2_, m1_, mB_, kB_bl, mB1_, mNil_, mCons_, f1L_, f2L_, mTup_, mLst_, mCall_, mNotT_, mAndT_, mOrT_, mIf_, mAndV_, mOrV_, mNotV_, kAndV_bl, kOrV_bl, kNotV_bl, mSl_, mPart_, kPart_, mNoPart_, sSeq_, sSet_, sRet_, sIf_, sExpr_, sNil_, sBreak_, sCont_, e_lt, e_le, e_gt, e_ge, e_eqI, e_neI, e_eqS, e_neS, e_add, e_sub, List.set_cons_zero, List.set_cons_succ, kTu1, kTu2, kTu3, kTu4, kTu5, kLs0, kLs1, kLs2, kLs3, kLs4, kLs5, mM_, mM0_, sAsg_, sFor_, iRng_, iSeq_]
    rw [kLst_ (by rw [sizeLine_eq]; decide)] <;> rfl
  have hc := (cellsR_ok ys).1
  obtain ⟨X', z4, z5, q⟩ := vb_loop (S0 := S4 ++ [.lst (dueL.map D.int)]) (x0 := some (.obj p)) (x6 := none) hc (fun X => by rw [List.append_assoc]; exact hty _) hbad last0 19 0 [] none none (by omega)
  rw [List.append_nil] at q
  have hlen : fLen (.obj S4.length) (S4 ++ [.lst (dueL.map D.int)]) = some (.int 19, S4 ++ [.lst (dueL.map D.int)]) := e_lenL last0
  have hk19 : ∀ S : Sto, kRngI [.int 19] S = .ok (itRng 0 19) S := fun S => by rw [kRng1 (by omega)]; rfl
  have en : (itRng 0 19).n = 19 := rfl
  have s4 : V4 [some (.obj p), some (arr ys), some d, some (.obj S4.length), none, none, none] (S4 ++ [.lst (dueL.map D.int)]) = .nx [some (.obj p), some (arr ys), some d, some (.obj S4.length), z4, z5, none] (S4 ++ [.lst (dueL.map D.int)] ++ X') := by
    rw [v4_eq]
    simp only [bind_ok, bind_ex, of_some, rs_ok, rs_ex, then_nx, then_rt, then_ex, then_bk, then_ct, mV0, mVs, mC_, m2_, m1_, mB_, kB_bl, mB1_, mNil_, mCons_, f1L_, f2L_, mTup_, mLst_, mCall_, mNotT_, mAndT_, mOrT_, mIf_, mAndV_, mOrV_, mNotV_, kAndV_bl, kOrV_bl, kNotV_bl, mSl_, mPart_, kPart_, mNoPart_, sSeq_, sSet_, sRet_, sIf_, sExpr_, sNil_, sBreak_, sCont_, e_lt, e_le, e_gt, e_ge, e_eqI, e_neI, e_eqS, e_neS, e_add, e_sub, List.set_cons_zero, List.set_cons_succ, kTu1, kTu2, kTu3, kTu4, kTu5, kLs0, kLs1, kLs2, kLs3, kLs4, kLs5, mM_, mM0_, sAsg_, sFor_, iRng_, iSeq_, hlen, hk19, en]
    exact q
  have i5 := Stp.app (X := X') (Stp.app (X := [.lst (dueL.map D.int)]) b3.pool).pool
  refine ⟨_, ?_, i5.pool⟩
  have s5 : V5 [some (.obj p), some (arr ys), some d, some (.obj S4.length), z4, z5, none] (S4 ++ [.lst (dueL.map D.int)] ++ X') = .rt (.bl true) (S4 ++ [.lst (dueL.map D.int)] ++ X') := rfl
  unfold M__law_refusals mFn
  simp only [List.length_cons, List.length_nil, Nat.reduceAdd, if_true, List.map_cons, List.map_nil, List.replicate, List.cons_append, List.nil_append, Nat.reduceSub, Nat.sub_self]
  rw [law_refusals_eq, sSeq_, s1, then_nx, sSeq_, s2, then_nx, sSeq_, s3, then_nx, sSeq_, s4, then_nx, s5] <;> rfl
end K07

namespace K07
open PySem PySem.Spec L2 Mi
def LW1 : MS := (sSet 1 (mCall M__law_pool (mCons (mV 0) mNil)))
def LW2 : MS := (sIf (mOrT (mNotT (mB (mCall M__law_small (mCons (mV 1) mNil)))) (mOrT (mNotT (mB (mCall M__law_wide (mCons (mV 1) mNil)))) (mNotT (mB (mCall M__law_points (mCons (mV 1) mNil))))))
  (sRet (mC (.bl false)))
  sNil)
def LW3 : MS := (sIf (mOrT (mNotT (mB (mCall M__law_judge (mCons (mV 1) mNil)))) (mNotT (mB (mCall M__law_refusals (mCons (mV 1) mNil)))))
  (sRet (mC (.bl false)))
  sNil)
def LW4 : MS := (sIf (mB (m2 fEq (mCall M__law_pick (mCons (mV 1) (mCons (mC (.int 24)) mNil))) (mC (.int 23))))
  (sSeq (sSet 2 (mCall M__law_value (mCons (mV 1) mNil)))
  (sSeq (sSet 3 (mCall M_cells_of (mCons (mTup (mCons (mC (.int 10000)) (mCons (mTup (mCons (mTup (mCons (mC (.int 0)) (mCons (mV 2) mNil))) mNil)) mNil))) mNil)))
  (sRet (mAndV (m1 (fIsi ["tuple"]) (mV 3)) (m2 fEq (mV 3) (mB1 (f1L fTuple) (mCons (m2 fMulA (mLst (mCons (mV 2) mNil)) (mC (.int 10000))) mNil)))))))
  sNil)
def LW5 : MS := (sRet (mC (.bl true)))
theorem law_eq : B_law = sSeq LW1 (sSeq LW2 (sSeq LW3 (sSeq LW4 LW5))) := (rfl)
theorem all_one (v : Int) (n : Nat) : (((List.range n).map fun (i : Nat) => val 0 [(0, v)] (i : Int)).map D.int) = (List.replicate n v).map D.int := by
  congr 1
  apply List.ext_getElem
  · rw [List.length_map, List.length_range, List.length_replicate]
  · intro i h1 h2
    rw [List.getElem_map, List.getElem_range, List.getElem_replicate]
    show (if (0 : Int) ≤ (i : Int) then v else 0) = v
    rw [if_pos (by omega)]
theorem z2 {S : Sto} {x0 x2 x3 : Option D} (h : PoolOk S 1) : ∃ S' : Sto, LW2 [x0, some (.obj 1), x2, x3] S = .nx [x0, some (.obj 1), x2, x3] S' ∧ PoolOk S' 1 := by
  obtain ⟨S1, a1, p1⟩ := law_small h
  obtain ⟨S2, a2, p2⟩ := law_wide p1
  obtain ⟨S3, a3, p3⟩ := law_points p2
  refine ⟨S3, ?_, p3⟩
  unfold LW2
  simp only [bind_ok, bind_ex, of_some, rs_ok, rs_ex, then_nx, then_rt, then_ex, then_bk, then_ct, mV0, mVs, mC_, m2_, m1_, mB_, kB_bl, mB1_, mNil_, mCons_, f1L_, f2L_, mTup_, mLst_, mCall_, mNotT_, mAndT_, mOrT_, mIf_, mAndV_, mOrV_, mNotV_, kAndV_bl, kOrV_bl, kNotV_bl, mSl_, mPart_, kPart_, mNoPart_, sSeq_, sSet_, sRet_, sIf_, sExpr_, sNil_, sBreak_, sCont_, e_lt, e_le, e_gt, e_ge, e_eqI, e_neI, e_eqS, e_neS, e_add, e_sub, List.set_cons_zero, List.set_cons_succ, kTu1, kTu2, kTu3, kTu4, kTu5, kLs0, kLs1, kLs2, kLs3, kLs4, kLs5, mM_, mM0_, sAsg_, sFor_, iRng_, iSeq_, a1, a2, a3, Bool.not_true, Bool.false_eq_true, if_false]
theorem z3 {S : Sto} {x0 x2 x3 : Option D} (h : PoolOk S 1) : ∃ S' : Sto, LW3 [x0, some (.obj 1), x2, x3] S = .nx [x0, some (.obj 1), x2, x3] S' ∧ PoolOk S' 1 := by
  obtain ⟨S1, a1, p1⟩ := law_judge h
  obtain ⟨S2, a2, p2⟩ := law_refusals p1
  refine ⟨S2, ?_, p2⟩
  unfold LW3
  simp only [bind_ok, bind_ex, of_some, rs_ok, rs_ex, then_nx, then_rt, then_ex, then_bk, then_ct, mV0, mVs, mC_, m2_, m1_, mB_, kB_bl, mB1_, mNil_, mCons_, f1L_, f2L_, mTup_, mLst_, mCall_, mNotT_, mAndT_, mOrT_, mIf_, mAndV_, mOrV_, mNotV_, kAndV_bl, kOrV_bl, kNotV_bl, mSl_, mPart_, kPart_, mNoPart_, sSeq_, sSet_, sRet_, sIf_, sExpr_, sNil_, sBreak_, sCont_, e_lt, e_le, e_gt, e_ge, e_eqI, e_neI, e_eqS, e_neS, e_add, e_sub, List.set_cons_zero, List.set_cons_succ, kTu1, kTu2, kTu3, kTu4, kTu5, kLs0, kLs1, kLs2, kLs3, kLs4, kLs5, mM_, mM0_, sAsg_, sFor_, iRng_, iSeq_, a1, a2, Bool.not_true, Bool.false_eq_true, if_false]
theorem z45 {S : Sto} {x0 x2 x3 : Option D} (h : PoolOk S 1) : ∃ S' : Sto, (sSeq LW4 LW5) [x0, some (.obj 1), x2, x3] S = .rt (.bl true) S' := by
  obtain ⟨w, S1, a1, a2, a3, _⟩ := pick h (m := 24) (by omega)
  have a1' : M__law_pick [.obj 1, .int 24] S = .ok (nD w) S1 := a1
  by_cases hw : w = 23
  · have d1 : decide ((w : Int) = 23) = true := decide_eq_true (by omega)
    obtain ⟨v, S2, v1, v2⟩ := value a3.pool
    have hc : Canon 10000 [(0, v)] := ⟨by decide, rfl, trivial⟩
    obtain ⟨X3, c1⟩ := cells_of (S := S2) hc (by decide)
    rw [all_one] at c1
    have c1' : M_cells_of [.tup [.int 10000, .tup [.tup [.int 0, .int v]]]] S2 = .ok (.tup ((List.replicate 10000 v).map D.int)) (S2 ++ X3) := c1
    have hm := e_mulL (S := S2 ++ X3 ++ [.lst [.int v]]) (d := .int v) (k := 10000) last0 (by decide)
    have htu : fTuple (.obj (S2 ++ X3 ++ [MO.lst [.int v]]).length) (S2 ++ X3 ++ [.lst [.int v]] ++ [.lst (List.replicate (10000 : Int).toNat (.int v))]) = some (.tup ((List.replicate 10000 v).map D.int), S2 ++ X3 ++ [.lst [.int v]] ++ [.lst (List.replicate (10000 : Int).toNat (.int v))]) := by
      show (lstAt _ _).map _ = _
      rw [lst_at last0, List.map_replicate]; rfl
    have heq := fun S => (eq_ints (S := S) (List.replicate 10000 v) (List.replicate 10000 v) (by rw [List.length_replicate]; omega) (by rw [List.length_replicate]; omega)).1
    refine ⟨S2 ++ X3 ++ [.lst [.int v]] ++ [.lst (List.replicate (10000 : Int).toNat (.int v))], ?_⟩
    unfold LW4
    generalize (List.replicate 10000 v).map D.int = L at *
    simp only [bind_ok, bind_ex, of_some, rs_ok, rs_ex, then_nx, then_rt, then_ex, then_bk, then_ct, mV0, mVs, mC_, m2_, m1_, mB_, kB_bl, mB1_, mNil_, mCons_, f1L_, f2L_, mTup_, mLst_, mCall_, mNotT_, mAndT_, mOrT_, mIf_, mAndV_, mOrV_, mNotV_, kAndV_bl, kOrV_bl, kNotV_bl, mSl_, mPart_, kPart_, mNoPart_, sSeq_, sSet_, sRet_, sIf_, sExpr_, sNil_, sBreak_, sCont_, e_lt, e_le, e_gt, e_ge, e_eqI, e_neI, e_eqS, e_neS, e_add, e_sub, List.set_cons_zero, List.set_cons_succ, kTu1, kTu2, kTu3, kTu4, kTu5, kLs0, kLs1, kLs2, kLs3, kLs4, kLs5, mM_, mM0_, sAsg_, sFor_, iRng_, iSeq_, a1', d1, if_true, v1, c1', isi_tt, hm, htu, heq, decide_true]
  · have d1 : decide ((w : Int) = 23) = false := decide_eq_false (by omega)
    refine ⟨S1, ?_⟩
    unfold LW4 LW5
    simp only [bind_ok, bind_ex, of_some, rs_ok, rs_ex, then_nx, then_rt, then_ex, then_bk, then_ct, mV0, mVs, mC_, m2_, m1_, mB_, kB_bl, mB1_, mNil_, mCons_, f1L_, f2L_, mTup_, mLst_, mCall_, mNotT_, mAndT_, mOrT_, mIf_, mAndV_, mOrV_, mNotV_, kAndV_bl, kOrV_bl, kNotV_bl, mSl_, mPart_, kPart_, mNoPart_, sSeq_, sSet_, sRet_, sIf_, sExpr_, sNil_, sBreak_, sCont_, e_lt, e_le, e_gt, e_ge, e_eqI, e_neI, e_eqS, e_neS, e_add, e_sub, List.set_cons_zero, List.set_cons_succ, kTu1, kTu2, kTu3, kTu4, kTu5, kLs0, kLs1, kLs2, kLs3, kLs4, kLs5, mM_, mM0_, sAsg_, sFor_, iRng_, iSeq_, a1', d1, Bool.false_eq_true, if_false]
theorem plain : Plain M_law := fun ns hn => by
  obtain ⟨S1, a1, p1⟩ := pool ns hn
  have s1 : LW1 [some (.obj 0), none, none, none] (script0 ns) = .nx [some (.obj 0), some (.obj 1), none, none] S1 := by
    unfold LW1
    simp only [bind_ok, bind_ex, of_some, rs_ok, rs_ex, then_nx, then_rt, then_ex, then_bk, then_ct, mV0, mVs, mC_, m2_, m1_, mB_, kB_bl, mB1_, mNil_, mCons_, f1L_, f2L_, mTup_, mLst_, mCall_, mNotT_, mAndT_, mOrT_, mIf_, mAndV_, mOrV_, mNotV_, kAndV_bl, kOrV_bl, kNotV_bl, mSl_, mPart_, kPart_, mNoPart_, sSeq_, sSet_, sRet_, sIf_, sExpr_, sNil_, sBreak_, sCont_, e_lt, e_le, e_gt, e_ge, e_eqI, e_neI, e_eqS, e_neS, e_add, e_sub, List.set_cons_zero, List.set_cons_succ, kTu1, kTu2, kTu3, kTu4, kTu5, kLs0, kLs1, kLs2, kLs3, kLs4, kLs5, mM_, mM0_, sAsg_, sFor_, iRng_, iSeq_, a1]
  obtain ⟨S2, s2, p2⟩ := z2 (x0 := some (.obj 0)) (x2 := none) (x3 := none) p1
  obtain ⟨S3, s3, p3⟩ := z3 (x0 := some (.obj 0)) (x2 := none) (x3 := none) p2
  obtain ⟨S4, s4⟩ := z45 (x0 := some (.obj 0)) (x2 := none) (x3 := none) p3
  refine ⟨S4, ?_⟩
  unfold M_law mFn
  simp only [List.length_cons, List.length_nil, Nat.reduceAdd, if_true, List.map_cons, List.map_nil, List.replicate, List.cons_append, List.nil_append, Nat.reduceSub, Nat.sub_self]
  rw [law_eq, sSeq_, s1, then_nx, sSeq_, s2, then_nx, sSeq_, s3, then_nx, s4] <;> rfl
end K07

open PySem PySem.W PySem.Calls PyProof.Rows
theorem PySem.Challenge.cw_provedtorun_k07_arrays_against_cells_holds : PySem.Challenge.rw_provedtorun_k07_arrays_against_cells.Holds := by
  w_on; o_law
  refine HandSHeadRun.head_any (r := OpenLaw.row PySem.Challenge.rw_provedtorun_k07_arrays_against_cells) (q := view (OpenLaw.row PySem.Challenge.rw_provedtorun_k07_arrays_against_cells).prog [41]) (H := K07.hk) (ob := K07.ob) (M := 6000) (loose := K07.names) (d := HandSHeadRun.topDef (OpenLaw.row PySem.Challenge.rw_provedtorun_k07_arrays_against_cells).prog 41) (kwd := []) K07.ob_eq
    (by kernel_rfl) (fun s => by kernel_rfl) K07.run (by kernel_rfl) (by kernel_rfl) (by kernel_rfl) (by rfl) (by first | assumption | decide +kernel) (by decide +kernel) ⟨rfl, rfl, rfl, rfl, rfl, by decide +kernel⟩ ?hw ?hc
  case hw => w_witness2
  case hc =>
    refine Mi.walk_ofW (lw := PySem.Challenge.rw_provedtorun_k07_arrays_against_cells) (m := 63) (lv := 8) (x := "script") rfl (by decide) (by kernel_rfl) ⟨rfl, by decide, by decide⟩ ?F
    case F =>
      intro w mg fa h Y G hmg0
      obtain ⟨K, KX, c⟩ := Y
      have hmg : mg ("law" : PySem.Str) = some (.ref fa) := by
        have e : (HandSHeadRun.topDef (OpenLaw.row PySem.Challenge.rw_provedtorun_k07_arrays_against_cells).prog 41).name = ("law" : PySem.Str) := by kernel_rfl
        rw [← e]
        exact hmg0
      obtain ⟨fd, hb, hF⟩ := K07.facts (w := w) KX G hmg c
      exact ⟨K, fd, Mi.spM K mg K07.M_law, KX, hb, fun H a ns hl hO hS => Mi.spM_plain K07.plain hl hO hS, fun base _ _ => hF base⟩
