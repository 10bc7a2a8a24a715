import PyProof.Rows.All
import Wide.All
import OpenK.AllK
import Wide.FinOn
import HandS.Base
import HandS.Call
import HandS.List
import HandS.Comp
import HandS.Ends
import HandS.Dict
import HandS.Iter
import HandS.Text
import HandS.Words
import HandS.WordsList
import HandS.WordsDict
import HandS.Exc
import HandS.TryOnly
import HandS.ExcOwn
import HandS.ExcInit
import HandS.Nested
import HandS.Wide
import HandS.TupAny
import HandS.TupLe
import HandS.IsInst
import HandS.SortInts
import HandS.Defaults
import HandS.WordsExc
import KE.KExcSuper
import HandS.ExcField
import HandS.ClsMeth
import PyProof.StrOps2
import PyProof.ListStr
import KE.KStateDown
import HandS.Head0
import HandS.Head1
import HandS.Head2
import HandS.HeadEnd
import HandS.HeadHook1
import HandS.HeadHook2
import KE.GoesMore
import KE.GoesEnum
import KE.KDictZip
import HandS.Gcd
import HandS.WideBits
import HandS.Deep
import KE.SortData
import HandS.CallSlots
import HandS.TryMany
import PyProof.AutoSeq1
import PySem.Challenge.RW_provedtorun_k26_whole_between_two_rows
import HandS.Head3
set_option Elab.async false
set_option linter.all false
set_option maxRecDepth 100000
set_option maxHeartbeats 4000000
namespace Mi
open PySem PySem.Spec PyProof.Rows L2

/-- data of the mirror: what never changes, and names of objects of the store -/
inductive D where
  | non | bl (b : Bool) | int (i : Int) | str (x : Str) | tup (l : List D) | obj (i : Nat)

/-- objects of the mirror's store -/
inductive MO where
  | lst (ds : List D) | fix (ds : List D) | dic (kvs : List (Key × D)) | gap
def MO.mut : MO → Bool
  | .fix _ => false
  | .gap => false
  | _ => true
abbrev Sto := List MO
/-- an exception: its class's name, its fields -/
structure Xn where
  cls : Str
  fs : List (Str × D)
inductive R (α : Type) where
  | ok (a : α) (S : Sto) | ex (e : Xn) (S : Sto) | no
abbrev Env := List (Option D)
def R.bind {α β : Type} (x : R α) (f : α → Sto → R β) : R β := match x with
  | .ok a S => f a S
  | .ex e S => .ex e S
  | .no => .no

/-! ### what stands for what -/
section
variable (K : PySem.W.Frag)
mutual
inductive Rv (as : List Addr) (H : Hp) : V → D → Prop where
  | non : Rv as H .non .non
  | bl (b : Bool) : Rv as H (.bl b) (.bl b)
  | int (i : Int) : Rv as H (.int i) (.int i)
  | str (x : Str) : Rv as H (.str x) (.str x)
  | tup {a : Addr} {xs : List V} {ds : List D} : SqT K H a xs → Rvs as H xs ds → Rv as H (.ref a) (.tup ds)
  | obj {i : Nat} {a : Addr} : as[i]? = some a → Rv as H (.ref a) (.obj i)
inductive Rvs (as : List Addr) (H : Hp) : List V → List D → Prop where
  | nil : Rvs as H [] []
  | cons {v : V} {d : D} {vs : List V} {ds : List D} : Rv as H v d → Rvs as H vs ds → Rvs as H (v :: vs) (d :: ds)
end
/-- later: the objects' places stay, the tuples stay -/
structure Ex (as : List Addr) (H : Hp) (as' : List Addr) (H' : Hp) : Prop where
  pre : ∀ (i : Nat) (a : Addr), as[i]? = some a → as'[i]? = some a
  tup : ∀ (a : Addr) (xs : List V), SqT K H a xs → SqT K H' a xs
  frz : ∀ (a : Addr) (o : Obj) (u : HO), H a = some (.frz o u) → H' a = some (.frz o u)
/-- the pairs of a dict -/
def Rkv (as : List Addr) (H : Hp) (kvs : List (Key × V)) (kds : List (Key × D)) : Prop := kvs.map (·.1) = kds.map (·.1) ∧ Rvs K as H (kvs.map (·.2)) (kds.map (·.2))
def Ro (as : List Addr) (H : Hp) (a : Addr) : MO → Prop
  | .lst ds => ∃ vs, H a = some (.lst vs) ∧ Rvs K as H vs ds
  | .fix ds => ∃ vs, ((∃ o, H a = some (.frz o (.lst vs))) ∨ ∀ H', SqL K H' a vs) ∧ Rvs K as H vs ds
  | .dic kds => ∃ kvs, H a = some (.dK kvs) ∧ Rkv K as H kvs kds
  | .gap => True
structure Rel (as : List Addr) (S : Sto) (H : Hp) : Prop where
  len : as.length = S.length
  ob : ∀ (i : Nat) (a : Addr) (o : MO), as[i]? = some a → S[i]? = some o → Ro K as H a o
  sep : ∀ (i j : Nat) (a : Addr) (o u : MO), as[i]? = some a → as[j]? = some a → S[i]? = some o → S[j]? = some u → o.mut = true → u.mut = true → i = j
structure Re (as : List Addr) (H : Hp) (σ : L2.St) (env : Env) : Prop where
  len : σ.length = env.length
  at_ : ∀ (i : Nat) (d : D), env[i]? = some (some d) → ∃ v, σ[i]? = some (some v) ∧ Rv K as H v d
def Rx (mg : Str → Option Value) (as : List Addr) (H : Hp) (cls : Value) (dd : Option Addr) (e : Xn) : Prop :=
  ∃ (C : Addr) (fs : List (Str × V)), cls = .ref C ∧ mg e.cls = some (.ref C) ∧ ((dd = none ∧ fs = []) ∨ ∃ d, dd = some d ∧ H d = some (.xd fs)) ∧ fs.map (·.1) = e.fs.map (·.1) ∧ Rvs K as H (fs.map (·.2)) (e.fs.map (·.2))
end

section
variable {K : PySem.W.Frag} {mg : Str → Option Value} {as as' as2 : List Addr} {H H' H2 : Hp} {S S' : Sto} {v : V} {d : D} {vs : List V} {ds : List D} {a p : Addr}
theorem Ex.refl : Ex K as H as H := ⟨fun _ _ h => h, fun _ _ h => h, fun _ _ _ h => h⟩
theorem Ex.trans (x : Ex K as H as' H') (y : Ex K as' H' as2 H2) : Ex K as H as2 H2 := ⟨fun i a h => y.pre i a (x.pre i a h), fun a xs h => y.tup a xs (x.tup a xs h), fun a o u h => y.frz a o u (x.frz a o u h)⟩
mutual
theorem Rv.mono (x : Ex K as H as' H') : ∀ {v : V} {d : D}, Rv K as H v d → Rv K as' H' v d
  | _, _, .non => .non
  | _, _, .bl b => .bl b
  | _, _, .int i => .int i
  | _, _, .str z => .str z
  | _, _, .tup h t => .tup (x.tup _ _ h) (Rvs.mono x t)
  | _, _, .obj h => .obj (x.pre _ _ h)
theorem Rvs.mono (x : Ex K as H as' H') : ∀ {vs : List V} {ds : List D}, Rvs K as H vs ds → Rvs K as' H' vs ds
  | _, _, .nil => .nil
  | _, _, .cons h t => .cons (Rv.mono x h) (Rvs.mono x t)
end
theorem Rvs.len : ∀ {vs : List V} {ds : List D}, Rvs K as H vs ds → vs.length = ds.length
  | _, _, .nil => rfl
  | _, _, .cons _ t => by rw [List.length_cons, List.length_cons, Rvs.len t]
theorem Rvs.get : ∀ {vs : List V} {ds : List D} {i : Nat} {d : D}, Rvs K as H vs ds → ds[i]? = some d → ∃ v, vs[i]? = some v ∧ Rv K as H v d
  | _, _, _, _, .nil, e => by simp at e
  | _, _, 0, _, .cons r _, e => by simp at e; subst e; exact ⟨_, rfl, r⟩
  | _, _, i + 1, d, .cons _ t, e => by
    obtain ⟨u, h1, h2⟩ := Rvs.get (i := i) (d := d) t (by simpa using e)
    exact ⟨u, by simpa using h1, h2⟩
theorem Rvs.getV : ∀ {vs : List V} {ds : List D} {i : Nat} {v : V}, Rvs K as H vs ds → vs[i]? = some v → ∃ d, ds[i]? = some d ∧ Rv K as H v d
  | _, _, _, _, .nil, e => by simp at e
  | _, _, 0, _, .cons r _, e => by simp at e; subst e; exact ⟨_, rfl, r⟩
  | _, _, i + 1, d, .cons _ t, e => by
    obtain ⟨u, h1, h2⟩ := Rvs.getV (i := i) (v := d) t (by simpa using e)
    exact ⟨u, by simpa using h1, h2⟩
theorem Rvs.append : ∀ {xs ys : List V} {ds es : List D}, Rvs K as H xs ds → Rvs K as H ys es → Rvs K as H (xs ++ ys) (ds ++ es)
  | _, _, _, _, .nil, s => s
  | _, _, _, _, .cons r t, s => .cons r (Rvs.append t s)
theorem Rvs.take : ∀ {xs : List V} {ds : List D} (n : Nat), Rvs K as H xs ds → Rvs K as H (xs.take n) (ds.take n)
  | _, _, 0, _ => .nil
  | _, _, _ + 1, .nil => .nil
  | _, _, n + 1, .cons r t => .cons r (Rvs.take n t)
theorem Rvs.drop : ∀ {xs : List V} {ds : List D} (n : Nat), Rvs K as H xs ds → Rvs K as H (xs.drop n) (ds.drop n)
  | _, _, 0, r => r
  | _, _, _ + 1, .nil => .nil
  | _, _, n + 1, .cons _ t => Rvs.drop n t
theorem Rvs.set {v : V} {d : D} (r : Rv K as H v d) : ∀ {xs : List V} {ds : List D} (n : Nat), Rvs K as H xs ds → Rvs K as H (xs.set n v) (ds.set n d)
  | _, _, _, .nil => .nil
  | _, _, 0, .cons _ t => .cons r t
  | _, _, n + 1, .cons q t => .cons q (Rvs.set r n t)
theorem Rvs.reverse : ∀ {xs : List V} {ds : List D}, Rvs K as H xs ds → Rvs K as H xs.reverse ds.reverse
  | _, _, .nil => .nil
  | _, _, .cons r t => by
    rw [List.reverse_cons, List.reverse_cons]
    exact (Rvs.reverse t).append (.cons r .nil)
theorem Rvs.map {α : Type} {f : α → V} {g : α → D} (h : ∀ x, Rv K as H (f x) (g x)) : ∀ l : List α, Rvs K as H (l.map f) (l.map g)
  | [] => .nil
  | x :: l => .cons (h x) (Rvs.map h l)
theorem Rvs.repl (n : Nat) (r : Rvs K as H vs ds) : Rvs K as H (List.replicate n vs).flatten (List.replicate n ds).flatten := by
  induction n with
  | zero => exact .nil
  | succ n ih => rw [List.replicate_succ, List.replicate_succ, List.flatten_cons, List.flatten_cons]; exact r.append ih

/-! ### tuples stay -/
theorem sqt_fresh {K : PySem.W.Frag} {H : Hp} {p : Addr} {o : HO} (hp : H p = none) (a : Addr) (xs : List V) (h : SqT K H a xs) : SqT K (upd H p o) a xs := by
  rcases h with (h | ⟨u, h⟩) | h
  · exact .inl (.inl (by rw [upd_ne (ne_of_none h hp)]; exact h))
  · exact .inl (.inr ⟨u, by rw [upd_ne (ne_of_none h hp)]; exact h⟩)
  · exact .inr h
theorem sqt_mut {K : PySem.W.Frag} {H : Hp} {p : Addr} {o : HO} (hp : Mut (H p)) (a : Addr) (xs : List V) (h : SqT K H a xs) : SqT K (upd H p o) a xs := by
  have ne : ∀ u, H a = some u → ¬ Mut (some u) → a ≠ p := fun u e n z => by subst z; rw [e] at hp; exact n hp
  rcases h with (h | ⟨u, h⟩) | h
  · exact .inl (.inl (by rw [upd_ne (ne _ h fun z => z)]; exact h))
  · exact .inl (.inr ⟨u, by rw [upd_ne (ne _ h fun z => z)]; exact h⟩)
  · exact .inr h
theorem Ex.fresh {o : HO} (hp : H p = none) : Ex K as H as (upd H p o) := ⟨fun _ _ h => h, fun a xs h => sqt_fresh hp a xs h, fun a o u h => by rw [upd_ne (ne_of_none h hp)]; exact h⟩
theorem Ex.mut {o : HO} (hp : Mut (H p)) : Ex K as H as (upd H p o) := ⟨fun _ _ h => h, fun a xs h => sqt_mut hp a xs h, fun a o u h => by rw [upd_ne (fun e => by subst e; rw [h] at hp; exact hp)]; exact h⟩
theorem Ex.more {l : List Addr} : Ex K as H (as ++ l) H := ⟨fun i a h => by
  obtain ⟨hi, e⟩ := List.getElem?_eq_some_iff.mp h
  rw [List.getElem?_append_left hi]; exact h, fun _ _ h => h, fun _ _ _ h => h⟩
theorem Ro.mono_same {o : MO} (x : Ex K as H as' H') (e : H' a = H a) (r : Ro K as H a o) : Ro K as' H' a o := by
  cases o with
  | lst ds => obtain ⟨vs, h, r⟩ := r; exact ⟨vs, e.trans h, r.mono x⟩
  | fix ds =>
    obtain ⟨vs, h, r⟩ := r
    refine ⟨vs, ?_, r.mono x⟩
    rcases h with ⟨o, h⟩ | h
    · exact .inl ⟨o, e.trans h⟩
    · exact .inr h
  | dic kds => obtain ⟨kvs, h, e2, r⟩ := r; exact ⟨kvs, e.trans h, e2, r.mono x⟩
  | gap => trivial
/-- a new thing that no entry names -/
theorem Rel.fresh {o : HO} (r : Rel K as S H) (hp : H p = none) : Rel K as S (upd H p o) := by
  refine ⟨r.len, fun i a u h1 h2 => ?_, r.sep⟩
  have q := r.ob i a u h1 h2
  cases u with
  | lst ds => exact q.mono_same (Ex.fresh hp) (upd_ne (by obtain ⟨vs, h, _⟩ := q; exact ne_of_none h hp))
  | dic ds => exact q.mono_same (Ex.fresh hp) (upd_ne (by obtain ⟨vs, h, _⟩ := q; exact ne_of_none h hp))
  | gap => trivial
  | fix ds =>
    obtain ⟨vs, h, r⟩ := q
    refine ⟨vs, ?_, r.mono (Ex.fresh hp)⟩
    rcases h with ⟨o, h⟩ | h
    · exact .inl ⟨o, by rw [upd_ne (ne_of_none h hp)]; exact h⟩
    · exact .inr h
theorem Ro.laid {o : HO} {u : MO} (q : Ro K as H a u) (hp : H p = none) (x : Ex K as H as' (upd H p o)) : Ro K as' (upd H p o) a u := by
  cases u with
  | lst ds => exact q.mono_same x (upd_ne (by obtain ⟨vs, h, _⟩ := q; exact ne_of_none h hp))
  | dic ds => exact q.mono_same x (upd_ne (by obtain ⟨vs, h, _⟩ := q; exact ne_of_none h hp))
  | gap => trivial
  | fix ds =>
    obtain ⟨vs, h, r⟩ := q
    refine ⟨vs, ?_, r.mono x⟩
    rcases h with ⟨o, h⟩ | h
    · exact .inl ⟨o, by rw [upd_ne (ne_of_none h hp)]; exact h⟩
    · exact .inr h
/-- a new object of the store -/
theorem Rel.new {o : HO} {u : MO} (r : Rel K as S H) (hp : H p = none) (hu : Ro K (as ++ [p]) (upd H p o) p u) (hm : u.mut = true) : Rel K (as ++ [p]) (S ++ [u]) (upd H p o) ∧ Ex K as H (as ++ [p]) (upd H p o) ∧ (as ++ [p])[S.length]? = some p := by
  have x : Ex K as H (as ++ [p]) (upd H p o) := (Ex.fresh hp).trans Ex.more
  have last : (as ++ [p])[S.length]? = some p := by rw [← r.len, List.getElem?_append_right (Nat.le_refl _)]; simp
  have nop : ∀ (i : Nat) (a : Addr) (w : MO), as[i]? = some a → S[i]? = some w → w.mut = true → a ≠ p := fun i a w h1 h2 hw => by
    have q := r.ob i a w h1 h2
    cases w with
    | lst ds => obtain ⟨vs, h, _⟩ := q; exact ne_of_none h hp
    | dic ds => obtain ⟨vs, h, _⟩ := q; exact ne_of_none h hp
    | fix ds => cases hw
    | gap => cases hw
  have old : ∀ (i : Nat) (a : Addr) (w : MO), (as ++ [p])[i]? = some a → (S ++ [u])[i]? = some w → (as[i]? = some a ∧ S[i]? = some w) ∨ (i = S.length ∧ a = p ∧ w = u) := fun i a w h1 h2 => by
    by_cases hi : i < S.length
    · rw [List.getElem?_append_left (by rw [r.len]; exact hi)] at h1
      rw [List.getElem?_append_left hi] at h2
      exact .inl ⟨h1, h2⟩
    · rw [List.getElem?_append_right (by rw [r.len]; omega)] at h1
      rw [List.getElem?_append_right (by omega)] at h2
      have hi2 : i = S.length := by
        by_cases hz : i - S.length = 0
        · omega
        · rw [List.getElem?_eq_none_iff.mpr (by simp; omega)] at h2; cases h2
      refine .inr ⟨hi2, ?_, ?_⟩
      · have : i - as.length = 0 := by rw [r.len]; omega
        rw [this] at h1; simpa using h1.symm
      · have : i - S.length = 0 := by omega
        rw [this] at h2; simpa using h2.symm
  refine ⟨⟨by rw [List.length_append, List.length_append, r.len]; rfl, fun i a w h1 h2 => ?_, fun i j a w w2 h1 h2 h3 h4 m1 m2 => ?_⟩, x, last⟩
  · rcases old i a w h1 h2 with ⟨g1, g2⟩ | ⟨_, rfl, rfl⟩
    · exact (r.ob i a w g1 g2).laid hp x
    · exact hu
  · rcases old i a w h1 h3 with ⟨g1, g2⟩ | ⟨e1, e2, e3⟩
    · rcases old j a w2 h2 h4 with ⟨k1, k2⟩ | ⟨k1, k2, k3⟩
      · exact r.sep i j a w w2 g1 k1 g2 k2 m1 m2
      · exact absurd k2 (nop i a w g1 g2 m1)
    · rcases old j a w2 h2 h4 with ⟨k1, k2⟩ | ⟨k1, k2, k3⟩
      · exact absurd e2 (nop j a w2 k1 k2 m2)
      · omega
/-- an object of the store is changed -/
theorem Rel.put {o : HO} {u w : MO} {i : Nat} (r : Rel K as S H) (hi : as[i]? = some a) (hs : S[i]? = some w) (hw : w.mut = true) (hm : u.mut = true) (hu : Ro K as (upd H a o) a u) : Rel K as (S.set i u) (upd H a o) ∧ Ex K as H as (upd H a o) := by
  have mu : Mut (H a) := by
    have q := r.ob i a w hi hs
    cases w with
    | lst ds => obtain ⟨vs, h, _⟩ := q; rw [h]; trivial
    | dic ds => obtain ⟨vs, h, _⟩ := q; rw [h]; trivial
    | fix ds => cases hw
    | gap => cases hw
  have x : Ex K as H as (upd H a o) := Ex.mut mu
  refine ⟨⟨by rw [List.length_set]; exact r.len, fun j b z h1 h2 => ?_, fun j k b z z2 h1 h2 h3 h4 m1 m2 => ?_⟩, x⟩
  · by_cases hj : j = i
    · subst hj
      rw [hi] at h1; cases h1
      have hl : j < S.length := (List.getElem?_eq_some_iff.mp hs).1
      rw [List.getElem?_set_self hl] at h2; cases h2
      exact hu
    · rw [List.getElem?_set_ne (Ne.symm hj)] at h2
      have q := r.ob j b z h1 h2
      by_cases hz : z.mut = true
      · have hb : b ≠ a := fun e => by subst e; exact hj (r.sep j i b z w h1 hi h2 hs hz hw)
        exact q.mono_same x (upd_ne hb)
      · cases z with
        | lst _ => exact absurd rfl hz
        | dic _ => exact absurd rfl hz
        | gap => trivial
        | fix ds =>
          obtain ⟨vs, h, rr⟩ := q
          refine ⟨vs, ?_, rr.mono x⟩
          rcases h with ⟨ob, h⟩ | h
          · refine .inl ⟨ob, ?_⟩
            rw [upd_ne (fun e => by subst e; rw [h] at mu; exact mu)]; exact h
          · exact .inr h
  · have hl : i < S.length := (List.getElem?_eq_some_iff.mp hs).1
    have conv : ∀ (j : Nat) (z : MO), (S.set i u)[j]? = some z → z.mut = true → ∃ z', S[j]? = some z' ∧ z'.mut = true := fun j z h m => by
      by_cases hj : j = i
      · subst hj; exact ⟨w, hs, hw⟩
      · rw [List.getElem?_set_ne (Ne.symm hj)] at h; exact ⟨z, h, m⟩
    obtain ⟨y1, g1, n1⟩ := conv j z h3 m1
    obtain ⟨y2, g2, n2⟩ := conv k z2 h4 m2
    exact r.sep j k b y1 y2 h1 h2 g1 g2 n1 n2
theorem Re.mono {σ : L2.St} {env : Env} (x : Ex K as H as' H') (r : Re K as H σ env) : Re K as' H' σ env := ⟨r.len, fun i d h => let ⟨v, h1, h2⟩ := r.at_ i d h; ⟨v, h1, h2.mono x⟩⟩
theorem Re.set {σ : L2.St} {env : Env} {i : Nat} (r : Re K as H σ env) (q : Rv K as H v d) : Re K as H (σ.set i (some v)) (env.set i (some d)) := by
  refine ⟨by rw [List.length_set, List.length_set]; exact r.len, fun j e h => ?_⟩
  by_cases hj : j = i
  · subst hj
    by_cases hl : j < env.length
    · rw [List.getElem?_set_self hl] at h
      cases h
      exact ⟨v, List.getElem?_set_self (by rw [r.len]; exact hl), q⟩
    · rw [List.getElem?_eq_none_iff.mpr (by rw [List.length_set]; omega)] at h; cases h
  · rw [List.getElem?_set_ne (Ne.symm hj)] at h
    obtain ⟨u, h1, h2⟩ := r.at_ j e h
    exact ⟨u, by rw [List.getElem?_set_ne (Ne.symm hj)]; exact h1, h2⟩
theorem Re.unset {σ : L2.St} {env : Env} {i : Nat} (r : Re K as H σ env) : Re K as H (σ.set i none) (env.set i none) := by
  refine ⟨by rw [List.length_set, List.length_set]; exact r.len, fun j e h => ?_⟩
  by_cases hj : j = i
  · subst hj
    by_cases hl : j < env.length
    · rw [List.getElem?_set_self hl] at h; cases h
    · rw [List.getElem?_eq_none_iff.mpr (by rw [List.length_set]; omega)] at h; cases h
  · rw [List.getElem?_set_ne (Ne.symm hj)] at h
    obtain ⟨u, h1, h2⟩ := r.at_ j e h
    exact ⟨u, by rw [List.getElem?_set_ne (Ne.symm hj)]; exact h1, h2⟩
end
end Mi

namespace Mi
open PySem PySem.Spec PyProof.Rows L2

/-! ### what an outcome asks -/
section
variable (K : PySem.W.Frag) (mg : Str → Option Value) (W : WX)
/-- an outcome of a part: d's V is handed on with all that is known of it -/
def Go {α β : Type} (Ra : List Addr → Hp → β → α → Prop) (out : R α) (as : List Addr) (H : Hp) (σ : L2.St) (Q : β → Hp → Prop) : Prop := match out with
  | .ok d S' => ∀ (as' : List Addr) (H' : Hp) (v : β), Ex K as H as' H' → Rel K as' S' H' → Ra as' H' v d → Q v H'
  | .ex e S' => ∀ (as' : List Addr) (H' : Hp) (cls : Value) (dd : Option Addr), Ex K as H as' H' → Rel K as' S' H' → Rx K mg as' H' cls dd e → W cls dd σ H'
  | .no => False
/-- the reading that a mirror gives -/
def tU {α β : Type} (Ra : List Addr → Hp → β → α → Prop) (m : Env → Sto → R α) : L2.St → Hp → (β → Hp → Prop) → Prop := fun σ H Q =>
  ∃ as env S, Re K as H σ env ∧ Rel K as S H ∧ Go K mg W Ra (m env S) as H σ Q
end
def Rb : List Addr → Hp → Bool → Bool → Prop := fun _ _ a b => a = b
abbrev ME := Env → Sto → R D
abbrev MT := Env → Sto → R Bool
abbrev MA := Env → Sto → R (List D)

section
variable {K : PySem.W.Frag} {mg : Str → Option Value} {W : WX} {as as1 : List Addr} {H H1 : Hp} {S : Sto} {σ : L2.St}
theorem Go.later {α β : Type} {Ra : List Addr → Hp → β → α → Prop} {out : R α} {Q : β → Hp → Prop} (x : Ex K as H as1 H1) (h : Go K mg W Ra out as H σ Q) : Go K mg W Ra out as1 H1 σ Q := by
  cases out with
  | ok d S' => exact fun as' H' v y r q => h as' H' v (x.trans y) r q
  | ex e S' => exact fun as' H' c dd y r q => h as' H' c dd (x.trans y) r q
  | no => exact h
theorem Go.bind {α β γ δ : Type} {Ra : List Addr → Hp → β → α → Prop} {Rc : List Addr → Hp → δ → γ → Prop} {x : R α} {f : α → Sto → R γ} {Q : δ → Hp → Prop} {Q1 : β → Hp → Prop} (h : Go K mg W Rc (x.bind f) as H σ Q)
    (k : ∀ d S1 as1 H1 v, Ex K as H as1 H1 → Rel K as1 S1 H1 → Ra as1 H1 v d → Go K mg W Rc (f d S1) as1 H1 σ Q → Q1 v H1) : Go K mg W Ra x as H σ Q1 := by
  cases x with
  | ok d S' => exact fun as' H' v y r q => k d S' as' H' v y r q (Go.later y h)
  | ex e S' => exact h
  | no => exact h
/-- the usual step: the first part's reading from the whole's outcome -/
theorem tU_bind {α β γ δ : Type} {Ra : List Addr → Hp → β → α → Prop} {Rc : List Addr → Hp → δ → γ → Prop} {m : Env → Sto → R α} {f : Env → α → Sto → R γ} {Q : δ → Hp → Prop} {Q1 : β → Hp → Prop}
    (h : tU K mg W Rc (fun env S => (m env S).bind (f env)) σ H Q)
    (k : ∀ (as : List Addr) (env : Env) (d : α) (S1 : Sto) (as1 : List Addr) (H1 : Hp) (v : β), Re K as1 H1 σ env → Rel K as1 S1 H1 → Ra as1 H1 v d → Go K mg W Rc (f env d S1) as1 H1 σ Q → Q1 v H1) : tU K mg W Ra m σ H Q1 := by
  obtain ⟨as, env, S, re, rel, g⟩ := h
  exact ⟨as, env, S, re, rel, Go.bind g fun d S1 as1 H1 v x r q g' => k as env d S1 as1 H1 v (re.mono x) r q g'⟩
theorem tU_now {α β : Type} {Ra : List Addr → Hp → β → α → Prop} {m : Env → Sto → R α} {Q : β → Hp → Prop} {env : Env} (re : Re K as H σ env) (r : Rel K as S H) (g : Go K mg W Ra (m env S) as H σ Q) : tU K mg W Ra m σ H Q := ⟨as, env, S, re, r, g⟩
end

/-! ### judgements -/
section
variable (X : Cx) (W : WX)
structure EM (e : Expr) (m : ME) : Prop where
  pe : PE X e (tU X.K X.mg W (Rv X.K) m)
structure TM (e : Expr) (m : MT) : Prop where
  pt : PT X e (tU X.K X.mg W Rb m)
structure AM (es : List Expr) (m : MA) : Prop where
  pa : PA X es (tU X.K X.mg W (Rvs X.K) m)
end
section
variable {X : Cx} {W : WX}
theorem pe_imp {e : Expr} {t t' : TE} (h : PE X e t) (i : ∀ σ H Q, t' σ H Q → t σ H Q) : PE X e t' := ⟨fun pins s σ H Q I q => h.run pins s σ H Q I (i σ H Q q)⟩
theorem pt_imp {e : Expr} {t t' : TT} (h : PT X e t) (i : ∀ σ H Q, t' σ H Q → t σ H Q) : PT X e t' := ⟨fun pins s σ H Q I q => h.run pins s σ H Q I (i σ H Q q)⟩
theorem pw_imp {e : Expr} {t t' : TT} (h : PW X e t) (i : ∀ σ H Q, t' σ H Q → t σ H Q) : PW X e t' := ⟨fun w pins s σ H Q I q => h.run w pins s σ H Q I (i σ H Q q)⟩
theorem pa_imp {e : List Expr} {t t' : TA} (h : PA X e t) (i : ∀ σ H Q, t' σ H Q → t σ H Q) : PA X e t' := ⟨fun p pins s σ H Q I q => h.run p pins s σ H Q I (i σ H Q q)⟩
theorem ps_imp {e : Stmt} {t t' : TS} (h : PS X e t) (i : ∀ D σ H, t' D σ H → t D σ H) : PS X e t' := ⟨fun pins s σ H D I q => h.run pins s σ H D I (i D σ H q)⟩
theorem pss_imp {e : List Stmt} {t t' : TS} (h : PSs X e t) (i : ∀ D σ H, t' D σ H → t D σ H) : PSs X e t' := ⟨fun pins s σ H D I q => h.run pins s σ H D I (i D σ H q)⟩
theorem op_imp {f : Value → Value → Sem Value} {r r' : R2} (h : OpR X f r) (i : ∀ x y H Q, r' x y H Q → r x y H Q) : OpR X f r' := fun pins s σ H x y v u Q I rx ry q => h pins s σ H x y v u Q I rx ry (i x y H Q q)
theorem un_imp {f : Value → Sem Value} {r r' : V → Hp → VK → Prop} (h : UnR X f r) (i : ∀ x H Q, r' x H Q → r x H Q) : UnR X f r' := fun pins s σ H x v Q I rx q => h pins s σ H x v Q I rx (i x H Q q)
theorem ix_imp {r r' : R2} (h : IxR X r) (i : ∀ x y H Q, r' x y H Q → r x y H Q) : IxR X r' := fun a b pins s σ H x y v u Q I rx ry q hs => h a b pins s σ H x y v u Q I rx ry (i x y H Q q) hs
theorem call_imp {f : Value} {r r' : List V → Hp → VK → Prop} (h : CallR X f r) (i : ∀ x H Q, r' x H Q → r x H Q) : CallR X f r' := fun pins s σ H x us Q I rx q => h pins s σ H x us Q I rx (i x H Q q)
theorem mt_imp {id : String} {r r' : V → List V → Hp → VK → Prop} (h : MtR X id r) (i : ∀ x xs H Q, r' x xs H Q → r x xs H Q) : MtR X id r' := fun pins s σ H x xs v us Q I rx rs q => h pins s σ H x xs v us Q I rx rs (i x xs H Q q)

/-! ### names and constants -/
def mC (d : D) : ME := fun _ S => .ok d S
def mV (i : Nat) : ME := fun env S => match env[i]? with
  | some (some d) => .ok d S
  | _ => .no
theorem em_c {e : Expr} {v : V} {d : D} (h : PE X e (tC v)) (r : ∀ as H, Rv X.K as H v d) : EM X W e (mC d) := ⟨pe_imp h fun σ H Q ⟨as, env, S, re, rel, g⟩ => g as H v Ex.refl rel (r as H)⟩
theorem em_int {i : Int} {j : Nat} {pos : Pos} : EM X W (.Constant (.int i) j pos) (mC (.int i)) := em_c pe_int fun _ _ => .int i
theorem em_bl {b : Bool} {j : Nat} {pos : Pos} : EM X W (.Constant (.bool b) j pos) (mC (.bl b)) := em_c pe_bl fun _ _ => .bl b
theorem em_non {j : Nat} {pos : Pos} : EM X W (.Constant .none j pos) (mC .non) := em_c pe_non fun _ _ => .non
theorem em_str {x : Str} {j : Nat} {pos : Pos} : EM X W (.Constant (.str x) j pos) (mC (.str x)) := em_c pe_str fun _ _ => .str x
theorem em_v (i : Nat) {x : Str} {pos : Pos} (hN : X.N[i]? = some x := by rfl) (hv : Vis X.env.scope x := by first | exact Or.inl rfl | exact Or.inr (Or.inl rfl) | exact Or.inr (Or.inr rfl)) (hd : (x == ("__debug__" : Str)) = false := by decide)
    (hcd : (x == ("__classdict__" : Str)) = false := by decide) : EM X W (.Name x pos) (mV i) := ⟨pe_imp (pe_var hN hv hd hcd) fun σ H Q ⟨as, env, S, re, rel, g⟩ => by
  unfold mV at g
  cases e : env[i]? with
  | none => rw [e] at g; exact g.elim
  | some o =>
    cases o with
    | none => rw [e] at g; exact g.elim
    | some d =>
      rw [e] at g
      obtain ⟨v, h1, h2⟩ := re.at_ i d e
      exact ⟨v, h1, g as H v Ex.refl rel h2⟩⟩
/-- a constant of the module -/
theorem em_g {x : Str} {v : V} {u : Value} {d : D} {pos : Pos} (hg : Gl X x) (hm : X.mg x = some u) (r : RelV v u) (rd : ∀ as H, Rv X.K as H v d) (hd : (x == ("__debug__" : Str)) = false := by decide) : EM X W (.Name x pos) (mC d) := em_c (pe_glob hg hm r hd) rd

/-! ### operators -/
/-- an operation of values: a value and a store, or nothing -/
abbrev F2 := D → D → Sto → Option (D × Sto)
def R.of {α : Type} : Option (α × Sto) → R α
  | some (d, S) => .ok d S
  | none => .no
def rF (K : PySem.W.Frag) (f : F2) : R2 := fun x y H Q => ∃ as S d e z S', Rel K as S H ∧ Rv K as H x d ∧ Rv K as H y e ∧ f d e S = some (z, S') ∧
  ∀ as' H' v, Ex K as H as' H' → Rel K as' S' H' → Rv K as' H' v z → Q v H'
def m2 (f : F2) (a b : ME) : ME := fun env S => (a env S).bind fun x S1 => (b env S1).bind fun y S2 => R.of (f x y S2)
theorem go_of {K : PySem.W.Frag} {mg : Str → Option Value} {W : WX} {as : List Addr} {H : Hp} {σ : L2.St} {o : Option (D × Sto)} {Q : VK} (g : Go K mg W (Rv K) (R.of o) as H σ Q) :
    ∃ z S', o = some (z, S') ∧ ∀ as' H' v, Ex K as H as' H' → Rel K as' S' H' → Rv K as' H' v z → Q v H' := by
  cases o with
  | none => exact g.elim
  | some p => exact ⟨p.1, p.2, rfl, g⟩
theorem m2_step {K : PySem.W.Frag} {mg : Str → Option Value} {f : F2} {ma mb : ME} {r : R2} (hr : ∀ x y H Q, rF K f x y H Q → r x y H Q) {σ : L2.St} {H : Hp} {Q : VK} (h : tU K mg W (Rv K) (m2 f ma mb) σ H Q) :
    tOp r (tU K mg W (Rv K) ma) (tU K mg W (Rv K) mb) σ H Q := by
  refine tU_bind (f := fun env x S1 => (mb env S1).bind fun y S2 => R.of (f x y S2)) h fun as env d S1 as1 H1 x re rel rv g => ?_
  refine ⟨as1, env, S1, re, rel, Go.bind g fun e S2 as2 H2 y x2 r2 rv2 g2 => ?_⟩
  obtain ⟨z, S', hz, q⟩ := go_of g2
  exact hr _ _ _ _ ⟨as2, S2, d, e, z, S', r2, rv.mono x2, rv2, hz, q⟩
theorem em_bin {f : F2} {a b : Expr} {op : Operator} {ma mb : ME} {pos : Pos} (ho : OpR X (binaryOp op) (rF X.K f)) (ha : EM X W a ma) (hb : EM X W b mb) : EM X W (.BinOp a op b pos) (m2 f ma mb) :=
  ⟨pe_imp (pe_op ho ha.pe hb.pe) fun σ H Q h => m2_step (fun _ _ _ _ q => q) h⟩
theorem em_cmp {f : F2} {a b : Expr} {op : CmpOp} {ma mb : ME} {pos : Pos} (ho : OpR X (compareOp op) (rF X.K f)) (ha : EM X W a ma) (hb : EM X W b mb) (hm : behindInMarks op b = false := by rfl) : EM X W (.Compare a [op] [b] pos) (m2 f ma mb) :=
  ⟨pe_imp (pe_cmpR ho ha.pe hb.pe hm) fun σ H Q h => m2_step (fun _ _ _ _ q => q) h⟩
theorem em_ix {f : F2} {a b : Expr} {ma mb : ME} {pos : Pos} (ho : IxR X (rF X.K f)) (ha : EM X W a ma) (hb : EM X W b mb) (hs : PlainIx b := by exact fun _ _ => rfl) : EM X W (.Subscript a b pos) (m2 f ma mb) :=
  ⟨pe_imp (pe_ix ho ha.pe hb.pe hs) fun σ H Q h => m2_step (fun _ _ _ _ q => q) h⟩
/-- a < b < c -/
def mCh (f g : F2) (a b c : ME) : ME := fun env S => (a env S).bind fun x S1 => (b env S1).bind fun y S2 => match f x y S2 with
  | some (.bl true, S3) => (c env S3).bind fun z S4 => R.of (g y z S4)
  | some (.bl false, S3) => .ok (.bl false) S3
  | _ => .no
theorem mCh_step {K : PySem.W.Frag} {mg : Str → Option Value} {f g : F2} {ma mb mc : ME} {σ : L2.St} {H : Hp} {Q : VK} (h : tU K mg W (Rv K) (mCh f g ma mb mc) σ H Q) :
    tChain (rF K f) (rF K g) (tU K mg W (Rv K) ma) (tU K mg W (Rv K) mb) (tU K mg W (Rv K) mc) σ H Q := by
  refine tU_bind (f := fun env x S1 => (mb env S1).bind fun y S2 => match f x y S2 with
    | some (.bl true, S3) => (mc env S3).bind fun z S4 => R.of (g y z S4)
    | some (.bl false, S3) => .ok (.bl false) S3
    | _ => .no) h fun as env d S1 as1 H1 x re rel rv g1 => ?_
  refine ⟨as1, env, S1, re, rel, Go.bind g1 fun e S2 as2 H2 y x2 r2 rv2 g2 => ?_⟩
  cases q : f d e S2 with
  | none => rw [q] at g2; exact g2.elim
  | some p =>
    obtain ⟨z, S3⟩ := p
    rw [q] at g2
    cases z with
    | bl b =>
      refine ⟨as2, S2, d, e, .bl b, S3, r2, rv.mono x2, rv2, q, fun as3 H3 v x3 r3 rv3 => ?_⟩
      cases rv3
      cases b with
      | true =>
        refine ⟨true, rfl, ?_⟩
        rw [if_pos rfl]
        refine ⟨as3, env, S3, (re.mono x2).mono x3, r3, Go.bind (Go.later x3 g2) fun w S4 as4 H4 y4 x4 r4 rv4 g4 => ?_⟩
        obtain ⟨z, S', hz, q⟩ := go_of g4
        exact ⟨as4, S4, e, w, z, S', r4, (rv2.mono x3).mono x4, rv4, hz, q⟩
      | false =>
        refine ⟨false, rfl, ?_⟩
        rw [if_neg Bool.false_ne_true]
        exact g2 as3 H3 _ x3 r3 (.bl false)
    | _ => exact g2.elim
theorem em_chain {f g : F2} {a b c : Expr} {op op' : CmpOp} {ma mb mc : ME} {pos : Pos} (ho : OpR X (compareOp op) (rF X.K f)) (ho' : OpR X (compareOp op') (rF X.K g)) (ha : EM X W a ma) (hb : EM X W b mb) (hc : EM X W c mc) (hm : behindInMarks op' c = false := by rfl) :
    EM X W (.Compare a [op, op'] [b, c] pos) (mCh f g ma mb mc) :=
  ⟨pe_imp (pe_chain ho ho' ha.pe hb.pe hc.pe hm) fun σ H Q h => mCh_step h⟩

/-! ### tests -/
/-- of a True or False -/
def mB (a : ME) : MT := fun env S => (a env S).bind fun x S1 => match x with
  | .bl b => .ok b S1
  | _ => .no
theorem mB_step {K : PySem.W.Frag} {mg : Str → Option Value} {ma : ME} {σ : L2.St} {H : Hp} {Q : Bool → Hp → Prop} (h : tU K mg W Rb (mB ma) σ H Q) : tU K mg W (Rv K) ma σ H fun x H1 => ∃ k, x = .bl k ∧ Q k H1 := by
  refine tU_bind (f := fun env x S1 => match x with
    | .bl b => .ok b S1
    | _ => .no) h fun as env d S1 as1 H1 x re rel rv g => ?_
  cases d with
  | bl b => cases rv; exact ⟨b, rfl, g as1 H1 b Ex.refl rel rfl⟩
  | _ => exact g.elim
theorem tm_val {e : Expr} {m : ME} (h : EM X W e m) (he : ∀ whole, isTrue e X.env whole = (do let v ← whole; standAt e.pos; holding [v] (truthy v)) := by intro _; rfl) : TM X W e (mB m) := ⟨pt_imp (pt_val h.pe he) fun σ H Q q => mB_step q⟩
theorem tm_cmp {f : F2} {a b : Expr} {op : CmpOp} {ma mb : ME} {pos : Pos} (ho : OpR X (compareOp op) (rF X.K f)) (ha : EM X W a ma) (hb : EM X W b mb) (hm : behindInMarks op b = false := by rfl) : TM X W (.Compare a [op] [b] pos) (mB (m2 f ma mb)) :=
  ⟨pt_imp (pt_cmpR ho ha.pe hb.pe hm) fun σ H Q h => m2_step (fun _ _ _ _ q => q) (mB_step h)⟩
theorem tm_chain {f g : F2} {a b c : Expr} {op op' : CmpOp} {ma mb mc : ME} {pos : Pos} (ho : OpR X (compareOp op) (rF X.K f)) (ho' : OpR X (compareOp op') (rF X.K g)) (ha : EM X W a ma) (hb : EM X W b mb) (hc : EM X W c mc) (hm : behindInMarks op' c = false := by rfl) :
    TM X W (.Compare a [op, op'] [b, c] pos) (mB (mCh f g ma mb mc)) :=
  ⟨pt_imp (pt_chain ho ho' ha.pe hb.pe hc.pe hm) fun σ H Q h => mCh_step (mB_step h)⟩
def mNotT (a : MT) : MT := fun env S => (a env S).bind fun b S1 => .ok (!b) S1
def mAndT (a b : MT) : MT := fun env S => (a env S).bind fun c S1 => if c = true then b env S1 else .ok false S1
def mOrT (a b : MT) : MT := fun env S => (a env S).bind fun c S1 => if c = true then .ok true S1 else b env S1
theorem tm_not {a : Expr} {m : MT} {pos : Pos} (h : TM X W a m) : TM X W (.UnaryOp .Not a pos) (mNotT m) := ⟨pt_imp (pt_not h.pt) fun σ H Q q => tU_bind (f := fun env b S1 => .ok (!b) S1) q fun as env d S1 as1 H1 x re rel rv g => by
  cases rv
  exact g as1 H1 _ Ex.refl rel rfl⟩
structure WM (X : Cx) (W : WX) (e : Expr) (m : MT) : Prop where
  pw : PW X e (tU X.K X.mg W Rb m)
theorem wm_and1 {a : Expr} {m : MT} {pos : Pos} (h : TM X W a m) : WM X W (.BoolOp .And [a] pos) m := ⟨pw_and1 h.pt⟩
theorem wm_or1 {a : Expr} {m : MT} {pos : Pos} (h : TM X W a m) : WM X W (.BoolOp .Or [a] pos) m := ⟨pw_or1 h.pt⟩
theorem wm_and {a b : Expr} {rest : List Expr} {m n : MT} {pos : Pos} (h : TM X W a m) (h2 : WM X W (.BoolOp .And (b :: rest) pos) n) : WM X W (.BoolOp .And (a :: b :: rest) pos) (mAndT m n) :=
  ⟨pw_imp (pw_and h.pt h2.pw) fun σ H Q q => tU_bind (f := fun env c S1 => if c = true then n env S1 else .ok false S1) q fun as env d S1 as1 H1 x re rel rv g => by
    cases rv
    cases d with
    | true => rw [if_pos rfl]; exact ⟨as1, env, S1, re, rel, g⟩
    | false => rw [if_neg Bool.false_ne_true]; exact g as1 H1 _ Ex.refl rel rfl⟩
theorem wm_or {a b : Expr} {rest : List Expr} {m n : MT} {pos : Pos} (h : TM X W a m) (h2 : WM X W (.BoolOp .Or (b :: rest) pos) n) : WM X W (.BoolOp .Or (a :: b :: rest) pos) (mOrT m n) :=
  ⟨pw_imp (pw_or h.pt h2.pw) fun σ H Q q => tU_bind (f := fun env c S1 => if c = true then .ok true S1 else n env S1) q fun as env d S1 as1 H1 x re rel rv g => by
    cases rv
    cases d with
    | true => rw [if_pos rfl]; exact g as1 H1 _ Ex.refl rel rfl
    | false => rw [if_neg Bool.false_ne_true]; exact ⟨as1, env, S1, re, rel, g⟩⟩
theorem WM.tm {e : Expr} {m : MT} (h : WM X W e m) : TM X W e m := ⟨PW.pt h.pw⟩

/-! ### and, or, not as values (True or False) -/
def mAndV (a b : ME) : ME := fun env S => (a env S).bind fun c S1 => match c with
  | .bl true => b env S1
  | .bl false => .ok (.bl false) S1
  | _ => .no
def mOrV (a b : ME) : ME := fun env S => (a env S).bind fun c S1 => match c with
  | .bl false => b env S1
  | .bl true => .ok (.bl true) S1
  | _ => .no
def mNotV (a : ME) : ME := fun env S => (a env S).bind fun c S1 => match c with
  | .bl b => .ok (.bl (!b)) S1
  | _ => .no
theorem em_one {op : BoolOp} {a : Expr} {m : ME} {pos : Pos} (h : EM X W a m) : EM X W (.BoolOp op [a] pos) m := ⟨pe_one h.pe⟩
theorem em_and {a b : Expr} {rest : List Expr} {m n : ME} {pos : Pos} (h : EM X W a m) (h2 : EM X W (.BoolOp .And (b :: rest) pos) n) : EM X W (.BoolOp .And (a :: b :: rest) pos) (mAndV m n) :=
  ⟨pe_imp (pe_and h.pe h2.pe) fun σ H Q q => tU_bind (f := fun env c S1 => match c with
    | .bl true => n env S1
    | .bl false => .ok (.bl false) S1
    | _ => .no) q fun as env d S1 as1 H1 x re rel rv g => by
    cases d with
    | bl b =>
      cases rv
      refine ⟨b, rfl, ?_⟩
      cases b with
      | true => rw [if_pos rfl]; exact ⟨as1, env, S1, re, rel, g⟩
      | false => rw [if_neg Bool.false_ne_true]; exact g as1 H1 _ Ex.refl rel (.bl false)
    | _ => exact g.elim⟩
theorem em_or {a b : Expr} {rest : List Expr} {m n : ME} {pos : Pos} (h : EM X W a m) (h2 : EM X W (.BoolOp .Or (b :: rest) pos) n) : EM X W (.BoolOp .Or (a :: b :: rest) pos) (mOrV m n) :=
  ⟨pe_imp (pe_or h.pe h2.pe) fun σ H Q q => tU_bind (f := fun env c S1 => match c with
    | .bl false => n env S1
    | .bl true => .ok (.bl true) S1
    | _ => .no) q fun as env d S1 as1 H1 x re rel rv g => by
    cases d with
    | bl b =>
      cases rv
      refine ⟨b, rfl, ?_⟩
      cases b with
      | true => rw [if_pos rfl]; exact g as1 H1 _ Ex.refl rel (.bl true)
      | false => rw [if_neg Bool.false_ne_true]; exact ⟨as1, env, S1, re, rel, g⟩
    | _ => exact g.elim⟩
theorem em_not {a : Expr} {m : ME} {pos : Pos} (h : EM X W a m) : EM X W (.UnaryOp .Not a pos) (mNotV m) :=
  ⟨pe_imp (pe_not h.pe) fun σ H Q q => tU_bind (f := fun env c S1 => (match c with
    | .bl b => .ok (.bl (!b)) S1
    | _ => .no : R D)) q fun as env d S1 as1 H1 x re rel rv g => by
    cases d with
    | bl b => cases rv; exact ⟨b, rfl, g as1 H1 _ Ex.refl rel (.bl _)⟩
    | _ => exact g.elim⟩
def mIf (t : MT) (a b : ME) : ME := fun env S => (t env S).bind fun c S1 => if c = true then a env S1 else b env S1
theorem em_if {c a b : Expr} {t : MT} {m n : ME} {pos : Pos} (hc : TM X W c t) (ha : EM X W a m) (hb : EM X W b n) : EM X W (.IfExp c a b pos) (mIf t m n) :=
  ⟨pe_imp (pe_ifExp hc.pt ha.pe hb.pe) fun σ H Q q => tU_bind (f := fun env c S1 => if c = true then m env S1 else n env S1) q fun as env d S1 as1 H1 x re rel rv g => by
    cases rv
    cases d with
    | true => rw [if_pos rfl]; exact ⟨as1, env, S1, re, rel, g⟩
    | false => rw [if_neg Bool.false_ne_true]; exact ⟨as1, env, S1, re, rel, g⟩⟩

/-! ### argument lists, displays -/
def mNil : MA := fun _ S => .ok [] S
def mCons (a : ME) (r : MA) : MA := fun env S => (a env S).bind fun x S1 => (r env S1).bind fun xs S2 => .ok (x :: xs) S2
theorem am_nil : AM X W [] mNil := ⟨pa_imp pa_nil fun σ H Q ⟨as, env, S, re, rel, g⟩ => g as H [] Ex.refl rel .nil⟩
theorem am_cons {e : Expr} {es : List Expr} {m : ME} {r : MA} (h : EM X W e m) (hr : AM X W es r) (hs : starEach (e :: es) X.env = (false, eval e X.env) :: starEach es X.env := by rfl) : AM X W (e :: es) (mCons m r) :=
  ⟨pa_imp (pa_cons h.pe hr.pa hs) fun σ H Q q => tU_bind (f := fun env x S1 => (r env S1).bind fun xs S2 => .ok (x :: xs) S2) q fun as env d S1 as1 H1 x re rel rv g =>
    ⟨as1, env, S1, re, rel, Go.bind g fun ds S2 as2 H2 xs x2 r2 rv2 g2 => g2 as2 H2 _ Ex.refl r2 (.cons (rv.mono x2) rv2)⟩⟩
def kTup (xs : List D) (S1 : Sto) : R D := if xs.length ≤ sizeLine then .ok (.tup xs) S1 else .no
def kLst (xs : List D) (S1 : Sto) : R D := if xs.length ≤ sizeLine then .ok (.obj S1.length) (S1 ++ [.lst xs]) else .no
def mTup (a : MA) : ME := fun env S => (a env S).bind kTup
def mLst (a : MA) : ME := fun env S => (a env S).bind kLst
theorem em_tup {es : List Expr} {m : MA} {k : Nat} {pos : Pos} (h : AM X W es m) : EM X W (.Tuple es k pos) (mTup m) :=
  ⟨pe_imp (pe_tup h.pa) fun σ H Q q => tU_bind (f := fun _ => kTup) q fun as env ds S1 as1 H1 xs re rel rv g => by
    unfold kTup at g
    by_cases hl : ds.length ≤ sizeLine
    · rw [if_pos hl] at g
      exact ⟨by rw [rv.len]; exact hl, fun p hp => g as1 _ _ (Ex.fresh hp) (rel.fresh hp) (.tup (SqT.of upd_same) (rv.mono (Ex.fresh hp)))⟩
    · rw [if_neg hl] at g; exact g.elim⟩
theorem new_lst {K : PySem.W.Frag} {as : List Addr} {S : Sto} {H : Hp} {p : Addr} {vs : List V} {ds : List D} (rel : Rel K as S H) (hp : H p = none) (rv : Rvs K as H vs ds) :
    Rel K (as ++ [p]) (S ++ [.lst ds]) (upd H p (.lst vs)) ∧ Ex K as H (as ++ [p]) (upd H p (.lst vs)) ∧ (as ++ [p])[S.length]? = some p :=
  rel.new hp ⟨vs, upd_same, rv.mono ((Ex.fresh hp).trans Ex.more)⟩ rfl
theorem em_lst {es : List Expr} {m : MA} {pos : Pos} (h : AM X W es m) : EM X W (.List es pos) (mLst m) :=
  ⟨pe_imp (pe_lst h.pa) fun σ H Q q => tU_bind (f := fun _ => kLst) q fun as env ds S1 as1 H1 xs re rel rv g => by
    unfold kLst at g
    by_cases hl : ds.length ≤ sizeLine
    · rw [if_pos hl] at g
      refine ⟨by rw [rv.len]; exact hl, fun p hp => ?_⟩
      obtain ⟨r1, x1, e1⟩ := new_lst rel hp rv
      exact g _ _ _ x1 r1 (.obj e1)
    · rw [if_neg hl] at g; exact g.elim⟩
end
end Mi

namespace Mi
open PySem PySem.Spec PyProof.Rows L2

/-! ### what a datum's V is -/
section
variable {K : PySem.W.Frag} {as : List Addr} {H : Hp} {S : Sto} {v : V}
theorem Rv.non_ (r : Rv K as H v .non) : v = .non := by cases r; rfl
theorem Rv.bl_ {b : Bool} (r : Rv K as H v (.bl b)) : v = .bl b := by cases r; rfl
theorem Rv.int_ {i : Int} (r : Rv K as H v (.int i)) : v = .int i := by cases r; rfl
theorem Rv.str_ {x : Str} (r : Rv K as H v (.str x)) : v = .str x := by cases r; rfl
theorem Rv.tup_ {ds : List D} (r : Rv K as H v (.tup ds)) : ∃ a xs, v = .ref a ∧ SqT K H a xs ∧ Rvs K as H xs ds := by cases r with | tup h t => exact ⟨_, _, rfl, h, t⟩
theorem Rv.obj_ {i : Nat} (r : Rv K as H v (.obj i)) : ∃ a, v = .ref a ∧ as[i]? = some a := by cases r with | obj h => exact ⟨_, rfl, h⟩
theorem Rv.lst_ {i : Nat} {ds : List D} (r : Rv K as H v (.obj i)) (rel : Rel K as S H) (h : S[i]? = some (.lst ds)) : ∃ a vs, v = .ref a ∧ as[i]? = some a ∧ H a = some (.lst vs) ∧ Rvs K as H vs ds := by
  obtain ⟨a, rfl, ha⟩ := r.obj_
  obtain ⟨vs, h1, h2⟩ := rel.ob i a _ ha h
  exact ⟨a, vs, rfl, ha, h1, h2⟩
/-- a list to be read -/
def lstAt (S : Sto) (i : Nat) : Option (List D) := match S[i]? with
  | some (.lst ds) => some ds
  | some (.fix ds) => some ds
  | _ => none
theorem Rv.seq_ {i : Nat} {ds : List D} (r : Rv K as H v (.obj i)) (rel : Rel K as S H) (h : lstAt S i = some ds) : ∃ a vs, v = .ref a ∧ as[i]? = some a ∧ SqL K H a vs ∧ Rvs K as H vs ds := by
  obtain ⟨a, rfl, ha⟩ := r.obj_
  unfold lstAt at h
  cases e : S[i]? with
  | none => rw [e] at h; cases h
  | some o =>
    rw [e] at h
    have q := rel.ob i a o ha e
    cases o with
    | lst es => cases h; obtain ⟨vs, h1, h2⟩ := q; exact ⟨a, vs, rfl, ha, SqL.of h1, h2⟩
    | fix es =>
      cases h
      obtain ⟨vs, h1, h2⟩ := q
      refine ⟨a, vs, rfl, ha, ?_, h2⟩
      rcases h1 with ⟨o, h1⟩ | h1
      · exact .inl (.inr ⟨o, h1⟩)
      · exact h1 H
    | dic es => cases h
    | gap => cases h
theorem Rv.dic_ {i : Nat} {kds : List (Key × D)} (r : Rv K as H v (.obj i)) (rel : Rel K as S H) (h : S[i]? = some (.dic kds)) : ∃ a kvs, v = .ref a ∧ as[i]? = some a ∧ H a = some (.dK kvs) ∧ Rkv K as H kvs kds := by
  obtain ⟨a, rfl, ha⟩ := r.obj_
  obtain ⟨vs, h1, h2⟩ := rel.ob i a _ ha h
  exact ⟨a, vs, rfl, ha, h1, h2⟩
theorem Rvs.sing {d : D} {vs : List V} (r : Rvs K as H vs [d]) : ∃ v, vs = [v] ∧ Rv K as H v d := by
  cases r with | cons h t => cases t; exact ⟨_, rfl, h⟩
theorem Rvs.pair {d e : D} {vs : List V} (r : Rvs K as H vs [d, e]) : ∃ v u, vs = [v, u] ∧ Rv K as H v d ∧ Rv K as H u e := by
  cases r with | cons h t => obtain ⟨u, rfl, h2⟩ := t.sing; exact ⟨_, _, rfl, h, h2⟩
theorem Rvs.ints : ∀ {vs : List V} {ns : List Int}, Rvs K as H vs (ns.map D.int) → vs = ns.map V.int
  | _, [], .nil => rfl
  | _, n :: ns, .cons h t => by rw [h.int_, Rvs.ints t]; rfl
theorem Rvs.bls : ∀ {vs : List V} {ns : List Bool}, Rvs K as H vs (ns.map D.bl) → vs = ns.map V.bl
  | _, [], .nil => rfl
  | _, n :: ns, .cons h t => by rw [h.bl_, Rvs.bls t]; rfl
theorem Rvs.strs : ∀ {vs : List V} {ns : List Str}, Rvs K as H vs (ns.map D.str) → vs = ns.map V.str
  | _, [], .nil => rfl
  | _, n :: ns, .cons h t => by rw [h.str_, Rvs.strs t]; rfl
theorem Rvs.of_ints : ∀ ns : List Int, Rvs K as H (ns.map V.int) (ns.map D.int)
  | [] => .nil
  | n :: ns => .cons (.int n) (Rvs.of_ints ns)
end
/-- all ints, all bools, all texts -/
def toInts : List D → Option (List Int)
  | [] => some []
  | .int i :: r => (toInts r).map (i :: ·)
  | _ => none
theorem toInts_eq : ∀ {ds : List D} {ns : List Int}, toInts ds = some ns → ds = ns.map D.int
  | [], ns, h => by cases h; rfl
  | .int i :: r, ns, h => by
    unfold toInts at h
    cases e : toInts r with
    | none => rw [e] at h; cases h
    | some l => rw [e] at h; cases h; rw [toInts_eq e]; rfl
  | .non :: _, _, h => by cases h
  | .bl _ :: _, _, h => by cases h
  | .str _ :: _, _, h => by cases h
  | .tup _ :: _, _, h => by cases h
  | .obj _ :: _, _, h => by cases h
@[simp] theorem toInts_map : ∀ ns : List Int, toInts (ns.map D.int) = some ns
  | [] => rfl
  | n :: ns => by show (toInts (ns.map D.int)).map (n :: ·) = _; rw [toInts_map ns]; rfl
def toBls : List D → Option (List Bool)
  | [] => some []
  | .bl i :: r => (toBls r).map (i :: ·)
  | _ => none
theorem toBls_eq : ∀ {ds : List D} {ns : List Bool}, toBls ds = some ns → ds = ns.map D.bl
  | [], ns, h => by cases h; rfl
  | .bl i :: r, ns, h => by
    unfold toBls at h
    cases e : toBls r with
    | none => rw [e] at h; cases h
    | some l => rw [e] at h; cases h; rw [toBls_eq e]; rfl
  | .non :: _, _, h => by cases h
  | .int _ :: _, _, h => by cases h
  | .str _ :: _, _, h => by cases h
  | .tup _ :: _, _, h => by cases h
  | .obj _ :: _, _, h => by cases h
@[simp] theorem toBls_map : ∀ ns : List Bool, toBls (ns.map D.bl) = some ns
  | [] => rfl
  | n :: ns => by show (toBls (ns.map D.bl)).map (n :: ·) = _; rw [toBls_map ns]; rfl
def toStrs : List D → Option (List Str)
  | [] => some []
  | .str i :: r => (toStrs r).map (i :: ·)
  | _ => none
theorem toStrs_eq : ∀ {ds : List D} {ns : List Str}, toStrs ds = some ns → ds = ns.map D.str
  | [], ns, h => by cases h; rfl
  | .str i :: r, ns, h => by
    unfold toStrs at h
    cases e : toStrs r with
    | none => rw [e] at h; cases h
    | some l => rw [e] at h; cases h; rw [toStrs_eq e]; rfl
  | .non :: _, _, h => by cases h
  | .int _ :: _, _, h => by cases h
  | .bl _ :: _, _, h => by cases h
  | .tup _ :: _, _, h => by cases h
  | .obj _ :: _, _, h => by cases h
@[simp] theorem toStrs_map : ∀ ns : List Str, toStrs (ns.map D.str) = some ns
  | [] => rfl
  | n :: ns => by show (toStrs (ns.map D.str)).map (n :: ·) = _; rw [toStrs_map ns]; rfl

/-! ### arithmetic -/
def fAdd : F2 := fun d e S => match d, e with
  | .int i, .int j => some (.int (i + j), S)
  | .str x, .str y => if x.length + y.length ≤ sizeLine then some (.str (x ++ y), S) else none
  | .tup xs, .tup ys => if xs.length + ys.length ≤ sizeLine then some (.tup (xs ++ ys), S) else none
  | .obj i, .obj j => match S[i]?, S[j]? with
    | some (.lst xs), some (.lst ys) => if xs.length + ys.length ≤ sizeLine then some (.obj S.length, S ++ [.lst (xs ++ ys)]) else none
    | _, _ => none
  | _, _ => none
def fSub : F2 := fun d e S => match d, e with
  | .int i, .int j => some (.int (i - j), S)
  | _, _ => none
def fMul : F2 := fun d e S => match d, e with
  | .int i, .int j => if i.natAbs.log2 + j.natAbs.log2 < 1000000 then some (.int (i * j), S) else none
  | .obj i, .int k => match S[i]? with
    | some (.lst xs) => if -(2 ^ 63) ≤ k ∧ k < 2 ^ 63 ∧ xs.length * k.toNat ≤ sizeLine then some (.obj S.length, S ++ [.lst (List.replicate k.toNat xs).flatten]) else none
    | _ => none
  | _, _ => none
def fDiv : F2 := fun d e S => match d, e with
  | .int i, .int j => if 0 < j ∧ j.natAbs.log2 < 9000 then some (.int (i / j), S) else none
  | _, _ => none
def fMod : F2 := fun d e S => match d, e with
  | .int i, .int j => if 0 < j then some (.int (i % j), S) else none
  | _, _ => none
def fPow : F2 := fun d e S => match d, e with
  | .int i, .int j => if 0 ≤ j ∧ j ≤ 1000000 ∧ i.natAbs < 2 ^ 64 then some (.int (i ^ j.toNat), S) else none
  | _, _ => none
section
variable {X : Cx}
theorem op_fAdd : OpR X (binaryOp .Add) (rF X.K fAdd) := by
  refine op_imp (OpR.or (OpR.or op_add op_add_str) (OpR.or op_catA op_cat)) fun x y H Q ⟨as, S, d, e, z, S', rel, rx, ry, hf, q⟩ => ?_
  cases d <;> cases e <;> try (cases hf; done)
  case int.int i j => cases hf; exact .inl (.inl ⟨i, j, rx.int_, ry.int_, q as H _ Ex.refl rel (.int _)⟩)
  case str.str a b =>
    unfold fAdd at hf
    dsimp only at hf
    by_cases hl : a.length + b.length ≤ sizeLine
    · rw [if_pos hl] at hf; cases hf; exact .inl (.inr ⟨a, b, rx.str_, ry.str_, hl, q as H _ Ex.refl rel (.str _)⟩)
    · rw [if_neg hl] at hf; cases hf
  case tup.tup ds es =>
    unfold fAdd at hf
    dsimp only at hf
    by_cases hl : ds.length + es.length ≤ sizeLine
    · rw [if_pos hl] at hf
      cases hf
      obtain ⟨a, xs, rfl, ha, ra⟩ := rx.tup_
      obtain ⟨b, ys, rfl, hb, rb⟩ := ry.tup_
      refine .inr (.inl ⟨a, b, xs, ys, rfl, rfl, ha, hb, by rw [ra.len, rb.len]; exact hl, fun h => ?_, fun _ h => ?_, fun _ _ p hp => ?_⟩)
      · subst h; cases ra; exact q as H _ Ex.refl rel (.tup hb rb)
      · subst h; cases rb; rw [List.append_nil] at q; exact q as H _ Ex.refl rel (.tup ha ra)
      · exact q as _ _ (Ex.fresh hp) (rel.fresh hp) (.tup (SqT.of upd_same) ((ra.append rb).mono (Ex.fresh hp)))
    · rw [if_neg hl] at hf; cases hf
  case obj.obj i j =>
    unfold fAdd at hf
    dsimp only at hf
    split at hf
    · rename_i ds es h1 h2
      by_cases hl : ds.length + es.length ≤ sizeLine
      · rw [if_pos hl] at hf
        cases hf
        obtain ⟨a, xs, rfl, _, ha, ra⟩ := rx.lst_ rel h1
        obtain ⟨b, ys, rfl, _, hb, rb⟩ := ry.lst_ rel h2
        refine .inr (.inr ⟨a, b, xs, ys, rfl, rfl, ha, hb, by rw [ra.len, rb.len]; exact hl, fun p hp => ?_⟩)
        obtain ⟨r1, x1, e1⟩ := new_lst rel hp (ra.append rb)
        exact q _ _ _ x1 r1 (.obj e1)
      · rw [if_neg hl] at hf; cases hf
    · cases hf
theorem op_fSub : OpR X (binaryOp .Sub) (rF X.K fSub) := by
  refine op_imp op_sub fun x y H Q ⟨as, S, d, e, z, S', rel, rx, ry, hf, q⟩ => ?_
  cases d <;> cases e <;> try (cases hf; done)
  case int.int i j => cases hf; exact ⟨i, j, rx.int_, ry.int_, q as H _ Ex.refl rel (.int _)⟩
theorem op_fMul : OpR X (binaryOp .Mult) (rF X.K fMul) := by
  refine op_imp (OpR.or op_mulW op_rep) fun x y H Q ⟨as, S, d, e, z, S', rel, rx, ry, hf, q⟩ => ?_
  cases d <;> cases e <;> try (cases hf; done)
  case int.int i j =>
    unfold fMul at hf
    dsimp only at hf
    by_cases hl : i.natAbs.log2 + j.natAbs.log2 < 1000000
    · rw [if_pos hl] at hf; cases hf; exact .inl ⟨i, j, rx.int_, ry.int_, hl, q as H _ Ex.refl rel (.int _)⟩
    · rw [if_neg hl] at hf; cases hf
  case obj.int i k =>
    unfold fMul at hf
    dsimp only at hf
    split at hf
    · rename_i ds h1
      by_cases hl : -(2 ^ 63) ≤ k ∧ k < 2 ^ 63 ∧ ds.length * k.toNat ≤ sizeLine
      · rw [if_pos hl] at hf
        cases hf
        obtain ⟨a, xs, rfl, _, ha, ra⟩ := rx.lst_ rel h1
        refine .inr ⟨a, k, xs, rfl, ry.int_, ha, hl.1, hl.2.1, by rw [ra.len]; exact hl.2.2, fun p hp => ?_⟩
        obtain ⟨r1, x1, e1⟩ := new_lst rel hp (ra.repl k.toNat)
        exact q _ _ _ x1 r1 (.obj e1)
      · rw [if_neg hl] at hf; cases hf
    · cases hf
theorem op_fDiv : OpR X (binaryOp .FloorDiv) (rF X.K fDiv) := by
  refine op_imp op_fdivW fun x y H Q ⟨as, S, d, e, z, S', rel, rx, ry, hf, q⟩ => ?_
  cases d <;> cases e <;> try (cases hf; done)
  case int.int i j =>
    unfold fDiv at hf
    dsimp only at hf
    by_cases hl : 0 < j ∧ j.natAbs.log2 < 9000
    · rw [if_pos hl] at hf; cases hf; exact ⟨i, j, rx.int_, ry.int_, hl, q as H _ Ex.refl rel (.int _)⟩
    · rw [if_neg hl] at hf; cases hf
theorem op_fMod : OpR X (binaryOp .Mod) (rF X.K fMod) := by
  refine op_imp op_mod fun x y H Q ⟨as, S, d, e, z, S', rel, rx, ry, hf, q⟩ => ?_
  cases d <;> cases e <;> try (cases hf; done)
  case int.int i j =>
    unfold fMod at hf
    dsimp only at hf
    by_cases hl : 0 < j
    · rw [if_pos hl] at hf; cases hf; exact ⟨i, j, rx.int_, ry.int_, hl, q as H _ Ex.refl rel (.int _)⟩
    · rw [if_neg hl] at hf; cases hf
theorem op_fPow : OpR X (binaryOp .Pow) (rF X.K fPow) := by
  refine op_imp op_pow fun x y H Q ⟨as, S, d, e, z, S', rel, rx, ry, hf, q⟩ => ?_
  cases d <;> cases e <;> try (cases hf; done)
  case int.int i j =>
    unfold fPow at hf
    dsimp only at hf
    by_cases hl : 0 ≤ j ∧ j ≤ 1000000 ∧ i.natAbs < 2 ^ 64
    · rw [if_pos hl] at hf; cases hf; exact ⟨i, j, rx.int_, ry.int_, hl, q as H _ Ex.refl rel (.int _)⟩
    · rw [if_neg hl] at hf; cases hf
/-- -x -/
abbrev F1 := D → Sto → Option (D × Sto)
def rF1 (K : PySem.W.Frag) (f : F1) : V → Hp → VK → Prop := fun x H Q => ∃ as S d z S', Rel K as S H ∧ Rv K as H x d ∧ f d S = some (z, S') ∧ ∀ as' H' v, Ex K as H as' H' → Rel K as' S' H' → Rv K as' H' v z → Q v H'
def m1 (f : F1) (a : ME) : ME := fun env S => (a env S).bind fun x S1 => R.of (f x S1)
theorem em_un {W : WX} {f : F1} {a : Expr} {op : UnaryOp} {ma : ME} {pos : Pos} (ho : UnR X (unaryOp op) (rF1 X.K f)) (ha : EM X W a ma)
    (hu : ∀ {t : TE} {r : V → Hp → VK → Prop}, UnR X (unaryOp op) r → PE X a t → PE X (.UnaryOp op a pos) (tUn r t)) : EM X W (.UnaryOp op a pos) (m1 f ma) :=
  ⟨pe_imp (hu ho ha.pe) fun σ H Q h => tU_bind (f := fun _ x S1 => R.of (f x S1)) h fun as env d S1 as1 H1 x re rel rv g => by
    obtain ⟨z, S', hz, q⟩ := go_of g
    exact ⟨as1, S1, d, z, S', rel, rv, hz, q⟩⟩
def fNeg : F1 := fun d S => match d with
  | .int i => some (.int (-i), S)
  | _ => none
theorem un_fNeg : UnR X (unaryOp .USub) (rF1 X.K fNeg) := by
  refine un_imp un_neg fun x H Q ⟨as, S, d, z, S', rel, rx, hf, q⟩ => ?_
  cases d <;> try (cases hf; done)
  case int i => cases hf; exact ⟨i, rx.int_, q as H _ Ex.refl rel (.int _)⟩

/-! ### order -/
def fRel (p : Int → Int → Bool) (s : Str → Str → Option Bool) : F2 := fun d e S => match d, e with
  | .int i, .int j => some (.bl (p i j), S)
  | .str x, .str y => match s x y with
    | some b => some (.bl b, S)
    | none => none
  | _, _ => none
theorem op_rel {op : CmpOp} {p : Int → Int → Bool} {s : Str → Str → Option Bool} (h : OpR X (compareOp op) (rI0 fun i j => .bl (p i j)))
    (h2 : OpR X (compareOp op) (fun x y H Q => ∃ i j, x = .str i ∧ y = .str j ∧ ∃ b, s i j = some b ∧ Q (.bl b) H)) : OpR X (compareOp op) (rF X.K (fRel p s)) := by
  refine op_imp (OpR.or h h2) fun x y H Q ⟨as, S, d, e, z, S', rel, rx, ry, hf, q⟩ => ?_
  cases d <;> cases e <;> try (cases hf; done)
  case int.int i j => cases hf; exact .inl ⟨i, j, rx.int_, ry.int_, q as H _ Ex.refl rel (.bl _)⟩
  case str.str a b =>
    unfold fRel at hf
    dsimp only at hf
    cases e : s a b with
    | none => rw [e] at hf; cases hf
    | some c => rw [e] at hf; cases hf; exact .inr ⟨a, b, rx.str_, ry.str_, c, e, q as H _ Ex.refl rel (.bl _)⟩
def sLt (x y : Str) : Option Bool := some (decide (x.cps.toList < y.cps.toList))
def fLt : F2 := fRel (fun i j => decide (i < j)) sLt
def fLe : F2 := fRel (fun i j => decide (i ≤ j)) fun x y => some (!decide (y.cps.toList < x.cps.toList))
def fGt : F2 := fRel (fun i j => decide (j < i)) fun x y => some (decide (y.cps.toList < x.cps.toList))
def fGe : F2 := fRel (fun i j => decide (j ≤ i)) fun x y => some (!decide (x.cps.toList < y.cps.toList))
theorem op_fLt : OpR X (compareOp .Lt) (rF X.K fLt) := op_rel op_lt (op_imp op_lt_str fun x y H Q ⟨i, j, h1, h2, b, h3, q⟩ => by cases h3; exact ⟨i, j, h1, h2, q⟩)
theorem op_fLe : OpR X (compareOp .LtE) (rF X.K fLe) := op_rel op_le (op_imp op_le_str fun x y H Q ⟨i, j, h1, h2, b, h3, q⟩ => by cases h3; exact ⟨i, j, h1, h2, q⟩)
theorem op_fGt : OpR X (compareOp .Gt) (rF X.K fGt) := op_rel op_gt (op_imp op_gt_str fun x y H Q ⟨i, j, h1, h2, b, h3, q⟩ => by cases h3; exact ⟨i, j, h1, h2, q⟩)
theorem op_fGe : OpR X (compareOp .GtE) (rF X.K fGe) := op_rel op_ge (op_imp op_ge_str fun x y H Q ⟨i, j, h1, h2, b, h3, q⟩ => by cases h3; exact ⟨i, j, h1, h2, q⟩)

/-! ### ==, by data -/
mutual
def toP (S : Sto) : Nat → D → Option PyData
  | 0, _ => none
  | _ + 1, .non => some .none
  | _ + 1, .bl b => some (.bool b)
  | _ + 1, .int i => some (.int i)
  | _ + 1, .str x => some (.str x)
  | n + 1, .tup ds => (toPs S n ds).map .tuple
  | n + 1, .obj i => match lstAt S i with
    | some ds => (toPs S n ds).map .list
    | none => none
def toPs (S : Sto) : Nat → List D → Option (List PyData)
  | 0, _ => none
  | _ + 1, [] => some []
  | n + 1, d :: ds => match toP S n d, toPs S n ds with
    | some p, some ps => some (p :: ps)
    | _, _ => none
end
end
section
variable {K : PySem.W.Frag} {as : List Addr} {H : Hp} {S : Sto}
theorem dp_both (rel : Rel K as S H) : ∀ n : Nat, (∀ {v : V} {d : D} {p : PyData}, Rv K as H v d → toP S n d = some p → Dp K H v p) ∧ (∀ {vs : List V} {ds : List D} {ps : List PyData}, Rvs K as H vs ds → toPs S n ds = some ps → DpAll K H vs ps) := by
  intro n
  induction n with
  | zero => exact ⟨fun _ h => (by unfold toP at h; cases h), fun _ h => (by unfold toPs at h; cases h)⟩
  | succ n ih =>
    refine ⟨fun {v d p} r h => ?_, fun {vs ds ps} r h => ?_⟩
    · cases d with
      | non => unfold toP at h; cases h; rw [r.non_]; exact .non
      | bl b => unfold toP at h; cases h; rw [r.bl_]; exact .bl b
      | int i => unfold toP at h; cases h; rw [r.int_]; exact .int i
      | str x => unfold toP at h; cases h; rw [r.str_]; exact .str x
      | tup ds =>
        unfold toP at h
        cases e : toPs S n ds with
        | none => rw [e] at h; cases h
        | some ps =>
          rw [e] at h; cases h
          obtain ⟨a, xs, rfl, ha, ra⟩ := r.tup_
          exact .tup ha (ih.2 ra e)
      | obj i =>
        unfold toP at h
        cases e0 : lstAt S i with
        | none => rw [e0] at h; cases h
        | some ds =>
          rw [e0] at h
          dsimp only at h
          cases e : toPs S n ds with
          | none => rw [e] at h; cases h
          | some ps =>
            rw [e] at h; cases h
            obtain ⟨a, xs, rfl, _, ha, ra⟩ := r.seq_ rel e0
            exact .lst ha (ih.2 ra e)
    · cases r with
      | nil => unfold toPs at h; cases h; exact .nil
      | cons r1 r2 =>
        rename_i d ds
        unfold toPs at h
        cases e1 : toP S n _ with
        | none => rw [e1] at h; cases h
        | some p =>
          cases e2 : toPs S n _ with
          | none => rw [e1, e2] at h; cases h
          | some ps => rw [e1, e2] at h; cases h; exact .cons (ih.1 r1 e1) (ih.2 r2 e2)
end
/-- deep equality, where both are data -/
def eqD (S : Sto) (d e : D) : Option Bool := match toP S 1000000 d, toP S 1000000 e with
  | some p, some q => if SeqAt.shaped p = true ∧ SeqAt.shaped q = true then some (PyData.eqv p q) else none
  | _, _ => none
def eqB (S : Sto) (d e : D) : Option Bool := match d, e with
  | .int i, .int j => some (decide (i = j))
  | .str i, .str j => some (decide (i = j))
  | .bl i, .bl j => some (decide (i = j))
  | .non, .non => some true
  | _, _ => eqD S d e
def fEq : F2 := fun d e S => (eqB S d e).map fun b => (.bl b, S)
def fNe : F2 := fun d e S => (eqB S d e).map fun b => (.bl (!b), S)
section
variable {X : Cx}
theorem eq_cases {K : PySem.W.Frag} {as : List Addr} {H : Hp} {S : Sto} {x y : V} {d e : D} {b : Bool} (rel : Rel K as S H) (rx : Rv K as H x d) (ry : Rv K as H y e) (h : eqB S d e = some b) :
    (scal x y = true ∧ decide (x = y) = b) ∨ (∃ p q, Dp K H x p ∧ Dp K H y q ∧ SeqAt.shaped p = true ∧ SeqAt.shaped q = true ∧ PyData.eqv p q = b) := by
  have gen : ∀ {d e : D}, Rv K as H x d → Rv K as H y e → eqD S d e = some b → (∃ p q, Dp K H x p ∧ Dp K H y q ∧ SeqAt.shaped p = true ∧ SeqAt.shaped q = true ∧ PyData.eqv p q = b) := fun {d e} rx ry h => by
    unfold eqD at h
    cases e1 : toP S 1000000 d with
    | none => rw [e1] at h; cases h
    | some p =>
      cases e2 : toP S 1000000 e with
      | none => rw [e1, e2] at h; cases h
      | some q =>
        rw [e1, e2] at h
        dsimp only at h
        by_cases hs : SeqAt.shaped p = true ∧ SeqAt.shaped q = true
        · rw [if_pos hs] at h
          exact ⟨p, q, (dp_both rel _).1 rx e1, (dp_both rel _).1 ry e2, hs.1, hs.2, Option.some.inj h⟩
        · rw [if_neg hs] at h; cases h
  unfold eqB at h
  split at h
  · cases h; rw [rx.int_, ry.int_]; exact .inl ⟨rfl, by simp⟩
  · cases h; rw [rx.str_, ry.str_]; exact .inl ⟨rfl, by simp⟩
  · cases h; rw [rx.bl_, ry.bl_]; exact .inl ⟨rfl, by simp⟩
  · cases h; rw [rx.non_, ry.non_]; exact .inl ⟨rfl, by simp⟩
  · exact .inr (gen rx ry h)
theorem op_fEq (hu : X.A.units + 64 < cLine) : OpR X (compareOp .Eq) (rF X.K fEq) := by
  refine op_imp (OpR.or op_eq (op_eqD hu)) fun x y H Q ⟨as, S, d, e, z, S', rel, rx, ry, hf, q⟩ => ?_
  unfold fEq at hf
  cases h : eqB S d e with
  | none => rw [h] at hf; cases hf
  | some b =>
    rw [h] at hf; cases hf
    rcases eq_cases rel rx ry h with ⟨h1, h2⟩ | ⟨p, p', h1, h2, h3, h4, h5⟩
    · exact .inl ⟨h1, by rw [h2]; exact q as H _ Ex.refl rel (.bl _)⟩
    · exact .inr ⟨p, p', h1, h2, h3, h4, by rw [h5]; exact q as H _ Ex.refl rel (.bl _)⟩
theorem op_fNe (hu : X.A.units + 64 < cLine) : OpR X (compareOp .NotEq) (rF X.K fNe) := by
  refine op_imp (OpR.or op_ne (op_neD hu)) fun x y H Q ⟨as, S, d, e, z, S', rel, rx, ry, hf, q⟩ => ?_
  unfold fNe at hf
  cases h : eqB S d e with
  | none => rw [h] at hf; cases hf
  | some b =>
    rw [h] at hf; cases hf
    rcases eq_cases rel rx ry h with ⟨h1, h2⟩ | ⟨p, p', h1, h2, h3, h4, h5⟩
    · exact .inl ⟨h1, by rw [h2]; exact q as H _ Ex.refl rel (.bl _)⟩
    · exact .inr ⟨p, p', h1, h2, h3, h4, by rw [h5]; exact q as H _ Ex.refl rel (.bl _)⟩
/-- is: of None, of two bools -/
def fIs : F2 := fun d e S => match d, e with
  | .non, .non => some (.bl true, S)
  | _, .non => some (.bl false, S)
  | .bl a, .bl b => some (.bl (decide (a = b)), S)
  | _, _ => none
def fIsN : F2 := fun d e S => match d, e with
  | .non, .non => some (.bl false, S)
  | _, .non => some (.bl true, S)
  | .bl a, .bl b => some (.bl (!decide (a = b)), S)
  | _, _ => none
theorem Rv.non_iff {K : PySem.W.Frag} {as : List Addr} {H : Hp} {x : V} {d : D} (r : Rv K as H x d) (h : d ≠ .non) : decide (x = .non) = false := decide_eq_false fun e => by
  subst e
  cases r
  exact h rfl
theorem op_fIs : OpR X (compareOp .Is) (rF X.K fIs) := by
  refine op_imp (OpR.or op_isN op_is_bl) fun x y H Q ⟨as, S, d, e, z, S', rel, rx, ry, hf, q⟩ => ?_
  cases e <;> cases d <;> try (cases hf; done)
  case non.non => cases hf; exact .inl ⟨ry.non_, by rw [rx.non_]; exact q as H _ Ex.refl rel (.bl _)⟩
  case bl.bl a b => cases hf; exact .inr ⟨_, _, rx.bl_, ry.bl_, q as H _ Ex.refl rel (.bl _)⟩
  all_goals (cases hf; exact .inl ⟨ry.non_, by rw [rx.non_iff (fun h => nomatch h)]; exact q as H _ Ex.refl rel (.bl _)⟩)
theorem op_fIsN : OpR X (compareOp .IsNot) (rF X.K fIsN) := by
  refine op_imp (OpR.or op_notN op_isnot_bl) fun x y H Q ⟨as, S, d, e, z, S', rel, rx, ry, hf, q⟩ => ?_
  cases e <;> cases d <;> try (cases hf; done)
  case non.non => cases hf; exact .inl ⟨ry.non_, by rw [rx.non_]; exact q as H _ Ex.refl rel (.bl _)⟩
  case bl.bl a b => cases hf; exact .inr ⟨_, _, rx.bl_, ry.bl_, q as H _ Ex.refl rel (.bl _)⟩
  all_goals (cases hf; exact .inl ⟨ry.non_, by rw [rx.non_iff (fun h => nomatch h)]; exact q as H _ Ex.refl rel (.bl _)⟩)
end
end Mi

namespace Mi
open PySem PySem.Spec PyProof.Rows L2

/-! ### in, over flat things -/
def flatD : D → Bool
  | .non => true | .bl _ => true | .int _ => true | .str _ => true | _ => false
def eqF : D → D → Bool
  | .non, .non => true
  | .bl a, .bl b => a == b
  | .bl a, .int b => (if a then 1 else 0) == b
  | .int a, .bl b => a == (if b then 1 else 0)
  | .int a, .int b => a == b
  | .str a, .str b => a == b
  | _, _ => false
def inD (d : D) (ds : List D) : Bool := ds.any fun e => eqF e d
section
variable {K : PySem.W.Frag} {as : List Addr} {H : Hp} {S : Sto}
theorem flat_of {v : V} {d : D} (r : Rv K as H v d) (h : flatD d = true) : flatV v = true := by
  cases r <;> first | rfl | exact absurd h (by intro q; cases q)
theorem flats_of : ∀ {vs : List V} {ds : List D}, Rvs K as H vs ds → ds.all flatD = true → vs.all flatV = true
  | _, _, .nil, _ => rfl
  | _, _, .cons h t, q => by
    rw [List.all_cons, Bool.and_eq_true] at q
    rw [List.all_cons, flat_of h q.1, flats_of t q.2]; rfl
theorem eqF_of {v u : V} {d e : D} (r : Rv K as H v d) (q : Rv K as H u e) (h : flatD d = true) (h2 : flatD e = true) : eqV v u = eqF d e := by
  cases r <;> cases q <;> first | rfl | exact absurd h (by intro q; cases q) | exact absurd h2 (by intro q; cases q)
theorem inD_of {v : V} {d : D} (r : Rv K as H v d) (h : flatD d = true) : ∀ {vs : List V} {ds : List D}, Rvs K as H vs ds → ds.all flatD = true → inV v vs = inD d ds
  | _, _, .nil, _ => rfl
  | _, _, .cons r1 t, q => by
    rw [List.all_cons, Bool.and_eq_true] at q
    unfold inV inD
    rw [List.any_cons, List.any_cons, eqF_of r1 r q.1 h]
    exact congrArg _ (inD_of r h t q.2)
end
def inFlat (d : D) (ds : List D) : Option Bool := if flatD d = true ∧ ds.all flatD = true then some (inD d ds) else none
def inB (S : Sto) (d e : D) : Option Bool := match e with
  | .str y => match d with
    | .str x => match x.cps.toList with
      | [c] => some (decide (c ∈ y.cps.toList))
      | _ => some (!(Builtin.Str.occurrences y x 0 y.length 1).isEmpty)
    | _ => none
  | .tup ds => inFlat d ds
  | .obj i => (lstAt S i).bind (inFlat d)
  | _ => none
def fIn : F2 := fun d e S => (inB S d e).map fun b => (.bl b, S)
def fNotIn : F2 := fun d e S => (inB S d e).map fun b => (.bl (!b), S)
section
variable {X : Cx}
theorem in_cases {K : PySem.W.Frag} {as : List Addr} {H : Hp} {S : Sto} {x y : V} {d e : D} {b : Bool} (rel : Rel K as S H) (rx : Rv K as H x d) (ry : Rv K as H y e) (h : inB S d e = some b) :
    (∃ (c : Nat) (z : Str), x = .str ⟨#[c]⟩ ∧ y = .str z ∧ decide (c ∈ z.cps.toList) = b) ∨ (∃ i j : Str, x = .str i ∧ y = .str j ∧ (!(Builtin.Str.occurrences j i 0 j.length 1).isEmpty) = b) ∨
      ∃ (p : Addr) (xs : List V), y = .ref p ∧ (SqL K H p xs ∨ SqT K H p xs) ∧ flatV x = true ∧ xs.all flatV = true ∧ inV x xs = b := by
  have fl : ∀ {p : Addr} {xs : List V} {ds : List D}, inFlat d ds = some b → Rvs K as H xs ds → flatV x = true ∧ xs.all flatV = true ∧ inV x xs = b := fun {p xs ds} h rp => by
    unfold inFlat at h
    by_cases hf : flatD d = true ∧ ds.all flatD = true
    · rw [if_pos hf] at h; cases h
      exact ⟨flat_of rx hf.1, flats_of rp hf.2, inD_of rx hf.1 rp hf.2⟩
    · rw [if_neg hf] at h; cases h
  cases e with
  | str z =>
    cases d <;> try (cases h; done)
    rename_i a
    unfold inB at h
    dsimp only at h
    split at h
    · rename_i c hc
      cases h
      refine .inl ⟨c, z, ?_, ry.str_, rfl⟩
      rw [rx.str_]
      obtain ⟨⟨l⟩⟩ := a
      simp at hc
      rw [hc]
    · cases h; exact .inr (.inl ⟨a, z, rx.str_, ry.str_, rfl⟩)
  | tup ds =>
    obtain ⟨p, xs, rfl, hp, rp⟩ := ry.tup_
    exact .inr (.inr ⟨p, xs, rfl, .inr hp, fl (p := p) h rp⟩)
  | obj i =>
    unfold inB at h
    dsimp only at h
    cases e0 : lstAt S i with
    | none => rw [e0] at h; cases h
    | some ds =>
      rw [e0] at h
      obtain ⟨p, xs, rfl, _, hp, rp⟩ := ry.seq_ rel e0
      exact .inr (.inr ⟨p, xs, rfl, .inl hp, fl (p := p) h rp⟩)
  | non => cases h
  | bl _ => cases h
  | int _ => cases h
theorem op_fIn : OpR X (compareOp .In) (rF X.K fIn) := by
  refine op_imp (OpR.or (OpR.or op_in_sign op_in_str) op_in_seq) fun x y H Q ⟨as, S, d, e, z, S', rel, rx, ry, hf, q⟩ => ?_
  unfold fIn at hf
  cases h : inB S d e with
  | none => rw [h] at hf; cases hf
  | some b =>
    rw [h] at hf; cases hf
    have fin := q as H (.bl b) Ex.refl rel (.bl b)
    rcases in_cases rel rx ry h with ⟨c, z, h1, h2, h3⟩ | ⟨i, j, h1, h2, h3⟩ | ⟨p, xs, h1, h2, h3, h4, h5⟩
    · exact .inl (.inl ⟨c, z, h1, h2, by rw [h3]; exact fin⟩)
    · exact .inl (.inr ⟨i, j, h1, h2, by rw [h3]; exact fin⟩)
    · exact .inr ⟨p, xs, h1, h2, h3, h4, by rw [if_neg Bool.false_ne_true, h5]; exact fin⟩
theorem op_fNotIn : OpR X (compareOp .NotIn) (rF X.K fNotIn) := by
  refine op_imp (OpR.or (OpR.or op_notIn_sign op_notin_str) op_notIn_seq) fun x y H Q ⟨as, S, d, e, z, S', rel, rx, ry, hf, q⟩ => ?_
  unfold fNotIn at hf
  cases h : inB S d e with
  | none => rw [h] at hf; cases hf
  | some b =>
    rw [h] at hf; cases hf
    have fin := q as H (.bl (!b)) Ex.refl rel (.bl _)
    rcases in_cases rel rx ry h with ⟨c, z, h1, h2, h3⟩ | ⟨i, j, h1, h2, h3⟩ | ⟨p, xs, h1, h2, h3, h4, h5⟩
    · exact .inl (.inl ⟨c, z, h1, h2, by rw [h3]; exact fin⟩)
    · exact .inl (.inr ⟨i, j, h1, h2, by rw [h3]; exact fin⟩)
    · exact .inr ⟨p, xs, h1, h2, h3, h4, by rw [if_pos rfl, h5]; exact fin⟩

/-! ### items -/
def fIx : F2 := fun d e S => match d, e with
  | .tup ds, .int i => (atI ds i).map fun z => (z, S)
  | .obj j, .int i => (lstAt S j).bind fun ds => (atI ds i).map fun z => (z, S)
  | .str z, .int i => if z.length ≤ sizeLine then (atI z.cps.toList i).map fun c => (.str ⟨#[c]⟩, S) else none
  | _, _ => none
theorem atI_of {K : PySem.W.Frag} {as : List Addr} {H : Hp} {vs : List V} {ds : List D} {i : Int} {d : D} (r : Rvs K as H vs ds) (h : atI ds i = some d) : ∃ v, atI vs i = some v ∧ Rv K as H v d := by
  unfold atI at h ⊢
  rw [r.len]
  cases e : ixN ds.length i with
  | none => rw [e] at h; cases h
  | some j => rw [e] at h; exact r.get h
theorem ix_fIx : IxR X (rF X.K fIx) := by
  refine ix_imp (IxR.or (IxR.or ix_list ix_tup) ix_str) fun x y H Q ⟨as, S, d, e, z, S', rel, rx, ry, hf, q⟩ => ?_
  cases d <;> cases e <;> try (cases hf; done)
  case tup.int ds i =>
    unfold fIx at hf
    dsimp only at hf
    cases h : atI ds i with
    | none => rw [h] at hf; cases hf
    | some w =>
      rw [h] at hf; cases hf
      obtain ⟨a, xs, rfl, ha, ra⟩ := rx.tup_
      obtain ⟨v, hv, rv⟩ := atI_of ra h
      exact .inl (.inr ⟨a, xs, i, v, rfl, ry.int_, ha, hv, q as H v Ex.refl rel rv⟩)
  case obj.int j i =>
    unfold fIx at hf
    dsimp only at hf
    cases h0 : lstAt S j with
    | none => rw [h0] at hf; cases hf
    | some ds =>
      rw [h0] at hf
      cases h : atI ds i with
      | none => rw [Option.bind_some, h] at hf; cases hf
      | some w =>
        rw [Option.bind_some, h] at hf; cases hf
        obtain ⟨a, xs, rfl, _, ha, ra⟩ := rx.seq_ rel h0
        obtain ⟨v, hv, rv⟩ := atI_of ra h
        exact .inl (.inl ⟨a, xs, i, v, rfl, ry.int_, ha, hv, q as H v Ex.refl rel rv⟩)
  case str.int w i =>
    unfold fIx at hf
    dsimp only at hf
    by_cases hl : w.length ≤ sizeLine
    · rw [if_pos hl] at hf
      cases h : atI w.cps.toList i with
      | none => rw [h] at hf; cases hf
      | some c => rw [h] at hf; cases hf; exact .inr ⟨w, i, c, rx.str_, ry.int_, hl, h, q as H _ Ex.refl rel (.str _)⟩
    · rw [if_neg hl] at hf; cases hf

/-! ### slices -/
def cutD (xs : List D) (lo hi : Option Int) : List D := (xs.drop (HT.sIx xs.length 0 lo)).take (HT.sIx xs.length xs.length hi - HT.sIx xs.length 0 lo)
theorem cut_of {K : PySem.W.Frag} {as : List Addr} {H : Hp} {vs : List V} {ds : List D} {lo hi : Option Int} (r : Rvs K as H vs ds) : Rvs K as H (cutV vs lo hi) (cutD ds lo hi) := by
  unfold cutV cutD
  rw [r.len]
  exact (r.drop _).take _
def fSl (x : D) (lo hi : Option Int) (S : Sto) : Option (D × Sto) := match x with
  | .tup ds => some (.tup (cutD ds lo hi), S)
  | .obj j => (lstAt S j).map fun ds => (.obj S.length, S ++ [.lst (cutD ds lo hi)])
  | .str z => if z.length ≤ sizeLine then some (.str (cutS z lo hi), S) else none
  | _ => none
abbrev MO' := Env → Sto → R (Option Int)
def Ro' : List Addr → Hp → Option Int → Option Int → Prop := fun _ _ a b => a = b
structure OM (X : Cx) (W : WX) (e : Option Expr) (m : MO') : Prop where
  po : PO X e (tU X.K X.mg W Ro' m)
theorem po_imp {e : Option Expr} {t t' : TO} (h : PO X e t) (i : ∀ σ H Q, t' σ H Q → t σ H Q) : PO X e t' := ⟨fun pins s σ H Q I q => h.run pins s σ H Q I (i σ H Q q)⟩
def mNoPart : MO' := fun _ S => .ok none S
def kPart (x : D) (S : Sto) : R (Option Int) := match x with
  | .int i => .ok (some i) S
  | _ => .no
def mPart (a : ME) : MO' := fun env S => (a env S).bind kPart
theorem om_none {W : WX} : OM X W none mNoPart := ⟨po_imp po_none fun σ H Q ⟨as, env, S, re, rel, g⟩ => g as H none Ex.refl rel rfl⟩
theorem om_some {W : WX} {e : Expr} {m : ME} (h : EM X W e m) : OM X W (some e) (mPart m) := ⟨po_imp (po_some h.pe) fun σ H Q q => tU_bind (f := fun _ => kPart) q fun as env d S1 as1 H1 x re rel rv g => by
  cases d <;> first | exact g.elim | skip
  rw [rv.int_]
  exact ⟨_, rfl, g as1 H1 _ Ex.refl rel rfl⟩⟩
def mSl (a : ME) (lo hi : MO') : ME := fun env S => (a env S).bind fun x S1 => (lo env S1).bind fun l S2 => (hi env S2).bind fun u S3 => R.of (fSl x l u S3)
theorem em_sl {W : WX} {e : Expr} {lo hi : Option Expr} {m : ME} {l h : MO'} {p2 pos : Pos} (he : EM X W e m) (hl : OM X W lo l) (hh : OM X W hi h) : EM X W (.Subscript e (.Slice lo hi none p2) pos) (mSl m l h) :=
  ⟨pe_imp (pe_slice (SlR.or (SlR.or sl_tupA sl_list) sl_str) he.pe hl.po hh.po) fun σ H Q q =>
    tU_bind (f := fun env x S1 => (l env S1).bind fun lo S2 => (h env S2).bind fun u S3 => R.of (fSl x lo u S3)) q fun as env d S1 as1 H1 x re rel rv g =>
    ⟨as1, env, S1, re, rel, Go.bind g fun lo' S2 as2 H2 lo1 x2 r2 e2 g2 => ⟨as2, env, S2, re.mono x2, r2, Go.bind g2 fun hi' S3 as3 H3 hi1 x3 r3 e3 g3 => by
      cases e2
      cases e3
      obtain ⟨z, S', hz, q⟩ := go_of g3
      have rx := (rv.mono x2).mono x3
      cases d <;> try (cases hz; done)
      case tup ds =>
        cases hz
        obtain ⟨a, xs, rfl, ha, ra⟩ := rx.tup_
        refine .inl (.inl ⟨a, xs, rfl, ha, fun hw => ?_, fun _ p hp => ?_⟩)
        · have e : cutD ds lo' hi' = ds := by
            unfold cutD
            rw [← ra.len, hw.1, hw.2, List.drop_zero, Nat.sub_zero, ra.len, List.take_length]
          rw [e] at q
          exact q as3 H3 _ Ex.refl r3 (.tup ha ra)
        · exact q as3 _ _ (Ex.fresh hp) (r3.fresh hp) (.tup (SqT.of upd_same) ((cut_of ra).mono (Ex.fresh hp)))
      case obj j =>
        unfold fSl at hz
        dsimp only at hz
        cases h0 : lstAt S3 j with
        | none => rw [h0] at hz; cases hz
        | some ds =>
          rw [h0] at hz; cases hz
          obtain ⟨a, xs, rfl, _, ha, ra⟩ := rx.seq_ r3 h0
          refine .inl (.inr ⟨a, xs, rfl, ha, fun p hp => ?_⟩)
          obtain ⟨r1, x1, e1⟩ := new_lst r3 hp (cut_of (lo := lo') (hi := hi') ra)
          exact q _ _ _ x1 r1 (.obj e1)
      case str w =>
        unfold fSl at hz
        dsimp only at hz
        by_cases hl : w.length ≤ sizeLine
        · rw [if_pos hl] at hz; cases hz
          exact .inr ⟨w, rx.str_, hl, q as3 H3 _ Ex.refl r3 (.str _)⟩
        · rw [if_neg hl] at hz; cases hz⟩⟩⟩

/-! ### calls of built-ins -/
abbrev FL := List D → Sto → Option (D × Sto)
def rFL (K : PySem.W.Frag) (f : FL) : List V → Hp → VK → Prop := fun xs H Q => ∃ as S ds z S', Rel K as S H ∧ Rvs K as H xs ds ∧ f ds S = some (z, S') ∧ ∀ as' H' v, Ex K as H as' H' → Rel K as' S' H' → Rv K as' H' v z → Q v H'
def mB1 (f : FL) (a : MA) : ME := fun env S => (a env S).bind fun xs S1 => R.of (f xs S1)
theorem mB1_step {K : PySem.W.Frag} {mg : Str → Option Value} {W : WX} {f : FL} {m : MA} {σ : L2.St} {H : Hp} {Q : VK} (h : tU K mg W (Rv K) (mB1 f m) σ H Q) : tCB (rFL K f) (tU K mg W (Rvs K) m) σ H Q :=
  tU_bind (f := fun _ xs S1 => R.of (f xs S1)) h fun as env ds S1 as1 H1 vs re rel rv g => by
    obtain ⟨z, S', hz, q⟩ := go_of g
    exact ⟨as1, S1, ds, z, S', rel, rv, hz, q⟩
theorem em_callB {W : WX} {f : FL} {x : Str} {id : String} {e : Expr} {es : List Expr} {m : MA} {p pos : Pos} (hc : CallR X (.builtin id) (rFL X.K f)) (hg : Gl X x) (hm : X.mg x = none) (hv : bootBuiltins x = some (.builtin id)) (ha : AM X W (e :: es) m)
    (hn : x ≠ "__name__" := by decide) (hdb : (x == ("__debug__" : Str)) = false := by decide) (he : starEach (e :: es) X.env = (false, eval e X.env) :: starEach es X.env := by rfl) (hpl : (backTo pos (starEach es X.env)).any (·.1) = false := by rfl) :
    EM X W (.Call (.Name x p) (e :: es) [] pos) (mB1 f m) := ⟨pe_imp (pe_callB hc hg hm hv ha.pa hn hdb he hpl) fun σ H Q h => mB1_step h⟩
theorem em_callT {W : WX} {f : FL} {x : Str} {T : String} {e : Expr} {es : List Expr} {m : MA} {p pos : Pos} (hc : CallR X (.type T) (rFL X.K f)) (hg : Gl X x) (hm : X.mg x = none) (hv : bootBuiltins x = some (.type T)) (ha : AM X W (e :: es) m)
    (hn : x ≠ "__name__" := by decide) (hdb : (x == ("__debug__" : Str)) = false := by decide) (he : starEach (e :: es) X.env = (false, eval e X.env) :: starEach es X.env := by rfl) (hpl : (backTo pos (starEach es X.env)).any (·.1) = false := by rfl) :
    EM X W (.Call (.Name x p) (e :: es) [] pos) (mB1 f m) := ⟨pe_imp (pe_callTy hc hg hm hv ha.pa hn hdb he hpl) fun σ H Q h => mB1_step h⟩
theorem call_or {f : Value} {r r' : List V → Hp → VK → Prop} (h : CallR X f r) (h' : CallR X f r') : CallR X f (fun xs H Q => r xs H Q ∨ r' xs H Q) := fun pins s σ H xs us Q I rv q => q.elim (h pins s σ H xs us Q I rv) (h' pins s σ H xs us Q I rv)
/-- one argument -/
def f1L (f : F1) : FL := fun ds S => match ds with
  | [d] => f d S
  | _ => none
theorem f1L_inv {f : F1} {K : PySem.W.Frag} {as : List Addr} {H : Hp} {xs : List V} {ds : List D} {S S' : Sto} {z : D} (r : Rvs K as H xs ds) (h : f1L f ds S = some (z, S')) : ∃ x d, xs = [x] ∧ Rv K as H x d ∧ f d S = some (z, S') := by
  unfold f1L at h
  split at h
  · obtain ⟨x, rfl, rx⟩ := r.sing
    exact ⟨x, _, rfl, rx, h⟩
  · cases h
def fLen : F1 := fun d S => match d with
  | .tup ds => some (.int ds.length, S)
  | .obj i => match S[i]? with
    | some (.lst ds) => some (.int ds.length, S)
    | some (.fix ds) => some (.int ds.length, S)
    | some (.dic kds) => some (.int kds.length, S)
    | some .gap => none
    | none => none
  | .str z => if z.length ≤ sizeLine then some (.int z.length, S) else none
  | _ => none
theorem call_fLen : CallR X (.builtin "len") (rFL X.K (f1L fLen)) := by
  refine call_imp (call_or call_len call_lenD) fun xs H Q ⟨as, S, ds, z, S', rel, rs, hf, q⟩ => ?_
  obtain ⟨x, d, rfl, rx, hf⟩ := f1L_inv rs hf
  cases d <;> try (cases hf; done)
  case tup es =>
    cases hf
    obtain ⟨a, ys, rfl, ha, ra⟩ := rx.tup_
    exact .inl ⟨_, ys.length, rfl, .inr ⟨ys, ha, rfl⟩, by rw [ra.len]; exact q as H _ Ex.refl rel (.int _)⟩
  case obj i =>
    unfold fLen at hf
    dsimp only at hf
    cases e : S[i]? with
    | none => rw [e] at hf; cases hf
    | some o =>
      rw [e] at hf
      cases o with
      | lst es =>
        cases hf
        obtain ⟨a, ys, rfl, _, ha, ra⟩ := rx.seq_ rel (ds := es) (by unfold lstAt; rw [e])
        exact .inl ⟨_, ys.length, rfl, .inl ⟨ys, ha, rfl⟩, by rw [ra.len]; exact q as H _ Ex.refl rel (.int _)⟩
      | fix es =>
        cases hf
        obtain ⟨a, ys, rfl, _, ha, ra⟩ := rx.seq_ rel (ds := es) (by unfold lstAt; rw [e])
        exact .inl ⟨_, ys.length, rfl, .inl ⟨ys, ha, rfl⟩, by rw [ra.len]; exact q as H _ Ex.refl rel (.int _)⟩
      | gap => cases hf
      | dic es =>
        cases hf
        obtain ⟨a, kvs, rfl, _, ha, k1, k2⟩ := rx.dic_ rel e
        have hl : kvs.length = es.length := by have := congrArg List.length k1; rwa [List.length_map, List.length_map] at this
        exact .inr ⟨a, kvs, rfl, ha, by rw [hl]; exact q as H _ Ex.refl rel (.int _)⟩
  case str w =>
    unfold fLen at hf
    dsimp only at hf
    by_cases hl : w.length ≤ sizeLine
    · rw [if_pos hl] at hf; cases hf
      exact .inl ⟨.str w, w.length, by rw [rx.str_], ⟨hl, rfl⟩, q as H _ Ex.refl rel (.int _)⟩
    · rw [if_neg hl] at hf; cases hf
def fInt : F1 := fun d S => match d with
  | .int i => some (.int i, S)
  | .bl b => some (.int (if b then 1 else 0), S)
  | _ => none
theorem call_fInt : CallR X (.type "int") (rFL X.K (f1L fInt)) := by
  refine call_imp call_int1 fun xs H Q ⟨as, S, ds, z, S', rel, rs, hf, q⟩ => ?_
  obtain ⟨x, d, rfl, rx, hf⟩ := f1L_inv rs hf
  cases d <;> try (cases hf; done)
  case int i => cases hf; exact .inl ⟨i, by rw [rx.int_], q as H _ Ex.refl rel (.int _)⟩
  case bl b => cases hf; exact .inr ⟨b, by rw [rx.bl_], q as H _ Ex.refl rel (.int _)⟩
def fStr : F1 := fun d S => match d with
  | .int i => if i.natAbs.log2 < 1920 then some (.str (toString i), S) else none
  | _ => none
theorem call_fStr : CallR X (.type "str") (rFL X.K (f1L fStr)) := by
  refine call_imp call_str_int fun xs H Q ⟨as, S, ds, z, S', rel, rs, hf, q⟩ => ?_
  obtain ⟨x, d, rfl, rx, hf⟩ := f1L_inv rs hf
  cases d <;> try (cases hf; done)
  case int i =>
    unfold fStr at hf
    dsimp only at hf
    by_cases hl : i.natAbs.log2 < 1920
    · rw [if_pos hl] at hf; cases hf; exact ⟨i, by rw [rx.int_], hl, q as H _ Ex.refl rel (.str _)⟩
    · rw [if_neg hl] at hf; cases hf
def fTuple : F1 := fun d S => match d with
  | .tup ds => some (.tup ds, S)
  | .obj i => (lstAt S i).map fun ds => (.tup ds, S)
  | _ => none
theorem call_fTuple : CallR X (.type "tuple") (rFL X.K (f1L fTuple)) := by
  refine call_imp call_tuple_of fun xs H Q ⟨as, S, ds, z, S', rel, rs, hf, q⟩ => ?_
  obtain ⟨x, d, rfl, rx, hf⟩ := f1L_inv rs hf
  cases d <;> try (cases hf; done)
  case tup es =>
    cases hf
    obtain ⟨a, ys, rfl, ha, ra⟩ := rx.tup_
    exact ⟨a, ys, rfl, .inr ⟨ha, q as H _ Ex.refl rel (.tup ha ra)⟩⟩
  case obj i =>
    unfold fTuple at hf
    dsimp only at hf
    cases h0 : lstAt S i with
    | none => rw [h0] at hf; cases hf
    | some es =>
      rw [h0] at hf; cases hf
      obtain ⟨a, ys, rfl, _, ha, ra⟩ := rx.seq_ rel h0
      exact ⟨a, ys, rfl, .inl ⟨ha, fun p hp => q as _ _ (Ex.fresh hp) (rel.fresh hp) (.tup (SqT.of upd_same) (ra.mono (Ex.fresh hp)))⟩⟩
def fList : F1 := fun d S => match d with
  | .tup ds => some (.obj S.length, S ++ [.lst ds])
  | .obj i => (lstAt S i).map fun ds => (.obj S.length, S ++ [.lst ds])
  | _ => none
theorem call_fList : CallR X (.type "list") (rFL X.K (f1L fList)) := by
  refine call_imp call_list_of fun xs H Q ⟨as, S, ds, z, S', rel, rs, hf, q⟩ => ?_
  obtain ⟨x, d, rfl, rx, hf⟩ := f1L_inv rs hf
  cases d <;> try (cases hf; done)
  case tup es =>
    cases hf
    obtain ⟨a, ys, rfl, ha, ra⟩ := rx.tup_
    refine ⟨a, ys, rfl, .inr ha, fun p hp => ?_⟩
    obtain ⟨r1, x1, e1⟩ := new_lst rel hp ra
    exact q _ _ _ x1 r1 (.obj e1)
  case obj i =>
    unfold fList at hf
    dsimp only at hf
    cases h0 : lstAt S i with
    | none => rw [h0] at hf; cases hf
    | some es =>
      rw [h0] at hf; cases hf
      obtain ⟨a, ys, rfl, _, ha, ra⟩ := rx.seq_ rel h0
      refine ⟨a, ys, rfl, .inl ha, fun p hp => ?_⟩
      obtain ⟨r1, x1, e1⟩ := new_lst rel hp ra
      exact q _ _ _ x1 r1 (.obj e1)
def fAll : F1 := fun d S => match d with
  | .obj i => (lstAt S i).bind fun ds => (toBls ds).map fun bs => (.bl (bs.all id), S)
  | _ => none
def fAny : F1 := fun d S => match d with
  | .obj i => (lstAt S i).bind fun ds => (toBls ds).map fun bs => (.bl (bs.any id), S)
  | _ => none
theorem call_fAll (hc : X.calm = true) : CallR X (.builtin "all") (rFL X.K (f1L fAll)) := by
  refine call_imp (cr_all hc) fun xs H Q ⟨as, S, ds, z, S', rel, rs, hf, q⟩ => ?_
  obtain ⟨x, d, rfl, rx, hf⟩ := f1L_inv rs hf
  cases d <;> try (cases hf; done)
  case obj i =>
    unfold fAll at hf
    dsimp only at hf
    cases h0 : lstAt S i with
    | none => rw [h0] at hf; cases hf
    | some es =>
      rw [h0, Option.bind_some] at hf
      cases h1 : toBls es with
      | none => rw [h1] at hf; cases hf
      | some bs =>
        rw [h1] at hf; cases hf
        obtain ⟨a, ys, rfl, _, ha, ra⟩ := rx.seq_ rel h0
        rw [toBls_eq h1] at ra
        rw [ra.bls] at ha
        exact ⟨a, bs, rfl, ha, q as H _ Ex.refl rel (.bl _)⟩
theorem call_fAny (hc : X.calm = true) : CallR X (.builtin "any") (rFL X.K (f1L fAny)) := by
  refine call_imp (cr_any hc) fun xs H Q ⟨as, S, ds, z, S', rel, rs, hf, q⟩ => ?_
  obtain ⟨x, d, rfl, rx, hf⟩ := f1L_inv rs hf
  cases d <;> try (cases hf; done)
  case obj i =>
    unfold fAny at hf
    dsimp only at hf
    cases h0 : lstAt S i with
    | none => rw [h0] at hf; cases hf
    | some es =>
      rw [h0, Option.bind_some] at hf
      cases h1 : toBls es with
      | none => rw [h1] at hf; cases hf
      | some bs =>
        rw [h1] at hf; cases hf
        obtain ⟨a, ys, rfl, _, ha, ra⟩ := rx.seq_ rel h0
        rw [toBls_eq h1] at ra
        rw [ra.bls] at ha
        exact ⟨a, bs, rfl, ha, q as H _ Ex.refl rel (.bl _)⟩
/-- sorted of ints -/
def srt (ns : List Int) : List Int := ns.mergeSort fun a b => decide (a ≤ b)
theorem srt_perm (ns : List Int) : (srt ns).Perm ns := List.mergeSort_perm _ _
theorem srt_le (ns : List Int) : (srt ns).Pairwise (· ≤ ·) := by
  have h := List.pairwise_mergeSort (le := fun a b : Int => decide (a ≤ b)) (fun a b c => by simp; omega) (fun a b => by simp; omega) ns
  exact h.imp fun q => of_decide_eq_true q
def fSorted : F1 := fun d S => match d with
  | .obj i => (lstAt S i).bind fun ds => (toInts ds).map fun ns => (.obj S.length, S ++ [.lst ((srt ns).map D.int)])
  | _ => none
theorem call_fSorted : CallR X (.builtin "sorted") (rFL X.K (f1L fSorted)) := by
  refine call_imp cr_sortedI fun xs H Q ⟨as, S, ds, z, S', rel, rs, hf, q⟩ => ?_
  obtain ⟨x, d, rfl, rx, hf⟩ := f1L_inv rs hf
  cases d <;> try (cases hf; done)
  case obj i =>
    unfold fSorted at hf
    dsimp only at hf
    cases h0 : lstAt S i with
    | none => rw [h0] at hf; cases hf
    | some es =>
      rw [h0, Option.bind_some] at hf
      cases h1 : toInts es with
      | none => rw [h1] at hf; cases hf
      | some ns =>
        rw [h1] at hf; cases hf
        obtain ⟨a, ys, rfl, _, ha, ra⟩ := rx.seq_ rel h0
        rw [toInts_eq h1] at ra
        rw [ra.ints] at ha
        refine ⟨a, ns, rfl, ha, fun ns' p hp hs hn => ?_⟩
        have e : ns' = srt ns := PySem.W.ksm_same (hp.trans (srt_perm ns).symm) hs (srt_le ns)
        subst e
        obtain ⟨r1, x1, e1⟩ := new_lst rel hn (Rvs.of_ints (K := X.K) (as := as) (H := H) (srt ns))
        exact q _ _ _ x1 r1 (.obj e1)
def f2L (f : D → D → Sto → Option (D × Sto)) : FL := fun ds S => match ds with
  | [d, e] => f d e S
  | _ => none
theorem f2L_inv {f : F2} {K : PySem.W.Frag} {as : List Addr} {H : Hp} {xs : List V} {ds : List D} {S S' : Sto} {z : D} (r : Rvs K as H xs ds) (h : f2L f ds S = some (z, S')) : ∃ x y d e, xs = [x, y] ∧ Rv K as H x d ∧ Rv K as H y e ∧ f d e S = some (z, S') := by
  match ds, r, h with
  | [d, e], r, h =>
    obtain ⟨x, y, rfl, rx, ry⟩ := r.pair
    exact ⟨x, y, d, e, rfl, rx, ry, h⟩
  | [], _, h => cases h
  | [_], _, h => cases h
  | _ :: _ :: _ :: _, _, h => cases h
def fMin2 : F2 := fun d e S => match d, e with
  | .int i, .int j => some (.int (if j < i then j else i), S)
  | _, _ => none
theorem call_fMin2 (hc : X.calm = true) : CallR X (.builtin "min") (rFL X.K (f2L fMin2)) := by
  refine call_imp (call_min2 hc) fun xs H Q ⟨as, S, ds, z, S', rel, rs, hf, q⟩ => ?_
  obtain ⟨x, y, d, e, rfl, rx, ry, hf⟩ := f2L_inv rs hf
  cases d <;> cases e <;> first | (cases hf; done) | skip
  rename_i i j
  cases hf
  exact ⟨i, j, by rw [rx.int_, ry.int_], q as H _ Ex.refl rel (.int _)⟩
end
end Mi

namespace Mi
open PySem PySem.Spec PyProof.Rows L2

/-- how a statement ends -/
inductive RS where
  | nx (env : Env) (S : Sto) | rt (d : D) (S : Sto) | bk (env : Env) (S : Sto) | ct (env : Env) (S : Sto) | ex (e : Xn) (env : Env) (S : Sto) | no
abbrev MS := Env → Sto → RS
def RS.of {α : Type} (x : R α) (env : Env) (f : α → Sto → RS) : RS := match x with
  | .ok a S => f a S
  | .ex e S => .ex e env S
  | .no => .no
def RS.then (x : RS) (f : Env → Sto → RS) : RS := match x with
  | .nx env S => f env S
  | o => o
section
variable (K : PySem.W.Frag) (mg : Str → Option Value) (W : WX)
def GoS (out : RS) (as : List Addr) (H : Hp) (Dn : Ends) : Prop := match out with
  | .nx env' S' => ∀ (as' : List Addr) (H' : Hp) (σ' : L2.St), Ex K as H as' H' → Rel K as' S' H' → Re K as' H' σ' env' → Dn.nx σ' H'
  | .rt d S' => ∀ (as' : List Addr) (H' : Hp) (v : V), Ex K as H as' H' → Rel K as' S' H' → Rv K as' H' v d → Dn.rt v H'
  | .bk env' S' => ∀ (as' : List Addr) (H' : Hp) (σ' : L2.St), Ex K as H as' H' → Rel K as' S' H' → Re K as' H' σ' env' → Dn.bk σ' H'
  | .ct env' S' => ∀ (as' : List Addr) (H' : Hp) (σ' : L2.St), Ex K as H as' H' → Rel K as' S' H' → Re K as' H' σ' env' → Dn.ct σ' H'
  | .ex e env' S' => ∀ (as' : List Addr) (H' : Hp) (σ' : L2.St) (cls : Value) (dd : Option Addr), Ex K as H as' H' → Rel K as' S' H' → Re K as' H' σ' env' → Rx K mg as' H' cls dd e → W cls dd σ' H'
  | .no => False
def tS (m : MS) : TS := fun Dn σ H => ∃ as env S, Re K as H σ env ∧ Rel K as S H ∧ GoS K mg W (m env S) as H Dn
end
section
variable {K : PySem.W.Frag} {mg : Str → Option Value} {W : WX} {as as1 : List Addr} {H H1 : Hp} {S : Sto} {σ : L2.St} {Dn : Ends}
theorem GoS.later {out : RS} (x : Ex K as H as1 H1) (h : GoS K mg W out as H Dn) : GoS K mg W out as1 H1 Dn := by
  cases out with
  | nx env S' => exact fun as' H' σ' y r q => h as' H' σ' (x.trans y) r q
  | rt d S' => exact fun as' H' v y r q => h as' H' v (x.trans y) r q
  | bk env S' => exact fun as' H' σ' y r q => h as' H' σ' (x.trans y) r q
  | ct env S' => exact fun as' H' σ' y r q => h as' H' σ' (x.trans y) r q
  | ex e env S' => exact fun as' H' σ' c dd y r q => h as' H' σ' c dd (x.trans y) r q
  | no => exact h
/-- a statement's expression -/
theorem GoS.ofE {α β : Type} {Ra : List Addr → Hp → β → α → Prop} {x : R α} {env : Env} {f : α → Sto → RS} {Q1 : β → Hp → Prop} (re : Re K as H σ env) (h : GoS K mg W (RS.of x env f) as H Dn)
    (k : ∀ (d : α) (S1 : Sto) (as1 : List Addr) (H1 : Hp) (v : β), Ex K as H as1 H1 → Rel K as1 S1 H1 → Ra as1 H1 v d → GoS K mg W (f d S1) as1 H1 Dn → Q1 v H1) : Go K mg W Ra x as H σ Q1 := by
  cases x with
  | ok d S' => exact fun as' H' v y r q => k d S' as' H' v y r q (GoS.later y h)
  | ex e S' => exact fun as' H' c dd y r q => h as' H' σ c dd y r (re.mono y) q
  | no => exact h
theorem tS_of {α β : Type} {Ra : List Addr → Hp → β → α → Prop} {m : Env → Sto → R α} {f : Env → α → Sto → RS} {Q1 : β → Hp → Prop} (h : tS K mg W (fun env S => RS.of (m env S) env (f env)) Dn σ H)
    (k : ∀ (as : List Addr) (env : Env) (d : α) (S1 : Sto) (as1 : List Addr) (H1 : Hp) (v : β), Re K as1 H1 σ env → Rel K as1 S1 H1 → Ra as1 H1 v d → GoS K mg W (f env d S1) as1 H1 Dn → Q1 v H1) : tU K mg W Ra m σ H Q1 := by
  obtain ⟨as, env, S, re, rel, g⟩ := h
  exact ⟨as, env, S, re, rel, GoS.ofE re g fun d S1 as1 H1 v x r q g' => k as env d S1 as1 H1 v (re.mono x) r q g'⟩
/-- other ends behind it -/
theorem GoS.thenS {x : RS} {f : Env → Sto → RS} (h : GoS K mg W (x.then f) as H Dn) : GoS K mg W x as H { Dn with nx := fun σ' H' => tS K mg W f Dn σ' H' } := by
  cases x with
  | nx env S' => exact fun as' H' σ' y r q => ⟨as', env, S', q, r, GoS.later y h⟩
  | rt d S' => exact h
  | bk env S' => exact h
  | ct env S' => exact h
  | ex e env S' => exact h
  | no => exact h
end
section
variable (X : Cx) (W : WX)
structure SM (st : Stmt) (m : MS) : Prop where
  ps : PS X st (tS X.K X.mg W m)
structure BM (st : List Stmt) (m : MS) : Prop where
  ps : PSs X st (tS X.K X.mg W m)
end
section
variable {X : Cx} {W : WX}
def sNil : MS := fun env S => .nx env S
def sSeq (m n : MS) : MS := fun env S => (m env S).then n
theorem bm_nil : BM X W [] sNil := ⟨pss_imp pss_nil fun D σ H ⟨as, env, S, re, rel, g⟩ => g as H σ Ex.refl rel re⟩
theorem bm_cons {st : Stmt} {rest : List Stmt} {m n : MS} (h : SM X W st m) (h2 : BM X W rest n) : BM X W (st :: rest) (sSeq m n) :=
  ⟨pss_imp (pss_cons h.ps h2.ps) fun D σ H ⟨as, env, S, re, rel, g⟩ => ⟨as, env, S, re, rel, GoS.thenS g⟩⟩
theorem bm_one {st : Stmt} {m : MS} (h : SM X W st m) : BM X W [st] m := ⟨pss_one h.ps⟩
def sBreak : MS := fun env S => .bk env S
def sCont : MS := fun env S => .ct env S
theorem sm_pass {pos : Pos} : SM X W (.Pass pos) sNil := ⟨ps_imp ps_pass fun D σ H ⟨as, env, S, re, rel, g⟩ => g as H σ Ex.refl rel re⟩
theorem sm_break {pos : Pos} : SM X W (.Break pos) sBreak := ⟨ps_imp ps_break fun D σ H ⟨as, env, S, re, rel, g⟩ => g as H σ Ex.refl rel re⟩
theorem sm_cont {pos : Pos} : SM X W (.Continue pos) sCont := ⟨ps_imp ps_continue fun D σ H ⟨as, env, S, re, rel, g⟩ => g as H σ Ex.refl rel re⟩
def sExpr (a : ME) : MS := fun env S => RS.of (a env S) env fun _ S1 => .nx env S1
def sRet (a : ME) : MS := fun env S => RS.of (a env S) env fun d S1 => .rt d S1
def sRetN : MS := fun _ S => .rt .non S
def sSet (i : Nat) (a : ME) : MS := fun env S => RS.of (a env S) env fun d S1 => .nx (env.set i (some d)) S1
theorem sm_expr {e : Expr} {m : ME} {pos : Pos} (h : EM X W e m) (hs : swapsWith e none pos.line X.env = pure false := by rfl) : SM X W (.Expr e pos) (sExpr m) :=
  ⟨ps_imp (ps_expr h.pe hs) fun D σ H q => tS_of (f := fun env _ S1 => .nx env S1) q fun as env d S1 as1 H1 v re rel rv g => g as1 H1 σ Ex.refl rel re⟩
theorem sm_doc {x : Str} {j : Nat} {pos pos' : Pos} : SM X W (.Expr (.Constant (.str x) j pos) pos') sNil := ⟨ps_imp ps_doc fun D σ H ⟨as, env, S, re, rel, g⟩ => g as H σ Ex.refl rel re⟩
theorem sm_ret {e : Expr} {m : ME} {pos : Pos} (h : EM X W e m) : SM X W (.Return (some e) pos) (sRet m) :=
  ⟨ps_imp (ps_ret h.pe) fun D σ H q => tS_of (f := fun _ d S1 => .rt d S1) q fun as env d S1 as1 H1 v re rel rv g => g as1 H1 v Ex.refl rel rv⟩
theorem sm_retN {pos : Pos} : SM X W (.Return none pos) sRetN := ⟨ps_imp ps_retN fun D σ H ⟨as, env, S, re, rel, g⟩ => g as H _ Ex.refl rel .non⟩
theorem sm_set (i : Nat) {x : Str} {e : Expr} {m : ME} {pos pos' : Pos} (hN : X.N.Nodup) (h : EM X W e m) (hi : X.N[i]? = some x := by rfl) (hx : Loc X.env.scope x := by first | exact Or.inl rfl | exact Or.inr rfl)
    (hs : swapsWith e (some (.Name x pos')) pos.line X.env = pure false := by rfl) (hf : X.fn x = true ∨ X.env.scope.names.lookup x = some .local := by first | exact .inl rfl | exact .inr rfl | assumption) :
    SM X W (.Assign [.Name x pos'] e pos) (sSet i m) :=
  ⟨ps_imp (ps_set hN hi hx h.pe hs hf) fun D σ H q => tS_of (f := fun env d S1 => .nx (env.set i (some d)) S1) q fun as env d S1 as1 H1 v re rel rv g => g as1 H1 _ Ex.refl rel (re.set rv)⟩
def sIf (t : MT) (a b : MS) : MS := fun env S => RS.of (t env S) env fun c S1 => if c = true then a env S1 else b env S1
theorem sm_if {c : Expr} {a b : List Stmt} {t : MT} {m n : MS} {pos : Pos} (hc : TM X W c t) (ha : BM X W a m) (hb : BM X W b n) : SM X W (.If c a b pos) (sIf t m n) :=
  ⟨ps_imp (ps_if hc.pt ha.ps hb.ps) fun D σ H q => tS_of (f := fun env c S1 => if c = true then m env S1 else n env S1) q fun as env d S1 as1 H1 v re rel rv g => by
    cases rv
    cases d with
    | true => rw [if_pos rfl]; exact ⟨as1, env, S1, re, rel, g⟩
    | false => rw [if_neg Bool.false_ne_true]; exact ⟨as1, env, S1, re, rel, g⟩⟩
/-- x op= e -/
def sAug (i : Nat) (f : F2) (a : ME) : MS := fun env S => match env[i]? with
  | some (some x) => RS.of (a env S) env fun y S1 => match f x y S1 with
    | some (z, S2) => .nx (env.set i (some z)) S2
    | none => .no
  | _ => .no
theorem sm_aug (i : Nat) {x : Str} {e : Expr} {m : ME} {f : F2} {op : Operator} {pos pos' : Pos} (hN : X.N.Nodup) (ho : PIp X op (rF X.K f)) (h : EM X W e m) (hi : X.N[i]? = some x := by rfl) (hx : Loc X.env.scope x := by first | exact Or.inl rfl | exact Or.inr rfl)
    (hf : X.fn x = true ∨ X.env.scope.names.lookup x = some .local := by first | exact .inl rfl | exact .inr rfl | assumption) : SM X W (.AugAssign (.Name x pos') op e pos) (sAug i f m) :=
  ⟨ps_imp (ps_aug hN hi hx h.pe ho hf) fun D σ H ⟨as, env, S, re, rel, g⟩ => by
    unfold sAug at g
    cases e0 : env[i]? with
    | none => rw [e0] at g; exact g.elim
    | some o =>
      cases o with
      | none => rw [e0] at g; exact g.elim
      | some d =>
        rw [e0] at g
        obtain ⟨v, h1, h2⟩ := re.at_ i d e0
        refine ⟨v, h1, as, env, S, re, rel, GoS.ofE re g fun y S1 as1 H1 u x1 r1 ru g1 => ?_⟩
        cases q : f d y S1 with
        | none => rw [q] at g1; exact g1.elim
        | some p =>
          rw [q] at g1
          exact ⟨as1, S1, d, y, p.1, p.2, r1, h2.mono x1, ru, q, fun as2 H2 w x2 r2 rw' => g1 as2 H2 _ x2 r2 (((re.mono x1).mono x2).set rw')⟩⟩
/-- iadd of ints, texts -/
def fIAdd : F2 := fun d e S => match d, e with
  | .int i, .int j => some (.int (i + j), S)
  | .str x, .str y => if x.length + y.length ≤ sizeLine then some (.str (x ++ y), S) else none
  | _, _ => none
theorem ip_of {op : Operator} {r r' : R2} (h : OpR X (inplaceOp op) r) (i : ∀ x y H Q, r' x y H Q → r x y H Q) : PIp X op r' := fun pins s σ H x y v u Q I rx ry q => h pins s σ H x y v u Q I rx ry (i x y H Q q)
theorem ip_fAdd : PIp X .Add (rF X.K fIAdd) := by
  refine ip_of (OpR.or iop_add iop_add_str) fun x y H Q ⟨as, S, d, e, z, S', rel, rx, ry, hf, q⟩ => ?_
  cases d <;> cases e <;> try (cases hf; done)
  case int.int i j => cases hf; exact .inl ⟨i, j, rx.int_, ry.int_, q as H _ Ex.refl rel (.int _)⟩
  case str.str a b =>
    unfold fIAdd at hf
    dsimp only at hf
    by_cases hl : a.length + b.length ≤ sizeLine
    · rw [if_pos hl] at hf; cases hf; exact .inr ⟨a, b, rx.str_, ry.str_, hl, q as H _ Ex.refl rel (.str _)⟩
    · rw [if_neg hl] at hf; cases hf
theorem ip_fSub : PIp X .Sub (rF X.K fSub) := by
  refine ip_of iop_sub fun x y H Q ⟨as, S, d, e, z, S', rel, rx, ry, hf, q⟩ => ?_
  cases d <;> cases e <;> try (cases hf; done)
  case int.int i j => cases hf; exact ⟨i, j, rx.int_, ry.int_, q as H _ Ex.refl rel (.int _)⟩

/-! ### targets -/
/-- a store of a datum into the frame -/
abbrev MG := D → Env → Sto → Option Env
def gU (K : PySem.W.Frag) (g : MG) : TG := fun v σ H Q => ∃ as env S d env', Re K as H σ env ∧ Rel K as S H ∧ Rv K as H v d ∧ g d env S = some env' ∧ ∀ σ', Re K as H σ' env' → Q σ' H
structure GM (X : Cx) (tg : Expr) (g : MG) : Prop where
  pg : PG X tg (gU X.K g)
theorem pg_imp {tg : Expr} {g g' : TG} (h : PG X tg g) (i : ∀ v σ H Q, g' v σ H Q → g v σ H Q) : PG X tg g' := ⟨fun pins s σ H v u Q I r q => h.run pins s σ H v u Q I r (i v σ H Q q)⟩
def gN (i : Nat) : MG := fun d env _ => some (env.set i (some d))
theorem gm_n (i : Nat) {x : Str} {pos : Pos} (hN : X.N.Nodup) (hi : X.N[i]? = some x := by rfl) (hx : Loc X.env.scope x := by first | exact Or.inl rfl | exact Or.inr rfl) (hf : X.fn x = true ∨ X.env.scope.names.lookup x = some .local := by first | exact .inl rfl | exact .inr rfl | assumption) :
    GM X (.Name x pos) (gN i) := ⟨pg_imp (pg_name hN hi hx hf) fun v σ H Q ⟨as, env, S, d, env', re, rel, rv, e, q⟩ => by cases e; exact q _ (re.set rv)⟩
abbrev MGs := List D → Env → Sto → Option Env
def gUs (K : PySem.W.Frag) (g : MGs) : TGs := fun vs σ H Q => ∃ as env S ds env', Re K as H σ env ∧ Rel K as S H ∧ Rvs K as H vs ds ∧ g ds env S = some env' ∧ ∀ σ', Re K as H σ' env' → Q σ' H
structure GMs (X : Cx) (tg : List Expr) (g : MGs) : Prop where
  pg : PGs X tg (gUs X.K g)
theorem pgs_imp {tg : List Expr} {g g' : TGs} (h : PGs X tg g) (i : ∀ v σ H Q, g' v σ H Q → g v σ H Q) : PGs X tg g' := ⟨fun pins s σ H v u Q I r q => h.run pins s σ H v u Q I r (i v σ H Q q)⟩
def gsNil : MGs := fun ds env _ => match ds with
  | [] => some env
  | _ => none
def gsCons (g : MG) (r : MGs) : MGs := fun ds env S => match ds with
  | d :: ds => (g d env S).bind fun env' => r ds env' S
  | _ => none
theorem gms_nil : GMs X [] gsNil := ⟨pgs_imp pgs_nil fun vs σ H Q ⟨as, env, S, ds, env', re, rel, rv, e, q⟩ => by
  cases ds with
  | nil => cases rv; cases e; exact ⟨rfl, q _ re⟩
  | cons _ _ => cases e⟩
end
end Mi

namespace Mi
open PySem PySem.Spec PyProof.Rows L2
section
variable {X : Cx} {W : WX}
theorem gms_cons {e : Expr} {es : List Expr} {g : MG} {r : MGs} (h1 : GM X e g) (h2 : GMs X es r) (hs : (assignEach (e :: es) X.env).map (·.2) = assign e X.env :: (assignEach es X.env).map (·.2) := by rfl) : GMs X (e :: es) (gsCons g r) :=
  ⟨pgs_imp (pgs_cons h1.pg h2.pg hs) fun vs σ H Q ⟨as, env, S, ds, env', re, rel, rv, e0, q⟩ => by
    cases ds with
    | nil => cases e0
    | cons d ds =>
      cases rv with
      | cons r1 r2 =>
        unfold gsCons at e0
        dsimp only at e0
        cases e1 : g d env S with
        | none => rw [e1] at e0; cases e0
        | some env1 =>
          rw [e1] at e0
          exact ⟨_, _, rfl, as, env, S, d, env1, re, rel, r1, e1, fun σ1 re1 => ⟨as, env1, S, ds, env', re1, rel, r2, e0, q⟩⟩⟩
def gT (n : Nat) (r : MGs) : MG := fun d env S => match d with
  | .tup ds => if ds.length = n then r ds env S else none
  | _ => none
theorem gm_tup {es : List Expr} {k : Nat} {r : MGs} {n : Nat} {pos : Pos} (hc : X.calm = true) (h : GMs X es r)
    (hn : (assignEach es X.env).length = n := by rfl) (hst : (assignEach es X.env).findIdx? (·.1) = none := by rfl) : GM X (.Tuple es k pos) (gT n r) :=
  ⟨pg_imp (pg_tup hc h.pg hn hst) fun v σ H Q ⟨as, env, S, d, env', re, rel, rv, e, q⟩ => by
    cases d <;> first | (cases e; done) | skip
    rename_i ds
    unfold gT at e
    dsimp only at e
    by_cases hl : ds.length = n
    · rw [if_pos hl] at e
      obtain ⟨a, xs, rfl, ha, ra⟩ := rv.tup_
      exact ⟨a, xs, rfl, ha, by rw [ra.len]; exact hl, as, env, S, ds, env', re, rel, ra, e, q⟩
    · rw [if_neg hl] at e; cases e⟩
/-- tg = e -/
def kAsg (g : MG) (env : Env) (d : D) (S1 : Sto) : RS := match g d env S1 with
  | some env' => .nx env' S1
  | none => .no
def sAsg (a : ME) (g : MG) : MS := fun env S => RS.of (a env S) env (kAsg g env)
theorem sm_asg {tg e : Expr} {m : ME} {g : MG} {pos : Pos} (h : EM X W e m) (hg : GM X tg g) (hs : swapsWithSole [tg] e pos.line X.env = pure false := by rfl) (hw : swappedStores [tg] e X.env = pure none := by rfl) (h1 : (assignEach [tg] X.env).map (·.2) = [assign tg X.env] := by rfl) : SM X W (.Assign [tg] e pos) (sAsg m g) :=
  ⟨ps_imp (ps_asg h.pe hg.pg hs hw h1) fun D σ H q => tS_of (f := kAsg g) q fun as env d S1 as1 H1 v re rel rv g1 => by
    unfold kAsg at g1
    cases e : g d env S1 with
    | none => rw [e] at g1; exact g1.elim
    | some env' => rw [e] at g1; exact ⟨as1, env, S1, d, env', re, rel, rv, e, fun σ' re' => g1 as1 H1 σ' Ex.refl rel re'⟩⟩
/-- xs[i] = e -/
def fPut (o i v : D) (S : Sto) : Option Sto := match o, i with
  | .obj j, .int k => match S[j]? with
    | some (.lst ds) => (ixN ds.length k).map fun n => S.set j (.lst (ds.set n v))
    | _ => none
  | _, _ => none
def sPut (o i e : ME) : MS := fun env S => RS.of (e env S) env fun v S1 => RS.of (o env S1) env fun x S2 => RS.of (i env S2) env fun y S3 => match fPut x y v S3 with
  | some S4 => .nx env S4
  | none => .no
theorem put_lst {K : PySem.W.Frag} {as : List Addr} {S : Sto} {H : Hp} {i : Nat} {a : Addr} {ds es : List D} {vs us : List V} (rel : Rel K as S H) (ha : as[i]? = some a) (hs : S[i]? = some (.lst ds)) (hH : H a = some (.lst vs)) (ru : Rvs K as H us es) :
    Rel K as (S.set i (.lst es)) (upd H a (.lst us)) ∧ Ex K as H as (upd H a (.lst us)) := by
  have x : Ex K as H as (upd H a (.lst us)) := Ex.mut (by rw [hH]; trivial)
  exact rel.put ha hs rfl rfl ⟨us, upd_same, ru.mono x⟩
theorem sm_put {o i e : Expr} {mo mi me : ME} {pos pos' : Pos} (ho : EM X W o mo) (hi : EM X W i mi) (he : EM X W e me) (hs : swapsWithSole [.Subscript o i pos'] e pos.line X.env = pure false := by rfl) (hw : swappedStores [.Subscript o i pos'] e X.env = pure none := by rfl)
    (h1 : (assignEach [.Subscript o i pos'] X.env).map (·.2) = [assign (.Subscript o i pos') X.env] := by rfl)
    (hA : ∀ v, assign (.Subscript o i pos') X.env v = (do
      let ov ← holding [v] (eval o X.env)
      let iv ← holding [v, ov] (eval i X.env)
      standAt pos'
      holding [v, ov, iv] (setItem ov iv v)
      release [v, ov, iv] []) := by intro _; rfl) :
    SM X W (.Assign [.Subscript o i pos'] e pos) (sPut mo mi me) :=
  ⟨ps_imp (ps_asg he.pe (pg_sub ho.pe hi.pe set_list hA) hs hw h1) fun D σ H q => tS_of (f := fun env v S1 => RS.of (mo env S1) env fun x S2 => RS.of (mi env S2) env fun y S3 => match fPut x y v S3 with
    | some S4 => .nx env S4
    | none => .no) q fun as env d S1 as1 H1 v re rel rv g1 =>
    ⟨as1, env, S1, re, rel, GoS.ofE re g1 fun x S2 as2 H2 xv x2 r2 rx g2 => ⟨as2, env, S2, re.mono x2, r2, GoS.ofE (re.mono x2) g2 fun y S3 as3 H3 yv x3 r3 ry g3 => by
      cases e0 : fPut x y d S3 with
      | none => rw [e0] at g3; exact g3.elim
      | some S4 =>
        rw [e0] at g3
        cases x <;> cases y <;> first | (cases e0; done) | skip
        rename_i j k
        unfold fPut at e0
        dsimp only at e0
        cases e1 : S3[j]? with
        | none => rw [e1] at e0; cases e0
        | some ob =>
          rw [e1] at e0
          cases ob with
          | lst ds =>
            dsimp only at e0
            cases e2 : ixN ds.length k with
            | none => rw [e2] at e0; cases e0
            | some n =>
              rw [e2] at e0; cases e0
              obtain ⟨a, vs, rfl, ha, hH, rvs⟩ := (rx.mono x3).lst_ r3 e1
              refine ⟨a, vs, k, n, rfl, ry.int_, hH, by rw [rvs.len]; exact e2, ?_⟩
              obtain ⟨r4, x4⟩ := put_lst r3 ha e1 hH (rvs.set ((rv.mono x2).mono x3) n)
              exact g3 as3 _ σ x4 r4 (((re.mono x2).mono x3).mono x4)
          | fix _ => cases e0
          | gap => cases e0
          | dic _ => cases e0⟩⟩⟩

/-! ### while -/
def whileM (t : MT) (b : MS) : Nat → MS
  | 0 => fun _ _ => .no
  | n + 1 => fun env S => RS.of (t env S) env fun c S1 => if c = true then (match b env S1 with
      | .nx env2 S2 => whileM t b n env2 S2
      | .ct env2 S2 => whileM t b n env2 S2
      | .bk env2 S2 => .nx env2 S2
      | o => o) else .nx env S1
def sWhile (n : Nat) (t : MT) (b : MS) : MS := whileM t b n
theorem sm_while (n : Nat) {c : Expr} {body : List Stmt} {t : MT} {b : MS} {pos : Pos} (hp : PassesOwn (model X.prog X.w) X.A X.env X.xe) (hc : TM X W c t) (hb : BM X W body b) : SM X W (.While c body [] pos) (sWhile n t b) :=
  ⟨ps_imp (ps_while hp hc.pt hb.ps) fun D σ H ⟨as, env, S, re, rel, g⟩ => by
    refine ⟨fun m σ H => ∃ as env S, Re X.K as H σ env ∧ Rel X.K as S H ∧ GoS X.K X.mg W (whileM t b m env S) as H D, ⟨n, as, env, S, re, rel, g⟩, ?_⟩
    intro m σ H ⟨as, env, S, re, rel, g⟩
    cases m with
    | zero => exact g.elim
    | succ m =>
      refine ⟨as, env, S, re, rel, GoS.ofE re g fun c S1 as1 H1 v x r1 rv g1 => ?_⟩
      cases rv
      cases c with
      | false => rw [if_neg Bool.false_ne_true] at g1 ⊢; exact g1 as1 H1 σ Ex.refl r1 (re.mono x)
      | true =>
        rw [if_pos rfl] at g1 ⊢
        refine ⟨fun σ' H' => ∃ as env S, Re X.K as H' σ' env ∧ Rel X.K as S H' ∧ GoS X.K X.mg W (whileM t b m env S) as H' D, fun σ' H' q => ⟨m, Nat.lt_succ_self m, q⟩, as1, env, S1, re.mono x, r1, ?_⟩
        cases e : b env S1 with
        | nx env2 S2 => rw [e] at g1; exact fun as' H' σ' y r q => ⟨as', env2, S2, q, r, GoS.later y g1⟩
        | ct env2 S2 => rw [e] at g1; exact fun as' H' σ' y r q => ⟨as', env2, S2, q, r, GoS.later y g1⟩
        | bk env2 S2 => rw [e] at g1; exact g1
        | rt d S2 => rw [e] at g1; exact g1
        | ex x env2 S2 => rw [e] at g1; exact g1
        | no => rw [e] at g1; exact g1.elim⟩

/-! ### for -/
/-- over items that are told ahead; chk: what must hold of the store at each turn -/
def forM (chk : Sto → Bool) (g : MG) (b : MS) : List D → MS
  | [] => fun env S => if chk S = true then .nx env S else .no
  | d :: r => fun env S => if chk S = true then (match g d env S with
      | some env1 => (match b env1 S with
        | .nx env2 S2 => forM chk g b r env2 S2
        | .ct env2 S2 => forM chk g b r env2 S2
        | .bk env2 S2 => .nx env2 S2
        | o => o)
      | none => .no) else .no
/-- for x in a tuple -/
def kForT (g : MG) (b : MS) (env : Env) (d : D) (S1 : Sto) : RS := match d with
  | .tup ds => forM (fun _ => true) g b ds env S1
  | _ => .no
def sForT (a : ME) (g : MG) (b : MS) : MS := fun env S => RS.of (a env S) env (kForT g b env)
theorem forM_end {chk : Sto → Bool} {g : MG} {b : MS} {as : List Addr} {env : Env} {S : Sto} {H : Hp} {σ : L2.St} {Dn : Ends} (re : Re X.K as H σ env) (rel : Rel X.K as S H) (h : GoS X.K X.mg W (forM chk g b [] env S) as H Dn) : chk S = true ∧ Dn.nx σ H := by
  unfold forM at h
  by_cases hc : chk S = true
  · rw [if_pos hc] at h; exact ⟨hc, h as H σ Ex.refl rel re⟩
  · rw [if_neg hc] at h; exact h.elim
theorem forM_chk {chk : Sto → Bool} {g : MG} {b : MS} {l : List D} {as : List Addr} {env : Env} {S : Sto} {H : Hp} {Dn : Ends} (h : GoS X.K X.mg W (forM chk g b l env S) as H Dn) : chk S = true := by
  cases l with
  | nil =>
    unfold forM at h
    by_cases hc : chk S = true
    · exact hc
    · rw [if_neg hc] at h; exact h.elim
  | cons d r =>
    unfold forM at h
    by_cases hc : chk S = true
    · exact hc
    · rw [if_neg hc] at h; exact h.elim
theorem sm_forT {tg it : Expr} {body : List Stmt} {a : ME} {g : MG} {b : MS} {pos : Pos} (hp : PassesOwn (model X.prog X.w) X.A X.env X.xe) (hc : X.calm = true) (hi : EM X W it a) (hg : GM X tg g) (hb : BM X W body b)
    (hs : ∀ x, foldedSetIterable it X.env x = pure x := by intro _; rfl) : SM X W (.For tg it body [] pos) (sForT a g b) :=
  ⟨ps_imp (ps_for hp hc (pi_tup hi.pe) hg.pg hb.ps hs) fun D σ H q => tS_of (f := kForT g b) q fun as env d S1 as1 H1 v re rel rv g1 => by
    cases d <;> first | exact g1.elim | skip
    rename_i ds
    obtain ⟨a, xs, rfl, ha, ra⟩ := rv.tup_
    refine ⟨a, rfl, ⟨xs, ha⟩, fun i m σ H => m = ds.length - i ∧ i ≤ ds.length ∧ ∃ as env S, Ex X.K as1 H1 as H ∧ Re X.K as H σ env ∧ Rel X.K as S H ∧ GoS X.K X.mg W (forM (fun _ => true) g b (ds.drop i) env S) as H D,
      ⟨ds.length, by simp, Nat.zero_le _, as1, env, S1, Ex.refl, re, rel, by rw [List.drop_zero]; exact g1⟩, ?_⟩
    rintro i m σ H ⟨rfl, hi, as, env, S, x, re, rel, gg⟩
    have ha' : SqT X.K H a xs := x.tup _ _ ha
    have ra' : Rvs X.K as H xs ds := ra.mono x
    by_cases hlt : i < ds.length
    · rw [List.drop_eq_getElem_cons hlt] at gg
      obtain ⟨v, hv, rv⟩ := ra'.get (List.getElem?_eq_getElem hlt)
      refine .inr ⟨⟨xs, v, ha', hv⟩, fun σ' H' => i + 1 ≤ ds.length ∧ ∃ as env S, Ex X.K as1 H1 as H' ∧ Re X.K as H' σ' env ∧ Rel X.K as S H' ∧ GoS X.K X.mg W (forM (fun _ => true) g b (ds.drop (i + 1)) env S) as H' D,
        fun σ' H' q => ⟨ds.length - (i + 1), by omega, rfl, q⟩, fun y H' hy => ?_⟩
      obtain ⟨rfl, hy⟩ := hy
      have e := hy xs ha'
      rw [hv] at e
      cases e
      have gg' := gg
      unfold forM at gg'
      rw [if_pos rfl] at gg'
      cases e1 : g ds[i] env S with
      | none => rw [e1] at gg'; exact gg'.elim
      | some env1 =>
        rw [e1] at gg'
        dsimp only at gg'
        refine ⟨as, env, S, ds[i], env1, re, rel, rv, e1, fun σ' re' => ⟨as, env1, S, re', rel, ?_⟩⟩
        cases e : b env1 S with
        | nx env2 S2 => rw [e] at gg'; exact fun as2 H2 σ2 y r q => ⟨hlt, as2, env2, S2, x.trans y, q, r, GoS.later y gg'⟩
        | ct env2 S2 => rw [e] at gg'; exact fun as2 H2 σ2 y r q => ⟨hlt, as2, env2, S2, x.trans y, q, r, GoS.later y gg'⟩
        | bk env2 S2 => rw [e] at gg'; exact gg'
        | rt d S2 => rw [e] at gg'; exact gg'
        | ex x env2 S2 => rw [e] at gg'; exact gg'
        | no => rw [e] at gg'; exact gg'.elim
    · have hi2 : i = ds.length := by omega
      rw [List.drop_eq_nil_of_le (by omega)] at gg
      exact .inl ⟨⟨xs, ha', by rw [ra.len]; omega⟩, (forM_end re rel gg).2⟩⟩
/-- for x in a list, as it stands at each turn -/
def forL (g : MG) (b : MS) (j : Nat) : Nat → Nat → MS
  | 0, i => fun env S => match lstAt S j with
    | some es => if es.length ≤ i then .nx env S else .no
    | none => .no
  | n + 1, i => fun env S => match lstAt S j with
    | some es => match es[i]? with
      | none => .nx env S
      | some d => match g d env S with
        | some env1 => match b env1 S with
          | .nx env2 S2 => forL g b j n (i + 1) env2 S2
          | .ct env2 S2 => forL g b j n (i + 1) env2 S2
          | .bk env2 S2 => .nx env2 S2
          | o => o
        | none => .no
    | none => .no
def kForL (g : MG) (b : MS) (env : Env) (d : D) (S1 : Sto) : RS := match d with
  | .obj j => match lstAt S1 j with
    | some ds => forL g b j ds.length 0 env S1
    | none => .no
  | _ => .no
def sForL (a : ME) (g : MG) (b : MS) : MS := fun env S => RS.of (a env S) env (kForL g b env)
theorem sm_forL {tg it : Expr} {body : List Stmt} {a : ME} {g : MG} {b : MS} {pos : Pos} (hp : PassesOwn (model X.prog X.w) X.A X.env X.xe) (hc : X.calm = true) (hi : EM X W it a) (hg : GM X tg g) (hb : BM X W body b)
    (hs : ∀ x, foldedSetIterable it X.env x = pure x := by intro _; rfl) : SM X W (.For tg it body [] pos) (sForL a g b) :=
  ⟨ps_imp (ps_for hp hc (pi_list hi.pe) hg.pg hb.ps hs) fun D σ H q => tS_of (f := kForL g b) q fun as env d S1 as1 H1 v re rel rv g1 => by
    cases d <;> first | exact g1.elim | skip
    rename_i j
    unfold kForL at g1
    dsimp only at g1
    cases e0 : lstAt S1 j with
    | none => rw [e0] at g1; exact g1.elim
    | some ds =>
      rw [e0] at g1
      dsimp only at g1
      obtain ⟨a, xs, rfl, hj, ha, ra⟩ := rv.seq_ rel e0
      refine ⟨a, rfl, ⟨xs, ha⟩, fun i m σ H => ∃ as env S, Ex X.K as1 H1 as H ∧ Re X.K as H σ env ∧ Rel X.K as S H ∧ GoS X.K X.mg W (forL g b j m i env S) as H D,
        ⟨ds.length, as1, env, S1, Ex.refl, re, rel, g1⟩, ?_⟩
      rintro i m σ H ⟨as, env, S, x, re, rel, gg⟩
      have hj' := x.pre _ _ hj
      cases m with
      | zero =>
        unfold forL at gg
        cases e2 : lstAt S j with
        | none => rw [e2] at gg; exact gg.elim
        | some es =>
          rw [e2] at gg
          dsimp only at gg
          by_cases hl : es.length ≤ i
          · rw [if_pos hl] at gg
            obtain ⟨a', ys, ea, _, hy, ry⟩ := (Rv.obj (K := X.K) (H := H) hj').seq_ rel e2
            cases ea
            exact .inl ⟨⟨ys, hy, by rw [ry.len]; exact hl⟩, gg as H σ Ex.refl rel re⟩
          · rw [if_neg hl] at gg; exact gg.elim
      | succ m =>
        unfold forL at gg
        cases e2 : lstAt S j with
        | none => rw [e2] at gg; exact gg.elim
        | some es =>
          rw [e2] at gg
          dsimp only at gg
          obtain ⟨a', ys, ea, _, hy, ry⟩ := (Rv.obj (K := X.K) (H := H) hj').seq_ rel e2
          cases ea
          cases e3 : es[i]? with
          | none =>
            rw [e3] at gg
            exact .inl ⟨⟨ys, hy, by rw [ry.len]; exact List.getElem?_eq_none_iff.mp e3⟩, gg as H σ Ex.refl rel re⟩
          | some d =>
            rw [e3] at gg
            dsimp only at gg
            obtain ⟨v, hv, rv⟩ := ry.get e3
            refine .inr ⟨⟨ys, v, hy, hv⟩, fun σ' H' => ∃ as env S, Ex X.K as1 H1 as H' ∧ Re X.K as H' σ' env ∧ Rel X.K as S H' ∧ GoS X.K X.mg W (forL g b j m (i + 1) env S) as H' D, fun σ' H' q => ⟨m, Nat.lt_succ_self m, q⟩, fun y H' hy' => ?_⟩
            obtain ⟨rfl, hy'⟩ := hy'
            have e := hy' ys hy
            rw [hv] at e
            cases e
            cases e1 : g d env S with
            | none => rw [e1] at gg; exact gg.elim
            | some env1 =>
              rw [e1] at gg
              dsimp only at gg
              refine ⟨as, env, S, d, env1, re, rel, rv, e1, fun σ' re' => ⟨as, env1, S, re', rel, ?_⟩⟩
              cases e : b env1 S with
              | nx env2 S2 => rw [e] at gg; exact fun as2 H2 σ2 y r q => ⟨as2, env2, S2, x.trans y, q, r, GoS.later y gg⟩
              | ct env2 S2 => rw [e] at gg; exact fun as2 H2 σ2 y r q => ⟨as2, env2, S2, x.trans y, q, r, GoS.later y gg⟩
              | bk env2 S2 => rw [e] at gg; exact gg
              | rt d S2 => rw [e] at gg; exact gg
              | ex x env2 S2 => rw [e] at gg; exact gg
              | no => rw [e] at gg; exact gg.elim⟩
/-- for i in range(..) -/
def rngD (lo : Int) (n : Nat) : List D := (List.range n).map fun (k : Nat) => D.int (lo + (k : Int))
def kForR (g : MG) (b : MS) (env : Env) (ds : List D) (S1 : Sto) : RS := match ds with
  | [.int j] => if -(2 ^ 62) ≤ j ∧ j < 2 ^ 62 then forM (fun _ => true) g b (rngD 0 j.toNat) env S1 else .no
  | [.int i, .int j] => if -(2 ^ 62) ≤ i ∧ i < 2 ^ 62 ∧ -(2 ^ 62) ≤ j ∧ j < 2 ^ 62 then forM (fun _ => true) g b (rngD i (j - i).toNat) env S1 else .no
  | _ => .no
def sForR (a : MA) (g : MG) (b : MS) : MS := fun env S => RS.of (a env S) env (kForR g b env)
theorem for_rng {g : MG} {b : MS} {Dn : Ends} {lo : Int} {n : Nat} {as1 : List Addr} {env1 : Env} {S1 : Sto} {H1 : Hp} {σ : L2.St} (re1 : Re X.K as1 H1 σ env1) (rel1 : Rel X.K as1 S1 H1)
    (g1 : GoS X.K X.mg W (forM (fun _ => true) g b (rngD lo n) env1 S1) as1 H1 Dn) :
    ∃ Wv : Nat → Nat → L2.St → Hp → Prop, (∃ m, Wv 0 m σ H1) ∧ ∀ i m σ H, Wv i m σ H →
      ((Itr lo n).stop i H ∧ Dn.nx σ H) ∨ ((Itr lo n).go i H ∧ ∃ N : L2.St → Hp → Prop, (∀ σ' H', N σ' H' → ∃ m', m' < m ∧ Wv (i + 1) m' σ' H') ∧ ∀ x H', (Itr lo n).yld i H x H' → gU X.K g x σ H' fun σ2 H2 => tS X.K X.mg W b { Dn with nx := N, ct := N, bk := Dn.nx } σ2 H2) := by
  refine ⟨fun i m σ H => m = n - i ∧ i ≤ n ∧ ∃ as env S, Re X.K as H σ env ∧ Rel X.K as S H ∧ GoS X.K X.mg W (forM (fun _ => true) g b ((rngD lo n).drop i) env S) as H Dn,
      ⟨n, by simp, Nat.zero_le _, as1, env1, S1, re1, rel1, by rw [List.drop_zero]; exact g1⟩, ?_⟩
  have hln : (rngD lo n).length = n := by simp [rngD]
  rintro i m σ H ⟨rfl, hi, as, env, S, re, rel, gg⟩
  by_cases hlt : i < n
  · have hlt' : i < (rngD lo n).length := by rw [hln]; exact hlt
    rw [List.drop_eq_getElem_cons hlt'] at gg
    have hgi : (rngD lo n)[i] = D.int (lo + (i : Int)) := by simp [rngD]
    rw [hgi] at gg
    refine .inr ⟨hlt, fun σ' H' => i + 1 ≤ n ∧ ∃ as env S, Re X.K as H' σ' env ∧ Rel X.K as S H' ∧ GoS X.K X.mg W (forM (fun _ => true) g b ((rngD lo n).drop (i + 1)) env S) as H' Dn,
      fun σ' H' q => ⟨n - (i + 1), by omega, rfl, q⟩, fun y H' hy => ?_⟩
    obtain ⟨rfl, rfl⟩ := hy
    unfold forM at gg
    rw [if_pos rfl] at gg
    cases e1 : g (D.int (lo + (i : Int))) env S with
    | none => rw [e1] at gg; exact gg.elim
    | some env1 =>
      rw [e1] at gg
      dsimp only at gg
      refine ⟨as, env, S, _, env1, re, rel, .int _, e1, fun σ' re' => ⟨as, env1, S, re', rel, ?_⟩⟩
      cases e : b env1 S with
      | nx env2 S2 => rw [e] at gg; exact fun as2 H2 σ2 y r q => ⟨hlt, as2, env2, S2, q, r, GoS.later y gg⟩
      | ct env2 S2 => rw [e] at gg; exact fun as2 H2 σ2 y r q => ⟨hlt, as2, env2, S2, q, r, GoS.later y gg⟩
      | bk env2 S2 => rw [e] at gg; exact gg
      | rt d S2 => rw [e] at gg; exact gg
      | ex x env2 S2 => rw [e] at gg; exact gg
      | no => rw [e] at gg; exact gg.elim
  · have hi2 : i = n := by omega
    rw [List.drop_eq_nil_of_le (by rw [hln]; omega)] at gg
    exact .inl ⟨(show n ≤ i by omega), (forM_end re rel gg).2⟩
theorem rng_inv1 {g : MG} {b : MS} {env : Env} {S : Sto} {d : D} {vs : List V} {as : List Addr} {H : Hp} {Dn : Ends} (rv : Rvs X.K as H vs [d]) (g1 : GoS X.K X.mg W (kForR g b env [d] S) as H Dn) :
    ∃ j : Int, d = .int j ∧ vs = [.int j] ∧ -(2 ^ 62) ≤ j ∧ j < 2 ^ 62 ∧ GoS X.K X.mg W (forM (fun _ => true) g b (rngD 0 j.toNat) env S) as H Dn := by
  obtain ⟨v, rfl, r⟩ := rv.sing
  cases d <;> first | exact g1.elim | skip
  rename_i j
  unfold kForR at g1
  dsimp only at g1
  by_cases hj : -(2 ^ 62) ≤ j ∧ j < 2 ^ 62
  · rw [if_pos hj] at g1
    exact ⟨j, rfl, by rw [r.int_], hj.1, hj.2, g1⟩
  · rw [if_neg hj] at g1; exact g1.elim
theorem rng_inv2 {g : MG} {b : MS} {env : Env} {S : Sto} {d e : D} {vs : List V} {as : List Addr} {H : Hp} {Dn : Ends} (rv : Rvs X.K as H vs [d, e]) (g1 : GoS X.K X.mg W (kForR g b env [d, e] S) as H Dn) :
    ∃ i j : Int, vs = [.int i, .int j] ∧ (-(2 ^ 62) ≤ i ∧ i < 2 ^ 62 ∧ -(2 ^ 62) ≤ j ∧ j < 2 ^ 62) ∧ GoS X.K X.mg W (forM (fun _ => true) g b (rngD i (j - i).toNat) env S) as H Dn := by
  obtain ⟨v, u, rfl, r, r'⟩ := rv.pair
  cases d <;> cases e <;> first | exact g1.elim | skip
  rename_i i j
  unfold kForR at g1
  dsimp only at g1
  by_cases hj : -(2 ^ 62) ≤ i ∧ i < 2 ^ 62 ∧ -(2 ^ 62) ≤ j ∧ j < 2 ^ 62
  · rw [if_pos hj] at g1
    exact ⟨i, j, by rw [r.int_, r'.int_], hj, g1⟩
  · rw [if_neg hj] at g1; exact g1.elim
theorem sm_forR1 {tg a0 : Expr} {body : List Stmt} {m : ME} {g : MG} {b : MS} {p pos pos' : Pos} (hp : PassesOwn (model X.prog X.w) X.A X.env X.xe) (hc : X.calm = true) (hr : Gl X "range") (hm : X.mg "range" = none) (hi : EM X W a0 m) (hg : GM X tg g) (hb : BM X W body b)
    (hs : starEach [a0] X.env = [(false, eval a0 X.env)] := by rfl) (hf : ∀ x, foldedSetIterable (.Call (.Name "range" p) [a0] [] pos') X.env x = pure x := by intro _; rfl) : SM X W (.For tg (.Call (.Name "range" p) [a0] [] pos') body [] pos) (sForR (mCons m mNil) g b) :=
  ⟨ps_imp (ps_for hp hc (pi_range1 hr hm (pa_cons hi.pe pa_nil hs) hs) hg.pg hb.ps hf) fun Dn σ H q => by
    obtain ⟨as, env, S, re, rel, g1⟩ := q
    refine ⟨as, env, S, re, rel, ?_⟩
    unfold sForR mCons at g1
    cases e : m env S with
    | no => rw [e] at g1; exact g1.elim
    | ex x S' => rw [e] at g1; exact fun as' H' c dd y r q => g1 as' H' σ c dd y r (re.mono y) q
    | ok d S1 =>
      rw [e] at g1
      intro as1 H1 v x r1 rv
      obtain ⟨j, _, hv, h1, h2, gg⟩ := rng_inv1 (vs := [v]) (.cons rv .nil) (GoS.later x g1)
      exact ⟨j, hv, h1, h2, for_rng (re.mono x) r1 gg⟩⟩
theorem sm_forR2 {tg a0 a1 : Expr} {body : List Stmt} {m m' : ME} {g : MG} {b : MS} {p pos pos' : Pos} (hp : PassesOwn (model X.prog X.w) X.A X.env X.xe) (hc : X.calm = true) (hr : Gl X "range") (hm : X.mg "range" = none) (hi : EM X W a0 m) (hi' : EM X W a1 m') (hg : GM X tg g) (hb : BM X W body b)
    (hs : starEach [a0, a1] X.env = [(false, eval a0 X.env), (false, eval a1 X.env)] := by rfl) (hs2 : starEach [a1] X.env = [(false, eval a1 X.env)] := by rfl) (hf : ∀ x, foldedSetIterable (.Call (.Name "range" p) [a0, a1] [] pos') X.env x = pure x := by intro _; rfl) :
    SM X W (.For tg (.Call (.Name "range" p) [a0, a1] [] pos') body [] pos) (sForR (mCons m (mCons m' mNil)) g b) :=
  ⟨ps_imp (ps_for hp hc (pi_range2 hr hm (pa_cons hi.pe (pa_cons hi'.pe pa_nil hs2) (by rw [hs, hs2])) hs hs2) hg.pg hb.ps hf) fun Dn σ H q => by
    obtain ⟨as, env, S, re, rel, g1⟩ := q
    refine ⟨as, env, S, re, rel, ?_⟩
    unfold sForR mCons at g1
    cases e : m env S with
    | no => rw [e] at g1; exact g1.elim
    | ex x S' => rw [e] at g1; exact fun as' H' c dd y r q => g1 as' H' σ c dd y r (re.mono y) q
    | ok d S1 =>
      rw [e] at g1
      intro as1 H1 v x r1 rv
      refine ⟨as1, env, S1, re.mono x, r1, ?_⟩
      have g2 := GoS.later x g1
      cases e2 : m' env S1 with
      | no =>
        have g3 : GoS X.K X.mg W (RS.of (R.bind (R.bind (m' env S1) fun x S1 => R.bind (mNil env S1) fun xs S2 => R.ok (x :: xs) S2) fun xs S2 => R.ok (d :: xs) S2) env (kForR g b env)) as1 H1 Dn := g2
        rw [e2] at g3; exact g3.elim
      | ex z S' =>
        have g3 : GoS X.K X.mg W (RS.of (R.bind (R.bind (m' env S1) fun x S1 => R.bind (mNil env S1) fun xs S2 => R.ok (x :: xs) S2) fun xs S2 => R.ok (d :: xs) S2) env (kForR g b env)) as1 H1 Dn := g2
        rw [e2] at g3
        exact fun as' H' c dd y r q => g3 as' H' σ c dd y r ((re.mono x).mono y) q
      | ok d2 S2 =>
        have g3 : GoS X.K X.mg W (RS.of (R.bind (R.bind (m' env S1) fun x S1 => R.bind (mNil env S1) fun xs S2 => R.ok (x :: xs) S2) fun xs S2 => R.ok (d :: xs) S2) env (kForR g b env)) as1 H1 Dn := g2
        rw [e2] at g3
        intro as2 H2 v2 x2 r2 rv2
        obtain ⟨i, j, hv, hb', gg⟩ := rng_inv2 (vs := [v, v2]) (.cons (rv.mono x2) (.cons rv2 .nil)) (GoS.later x2 g3)
        exact ⟨i, j, hv, hb', for_rng ((re.mono x).mono x2) r2 gg⟩⟩
end
end Mi

namespace Mi
open PySem PySem.Spec PyProof.Rows L2

/-! ### functions -/
abbrev MFn := List D → Sto → R D
/-- a promise: what the mirror function says -/
def spM (K : PySem.W.Frag) (mg : Str → Option Value) (m : MFn) : Sp := fun vs H Q E => ∃ as ds S, Rvs K as H vs ds ∧ Rel K as S H ∧ Go K mg (fun c d _ H => E c d H) (Rv K) (m ds S) as H [] Q
def fnEnd : RS → R D
  | .nx _ S => .ok .non S
  | .rt d S => .ok d S
  | .ex e _ S => .ex e S
  | _ => .no
/-- a def's mirror from its body's: n parameters, N names -/
def mFn (n N : Nat) (b : MS) : MFn := fun ds S => if ds.length = n then fnEnd (b (ds.map some ++ List.replicate (N - n) none) S) else .no
theorem Re.start {K : PySem.W.Frag} {as : List Addr} {H : Hp} {vs : List V} {ds : List D} {N : List Str} (r : Rvs K as H vs ds) : Re K as H (L2.start N vs) (ds.map some ++ List.replicate (N.length - ds.length) none) := by
  unfold L2.start
  refine ⟨by simp [r.len], fun i d h => ?_⟩
  by_cases hi : i < ds.length
  · rw [List.getElem?_append_left (by simpa using hi), List.getElem?_map] at h
    cases e : ds[i]? with
    | none => rw [e] at h; cases h
    | some d' =>
      rw [e] at h; cases h
      obtain ⟨v, h1, h2⟩ := r.get e
      refine ⟨v, ?_, h2⟩
      rw [List.getElem?_append_left (by simp [r.len]; exact hi), List.getElem?_map, h1]; rfl
  · rw [List.getElem?_append_right (by simpa using hi), List.getElem?_replicate] at h
    split at h <;> cases h
section
variable {P : Program} {w : World} {K : PySem.W.Frag} {mg : Str → Option Value} {base : Heap}
/-- where a def's body runs -/
abbrev ctx (P : Program) (w : World) (K : PySem.W.Frag) (mg : Str → Option Value) (base : Heap) (N : List Str) (qual : Str) (scope : Scope) (f : Addr) (cdv : Value) (A : Around) (outer : List PySem.Env) (s : Shared) (H : Hp) (E : XK) : Cx :=
  cxOf (L2.CX P w) P w K mg base N qual scope f cdv A outer s H E
abbrev wE (E : XK) : WX := fun c d _ H => E c d H
/-- a def's body is mirrored by b, wherever it runs with room k -/
def BodyOk (P : Program) (w : World) (K : PySem.W.Frag) (mg : Str → Option Value) (base : Heap) (k : Nat) (N : List Str) (qual : Str) (scope : Scope) (body : List Stmt) (b : MS) : Prop :=
  ∀ (f : Addr) (cdv : Value) (A : Around) (outer : List PySem.Env) (s : Shared) (H : Hp) (E : XK), Room k (ctx P w K mg base N qual scope f cdv A outer s H E).A → Takes (ctx P w K mg base N qual scope f cdv A outer s H E) (wE E) →
    PassesOwn (model P w) (ctx P w K mg base N qual scope f cdv A outer s H E).A (ctx P w K mg base N qual scope f cdv A outer s H E).env (ctx P w K mg base N qual scope f cdv A outer s H E).xe →
    BM (ctx P w K mg base N qual scope f cdv A outer s H E) (wE E) body b
theorem fn_ok {x qual : Str} {params : Arguments} {body : List Stmt} {scope : Scope} {f : Addr} {fd : FuncData} {N ps : List Str} {k : Nat} {b : MS} (F : FunD K x qual params body scope [] [] f fd) (S : FnScope N ps scope)
    (hb : BodyOk P w K mg base k N qual scope body b) : FnOk P w K mg base (L2.CX P w) (k + 1) f fd ps (spM K mg (mFn ps.length N.length b)) := by
  refine F.ok S (fun vs H Q E h => ?_) (fun cdv A outer s H vs Q E hr h => ?_)
  · obtain ⟨as, ds, S', rv, rel, g⟩ := h
    unfold mFn at g
    by_cases hl : ds.length = ps.length
    · rw [rv.len, hl]
    · rw [if_neg hl] at g; exact g.elim
  · have B := hb f cdv A outer s H E hr (takes_of rfl rfl rfl rfl) (passes_of (K := fun e s'' => L2.CX P w outer H s E e s'') rfl)
    refine ⟨_, B.ps, ?_⟩
    obtain ⟨as, ds, S', rv, rel, g⟩ := h
    unfold mFn at g
    by_cases hl : ds.length = ps.length
    · rw [if_pos hl] at g
      refine ⟨as, _, S', Re.start (N := N) rv, rel, ?_⟩
      rw [hl]
      cases e : b (ds.map some ++ List.replicate (N.length - ps.length) none) S' with
      | nx env S2 => rw [e] at g; exact fun as' H' σ' x r q => g as' H' _ x r .non
      | rt d S2 => rw [e] at g; exact fun as' H' v x r q => g as' H' v x r q
      | bk env S2 => rw [e] at g; exact g.elim
      | ct env S2 => rw [e] at g; exact g.elim
      | ex z env S2 => rw [e] at g; exact fun as' H' σ' c dd x r q q2 => g as' H' c dd x r q2
      | no => rw [e] at g; exact g.elim
    · rw [if_neg hl] at g; exact g.elim
/-- a def of the module that may be called by its name -/
structure Cal (P : Program) (w : World) (K : PySem.W.Frag) (mg : Str → Option Value) (base : Heap) (k : Nat) (x : Str) (m : MFn) : Prop where
  ex : ∃ (f : Addr) (fd : FuncData) (ps : List Str), FnOk P w K mg base (L2.CX P w) k f fd ps (spM K mg m) ∧ mg x = some (.ref f) ∧ PySem.W.keepIn K (.ref f) = true ∧ Binds K fd ps []
theorem Cal.mono {j k : Nat} {x : Str} {m : MFn} (c : Cal P w K mg base j x m) (h : j ≤ k) : Cal P w K mg base k x m := let ⟨f, fd, ps, F, r⟩ := c.ex; ⟨f, fd, ps, F.mono h, r⟩
theorem cal_of {x qual : Str} {params : Arguments} {body : List Stmt} {scope : Scope} {f : Addr} {fd : FuncData} {N ps : List Str} {k : Nat} {b : MS} (F : FunD K x qual params body scope [] [] f fd) (S : FnScope N ps scope)
    (hm : mg x = some (.ref f)) (hbn : Binds K fd ps []) (hb : BodyOk P w K mg base k N qual scope body b) : Cal P w K mg base (k + 1) x (mFn ps.length N.length b) := ⟨f, fd, ps, fn_ok F S hb, hm, F.kp, hbn⟩
end
def mCall (m : MFn) (a : MA) : ME := fun env S => (a env S).bind m
section
variable {X : Cx} {W : WX}
theorem Go.wish {K : PySem.W.Frag} {mg : Str → Option Value} {W' : WX} {out : R D} {as : List Addr} {H : Hp} {σ σ' : L2.St} {Q : VK} (h : Go K mg W (Rv K) out as H σ Q) (i : ∀ c d H, W c d σ H → W' c d σ' H) : Go K mg W' (Rv K) out as H σ' Q := by
  cases out with
  | ok d S' => exact h
  | ex e S' => exact fun as' H' c dd y r q => i _ _ _ (h as' H' c dd y r q)
  | no => exact h
theorem em_call {k j : Nat} {x : Str} {m : MFn} {e : Expr} {es : List Expr} {a : MA} {p pos : Pos} (c : Cal X.prog X.w X.K X.mg X.base k x m) (hr : Room j X.A) (tk : Takes X W) (ha : AM X W (e :: es) a) (hk : k ≤ j := by decide) (hg : Gl X x := by rfl)
    (hdb : (x == ("__debug__" : Str)) = false := by decide) (he : starEach (e :: es) X.env = (false, eval e X.env) :: starEach es X.env := by rfl) (hpl : (backTo pos (starEach es X.env)).any (·.1) = false := by rfl) :
    EM X W (.Call (.Name x p) (e :: es) [] pos) (mCall m a) := by
  obtain ⟨f, fd, ps, F, hm, hkp, hb⟩ := c.ex
  refine ⟨pe_imp (pe_callS F (hr.mono hk) hg hm hkp hb (fun σ => passAt tk σ) ha.pa hdb he hpl) fun σ H Q q => ?_⟩
  exact tU_bind (f := fun _ => m) q fun as env ds S1 as1 H1 vs re rel rv g => ⟨as1, ds, S1, rv, rel, g.wish fun _ _ _ z => z⟩
end
end Mi

namespace Mi
open PySem PySem.Spec PyProof.Rows L2

/-! ### isinstance -/
def tyD (S : Sto) : D → Option String
  | .non => some "NoneType"
  | .bl _ => some "bool"
  | .int _ => some "int"
  | .str _ => some "str"
  | .tup _ => some "tuple"
  | .obj i => match S[i]? with
    | some (.lst _) => some "list"
    | some (.fix _) => some "list"
    | some (.dic _) => some "dict"
    | some .gap => none
    | none => none
def kinds : List String := ["NoneType", "bool", "int", "str", "tuple", "list", "dict"]
def isK (t T : String) : Bool := t == T || (t == "bool" && T == "int")
theorem kit_all : (kinds.all fun t => kinds.tail.all fun T => kitB t T == some (isK t T)) = true := by decide +kernel
theorem kit_is {t T : String} (ht : t ∈ kinds) (hT : T ∈ kinds.tail) : kitB t T = some (isK t T) := by
  have h := List.all_eq_true.mp (List.all_eq_true.mp kit_all t ht) T hT
  exact eq_of_beq h
section
variable {K : PySem.W.Frag} {as : List Addr} {H : Hp} {S : Sto} {v : V} {d : D}
theorem tyX_of {t : String} (rel : Rel K as S H) (r : Rv K as H v d) (h : tyD S d = some t) : TyX K H v (.type t) ∧ t ∈ kinds := by
  cases d with
  | non => cases h; rw [r.non_]; exact ⟨.base .non, by decide⟩
  | bl b => cases h; rw [r.bl_]; exact ⟨.base (.bl b), by decide⟩
  | int i => cases h; rw [r.int_]; exact ⟨.base (.int i), by decide⟩
  | str x => cases h; rw [r.str_]; exact ⟨.base (.str x), by decide⟩
  | tup ds =>
    cases h
    obtain ⟨a, xs, rfl, ha, _⟩ := r.tup_
    refine ⟨?_, by decide⟩
    rcases ha with (ha | ⟨o, ha⟩) | ⟨o, its, n, hk, hc, _⟩
    · exact .base (.tup ha)
    · exact .fTuple ha
    · exact .kTuple hk hc
  | obj i =>
    unfold tyD at h
    dsimp only at h
    cases e : S[i]? with
    | none => rw [e] at h; cases h
    | some o =>
      rw [e] at h
      obtain ⟨a, rfl, ha⟩ := r.obj_
      have q := rel.ob i a o ha e
      cases o with
      | lst es => cases h; obtain ⟨vs, h1, _⟩ := q; exact ⟨.base (.lst h1), by decide⟩
      | gap => cases h
      | dic es => cases h; obtain ⟨vs, h1, _⟩ := q; exact ⟨.base (.dK h1), by decide⟩
      | fix es =>
        cases h
        obtain ⟨vs, h1, _⟩ := q
        refine ⟨?_, by decide⟩
        rcases h1 with ⟨o, h1⟩ | h1
        · exact .base (.frz h1)
        · rcases h1 (fun _ => none) with (h1 | ⟨o, h1⟩) | ⟨o, its, n, hk, hc, _⟩
          · cases h1
          · cases h1
          · exact .kList hk hc
end
/-- isinstance(x, T), isinstance(x, (T1, T2, ..)) -/
def fIsi (Ts : List String) : F1 := fun d S => (tyD S d).map fun t => (.bl (Ts.any fun T => isK t T), S)
section
variable {X : Cx} {W : WX}
theorem em_isi {e : Expr} {m : ME} {T : String} {xT : Str} {p p2 pos : Pos} (he : EM X W e m) (hg : Gl X "isinstance" := by rfl) (hm : X.mg "isinstance" = none) (hgT : Gl X xT := by rfl) (hmT : X.mg xT = none) (hvT : bootBuiltins xT = some (.type T))
    (hT : T ∈ kinds.tail := by decide) (hnT : xT ≠ "__name__" := by decide) (hdT : (xT == ("__debug__" : Str)) = false := by decide)
    (hs : starEach [e, .Name xT p2] X.env = (false, eval e X.env) :: starEach [.Name xT p2] X.env := by rfl) (hpl : (backTo pos (starEach [.Name xT p2] X.env)).any (·.1) = false := by rfl) :
    EM X W (.Call (.Name "isinstance" p) [e, .Name xT p2] [] pos) (m1 (fIsi [T]) m) :=
  ⟨pe_imp (pe_callB call_isi hg hm boot_isinstance (pa_cons he.pe (pa_cons (pe_bltn hgT hmT hvT (v := .ty T) rfl hnT hdT) pa_nil rfl) hs) (by decide) (by decide) hs hpl) fun σ H Q q => tU_bind (f := fun _ x S1 => R.of (fIsi [T] x S1)) q fun as env d S1 as1 H1 x re rel rv g => by
    obtain ⟨z, S', hz, q⟩ := go_of g
    unfold fIsi at hz
    cases e : tyD S1 d with
    | none => rw [e] at hz; cases hz
    | some t =>
      rw [e] at hz
      cases hz
      obtain ⟨ty, ht⟩ := tyX_of rel rv e
      refine ⟨x, .ty T, .type t, .type T, isK t T, rfl, .ty T, ty, kit_ty (kit_is ht hT), ?_⟩
      have e2 : ([T].any fun T => isK t T) = isK t T := by simp
      rw [e2] at q
      exact q as1 H1 _ Ex.refl rel (.bl _)⟩
theorem kitAny_of {K : PySem.W.Frag} {t : String} (ht : t ∈ kinds) : ∀ {Ts : List String}, (∀ T ∈ Ts, T ∈ kinds.tail) → PySem.W.kitAny K (.type t) (Ts.map Value.type) = some (Ts.any fun T => isK t T)
  | [], _ => kitAny_nil
  | T :: Ts, h => by
    have h1 : PySem.W.kitOne K (.type t) (.type T) = some (isK t T) := kit_ty (kit_is ht (h T (by simp)))
    have ih := kitAny_of (K := K) ht (Ts := Ts) fun T' m => h T' (by simp [m])
    refine kitAny_cons h1 (fun hb => ?_) fun hb => ?_
    · rw [List.any_cons, hb, Bool.false_or]; exact ih
    · rw [List.any_cons, hb, Bool.true_or]
theorem em_isiT2 {e : Expr} {m : ME} {T1 T2 : String} {x1 x2 : Str} {k : Nat} {p p1 p2 p3 pos : Pos} (he : EM X W e m) (hg : Gl X "isinstance" := by rfl) (hm : X.mg "isinstance" = none) (hg1 : Gl X x1 := by rfl) (hm1 : X.mg x1 = none) (hv1 : bootBuiltins x1 = some (.type T1))
    (hg2 : Gl X x2 := by rfl) (hm2 : X.mg x2 = none) (hv2 : bootBuiltins x2 = some (.type T2))
    (hT1 : T1 ∈ kinds.tail := by decide) (hT2 : T2 ∈ kinds.tail := by decide) (hn1 : x1 ≠ "__name__" := by decide) (hd1 : (x1 == ("__debug__" : Str)) = false := by decide) (hn2 : x2 ≠ "__name__" := by decide) (hd2 : (x2 == ("__debug__" : Str)) = false := by decide)
    (hs : starEach [e, .Tuple [.Name x1 p1, .Name x2 p2] k p3] X.env = (false, eval e X.env) :: starEach [.Tuple [.Name x1 p1, .Name x2 p2] k p3] X.env := by rfl) (hpl : (backTo pos (starEach [.Tuple [.Name x1 p1, .Name x2 p2] k p3] X.env)).any (·.1) = false := by rfl) :
    EM X W (.Call (.Name "isinstance" p) [e, .Tuple [.Name x1 p1, .Name x2 p2] k p3] [] pos) (m1 (fIsi [T1, T2]) m) :=
  ⟨pe_imp (pe_callB call_isiT hg hm boot_isinstance (pa_cons he.pe (pa_cons (pe_tup (pa_cons (pe_bltn hg1 hm1 hv1 (v := .ty T1) rfl hn1 hd1) (pa_cons (pe_bltn hg2 hm2 hv2 (v := .ty T2) rfl hn2 hd2) pa_nil rfl) rfl)) pa_nil rfl) hs) (by decide) (by decide) hs hpl)
    fun σ H Q q => tU_bind (f := fun _ x S1 => R.of (fIsi [T1, T2] x S1)) q fun as env d S1 as1 H1 x re rel rv g => by
    obtain ⟨z, S', hz, q⟩ := go_of g
    unfold fIsi at hz
    cases e : tyD S1 d with
    | none => rw [e] at hz; cases hz
    | some t =>
      rw [e] at hz
      cases hz
      refine ⟨by show 2 ≤ sizeLine; decide, fun tp htp => ?_⟩
      have x1 : Ex X.K as1 H1 as1 (upd H1 tp (.tup [.ty T1, .ty T2])) := Ex.fresh htp
      obtain ⟨ty, ht⟩ := tyX_of (rel.fresh htp) (rv.mono x1) e
      exact ⟨x, tp, [.ty T1, .ty T2], .type t, [.type T1, .type T2], _, rfl, upd_same, .cons (.ty _) (.cons (.ty _) .nil), ty, kitAny_of (Ts := [T1, T2]) ht (fun T hT => (List.mem_cons.mp hT).elim (fun e => e ▸ hT1) fun h => (List.mem_cons.mp h).elim (fun e => e ▸ hT2) fun z => nomatch z), q as1 _ _ x1 (rel.fresh htp) (.bl _)⟩⟩

/-! ### methods of lists, texts -/
abbrev FM := D → List D → Sto → Option (D × Sto)
def rFM (K : PySem.W.Frag) (f : FM) : V → List V → Hp → VK → Prop := fun x xs H Q => ∃ as S d ds z S', Rel K as S H ∧ Rv K as H x d ∧ Rvs K as H xs ds ∧ f d ds S = some (z, S') ∧ ∀ as' H' v, Ex K as H as' H' → Rel K as' S' H' → Rv K as' H' v z → Q v H'
/-- of that type -/
def tyOk (T : String) (d : D) (S : Sto) : Bool := match d with
  | .str _ => T == "str"
  | .obj i => match S[i]? with
    | some (.lst _) => T == "list"
    | some (.fix _) => T == "list"
    | some (.dic _) => T == "dict"
    | some .gap => false
    | none => false
  | _ => false
theorem ty_of {K : PySem.W.Frag} {as : List Addr} {H : Hp} {S : Sto} {v : V} {d : D} {T : String} (rel : Rel K as S H) (r : Rv K as H v d) (h : tyOk T d S = true) : tyV K T v H := by
  cases d <;> first | (cases h; done) | skip
  case str x => rw [r.str_]; exact eq_of_beq h
  case obj i =>
    unfold tyOk at h
    dsimp only at h
    obtain ⟨a, rfl, ha⟩ := r.obj_
    cases e : S[i]? with
    | none => rw [e] at h; cases h
    | some o =>
      rw [e] at h
      cases o with
      | lst es => obtain ⟨b, vs, eb, _, hq, _⟩ := r.seq_ rel (ds := es) (by unfold lstAt; rw [e]); cases eb; exact .inl ⟨eq_of_beq h, vs, hq⟩
      | fix es => obtain ⟨b, vs, eb, _, hq, _⟩ := r.seq_ rel (ds := es) (by unfold lstAt; rw [e]); cases eb; exact .inl ⟨eq_of_beq h, vs, hq⟩
      | gap => cases h
      | dic es => obtain ⟨b, vs, eb, _, hq, _⟩ := r.dic_ rel e; cases eb; exact .inr (.inr (.inl ⟨eq_of_beq h, .inl ⟨vs, hq⟩⟩))
def mM (T : String) (f : FM) (o : ME) (a : MA) : ME := fun env S => (o env S).bind fun d S1 => if tyOk T d S1 = true then (a env S1).bind fun ds S2 => R.of (f d ds S2) else .no
def mM0 (T : String) (f : FM) (o : ME) : ME := fun env S => (o env S).bind fun d S1 => if tyOk T d S1 = true then R.of (f d [] S1) else .no
theorem em_bm {f : FM} {T id : String} {name : Str} {o e : Expr} {es : List Expr} {m : ME} {a : MA} {apos cpos : Pos} (pa : PlainAttrs T) (slot : Slot T name id) (hty : typeOf (.builtin id) = pure (.type "method_descriptor")) (hm : MtR X id (rFM X.K f)) (ho : EM X W o m) (ha : AM X W (e :: es) a)
    (hbase : attributeBase o name X.env (eval o X.env) = eval o X.env := by rfl)
    (hfew : ((backTo cpos (starEach (e :: es) X.env)).all (fun x => !x.1) && (backToKw cpos (keywordEach [] X.env)).all (fun x => x.1.isSome)
      && decide ((e :: es).length + ([] : List Keyword).length + (if ([] : List Keyword).isEmpty then 0 else 1) < 30)) = true := by rfl) (hline : (apos.endLine == cpos.line) = true := by rfl)
    (hs : starEach (e :: es) X.env = (false, eval e X.env) :: starEach es X.env := by rfl) (hplain : (backTo cpos (starEach es X.env)).any (·.1) = false := by rfl) :
    EM X W (.Call (.Attribute o name apos) (e :: es) [] cpos) (mM T f m a) :=
  ⟨pe_imp (pe_bm pa slot hty hm ho.pe ha.pa hbase hfew hline hs hplain) fun σ H Q q => tU_bind (f := fun env d S1 => if tyOk T d S1 = true then (a env S1).bind fun ds S2 => R.of (f d ds S2) else .no) q fun as env d S1 as1 H1 x re rel rv g => by
    by_cases ht : tyOk T d S1 = true
    · rw [if_pos ht] at g
      refine ⟨ty_of rel rv ht, as1, env, S1, re, rel, Go.bind g fun ds S2 as2 H2 vs x2 r2 rv2 g2 => ?_⟩
      obtain ⟨z, S', hz, q⟩ := go_of g2
      exact ⟨as2, S2, d, ds, z, S', r2, rv.mono x2, rv2, hz, q⟩
    · rw [if_neg ht] at g; exact g.elim⟩
theorem em_bm0 {f : FM} {T id : String} {name : Str} {o : Expr} {m : ME} {apos cpos : Pos} (pa : PlainAttrs T) (slot : Slot T name id) (hty : typeOf (.builtin id) = pure (.type "method_descriptor")) (hm : MtR X id (rFM X.K f)) (ho : EM X W o m)
    (hbase : attributeBase o name X.env (eval o X.env) = eval o X.env := by rfl) (hline : (apos.endLine == cpos.line) = true := by rfl) : EM X W (.Call (.Attribute o name apos) [] [] cpos) (mM0 T f m) :=
  ⟨pe_imp (pe_bm0 pa slot hty hm ho.pe hbase hline) fun σ H Q q => tU_bind (f := fun env d S1 => if tyOk T d S1 = true then R.of (f d [] S1) else .no) q fun as env d S1 as1 H1 x re rel rv g => by
    by_cases ht : tyOk T d S1 = true
    · rw [if_pos ht] at g
      obtain ⟨z, S', hz, q⟩ := go_of g
      exact ⟨ty_of rel rv ht, as1, S1, d, [], z, S', rel, rv, .nil, hz, q⟩
    · rw [if_neg ht] at g; exact g.elim⟩
def fAppend : FM := fun d ds S => match d, ds with
  | .obj i, [e] => match S[i]? with
    | some (.lst xs) => if xs.length < sizeLine then some (.non, S.set i (.lst (xs ++ [e]))) else none
    | _ => none
  | _, _ => none
def fExtend : FM := fun d ds S => match d, ds with
  | .obj i, [.obj j] => match S[i]?, S[j]? with
    | some (.lst xs), some (.lst ys) => if xs.length + ys.length ≤ sizeLine then some (.non, S.set i (.lst (xs ++ ys))) else none
    | _, _ => none
  | _, _ => none
def fPop : FM := fun d ds S => match d, ds with
  | .obj i, [] => match S[i]? with
    | some (.lst xs) => (xs[xs.length - 1]?).map fun z => (z, S.set i (.lst xs.dropLast))
    | _ => none
  | _, _ => none
def fReverse : FM := fun d ds S => match d, ds with
  | .obj i, [] => match S[i]? with
    | some (.lst xs) => some (.non, S.set i (.lst xs.reverse))
    | _ => none
  | _, _ => none
theorem Rvs.dropLast {K : PySem.W.Frag} {as : List Addr} {H : Hp} {vs : List V} {ds : List D} (r : Rvs K as H vs ds) : Rvs K as H vs.dropLast ds.dropLast := by
  rw [List.dropLast_eq_take, List.dropLast_eq_take, r.len]; exact r.take _
theorem mt_fAppend : MtR X "list.append" (rFM X.K fAppend) := by
  refine mt_imp mt_append fun x xs H Q ⟨as, S, d, ds, z, S', rel, rx, rs, hf, q⟩ => ?_
  unfold fAppend at hf
  split at hf
  · rename_i i e
    split at hf
    · rename_i es h0
      by_cases hl : es.length < sizeLine
      · rw [if_pos hl] at hf; cases hf
        obtain ⟨a, vs, rfl, ha, hH, rvs⟩ := rx.lst_ rel h0
        obtain ⟨y, rfl, ry⟩ := rs.sing
        refine ⟨a, vs, y, rfl, rfl, hH, by rw [rvs.len]; exact hl, ?_⟩
        obtain ⟨r1, x1⟩ := put_lst rel ha h0 hH (rvs.append (.cons ry .nil))
        exact q as _ _ x1 r1 .non
      · rw [if_neg hl] at hf; cases hf
    · cases hf
  · cases hf
theorem mt_fExtend : MtR X "list.extend" (rFM X.K fExtend) := by
  refine mt_imp mt_extend fun x xs H Q ⟨as, S, d, ds, z, S', rel, rx, rs, hf, q⟩ => ?_
  unfold fExtend at hf
  split at hf
  · rename_i i j
    split at hf
    · rename_i es us h0 h1
      by_cases hl : es.length + us.length ≤ sizeLine
      · rw [if_pos hl] at hf; cases hf
        obtain ⟨a, vs, rfl, ha, hH, rvs⟩ := rx.lst_ rel h0
        obtain ⟨y, rfl, ry⟩ := rs.sing
        obtain ⟨b, ws, rfl, hb, hB, rws⟩ := ry.lst_ rel h1
        refine ⟨a, b, vs, ws, rfl, rfl, hH, hB, by rw [rvs.len, rws.len]; exact hl, ?_⟩
        obtain ⟨r1, x1⟩ := put_lst rel ha h0 hH (rvs.append rws)
        exact q as _ _ x1 r1 .non
      · rw [if_neg hl] at hf; cases hf
    · cases hf
  · cases hf
theorem mt_fPop : MtR X "list.pop" (rFM X.K fPop) := by
  refine mt_imp mt_pop fun x xs H Q ⟨as, S, d, ds, z, S', rel, rx, rs, hf, q⟩ => ?_
  unfold fPop at hf
  split at hf
  · rename_i i
    split at hf
    · rename_i es h0
      cases e : es[es.length - 1]? with
      | none => rw [e] at hf; cases hf
      | some y =>
        rw [e] at hf; cases hf
        obtain ⟨a, vs, rfl, ha, hH, rvs⟩ := rx.lst_ rel h0
        cases rs
        obtain ⟨v, hv, rv⟩ := rvs.get e
        refine ⟨a, vs, v, rfl, rfl, hH, by rw [rvs.len]; exact hv, ?_⟩
        obtain ⟨r1, x1⟩ := put_lst rel ha h0 hH rvs.dropLast
        exact q as _ _ x1 r1 (rv.mono x1)
    · cases hf
  · cases hf
theorem mt_fReverse : MtR X "list.reverse" (rFM X.K fReverse) := by
  refine mt_imp mt_reverse fun x xs H Q ⟨as, S, d, ds, z, S', rel, rx, rs, hf, q⟩ => ?_
  unfold fReverse at hf
  split at hf
  · rename_i i
    split at hf
    · rename_i es h0
      cases hf
      obtain ⟨a, vs, rfl, ha, hH, rvs⟩ := rx.lst_ rel h0
      cases rs
      refine ⟨a, vs, rfl, rfl, hH, ?_⟩
      obtain ⟨r1, x1⟩ := put_lst rel ha h0 hH rvs.reverse
      exact q as _ _ x1 r1 .non
    · cases hf
  · cases hf
/-- sep.join(list or tuple of texts) -/
def fJoin : FM := fun d ds S => match d, ds with
  | .str a, [e] => match (match e with
      | .obj i => lstAt S i
      | .tup es => some es
      | _ => none) with
    | some es => (toStrs es).bind fun ys => if (ys.map (·.length)).sum + ys.length * a.length ≤ 16777216 then some (.str (Txt.join a ys), S) else none
    | none => none
  | _, _ => none
theorem mt_fJoin : MtR X "str.join" (rFM X.K fJoin) := by
  refine mt_imp mt_join fun x xs H Q ⟨as, S, d, ds, z, S', rel, rx, rs, hf, q⟩ => ?_
  unfold fJoin at hf
  split at hf
  · rename_i a e
    obtain ⟨y, rfl, ry⟩ := rs.sing
    split at hf
    · rename_i es h0
      cases h1 : toStrs es with
      | none => rw [h1] at hf; cases hf
      | some ys =>
        rw [h1, Option.bind_some] at hf
        by_cases hl : (ys.map (·.length)).sum + ys.length * a.length ≤ 16777216
        · rw [if_pos hl] at hf; cases hf
          have fin := q as H _ Ex.refl rel (.str _)
          split at h0
          · obtain ⟨b, vs, rfl, _, hq, rvs⟩ := ry.seq_ rel h0
            rw [toStrs_eq h1] at rvs
            rw [rvs.strs] at hq
            exact ⟨a, b, ys, rx.str_, rfl, .inl hq, hl, fin⟩
          · cases h0
            obtain ⟨b, vs, rfl, hq, rvs⟩ := ry.tup_
            rw [toStrs_eq h1] at rvs
            rw [rvs.strs] at hq
            exact ⟨a, b, ys, rx.str_, rfl, .inr hq, hl, fin⟩
          · cases h0
        · rw [if_neg hl] at hf; cases hf
    · cases hf
  · cases hf
end
end Mi

namespace Mi
open PySem PySem.Spec PyProof.Rows L2

/-- what is written of an own exception class whose __init__ says super().__init__(text) first -/
structure ExcF (K : PySem.W.Frag) (prog : Program) (C fI cc : Addr) (qual : Str) (params : Arguments) (body : List Stmt) (scope : Scope) : Prop where
  ox : OexC K C
  init : PySem.W.findIn K (.ref C) "__init__" = some (some (.ref fI))
  tI : PySem.W.typeIn K (.ref fI) = some (.type "function")
  fn : ∃ (oc : Value) (od : Option Addr) (kV doc pm : Value) (an : Option Addr) (cda : Addr) (ct : Value) (osl : Array (Option Value)) (vs : Array Value) (file : Str) (tf : Tok) (ccl : Value) (cdd : Option Addr) (ccs : Array (Option Value)),
    K.lookup fI = some ⟨oc, od, .func (PySem.W.fnX "__init__" qual params body scope [("__class__", cc)] .none kV doc pm an (.ref cda) ct), osl⟩ ∧ PySem.W.codeIn K (.ref cda) qual = true ∧ K.lookup cda = some ⟨ccl, cdd, .fields vs, ccs⟩ ∧
      vs[2]? = some (.str file tf) ∧ ((prog.main.file : Str) == file) = true
  cell : ∃ (cl : Value) (cld : Option Addr) (csl : Array (Option Value)), K.lookup cc = some ⟨cl, cld, .cell (some (.ref C)), csl⟩
  sub : PySem.W.mroIn K C (.ref C) = some true
  meth : PySem.W.ks_superIn K C C "__init__" = some (some (.builtin "ValueError.__init__"))
  subV : PySem.W.subIn K (.ref C) (.type "ValueError") = some true
  tp : PySem.W.nsIn K cStatics "thirdparty.any" = some none
  top : (prog.main.scope.names.lookup ("super" : Str)).isSome = false

section
variable {X : Cx} {pins : List (Addr × Obj)} {σ : L2.St} {H : Hp} {s : Shared} {a C u : Addr} {A : Around}
/-- the bound built-in __init__, called: nothing of it is told -/
theorem mw_call {us : List Value} {Q : Value → Shared → Prop} {E : Value → Shared → Prop} (T : OexC X.K C) (I : Inv X pins σ H s) (e : H a = some (exo a C none)) (hu : s.heap.get? u = some (PySem.W.kxs_mw "ValueError.__init__" a)) (hl : us.length ≤ sizeLine)
    (h : ∀ s', Inv X pins σ H s' → Q .none s') : wpAny (model X.prog X.w) A (call (.ref u) us) Q E s := by
  obtain ⟨nm, q, N, bs, bm, sn, sub, ab, col, dd, k0, k1, k2, k3, k5, hC, hbm⟩ := T.cls
  obtain ⟨t1, ho⟩ := exo_at I.hok e
  obtain ⟨hp, g, d, t, os⟩ := s
  have hCh := I.kIn _ _ hC
  refine wpAny_call (codeAny_of_tree ?_)
  show wpAny _ A.in1 (callAny (.ref u) ⟨us, []⟩) _ _ _
  simp only [callAny]
  refine wpAny_bind (wpAny_load hu ?_)
  simp only [PySem.W.kxs_mw, show (Value.type "method-wrapper" == Value.type "method" || Value.type "method-wrapper" == Value.type "builtin_function_or_method" || Value.type "method-wrapper" == Value.type "method-wrapper") = true by decide, if_true]
  refine PySem.W.KFB.if_so (by decide) ?_
  refine wpAny_bind (PySem.W.check_bound_init F.excBase_ValueError.toExcCallFacts hCh ho rfl ?_)
  refine wpAny_bind (wpAny_pure (wpAny_pure ?_))
  refine ⟨PySem.plainId_quiet F.excBase_ValueError.init.plain _, codeAny_builtin F.excBase_ValueError.initEntry ?_⟩
  refine PySem.W.exc_init_tree (cls := .ref C) (t0 := t1) (dv := none) (c2 := .none) (c3 := .none) (b4 := .bool false) ho hl fun h' k e' t' => ?_
  have J := I.write (t' := t) (x := a) (e := a) (o := exo a C none) (by rw [e]; exact True.intro) (.inl rfl) k ⟨_, e'⟩ (exo_ok e')
  have eu : upd H a (exo a C none) = H := by
    funext b
    by_cases hb : b = a
    · rw [hb, upd_same, e]
    · rw [upd_ne hb]
  rw [eu] at J
  exact h _ J
end
/-! ### the __init__ -/
section
variable {P : Program} {w : World} {K : PySem.W.Frag} {mg : Str → Option Value} {base : Heap} {C fI cc : Addr} {qual : Str} {params : Arguments} {body : List Stmt} {scope : Scope}
theorem xf_find {K : PySem.W.Frag} {C D : Addr} {n : Str} {v : Value} (h : PySem.W.ks_superIn K C D n = some (some v)) : ∃ cd, PySem.W.clsIn K C = some cd ∧ PySem.W.alongIn K n ((cd.mro.dropWhile (· != .ref D)).drop 1) = some (some v) := by
  unfold PySem.W.ks_superIn at h
  cases hc : PySem.W.clsIn K C with
  | none => rw [hc] at h; cases h
  | some cd => rw [hc] at h; exact ⟨cd, rfl, h⟩
open NdefX in
/-- the first statement of the __init__, then the rest -/
theorem xin_ok {z self : Str} {j k : Nat} {ps : List Str} {p0 p1 p2 p3 p4 p5 : Pos} {rest : List Stmt} {N : List Str} {ts : Addr → TS} {sp : Sp}
    (F : ExcF K P C fI cc qual params body scope) (hbody : body = .Expr (.Call (.Attribute (.Call (.Name "super" p0) [] [] p1) "__init__" p2) [.Constant (.str z) j p3] [] p4) p5 :: rest)
    (hev : ∀ env : PySem.Env, eval (.Call (.Attribute (.Call (.Name "super" p0) [] [] p1) "__init__" p2) [.Constant (.str z) j p3] [] p4) env = (do
      let ov ← attributeBase (.Call (.Name "super" p0) [] [] p1) "__init__" env (eval (.Call (.Name "super" p0) [] [] p1) env)
      standAt p2.atName
      let (f, first) ← holding [ov] (getMethod ov "__init__" (do return (← importBound (.Call (.Name "super" p0) [] [] p1) env).getD true))
      callWith p4 f first (backTo p4 (starEach [.Constant (.str z) j p3] env)) []))
    (S : NScope N (self :: ps) ["__class__"] scope) (hks : scope.names.lookup ("super" : Str) = some .globalImplicit) (hpar : ∃ ar, (params.posonlyargs ++ params.args).head? = some ar ∧ ar.arg = self)
    (hm : mg "super" = none)
    (len : ∀ vs H Q E, sp vs H Q E → vs.length = (self :: ps).length)
    (hsp : ∀ vs H Q E, sp vs H Q E → ∃ a us, vs = .ref a :: us ∧ H a = some (exo a C none) ∧ ts a { nx := fun _ H' => Q .non H', rt := Q } (startF N vs [some (.ref C)]) H)
    (hrest : ∀ (X : Cx) (a : Addr), X.K = K → X.N = N → X.env.scope = scope → PSs X rest (ts a))
    (hbn : ∀ (kV doc pm : Value) (an : Option Addr) (cdv ct : Value) (us : List Value), us.length = (self :: ps).length → bindArgs (PySem.W.fnX "__init__" qual params body scope [("__class__", cc)] .none kV doc pm an cdv ct) ⟨us, []⟩ = pure ((self :: ps).zip us)) :
    ∃ fd : FuncData, FnOk P w K mg base (L2.CX P w) (k + 1) fI fd (self :: ps) sp ∧ Binds K fd (self :: ps) [] := by
  obtain ⟨oc, od, kV, doc, pm, an, cda, ct, osl, vs0, file, tf, ccl, cdd, ccs, lk, hcd, lc, hvs, hfile⟩ := F.fn
  obtain ⟨cl, cld, csl, lcc⟩ := F.cell
  obtain ⟨ar, hp, har⟩ := hpar
  refine ⟨_, ⟨len, fun A outer s H args us vs Q E hr e0 hb r hs => ?_⟩, Binds.all (hbn kV doc pm an (.ref cda) ct)⟩
  have hl := len _ _ _ _ hs
  have KX : K.In s.heap := e0.mod.kin.keeps fun b o e => (e0.bs b o e).1
  have lim : s.heap.NoLimit := e0.mod.nolimit.keeps fun b o e => (e0.bs b o e).1
  refine codeAny_call_function hr.depth (KX _ _ lk) rfl S.co S.gen rfl (PySem.W.codeRec_of KX hcd) (hb _ _ _ _ ?_)
  refine wpAny_newFunctionEnv S.nocell (fun ⟨n, _⟩ hy => S.par n (List.of_mem_zip hy).1) (fun h₁ hns hsb => ⟨lim.fresh _ hsb, ?_⟩) S.kind
  have kp : ∀ b o, s.heap.get? b = some o → h₁.get? b = some o := fun b o e => hsb.extBut b o (Nat.ne_of_lt (Heap.lt_size e)) (Heap.get?_push_of_some _ e)
  let NFi : NF := ⟨"__init__", qual, params, body, scope, [("__class__", cc)], cda⟩
  show codeAny _ _ (.func body (envF NFi fI s.heap.objs.size)) _ _
  refine PySem.ks_codeAny_funcAt ?_
  obtain ⟨a, us', ev, ea, hts⟩ := hsp _ _ _ _ hs
  subst ev
  obtain ⟨ua, ur, rfl⟩ : ∃ ua ur, us = ua :: ur := by
    cases r with
    | cons => exact ⟨_, _, rfl⟩
  obtain rfl : ua = Value.ref a := by
    cases r with
    | cons h _ => exact h
  have hCb := e0.mod.kin _ _ lcc
  have CA : CellsAt NFi.cl ["__class__"] [some (.ref C)] s.heap H := by
    refine ⟨rfl, fun y c e => ?_, fun x y c e1 e2 => ?_, fun i y e => ?_⟩
    · have e' : List.lookup y [(("__class__" : Str), cc)] = some c := e
      simp only [List.lookup] at e'
      split at e'
      · cases e'
        exact ⟨(e0.bs _ _ hCb).2, _, _, (e0.bs _ _ hCb).1, rfl⟩
      · cases e'
    · have e1' : List.lookup x [(("__class__" : Str), cc)] = some c := e1
      have e2' : List.lookup y [(("__class__" : Str), cc)] = some c := e2
      simp only [List.lookup] at e1' e2'
      split at e1'
      · split at e2'
        · rename_i q1 _ q2
          rw [beq_iff_eq] at q1 q2
          rw [q1, q2]
        · cases e2'
      · cases e1'
    · cases i with
      | zero =>
        have e' : (some ("__class__" : Str)) = some y := e
        cases e'
        exact ⟨cc, rfl, fun v ev => by
          have : v = .ref C := by cases ev; rfl
          subst this
          exact ⟨.ref C, rfl, _, (e0.bs _ _ hCb).1, rfl⟩⟩
      | succ i => cases e
  have I : Inv (ncx (L2.CX P w) P w K mg base N NFi fI A outer s H E) [] (startF N (.ref a :: us') [some (.ref C)]) H { s with heap := h₁, toks := s.toks + ((self :: ps).zip (.ref a :: ur)).length } := inv_startN S hr.hd e0 hl r CA hns kp
  have T := F.ox
  obtain ⟨nm, q, Nn, bs, bm, sn, sub, ab, col, dd, k0, k1, k2, k3, k5, hC, hbm⟩ := T.cls
  obtain ⟨cd, hcl, hal⟩ := xf_find F.meth
  have X1 : K.In h₁ := I.kIn
  obtain ⟨t1, hoe⟩ := exo_at I.hok ea
  have IA : PySem.W.InstAt h₁ a _ C none := ⟨hoe, rfl, rfl, trivial⟩
  have hcc : h₁.get? cc = some ⟨cl, cld, .cell (some (.ref C)), csl⟩ := X1 _ _ lcc
  rw [hbody]
  refine PySem.ks_wpAt_execs_cons (PySem.ks_wpAt_Expr_any (PySem.ks_wpAt_MethodCall (he := hev _) ?_) (hi := by unfold interactive; rw [show (envF NFi fI s.heap.objs.size).scope.kind = .function from S.kind]; rfl))
  refine PySem.ks_wpAt_super_base (env := envF NFi fI s.heap.objs.size) hks (S.frk _ (List.mem_singleton.mpr rfl)) (by decide) rfl (X1 _ _ lk) rfl hp rfl (X1 _ _ lc) rfl hvs hfile F.top ?_
  obtain ⟨mb, hmb1, hmb2⟩ := e0.mod.blt
  refine PySem.W.ks_loadName_global S.kind hks (PySem.Calls.loadGlobal_builtin (env := envF NFi fI s.heap.objs.size) (e0.mod.glob.keeps I.bk) hm (hmb1.keeps I.bk) ((hmb2 _ (by decide +kernel)).trans PyProof.Rows.Boot.«super») ⟨rfl, ?_⟩)
  refine wpAny_loadName_free S.kind (S.frk _ (List.mem_singleton.mpr rfl)) rfl ⟨_, hcc, rfl⟩ ?_
  refine wpAny_loadName_local S.kind (by rw [har]; exact S.par _ (List.mem_cons_self ..)) hns (v := .ref a) ?_ ?_
  · rw [har]
    have nd := S.nd.sublist (List.take_sublist ((self :: ps).length + [("__class__" : Str)].length) N)
    rw [S.pre] at nd
    exact zip_look (i := 0) (List.nodup_append.mp nd).1 rfl rfl
  have hCh := X1 _ _ hC
  refine PySem.ks_wpAny_isType_cls hCh rfl ⟨rfl, ?_⟩
  refine PySem.ks_wpAny_call_super hCh rfl hoe rfl (fun c e => by cases e) (PySem.W.looks_mroIn X1 F.sub) (fun h2 e2 k2 => ?_)
  have I2 := I.kept (t' := s.toks + ((self :: ps).zip (.ref a :: ur)).length) k2
  have X2 : K.In h2 := I2.kIn
  obtain ⟨t2, hoe2⟩ := exo_at I2.hok ea
  have IA2 : PySem.W.InstAt h2 a _ C none := ⟨hoe2, rfl, rfl, trivial⟩
  have hI2 : PySem.W.Looks (model P w) h2 (isInstance (.ref a) (.type "ValueError")) true := IA2.type.andThen (PySem.W.looks_subIn X2 F.subV)
  refine PySem.W.kxs_getMethod PySem.W.kxs_ValueError e2 (PySem.W.looks_opaque X2 F.tp) (l₀ := cd.mro) ?_ rfl X2 hal hI2 (PySem.W.ks_ne X2 IA2 hcl) (by decide) ?_
  · exact fun A Q E s k q => wpAny_bind ((PySem.W.looks_clsIn X2 hcl) A _ E s k (wpAny_pure q))
  refine PySem.W.kxs_callWith (i := "ValueError.__init__") (x := a) rfl ?_
  refine PySem.Calls.evalArgs_plain (PySem.Calls.spliced_cons (PySem.Calls.Constant_str (x := z) (k := j) (pos := p3) (env := envF NFi fI s.heap.objs.size) (PySem.Calls.spliced_nil ⟨Heap.get?_push_size _ rfl, ?_⟩)))
  have I3 := I2.kept (h' := h2.push (PySem.W.kxs_mw "ValueError.__init__" a)) (t' := s.toks + ((self :: ps).zip (.ref a :: ur)).length + 1 + 1) fun b o e => Heap.get?_push_of_some _ e
  refine mw_call (X := ncx (L2.CX P w) P w K mg base N NFi fI A outer s H E) T I3 ea (Heap.get?_push_size _ rfl) (by rw [sizeLine_eq]; simp) fun s' J => ?_
  refine PySem.wpAt_of_wpAny (wpAny_mono ((hrest (ncx (L2.CX P w) P w K mg base N NFi fI A outer s H E) a rfl rfl rfl).run [] s' _ H _ J hts) (fun fl s2 hs => ?_) fun e s2 hs => hs)
  have fin : ∀ {σ' : L2.St} {H' : Hp} {v : V} {u : Value}, L2.Inv (ncx (L2.CX P w) P w K mg base N NFi fI A outer s H E) [] σ' H' s2 → L2.RelV v u → Q v H' → L2.CE outer P w H s Q u s2 :=
    fun {σ' H' v u} J rv q => ⟨v, H', J.os, J.bare, J.base, J.hok, rv, q⟩
  cases fl with
  | ret u =>
    obtain ⟨v, σ', H', J, rv, q⟩ := hs
    exact fin J rv q
  | next =>
    obtain ⟨σ', H', J, q⟩ := hs
    exact fin (v := V.non) (u := Value.none) J rfl q
  | brk =>
    obtain ⟨_, _, _, q⟩ := hs
    exact False.elim q
  | cont =>
    obtain ⟨_, _, _, q⟩ := hs
    exact False.elim q
end
end Mi

namespace Mi
open PySem PySem.Spec PyProof.Rows L2 NdefX

/-- what an __init__ promises that lays the fields fs, in their order -/
def spIni (C : Addr) (n : Nat) (fl : List V → List (Str × V)) : Sp := fun vs H Q _ => ∃ a ws, vs = .ref a :: ws ∧ ws.length = n ∧ H a = some (exo a C none) ∧
  ∀ dx, H dx = none → dx ≠ a → Q .non (upd (upd H dx (exd dx (fl ws))) a (exo a C (some dx)))
/-- the expression super().__init__(z) -/
abbrev supE (z : Str) (j : Nat) (p0 p1 p2 p3 p4 : Pos) : Expr := .Call (.Attribute (.Call (.Name "super" p0) [] [] p1) "__init__" p2) [.Constant (.str z) j p3] [] p4
/-- how it runs: at a written place this is rfl -/
def SupEv (z : Str) (j : Nat) (p0 p1 p2 p3 p4 : Pos) : Prop := ∀ env : PySem.Env, eval (supE z j p0 p1 p2 p3 p4) env = (do
      let ov ← attributeBase (.Call (.Name "super" p0) [] [] p1) "__init__" env (eval (.Call (.Name "super" p0) [] [] p1) env)
      standAt p2.atName
      let (f, first) ← holding [ov] (getMethod ov "__init__" (do return (← importBound (.Call (.Name "super" p0) [] [] p1) env).getD true))
      callWith p4 f first (backTo p4 (starEach [.Constant (.str z) j p3] env)) [])
section
variable {P : Program} {w : World} {K : PySem.W.Frag} {mg : Str → Option Value} {base : Heap} {C fI cc : Addr} {qual : Str} {params : Arguments} {body : List Stmt} {scope : Scope}
theorem ini1 {z self p f : Str} {j k : Nat} {p0 p1 p2 p3 p4 p5 q1 q2 q3 q4 : Pos}
    (F : ExcF K P C fI cc qual params body scope) (hbody : body = [.Expr (supE z j p0 p1 p2 p3 p4) p5, .Assign [.Attribute (.Name self q1) f q2] (.Name p q3) q4]) (hev : SupEv z j p0 p1 p2 p3 p4)
    (S : NScope [self, p, "__class__"] [self, p] ["__class__"] scope) (hks : scope.names.lookup ("super" : Str) = some .globalImplicit) (hpar : ∃ ar, (params.posonlyargs ++ params.args).head? = some ar ∧ ar.arg = self)
    (hm : mg "super" = none) (hno : PySem.W.findIn K (.ref C) f = some none)
    (d1 : (self == ("__debug__" : Str)) = false) (d2 : (p == ("__debug__" : Str)) = false) (d3 : (self == ("__classdict__" : Str)) = false) (d4 : (p == ("__classdict__" : Str)) = false)
    (hbn : ∀ (kV doc pm : Value) (an : Option Addr) (cdv ct : Value) (us : List Value), us.length = [self, p].length → bindArgs (PySem.W.fnX "__init__" qual params body scope [("__class__", cc)] .none kV doc pm an cdv ct) ⟨us, []⟩ = pure ([self, p].zip us)) :
    ∃ fd : FuncData, FnOk P w K mg base (L2.CX P w) (k + 1) fI fd [self, p] (spIni C 1 fun ws => [(f, ws.getD 0 .non)]) ∧ Binds K fd [self, p] [] := by
  refine xin_ok (ts := fun _ => tOst K f (tVar 0) (tVar 1)) F hbody hev S hks hpar hm (fun vs H Q E h => ?_) (fun vs H Q E h => ?_) (fun X a eK eN eS => ?_) hbn
  · obtain ⟨a, ws, rfl, hl, _⟩ := h
    simp [hl]
  · obtain ⟨a, ws, rfl, hl, ha, hq⟩ := h
    obtain ⟨v, rfl⟩ : ∃ v, ws = [v] := match ws, hl with | [v], _ => ⟨v, rfl⟩
    exact ⟨a, [v], rfl, ha, v, rfl, .ref a, rfl, a, C, rfl, F.ox, hno, .inl ⟨ha, fun dx n ne => hq dx n ne⟩⟩
  · subst eK eS
    have l0 : X.N[0]? = some self := by rw [eN]; rfl
    have l1 : X.N[1]? = some p := by rw [eN]; rfl
    exact pss_one (ps_ost (pe_var l0 (.inl (S.par _ (List.mem_cons_self ..))) d1 d3) (pe_var l1 (.inl (S.par _ (List.mem_cons_of_mem _ (List.mem_cons_self ..)))) d2 d4))
/-- an own exception class x that may be raised with n arguments; fl: its fields from them -/
structure Rsb (P : Program) (w : World) (K : PySem.W.Frag) (mg : Str → Option Value) (base : Heap) (k : Nat) (x : Str) (n : Nat) (fl : List V → List (Str × V)) : Prop where
  ex : ∃ (C fI : Addr) (fd : FuncData) (ps : List Str), OexC K C ∧ PySem.W.findIn K (.ref C) "__init__" = some (some (.ref fI)) ∧ PySem.W.typeIn K (.ref fI) = some (.type "function") ∧
    FnOk P w K mg base (L2.CX P w) k fI fd ps (spIni C n fl) ∧ Binds K fd ps [] ∧ mg x = some (.ref C)
theorem Rsb.mono {j k n : Nat} {x : Str} {fl : List V → List (Str × V)} (c : Rsb P w K mg base j x n fl) (h : j ≤ k) : Rsb P w K mg base k x n fl := let ⟨C, fI, fd, ps, a, b, c, d, e⟩ := c.ex; ⟨C, fI, fd, ps, a, b, c, d.mono h, e⟩
end
/-- raise x(..): the fields fs get the arguments (in the order of the dict's making, the last one first) -/
def sRaise (x : Str) (n : Nat) (fl : List D → List (Str × D)) (a : MA) : MS := fun env S => RS.of (a env S) env fun ds S1 => if ds.length = n then .ex ⟨x, fl ds⟩ env S1 else .no
/-- the fields are told alike of V's and D's -/
def Flds (n : Nat) (fv : List V → List (Str × V)) (fd : List D → List (Str × D)) : Prop := ∀ (K : PySem.W.Frag) (as : List Addr) (H : Hp) (vs : List V) (ds : List D), Rvs K as H vs ds → ds.length = n → (fv vs).map (·.1) = (fd ds).map (·.1) ∧ Rvs K as H ((fv vs).map (·.2)) ((fd ds).map (·.2))
theorem flds1 {f : Str} : Flds 1 (fun ws => [(f, ws.getD 0 .non)]) (fun ds => [(f, ds.getD 0 .non)]) := fun K as H vs ds r hl => by
  obtain ⟨d, rfl⟩ : ∃ d, ds = [d] := match ds, hl with | [d], _ => ⟨d, rfl⟩
  cases r with
  | cons h t => cases t; exact ⟨rfl, .cons h .nil⟩
section
variable {X : Cx} {W : WX}
theorem sm_raise {k j n : Nat} {x : Str} {fv : List V → List (Str × V)} {fd : List D → List (Str × D)} {e : Expr} {es : List Expr} {a : MA} {p pos pos' : Pos} (c : Rsb X.prog X.w X.K X.mg X.base k x n fv) (hf : Flds n fv fd) (hn : n ≤ 1000) (hr : Room j X.A) (tk : Takes X W) (hc : X.calm = true)
    (ha : AM X W (e :: es) a) (hk : k + 1 ≤ j := by decide) (hg : Gl X x := by rfl) (hdb : (x == ("__debug__" : Str)) = false := by decide)
    (he : starEach (e :: es) X.env = (false, eval e X.env) :: starEach es X.env := by rfl) (hpl : (backTo pos (starEach es X.env)).any (·.1) = false := by rfl) :
    SM X W (.Raise (some (.Call (.Name x p) (e :: es) [] pos)) none pos') (sRaise x n fd a) := by
  obtain ⟨C, fI, fD, ps, T, iC, tI, F, hb, hm⟩ := c.ex
  refine ⟨ps_imp (ps_raise hc tk (pmk_oex (CX := L2.CX X.prog X.w) T iC tI F (hr.mono hk) hb .nil (fun _ _ _ _ _ _ _ h => by obtain ⟨_, _, _, _, _, _, _, _, _, _, _, _, z⟩ := h; exact z.elim) hg hm ha.pa hdb he hpl)) fun Dn σ H q => ?_⟩
  refine tS_of (f := fun env (ds : List D) S1 => if ds.length = n then .ex ⟨x, fd ds⟩ env S1 else .no) q fun as env ds S1 as1 H1 vs re rel rvs g => ?_
  by_cases hl : ds.length = n
  · rw [if_pos hl] at g
    have hlv : vs.length = n := by rw [rvs.len, hl]
    refine ⟨by omega, fun a na => ?_⟩
    rw [List.append_nil]
    refine ⟨a, vs, rfl, hlv, upd_same, fun dx nd ne => ⟨rfl, dx, fv vs, upd_same, ?_, ?_, ?_⟩⟩
    · rw [upd_ne ne, upd_same]
    · rw [upd_ne ne] at nd; exact nd
    · have nd' : H1 dx = none := by rw [upd_ne ne] at nd; exact nd
      have eH : upd (del (upd (upd (upd H1 a (exo a C none)) dx (exd dx (fv vs))) a (exo a C (some dx))) a) dx (.xd (fv vs)) = upd H1 dx (.xd (fv vs)) := by
        funext b
        by_cases hbd : b = dx
        · rw [hbd, upd_same, upd_same]
        · rw [upd_ne hbd, upd_ne hbd]
          by_cases hba : b = a
          · rw [hba, del_same, na]
          · rw [del_ne hba, upd_ne hba, upd_ne hbd, upd_ne hba]
      rw [eH]
      have hex : Ex X.K as1 H1 as1 (upd H1 dx (.xd (fv vs))) := Ex.fresh nd'
      refine g as1 _ σ (.ref C) (some dx) hex (rel.fresh nd') (re.mono hex) ?_
      obtain ⟨f1, f2⟩ := hf X.K as1 _ vs ds (rvs.mono hex) hl
      exact ⟨C, fv vs, rfl, hm, .inr ⟨dx, rfl, upd_same⟩, f1, f2⟩
  · rw [if_neg hl] at g; exact g.elim
end
end Mi

namespace Mi
open PySem PySem.Spec PyProof.Rows L2

/-! ### except suites -/
/-- the caught exception e, at slot i -/
def Known (K : PySem.W.Frag) (mg : Str → Option Value) (a : Addr) (cls : Value) (dd : Option Addr) (i : Nat) (as : List Addr) (H : Hp) (σ : L2.St) (e : Xn) : Prop := σ[i]? = some (some (.ref a)) ∧ Rx K mg as H cls dd e
theorem Rx.mono_same {K : PySem.W.Frag} {mg : Str → Option Value} {as as' : List Addr} {H H' : Hp} {cls : Value} {dd : Option Addr} {e : Xn} (x : Ex K as H as' H') (h : ∀ b o, H b = some o → H' b = some o) (r : Rx K mg as H cls dd e) : Rx K mg as' H' cls dd e := by
  obtain ⟨C, fs, h1, h2, h3, h5, h6⟩ := r
  exact ⟨C, fs, h1, h2, h3.imp id fun ⟨d, h3, h4⟩ => ⟨d, h3, h _ _ h4⟩, h5, h6.mono x⟩
abbrev W0 : WX := fun _ _ _ _ => False
section
variable (X : Cx) (a : Addr) (cls : Value) (dd : Option Addr) (i : Nat)
structure XP (e : Expr) (g : Xn → Option D) : Prop where
  ex : ∃ te : TE, PE X e te ∧ ∀ (as : List Addr) (S : Sto) (H : Hp) (σ : L2.St) (en : Xn) (d : D) (Q : VK), Rel X.K as S H → Known X.K X.mg a cls dd i as H σ en → g en = some d →
    (∀ H' v, Ex X.K as H as H' → (∀ b o, H b = some o → H' b = some o) → Rel X.K as S H' → Rv X.K as H' v d → Q v H') → te σ H Q
structure XPs (es : List Expr) (g : Xn → Option (List D)) : Prop where
  ex : ∃ ta : TA, PA X es ta ∧ ∀ (as : List Addr) (S : Sto) (H : Hp) (σ : L2.St) (en : Xn) (d : List D) (Q : List V → Hp → Prop), Rel X.K as S H → Known X.K X.mg a cls dd i as H σ en → g en = some d →
    (∀ H' v, Ex X.K as H as H' → (∀ b o, H b = some o → H' b = some o) → Rel X.K as S H' → Rvs X.K as H' v d → Q v H') → ta σ H Q
def tSX (m : Xn → MS) : TS := fun Dn σ H => ∃ as env S e, Re X.K as H σ env ∧ Rel X.K as S H ∧ Known X.K X.mg a cls dd i as H σ e ∧ GoS X.K X.mg W0 (m e env S) as H Dn
structure SX (st : Stmt) (m : Xn → MS) : Prop where
  ps : PS X st (tSX X a cls dd i m)
structure BX (st : List Stmt) (m : Xn → MS) : Prop where
  ps : PSs X st (tSX X a cls dd i m)
end
section
variable {X : Cx} {a : Addr} {cls : Value} {dd : Option Addr} {i : Nat}
theorem xp_of {e : Expr} {v : V} {d : D} (h : PE X e (tC v)) (r : ∀ as H, Rv X.K as H v d) : XP X a cls dd i e (fun _ => some d) :=
  ⟨_, h, fun as S H σ en d' Q rel kn e hq => by cases e; exact hq H v Ex.refl (fun _ _ h => h) rel (r as H)⟩
theorem xp_int {n : Int} {j : Nat} {pos : Pos} : XP X a cls dd i (.Constant (.int n) j pos) (fun _ => some (.int n)) := xp_of pe_int fun _ _ => .int n
theorem xp_str {x : Str} {j : Nat} {pos : Pos} : XP X a cls dd i (.Constant (.str x) j pos) (fun _ => some (.str x)) := xp_of pe_str fun _ _ => .str x
theorem xp_bl {b : Bool} {j : Nat} {pos : Pos} : XP X a cls dd i (.Constant (.bool b) j pos) (fun _ => some (.bl b)) := xp_of pe_bl fun _ _ => .bl b
theorem xp_non {j : Nat} {pos : Pos} : XP X a cls dd i (.Constant .none j pos) (fun _ => some .non) := xp_of pe_non fun _ _ => .non
theorem xps_nil : XPs X a cls dd i [] (fun _ => some []) := ⟨_, pa_nil, fun as S H σ en d Q rel kn e hq => by cases e; exact hq H [] Ex.refl (fun _ _ h => h) rel .nil⟩
theorem xps_cons {e : Expr} {es : List Expr} {g : Xn → Option D} {r : Xn → Option (List D)} (h : XP X a cls dd i e g) (hr : XPs X a cls dd i es r) (hs : starEach (e :: es) X.env = (false, eval e X.env) :: starEach es X.env := by rfl) :
    XPs X a cls dd i (e :: es) (fun en => (g en).bind fun d => (r en).map fun ds => d :: ds) := by
  obtain ⟨te, p1, h1⟩ := h.ex
  obtain ⟨ta, p2, h2⟩ := hr.ex
  refine ⟨_, pa_cons p1 p2 hs, fun as S H σ en d Q rel kn e hq => ?_⟩
  cases e1 : g en with
  | none => rw [e1] at e; cases e
  | some d1 =>
    cases e2 : r en with
    | none => rw [e1, e2] at e; cases e
    | some ds =>
      rw [e1, e2] at e
      cases e
      refine h1 as S H σ en d1 _ rel kn e1 fun H1 v x1 k1 r1 v1 => ?_
      refine h2 as S H1 σ en ds _ r1 ⟨kn.1, kn.2.mono_same x1 k1⟩ e2 fun H2 vs x2 k2 r2 v2 => ?_
      exact hq H2 (v :: vs) (x1.trans x2) (fun b o h => k2 b o (k1 b o h)) r2 (.cons (v1.mono x2) v2)
theorem xp_tup {es : List Expr} {g : Xn → Option (List D)} {k : Nat} {pos : Pos} (h : XPs X a cls dd i es g) : XP X a cls dd i (.Tuple es k pos) (fun en => (g en).bind fun ds => if ds.length ≤ sizeLine then some (.tup ds) else none) := by
  obtain ⟨ta, p, h1⟩ := h.ex
  refine ⟨_, pe_tup p, fun as S H σ en d Q rel kn e hq => ?_⟩
  cases e1 : g en with
  | none => rw [e1] at e; cases e
  | some ds =>
    rw [e1] at e
    have e' : (if ds.length ≤ sizeLine then some (D.tup ds) else none) = some d := e
    split at e'
    · rename_i hl
      cases e'
      refine h1 as S H σ en ds _ rel kn e1 fun H1 vs x1 k1 r1 v1 => ⟨by rw [v1.len]; exact hl, fun p hp => ?_⟩
      exact hq _ _ (x1.trans (Ex.fresh hp)) (fun b o q => by rw [upd_ne (ne_of_none (k1 b o q) hp)]; exact k1 b o q) (r1.fresh hp) (.tup (SqT.of upd_same) (v1.mono (Ex.fresh hp)))
    · cases e'
/-- the field f is there to be read at these classes -/
structure Xfk (K : PySem.W.Frag) (mg : Str → Option Value) (f : Str) (l : List Str) : Prop where
  ok : ∀ y ∈ l, ∀ C, mg y = some (.ref C) → XfC K C ∧ PySem.W.findIn K (.ref C) f = some none
theorem lookup_rv {K : PySem.W.Frag} {as : List Addr} {H : Hp} {f : Str} : ∀ {fs : List (Str × V)} {ds : List (Str × D)} {d : D}, fs.map (·.1) = ds.map (·.1) → Rvs K as H (fs.map (·.2)) (ds.map (·.2)) → ds.lookup f = some d → ∃ v, fs.lookup f = some v ∧ Rv K as H v d
  | [], [], _, _, _, e => by cases e
  | [], _ :: _, _, h, _, _ => by cases h
  | _ :: _, [], _, h, _, _ => by cases h
  | (n, v) :: fs, (n', d') :: ds, d, h, r, e => by
    simp only [List.map_cons, List.cons.injEq] at h
    obtain ⟨h1, h2⟩ := h
    subst h1
    cases r with
    | cons r1 r2 =>
      simp only [List.lookup] at e ⊢
      split at e
      · cases e; exact ⟨v, rfl, r1⟩
      · exact lookup_rv h2 r2 e
end
section
variable {X : Cx} {a : Addr} {cls : Value} {dd : Option Addr} {i : Nat} {oe : Obj} {pn : List (Addr × Obj)}
theorem xp_f {f x : Str} {l : List Str} {p pos : Pos} (T : Xfk X.K X.mg f l) (hz : Zc cls dd oe) (hf : ∃ vs, oe.data = .fields vs) (hN : X.N[i]? = some x := by rfl) (hv : Vis X.env.scope x := by first | exact Or.inl rfl | exact Or.inr (Or.inl rfl) | exact Or.inr (Or.inr rfl))
    (hd : (x == ("__debug__" : Str)) = false := by decide) (hcd : (x == ("__classdict__" : Str)) = false := by decide)
    (hb : attributeBase (.Name x p) f X.env (eval (.Name x p) X.env) = eval (.Name x p) X.env := by rfl) :
    XP (X.suite a ((a, oe) :: pn)) a cls dd i (.Attribute (.Name x p) f pos) (fun en => if en.cls ∈ l then en.fs.lookup f else none) := by
  by_cases hC : ∃ C, cls = .ref C ∧ XfC X.K C ∧ PySem.W.findIn X.K (.ref C) f = some none
  · obtain ⟨C, rfl, h1, h2⟩ := hC
    refine ⟨_, pe_xf h1 h2 hz hf (pe_var (X := X.suite a ((a, oe) :: pn)) hN hv hd hcd) hb, fun as S H σ en d Q rel kn e hq => ?_⟩
    by_cases hm : en.cls ∈ l
    · rw [if_pos hm] at e
      obtain ⟨e1, C', fs, e2, e3, e45, e6, e7⟩ := kn
      obtain ⟨v, l1, l2⟩ := lookup_rv e6 e7 e
      obtain ⟨d', e4, e5⟩ : ∃ d', dd = some d' ∧ H d' = some (.xd fs) := by
        rcases e45 with ⟨_, e0⟩ | z
        · rw [e0] at l1; cases l1
        · exact z
      exact ⟨.ref a, e1, rfl, rfl, d', fs, v, e4, e5, l1, hq H v Ex.refl (fun _ _ h => h) rel l2⟩
    · rw [if_neg hm] at e; cases e
  · refine ⟨fun _ _ _ => False, ⟨fun _ _ _ _ _ _ h => h.elim⟩, fun as S H σ en d Q rel kn e hq => ?_⟩
    by_cases hm : en.cls ∈ l
    · obtain ⟨e1, C', fs, e2, e3, e45, e6, e7⟩ := kn
      obtain ⟨h1, h2⟩ := T.ok _ hm C' e3
      exact hC ⟨C', e2, h1, h2⟩
    · rw [if_neg hm] at e; cases e
end
section
variable {X : Cx} {a : Addr} {cls : Value} {dd : Option Addr} {i : Nat}
theorem sx_sm {st : Stmt} {m : MS} (h : SM X W0 st m) : SX X a cls dd i st (fun _ => m) := ⟨ps_imp h.ps fun Dn σ H ⟨as, env, S, e, re, rel, kn, g⟩ => ⟨as, env, S, re, rel, g⟩⟩
theorem bx_bm {st : List Stmt} {m : MS} (h : BM X W0 st m) : BX X a cls dd i st (fun _ => m) := ⟨pss_imp h.ps fun Dn σ H ⟨as, env, S, e, re, rel, kn, g⟩ => ⟨as, env, S, re, rel, g⟩⟩
theorem bx_one {st : Stmt} {m : Xn → MS} (h : SX X a cls dd i st m) : BX X a cls dd i [st] m := ⟨pss_one h.ps⟩
theorem bx_cons {st : Stmt} {rest : List Stmt} {m : Xn → MS} {n : MS} (h : SX X a cls dd i st m) (h2 : BM X W0 rest n) : BX X a cls dd i (st :: rest) (fun e => sSeq (m e) n) :=
  ⟨pss_imp (pss_cons h.ps h2.ps) fun D σ H ⟨as, env, S, e, re, rel, kn, g⟩ => ⟨as, env, S, e, re, rel, kn, GoS.thenS g⟩⟩
def xSet (j : Nat) (g : Xn → Option D) : Xn → MS := fun e env S => match g e with
  | some d => .nx (env.set j (some d)) S
  | none => .no
def xRet (g : Xn → Option D) : Xn → MS := fun e _ S => match g e with
  | some d => .rt d S
  | none => .no
def xSetL (j : Nat) (g : Xn → Option (List D)) : Xn → MS := fun e env S => match g e with
  | some ds => if ds.length ≤ sizeLine then .nx (env.set j (some (.obj S.length))) (S ++ [.lst ds]) else .no
  | none => .no
theorem sx_set (j : Nat) {x : Str} {e : Expr} {g : Xn → Option D} {pos pos' : Pos} (hN : X.N.Nodup) (h : XP X a cls dd i e g) (hi : X.N[j]? = some x := by rfl) (hx : Loc X.env.scope x := by first | exact Or.inl rfl | exact Or.inr rfl)
    (hs : swapsWith e (some (.Name x pos')) pos.line X.env = pure false := by rfl) (hf : X.fn x = true ∨ X.env.scope.names.lookup x = some .local := by first | exact .inl rfl | exact .inr rfl | assumption) :
    SX X a cls dd i (.Assign [.Name x pos'] e pos) (xSet j g) := by
  obtain ⟨te, p, h1⟩ := h.ex
  refine ⟨ps_imp (ps_set hN hi hx p hs hf) fun D σ H ⟨as, env, S, en, re, rel, kn, q⟩ => ?_⟩
  unfold xSet at q
  cases e1 : g en with
  | none => rw [e1] at q; exact q.elim
  | some d =>
    rw [e1] at q
    exact h1 as S H σ en d _ rel kn e1 fun H' v x1 k1 r1 v1 => q as H' _ x1 r1 ((re.mono x1).set v1)
theorem sx_ret {e : Expr} {g : Xn → Option D} {pos : Pos} (h : XP X a cls dd i e g) : SX X a cls dd i (.Return (some e) pos) (xRet g) := by
  obtain ⟨te, p, h1⟩ := h.ex
  refine ⟨ps_imp (ps_ret p) fun D σ H ⟨as, env, S, en, re, rel, kn, q⟩ => ?_⟩
  unfold xRet at q
  cases e1 : g en with
  | none => rw [e1] at q; exact q.elim
  | some d =>
    rw [e1] at q
    exact h1 as S H σ en d _ rel kn e1 fun H' v x1 k1 r1 v1 => q as H' _ x1 r1 v1
theorem sx_setL (j : Nat) {x : Str} {es : List Expr} {g : Xn → Option (List D)} {pos pos' p2 : Pos} (hN : X.N.Nodup) (h : XPs X a cls dd i es g) (hi : X.N[j]? = some x := by rfl) (hx : Loc X.env.scope x := by first | exact Or.inl rfl | exact Or.inr rfl)
    (hs : swapsWith (.List es p2) (some (.Name x pos')) pos.line X.env = pure false := by rfl) (hf : X.fn x = true ∨ X.env.scope.names.lookup x = some .local := by first | exact .inl rfl | exact .inr rfl | assumption) :
    SX X a cls dd i (.Assign [.Name x pos'] (.List es p2) pos) (xSetL j g) := by
  obtain ⟨te, p, h1⟩ := h.ex
  refine ⟨ps_imp (ps_set hN hi hx (pe_lst p) hs hf) fun D σ H ⟨as, env, S, en, re, rel, kn, q⟩ => ?_⟩
  unfold xSetL at q
  cases e1 : g en with
  | none => rw [e1] at q; exact q.elim
  | some ds =>
    rw [e1] at q
    by_cases hl : ds.length ≤ sizeLine
    · simp only [hl, if_true] at q
      refine h1 as S H σ en ds _ rel kn e1 fun H' vs x1 k1 r1 v1 => ⟨by rw [v1.len]; exact hl, fun p hp => ?_⟩
      obtain ⟨r2, x2, e2⟩ := new_lst r1 hp v1
      exact q _ _ _ (x1.trans x2) r2 ((re.mono (x1.trans x2)).set (.obj e2))
    · simp only [hl, if_false] at q
      exact q.elim
end
/-! ### try .. except x as n -/
def unsetEnd (i : Nat) : RS → RS
  | .nx env S => .nx (env.set i none) S
  | .rt d S => .rt d S
  | .bk env S => .bk (env.set i none) S
  | .ct env S => .ct (env.set i none) S
  | _ => .no
def sTryAs (b : MS) (i : Nat) (sub : Str → Option Bool) (su : Xn → MS) : MS := fun env S => match b env S with
  | .ex e env' S' => (match sub e.cls with
    | some true => if i < env'.length then unsetEnd i (su e (env'.set i none) S') else .no
    | some false => .ex e env' S'
    | none => .no)
  | o => o
/-- an except clause that names the class x: which classes it catches -/
structure Exk (K : PySem.W.Frag) (mg : Str → Option Value) (x : Str) (sub : Str → Option Bool) : Prop where
  ex : ∃ C, mg x = some (.ref C) ∧ ∀ y C' b, mg y = some (.ref C') → sub y = some b → PySem.W.exmOne K (.ref C') (.ref C) = some b
section
variable {X : Cx} {W : WX}
theorem sm_try_as {x n : Str} (i : Nat) {body suite : List Stmt} {b₀ : Stmt} {np pos pos' : Pos} {b : MS} {su : Xn → MS} {sub : Str → Option Bool} (T : Exk X.K X.mg x sub) (tk : Takes X W) (hN : X.N.Nodup)
    (hb : ∀ (W : WX) (pn : List (Addr × Obj)) (xe : Value → Shared → Prop), Takes (X.tr pn xe) W → PassesOwn (model X.prog X.w) X.A X.env xe → BM (X.tr pn xe) W body b)
    (hsu : ∀ (a : Addr) (oe : Obj) (cls : Value) (d : Option Addr) (pn : List (Addr × Obj)), Zc cls d oe → (∃ vs, oe.data = .fields vs) → BX (X.suite a ((a, oe) :: pn)) a cls d i (b₀ :: suite) su)
    (hs : X.stack = X.env :: X.outer := by rfl) (hf : X.env.frame = some X.env.locals := by rfl) (hi : X.N[i]? = some n := by rfl) (hln : X.env.kindOf n = some .local := by rfl)
    (hg : Gl X x := by rfl) (hd : (x == ("__debug__" : Str)) = false := by decide) :
    SM X W (.Try body [.ExceptHandler (some (.Name x np)) (some n) (b₀ :: suite) pos'] [] [] pos) (sTryAs b i sub su) := by
  obtain ⟨C, hm, hx⟩ := T.ex
  refine ⟨ps_imp (ps_try_as (tb := fun W => tS X.K X.mg W b) (ts := fun a cls d => tSX (X.suite a ([])) a cls d i su) hs hf hN hi hln ⟨hg, hd, .inl hm⟩ tk (fun W' pn xe tk' po => (hb W' pn xe tk' po).ps) (fun a oe cls d pn hz hv => (hsu a oe cls d pn hz hv).ps)) fun Dn σ H ⟨as, env, S, re, rel, g⟩ => ⟨as, env, S, re, rel, ?_⟩⟩
  unfold sTryAs at g
  cases eb : b env S with
  | nx env S => rw [eb] at g; exact g
  | rt d S => rw [eb] at g; exact g
  | bk env S => rw [eb] at g; exact g
  | ct env S => rw [eb] at g; exact g
  | no => rw [eb] at g; exact g
  | ex e env' S' =>
    rw [eb] at g
    intro as' H' σ' cls dd x1 rel1 re1 rx
    obtain ⟨C', fs, e2, e3, r⟩ := id rx
    cases es : sub e.cls with
    | none => simp only [es] at g; exact g.elim
    | some bb =>
      refine ⟨bb, by rw [e2]; exact hx _ _ _ e3 es, fun hbt a na => ?_, fun hbf => ?_⟩
      · subst hbt
        simp only [es] at g
        by_cases hl : i < env'.length
        · rw [if_pos hl] at g
          have hls : i < σ'.length := by rw [re1.len]; exact hl
          have re2 : Re X.K as' H' (σ'.set i (some (.ref a))) (env'.set i none) := by
            refine ⟨by simp [re1.len], fun j d hj => ?_⟩
            by_cases hij : i = j
            · subst hij
              rw [List.getElem?_set_self hl] at hj
              cases hj
            · rw [List.getElem?_set_ne hij] at hj ⊢
              exact re1.at_ j d hj
          refine ⟨as', _, S', e, re2, rel1, ⟨List.getElem?_set_self hls, rx⟩, ?_⟩
          have g' := GoS.later x1 g
          cases eu : su e (env'.set i none) S' with
          | nx en2 S2 => rw [eu] at g'; exact fun as3 H3 σ3 x3 r3 q3 => g' as3 H3 _ x3 r3 q3.unset
          | rt d S2 => rw [eu] at g'; exact g'
          | bk en2 S2 => rw [eu] at g'; exact fun as3 H3 σ3 x3 r3 q3 => g' as3 H3 _ x3 r3 q3.unset
          | ct en2 S2 => rw [eu] at g'; exact fun as3 H3 σ3 x3 r3 q3 => g' as3 H3 _ x3 r3 q3.unset
          | ex _ _ _ => rw [eu] at g'; exact g'.elim
          | no => rw [eu] at g'; exact g'.elim
        · rw [if_neg hl] at g; exact g.elim
      · subst hbf
        simp only [es] at g
        exact g as' H' σ' cls dd x1 rel1 re1 rx
end
end Mi

namespace Mi
open PySem PySem.Spec PyProof.Rows L2

/-! ### iterators -/
/-- a mirror iterator: at most n turns; what turn i finds in the store (some none: the end) -/
structure MIt where
  n : Nat
  f : Nat → Sto → Option (Option D)
structure ItOk (K : PySem.W.Frag) (as1 : List Addr) (H1 : Hp) (J : It) (m : MIt) : Prop where
  stop : ∀ (as : List Addr) (S : Sto) (H : Hp) (i : Nat), Ex K as1 H1 as H → Rel K as S H → m.f i S = some none → J.stop i H
  go : ∀ (as : List Addr) (S : Sto) (H : Hp) (i : Nat) (d : D), Ex K as1 H1 as H → Rel K as S H → m.f i S = some (some d) → J.go i H ∧ ∀ x H', J.yld i H x H' → Ex K as H as H' ∧ Rel K as S H' ∧ Rv K as H' x d
abbrev MI := Env → Sto → R MIt
section
variable (X : Cx) (W : WX)
structure IM (tg iter : Expr) (m : MI) : Prop where
  pi : PI X tg iter (tU X.K X.mg W (ItOk X.K) m)
end
section
variable {X : Cx} {W : WX}
theorem pi_imp {tg it : Expr} {t t' : TI} (h : PI X tg it t) (i : ∀ σ H Q, t' σ H Q → t σ H Q) : PI X tg it t' := ⟨fun pins s σ H R I q => h.run pins s σ H R I (i σ H R q)⟩
def itFix (ds : List D) : MIt := ⟨ds.length, fun i _ => some ds[i]?⟩
def itLst (n j : Nat) : MIt := ⟨n, fun i S => (lstAt S j).map fun ds => ds[i]?⟩
def kSeqI (d : D) (S : Sto) : R MIt := match d with
  | .tup ds => .ok (itFix ds) S
  | .obj j => (match lstAt S j with
    | some ds => .ok (itLst ds.length j) S
    | none => .no)
  | _ => .no
def iSeq (a : ME) : MI := fun env S => (a env S).bind kSeqI
def iSeqT (K : PySem.W.Frag) (tl : TE) : TI := fun σ H R => tl σ H fun x H1 => ∃ a, x = .ref a ∧ (((∃ xs, SqL K H1 a xs) ∧ R (Itl K a) H1) ∨ ((∃ xs, SqT K H1 a xs) ∧ R (Itt K a) H1))
theorem pi_seq {tg l : Expr} {tl : TE} (hl : PE X l tl) : PI X tg l (iSeqT X.K tl) := by
  refine ⟨fun pins s σ H R I h => ?_⟩
  refine thn (hl.run pins s σ H _ I h) fun v s1 ⟨x, H1, I1, r1, q1⟩ => ?_
  obtain ⟨a, e, q1⟩ := q1
  subst e
  cases r1
  rcases q1 with ⟨⟨xs, hq⟩, q⟩ | ⟨⟨xs, hq⟩, q⟩
  · obtain ⟨its, rv, p, hz⟩ := I1.list hq
    refine wpAny_pyIter_list p.isList ?_
    refine ⟨s1.heap.objs.size, [s1.heap.objs.size], _, _, H1, rfl, I1.kept (t' := s1.toks) fun b o e => Heap.get?_push_of_some _ e, turn_list a _, ⟨_, Heap.get?_push_size _ rfl, rfl, rfl⟩, fun b hb => ?_, q⟩
    have e : b = s1.heap.objs.size := by simpa using hb
    subst e
    exact I1.fpOk (Nat.le_refl _) (I1.hok.fresh (Nat.le_refl _))
  · obtain ⟨its, rv, p, hz⟩ := I1.tuple hq
    refine wpAny_pyIter_tuple (show s1.heap.IsTuple a its.toArray from p) ?_
    refine ⟨s1.heap.objs.size, [s1.heap.objs.size], _, _, H1, rfl, I1.kept (t' := s1.toks) fun b o e => Heap.get?_push_of_some _ e, turn_tuple a _, ⟨_, Heap.get?_push_size _ rfl, rfl, rfl⟩, fun b hb => ?_, q⟩
    have e : b = s1.heap.objs.size := by simpa using hb
    subst e
    exact I1.fpOk (Nat.le_refl _) (I1.hok.fresh (Nat.le_refl _))
theorem itl_ok {K : PySem.W.Frag} {as1 : List Addr} {H1 : Hp} {a : Addr} {j n : Nat} (hj : as1[j]? = some a) : ItOk K as1 H1 (Itl K a) (itLst n j) where
  stop := fun as S H i x rel e => by
    have e' : (lstAt S j).map (fun ds => ds[i]?) = some none := e
    cases e2 : lstAt S j with
    | none => rw [e2] at e'; cases e'
    | some ds =>
      rw [e2] at e'
      obtain ⟨a', ys, ea, _, hy, ry⟩ := (Rv.obj (K := K) (H := H) (x.pre _ _ hj)).seq_ rel e2
      cases ea
      have e3 : ds[i]? = none := Option.some.inj e'
      exact ⟨ys, hy, by rw [ry.len]; exact List.getElem?_eq_none_iff.mp e3⟩
  go := fun as S H i d x rel e => by
    have e' : (lstAt S j).map (fun ds => ds[i]?) = some (some d) := e
    cases e2 : lstAt S j with
    | none => rw [e2] at e'; cases e'
    | some ds =>
      rw [e2] at e'
      obtain ⟨a', ys, ea, _, hy, ry⟩ := (Rv.obj (K := K) (H := H) (x.pre _ _ hj)).seq_ rel e2
      cases ea
      have e3 : ds[i]? = some d := Option.some.inj e'
      obtain ⟨v, hv, rv⟩ := ry.get e3
      refine ⟨⟨ys, v, hy, hv⟩, fun y H' hy' => ?_⟩
      obtain ⟨rfl, hy'⟩ := hy'
      have e4 := hy' ys hy
      rw [hv] at e4
      cases e4
      exact ⟨Ex.refl, rel, rv⟩
theorem itt_ok {K : PySem.W.Frag} {as1 : List Addr} {H1 : Hp} {a : Addr} {xs : List V} {ds : List D} (ha : SqT K H1 a xs) (ra : Rvs K as1 H1 xs ds) : ItOk K as1 H1 (Itt K a) (itFix ds) where
  stop := fun as S H i x rel e => ⟨xs, x.tup _ _ ha, by
    have e3 : ds[i]? = none := Option.some.inj e
    rw [ra.len]; exact List.getElem?_eq_none_iff.mp e3⟩
  go := fun as S H i d x rel e => by
    have e3 : ds[i]? = some d := Option.some.inj e
    obtain ⟨v, hv, rv⟩ := (ra.mono x).get e3
    have ha' := x.tup _ _ ha
    refine ⟨⟨xs, v, ha', hv⟩, fun y H' hy' => ?_⟩
    obtain ⟨rfl, hy'⟩ := hy'
    have e4 := hy' xs ha'
    rw [hv] at e4
    cases e4
    exact ⟨Ex.refl, rel, rv⟩
theorem im_seq {tg l : Expr} {m : ME} (h : EM X W l m) : IM X W tg l (iSeq m) :=
  ⟨pi_imp (pi_seq h.pe) fun σ H R q => tU_bind (f := fun _ => kSeqI) q fun as env d S1 as1 H1 v re rel rv g => by
    cases d <;> first | exact g.elim | skip
    · rename_i ds
      obtain ⟨a, xs, rfl, ha, ra⟩ := rv.tup_
      exact ⟨a, rfl, .inr ⟨⟨xs, ha⟩, g as1 H1 _ Ex.refl rel (itt_ok ha ra)⟩⟩
    · rename_i j
      unfold kSeqI at g
      dsimp only at g
      cases e0 : lstAt S1 j with
      | none => rw [e0] at g; exact g.elim
      | some ds =>
        rw [e0] at g
        obtain ⟨a, xs, rfl, hj, ha, ra⟩ := rv.seq_ rel e0
        exact ⟨a, rfl, .inl ⟨⟨xs, ha⟩, g as1 H1 _ Ex.refl rel (itl_ok hj)⟩⟩⟩
/-! ranges -/
def itRng (lo : Int) (n : Nat) : MIt := ⟨n, fun i _ => if i < n then some (some (.int (lo + (i : Int)))) else some none⟩
theorem itr_ok {K : PySem.W.Frag} {as1 : List Addr} {H1 : Hp} {lo : Int} {n : Nat} : ItOk K as1 H1 (Itr lo n) (itRng lo n) where
  stop := fun as S H i x rel e => by
    have e' : (if i < n then some (some (D.int (lo + (i : Int)))) else some none) = some none := e
    split at e'
    · cases e'
    · show n ≤ i; omega
  go := fun as S H i d x rel e => by
    have e' : (if i < n then some (some (D.int (lo + (i : Int)))) else some none) = some (some d) := e
    split at e'
    · rename_i hlt
      cases e'
      exact ⟨hlt, fun y H' hy => by obtain ⟨rfl, rfl⟩ := hy; exact ⟨Ex.refl, rel, .int _⟩⟩
    · cases e'
def kRngI (ds : List D) (S : Sto) : R MIt := match ds with
  | [.int j] => if -(2 ^ 62) ≤ j ∧ j < 2 ^ 62 then .ok (itRng 0 j.toNat) S else .no
  | [.int i, .int j] => if -(2 ^ 62) ≤ i ∧ i < 2 ^ 62 ∧ -(2 ^ 62) ≤ j ∧ j < 2 ^ 62 then .ok (itRng i (j - i).toNat) S else .no
  | _ => .no
def iRng (a : MA) : MI := fun env S => (a env S).bind kRngI
theorem im_rng1 {tg a0 : Expr} {m : ME} {p pos' : Pos} (hm : X.mg "range" = none) (hi : EM X W a0 m) (hr : Gl X "range" := by rfl) (hs : starEach [a0] X.env = [(false, eval a0 X.env)] := by rfl) : IM X W tg (.Call (.Name "range" p) [a0] [] pos') (iRng (mCons m mNil)) :=
  ⟨pi_imp (pi_range1 hr hm (pa_cons hi.pe pa_nil hs) hs) fun σ H R q => by
    obtain ⟨as, env, S, re, rel, g1⟩ := q
    refine ⟨as, env, S, re, rel, ?_⟩
    unfold iRng mCons at g1
    cases e : m env S with
    | no => rw [e] at g1; exact g1.elim
    | ex x S' => rw [e] at g1; exact g1
    | ok d S1 =>
      rw [e] at g1
      intro as1 H1 v x r1 rv
      have g2 : Go X.K X.mg W (ItOk X.K) (kRngI [d] S1) as1 H1 σ R := Go.later x g1
      cases d <;> first | exact g2.elim | skip
      rename_i j
      unfold kRngI at g2
      dsimp only at g2
      by_cases hj : -(2 ^ 62) ≤ j ∧ j < 2 ^ 62
      · rw [if_pos hj] at g2
        refine ⟨j, by rw [rv.int_], hj.1, hj.2, g2 as1 H1 _ Ex.refl r1 ?_⟩
        exact itr_ok
      · rw [if_neg hj] at g2; exact g2.elim⟩
theorem im_rng2 {tg a0 a1 : Expr} {m m' : ME} {p pos' : Pos} (hm : X.mg "range" = none) (hi : EM X W a0 m) (hi' : EM X W a1 m') (hr : Gl X "range" := by rfl)
    (hs : starEach [a0, a1] X.env = [(false, eval a0 X.env), (false, eval a1 X.env)] := by rfl) (hs2 : starEach [a1] X.env = [(false, eval a1 X.env)] := by rfl) : IM X W tg (.Call (.Name "range" p) [a0, a1] [] pos') (iRng (mCons m (mCons m' mNil))) :=
  ⟨pi_imp (pi_range2 hr hm (pa_cons hi.pe (pa_cons hi'.pe pa_nil hs2) (by rw [hs, hs2])) hs hs2) fun σ H Qr q => by
    obtain ⟨as, env, S, re, rel, g1⟩ := q
    refine ⟨as, env, S, re, rel, ?_⟩
    unfold iRng mCons at g1
    cases e : m env S with
    | no => rw [e] at g1; exact g1.elim
    | ex x S' => rw [e] at g1; exact g1
    | ok d S1 =>
      rw [e] at g1
      intro as1 H1 v x r1 rv
      refine ⟨as1, env, S1, re.mono x, r1, ?_⟩
      have g3 : Go X.K X.mg W (ItOk X.K) (R.bind (R.bind (R.bind (m' env S1) fun x S1 => R.bind (mNil env S1) fun xs S2 => R.ok (x :: xs) S2) fun xs S2 => R.ok (d :: xs) S2) kRngI) as1 H1 σ Qr := Go.later x g1
      cases e2 : m' env S1 with
      | no => rw [e2] at g3; exact g3.elim
      | ex z S' => rw [e2] at g3; exact g3
      | ok d2 S2 =>
        rw [e2] at g3
        intro as2 H2 v2 x2 r2 rv2
        have g4 : Go X.K X.mg W (ItOk X.K) (kRngI [d, d2] S2) as2 H2 σ Qr := Go.later x2 g3
        cases d <;> cases d2 <;> first | exact g4.elim | skip
        rename_i i j
        unfold kRngI at g4
        dsimp only at g4
        by_cases hj : -(2 ^ 62) ≤ i ∧ i < 2 ^ 62 ∧ -(2 ^ 62) ≤ j ∧ j < 2 ^ 62
        · rw [if_pos hj] at g4
          refine ⟨i, j, by rw [rv.int_, rv2.int_], hj, g4 as2 H2 _ Ex.refl r2 ?_⟩
          exact itr_ok
        · rw [if_neg hj] at g4; exact g4.elim⟩
/-! enumerate over a list -/
def itEnumL (n j : Nat) : MIt := ⟨n, fun i S => (lstAt S j).map fun ds => ds[i]?.map fun d => .tup [.int (i : Int), d]⟩
def kEnumL (ds : List D) (S : Sto) : R MIt := match ds with
  | [.obj j] => (match lstAt S j with
    | some ds => .ok (itEnumL ds.length j) S
    | none => .no)
  | _ => .no
def iEnumL (a : MA) : MI := fun env S => (a env S).bind kEnumL
theorem ite_ok {K : PySem.W.Frag} {as1 : List Addr} {H1 : Hp} {a : Addr} {j n : Nat} (hj : as1[j]? = some a) : ItOk K as1 H1 (Ite K a) (itEnumL n j) where
  stop := fun as S H i x rel e => by
    have e' : (lstAt S j).map (fun ds => ds[i]?.map fun d => D.tup [.int (i : Int), d]) = some none := e
    cases e2 : lstAt S j with
    | none => rw [e2] at e'; cases e'
    | some ds =>
      rw [e2] at e'
      obtain ⟨a', ys, ea, _, hy, ry⟩ := (Rv.obj (K := K) (H := H) (x.pre _ _ hj)).seq_ rel e2
      cases ea
      have e3 : ds[i]?.map (fun d => D.tup [.int (i : Int), d]) = none := Option.some.inj e'
      exact ⟨ys, hy, by rw [ry.len]; exact List.getElem?_eq_none_iff.mp (Option.map_eq_none_iff.mp e3)⟩
  go := fun as S H i d x rel e => by
    have e' : (lstAt S j).map (fun ds => ds[i]?.map fun d => D.tup [.int (i : Int), d]) = some (some d) := e
    cases e2 : lstAt S j with
    | none => rw [e2] at e'; cases e'
    | some ds =>
      rw [e2] at e'
      obtain ⟨a', ys, ea, _, hy, ry⟩ := (Rv.obj (K := K) (H := H) (x.pre _ _ hj)).seq_ rel e2
      cases ea
      have e3 : ds[i]?.map (fun d => D.tup [.int (i : Int), d]) = some d := Option.some.inj e'
      obtain ⟨d0, e4, e5⟩ := Option.map_eq_some_iff.mp e3
      subst e5
      obtain ⟨v, hv, rv⟩ := ry.get e4
      refine ⟨⟨ys, v, hy, hv⟩, fun y H' hy' => ?_⟩
      obtain ⟨T, x', rfl, hT, rfl, hy'⟩ := hy'
      have e6 := hy' ys hy
      rw [hv] at e6
      cases e6
      exact ⟨Ex.fresh hT, rel.fresh hT, .tup (SqT.of upd_same) (.cons (.int _) (.cons (rv.mono (Ex.fresh hT)) .nil))⟩
theorem im_enumL {e : Expr} {m : ME} {elts : List Expr} {kk : Nat} {p pos tpos : Pos} (hm : X.mg "enumerate" = none) (h : EM X W e m) (hg : Gl X "enumerate" := by rfl) (hs : starEach [e] X.env = [(false, eval e X.env)] := by rfl) :
    IM X W (.Tuple elts kk tpos) (.Call (.Name "enumerate" p) [e] [] pos) (iEnumL (mCons m mNil)) :=
  ⟨pi_imp (pi_enum hg hm (am_cons h am_nil (by rw [hs]; rfl)).pa hs) fun σ H R q => tU_bind (f := fun _ => kEnumL) q fun as env ds S1 as1 H1 vs re rel rvs g => by
    unfold kEnumL at g
    split at g
    · rename_i j
      cases e0 : lstAt S1 j with
      | none => rw [e0] at g; exact g.elim
      | some es =>
        rw [e0] at g
        obtain ⟨v, rfl, r⟩ := rvs.sing
        obtain ⟨a, xs, rfl, hj, ha, ra⟩ := r.seq_ rel e0
        exact ⟨a, xs, rfl, ha, g as1 H1 _ Ex.refl rel (ite_ok hj)⟩
    · exact g.elim⟩
/-! ### for -/
def forI (it : MIt) (g : MG) (b : MS) : Nat → Nat → MS
  | 0, i => fun env S => match it.f i S with
    | some none => .nx env S
    | _ => .no
  | n + 1, i => fun env S => match it.f i S with
    | some none => .nx env S
    | some (some d) => (match g d env S with
      | some env1 => (match b env1 S with
        | .nx env2 S2 => forI it g b n (i + 1) env2 S2
        | .ct env2 S2 => forI it g b n (i + 1) env2 S2
        | .bk env2 S2 => .nx env2 S2
        | o => o)
      | none => .no)
    | none => .no
def sFor (a : MI) (g : MG) (b : MS) : MS := fun env S => RS.of (a env S) env fun it S1 => forI it g b it.n 0 env S1
theorem sm_for {tg it : Expr} {body : List Stmt} {a : MI} {g : MG} {b : MS} {pos : Pos} (hp : PassesOwn (model X.prog X.w) X.A X.env X.xe) (hc : X.calm = true) (hi : IM X W tg it a) (hg : GM X tg g) (hb : BM X W body b)
    (hs : ∀ x, foldedSetIterable it X.env x = pure x := by intro _; rfl) : SM X W (.For tg it body [] pos) (sFor a g b) :=
  ⟨ps_imp (ps_for hp hc hi.pi hg.pg hb.ps hs) fun Dn σ H q => tS_of (f := fun env it S1 => forI it g b it.n 0 env S1) q fun as env m S1 as1 H1 J re rel ok g1 => by
    refine ⟨fun i n σ H => ∃ as env S, Ex X.K as1 H1 as H ∧ Re X.K as H σ env ∧ Rel X.K as S H ∧ GoS X.K X.mg W (forI m g b n i env S) as H Dn, ⟨m.n, as1, env, S1, Ex.refl, re, rel, g1⟩, ?_⟩
    rintro i n σ H ⟨as, env, S, x, re, rel, gg⟩
    cases n with
    | zero =>
      unfold forI at gg
      split at gg
      · rename_i e1
        exact .inl ⟨ok.stop as S H i x rel e1, gg as H σ Ex.refl rel re⟩
      · exact gg.elim
    | succ n =>
      unfold forI at gg
      split at gg
      · rename_i e1
        exact .inl ⟨ok.stop as S H i x rel e1, gg as H σ Ex.refl rel re⟩
      · rename_i d e1
        obtain ⟨h1, h2⟩ := ok.go as S H i d x rel e1
        refine .inr ⟨h1, fun σ' H' => ∃ as env S, Ex X.K as1 H1 as H' ∧ Re X.K as H' σ' env ∧ Rel X.K as S H' ∧ GoS X.K X.mg W (forI m g b n (i + 1) env S) as H' Dn, fun σ' H' q => ⟨n, Nat.lt_succ_self n, q⟩, fun y H' hy => ?_⟩
        obtain ⟨x1, rel1, rv⟩ := h2 y H' hy
        cases e2 : g d env S with
        | none => rw [e2] at gg; exact gg.elim
        | some env1 =>
          rw [e2] at gg
          dsimp only at gg
          have gg' := GoS.later x1 gg
          refine ⟨as, env, S, d, env1, re.mono x1, rel1, rv, e2, fun σ' re' => ⟨as, env1, S, re', rel1, ?_⟩⟩
          cases e : b env1 S with
          | nx env2 S2 => rw [e] at gg'; exact fun as2 H2 σ2 y r q => ⟨as2, env2, S2, (x.trans x1).trans y, q, r, GoS.later y gg'⟩
          | ct env2 S2 => rw [e] at gg'; exact fun as2 H2 σ2 y r q => ⟨as2, env2, S2, (x.trans x1).trans y, q, r, GoS.later y gg'⟩
          | bk env2 S2 => rw [e] at gg'; exact gg'
          | rt d S2 => rw [e] at gg'; exact gg'
          | ex x env2 S2 => rw [e] at gg'; exact gg'
          | no => rw [e] at gg'; exact gg'.elim
      · exact gg.elim⟩
end
end Mi

namespace Mi
open PySem PySem.Spec PyProof.Rows L2

/-! ### comprehensions -/
def noEx {α : Type} : R α → R α
  | .ex _ _ => .no
  | x => x
def wipeE (env : Env) : List Nat → Env
  | [] => env
  | v :: vs => (wipeE env vs).set v none
theorem wipe_get {σ : L2.St} {i : Nat} : ∀ {vs : List Nat}, (wipe σ vs)[i]? = if i ∈ vs ∧ i < σ.length then some none else σ[i]?
  | [] => by simp [wipe]
  | v :: vs => by
    unfold wipe
    by_cases h : v = i
    · subst h
      by_cases hl : v < σ.length
      · rw [List.getElem?_set_self (by rw [wipe_length]; exact hl), if_pos ⟨List.mem_cons_self .., hl⟩]
      · rw [List.getElem?_eq_none (by rw [List.length_set, wipe_length]; omega), if_neg (fun h => hl h.2), List.getElem?_eq_none (by omega)]
    · rw [List.getElem?_set_ne h, wipe_get]
      have : (i ∈ v :: vs) ↔ i ∈ vs := by simp only [List.mem_cons]; exact ⟨fun q => q.elim (fun z => absurd z.symm h) id, .inr⟩
      simp only [this]
theorem wipe_set {σ : L2.St} {i : Nat} {x : Option V} {vs : List Nat} (h : i ∈ vs) : wipe (σ.set i x) vs = wipe σ vs := by
  refine List.ext_getElem? fun j => ?_
  rw [wipe_get, wipe_get, List.length_set]
  by_cases hj : j ∈ vs ∧ j < σ.length
  · rw [if_pos hj, if_pos hj]
  · rw [if_neg hj, if_neg hj]
    by_cases hij : i = j
    · subst hij
      have : ¬ i < σ.length := fun z => hj ⟨h, z⟩
      rw [List.getElem?_eq_none (by rw [List.length_set]; omega), List.getElem?_eq_none (by omega)]
    · rw [List.getElem?_set_ne hij]
theorem wipe_wipe {σ : L2.St} {vs : List Nat} : wipe (wipe σ vs) vs = wipe σ vs := by
  refine List.ext_getElem? fun j => ?_
  rw [wipe_get, wipe_get, wipe_length]
  by_cases hj : j ∈ vs ∧ j < σ.length
  · rw [if_pos hj, if_pos hj]
  · rw [if_neg hj]
theorem Re.wipe {K : PySem.W.Frag} {as : List Addr} {H : Hp} {σ : L2.St} {env : Env} (r : Re K as H σ env) : ∀ vs : List Nat, Re K as H (L2.wipe σ vs) (wipeE env vs)
  | [] => r
  | v :: vs => by unfold L2.wipe wipeE; exact (Re.wipe r vs).unset
section
variable {K : PySem.W.Frag} {mg : Str → Option Value} {W : WX} {as as1 : List Addr} {H H1 : Hp} {S : Sto} {σ σ2 : L2.St}
theorem Go.bind0 {α β γ δ : Type} {Ra : List Addr → Hp → β → α → Prop} {Rc : List Addr → Hp → δ → γ → Prop} {x : R α} {f : α → Sto → R γ} {Q : δ → Hp → Prop} {Q1 : β → Hp → Prop} (h : Go K mg W Rc ((noEx x).bind f) as H σ Q)
    (k : ∀ d S1 as1 H1 v, Ex K as H as1 H1 → Rel K as1 S1 H1 → Ra as1 H1 v d → Go K mg W Rc (f d S1) as1 H1 σ Q → Q1 v H1) : Go K mg W0 Ra x as H σ2 Q1 := by
  cases x with
  | ok d S' => exact fun as' H' v y r q => k d S' as' H' v y r q (Go.later y h)
  | ex e S' => exact h.elim
  | no => exact h
end
/-- a comprehension's target: it sets the slots vs alone -/
def gUc (K : PySem.W.Frag) (g : MG) (vs : List Nat) : TG := fun v σ H Q => ∃ as env S d env', Re K as H σ env ∧ Rel K as S H ∧ Rv K as H v d ∧ g d env S = some env' ∧ ∀ σ', Re K as H σ' env' → L2.wipe σ' vs = L2.wipe σ vs → Q σ' H
def gUcs (K : PySem.W.Frag) (g : MGs) (vs : List Nat) : TGs := fun v σ H Q => ∃ as env S d env', Re K as H σ env ∧ Rel K as S H ∧ Rvs K as H v d ∧ g d env S = some env' ∧ ∀ σ', Re K as H σ' env' → L2.wipe σ' vs = L2.wipe σ vs → Q σ' H
structure GC (X : Cx) (tg : Expr) (g : MG) (vs : List Nat) : Prop where
  pg : PG X tg (gUc X.K g vs)
structure GCs (X : Cx) (tg : List Expr) (g : MGs) (vs : List Nat) : Prop where
  pg : PGs X tg (gUcs X.K g vs)
structure TMs (X : Cx) (W : WX) (ifs : List Expr) (m : MT) : Prop where
  pt : PTs X ifs (tU X.K X.mg W Rb m)
section
variable {X : Cx} {W : WX}
theorem gc_n (i : Nat) {x : Str} {pos : Pos} {vs : List Nat} (hN : X.N.Nodup) (hm : i ∈ vs := by decide) (hi : X.N[i]? = some x := by rfl) (hx : Loc X.env.scope x := by first | exact Or.inl rfl | exact Or.inr rfl) (hf : X.fn x = true ∨ X.env.scope.names.lookup x = some .local := by first | exact .inl rfl | exact .inr rfl | assumption) :
    GC X (.Name x pos) (gN i) vs := ⟨pg_imp (pg_name hN hi hx hf) fun v σ H Q ⟨as, env, S, d, env', re, rel, rv, e, q⟩ => by cases e; exact q _ (re.set rv) (wipe_set hm)⟩
theorem gcs_nil {vs : List Nat} : GCs X [] gsNil vs := ⟨pgs_imp pgs_nil fun _ σ H Q ⟨as, env, S, ds, env', re, rel, rv, e, q⟩ => by
  cases ds with
  | nil => cases rv; cases e; exact ⟨rfl, q _ re rfl⟩
  | cons _ _ => cases e⟩
theorem gcs_cons {e : Expr} {es : List Expr} {g : MG} {r : MGs} {vs : List Nat} (h1 : GC X e g vs) (h2 : GCs X es r vs) (hs : (assignEach (e :: es) X.env).map (·.2) = assign e X.env :: (assignEach es X.env).map (·.2) := by rfl) : GCs X (e :: es) (gsCons g r) vs :=
  ⟨pgs_imp (pgs_cons h1.pg h2.pg hs) fun _ σ H Q ⟨as, env, S, ds, env', re, rel, rv, e0, q⟩ => by
    cases ds with
    | nil => cases e0
    | cons d ds =>
      cases rv with
      | cons r1 r2 =>
        unfold gsCons at e0
        dsimp only at e0
        cases e1 : g d env S with
        | none => rw [e1] at e0; cases e0
        | some env1 =>
          rw [e1] at e0
          exact ⟨_, _, rfl, as, env, S, d, env1, re, rel, r1, e1, fun σ1 re1 w1 => ⟨as, env1, S, ds, env', re1, rel, r2, e0, fun σ' re' w' => q σ' re' (w'.trans w1)⟩⟩⟩
theorem gc_tup {es : List Expr} {k : Nat} {r : MGs} {n : Nat} {pos : Pos} {vs : List Nat} (hc : X.calm = true) (h : GCs X es r vs)
    (hn : (assignEach es X.env).length = n := by rfl) (hst : (assignEach es X.env).findIdx? (·.1) = none := by rfl) : GC X (.Tuple es k pos) (gT n r) vs :=
  ⟨pg_imp (pg_tup hc h.pg hn hst) fun v σ H Q ⟨as, env, S, d, env', re, rel, rv, e, q⟩ => by
    cases d <;> first | (cases e; done) | skip
    rename_i ds
    unfold gT at e
    dsimp only at e
    by_cases hl : ds.length = n
    · rw [if_pos hl] at e
      obtain ⟨a, xs, rfl, ha, ra⟩ := rv.tup_
      exact ⟨a, xs, rfl, ha, by rw [ra.len]; exact hl, as, env, S, ds, env', re, rel, ra, e, q⟩
    · rw [if_neg hl] at e; cases e⟩
def tAll : MT := fun _ S => .ok true S
theorem pts_imp {es : List Expr} {t t' : TT} (h : PTs X es t) (i : ∀ σ H Q, t' σ H Q → t σ H Q) : PTs X es t' := ⟨fun pins s σ H Q I q => h.run pins s σ H Q I (i σ H Q q)⟩
theorem tms_nil : TMs X W [] tAll := ⟨pts_imp pts_nil fun σ H Q ⟨as, env, S, re, rel, g⟩ => g as H true Ex.refl rel rfl⟩
theorem tms_one {c : Expr} {m : MT} (h : TM X W c m) : TMs X W [c] m := ⟨pts_one h.pt⟩
end
/-- the block's turns: j the new list -/
def lcI (it : MIt) (g : MG) (t : MT) (e : ME) (j : Nat) : Nat → Nat → Env → Sto → R D
  | 0, i, _, S => (match it.f i S with
    | some none => .ok (.obj j) S
    | _ => .no)
  | n + 1, i, env, S => (match it.f i S with
    | some none => .ok (.obj j) S
    | some (some d) => (match g d env S with
      | some env1 => (noEx (t env1 S)).bind fun c S2 => if c = true then (noEx (e env1 S2)).bind fun y S3 => (match S3[j]? with
          | some (.lst acc) => if acc.length < sizeLine then lcI it g t e j n (i + 1) env (S3.set j (.lst (acc ++ [y]))) else .no
          | _ => .no) else lcI it g t e j n (i + 1) env S2
      | none => .no)
    | none => .no)
def kLc (g : MG) (t : MT) (e : ME) (vs : List Nat) (env : Env) (it : MIt) (S1 : Sto) : R D := lcI it g t e S1.length it.n 0 (wipeE env vs) (S1 ++ [.lst []])
def mLc (a : MI) (g : MG) (t : MT) (e : ME) (vs : List Nat) : ME := fun env S => (a env S).bind (kLc g t e vs env)
section
variable {X : Cx} {W : WX}
/-- what the rule of a comprehension asks -/
theorem lc_reads {wi : TI} {mi : MI} {g : MG} {t : MT} {e : ME} {vs : List Nat} {σ : L2.St} {H : Hp} {Q : VK} (hw : wi = tU X.K X.mg W (ItOk X.K) mi)
    (q : tU X.K X.mg W (Rv X.K) (mLc mi g t e vs) σ H Q) : tLc wi (gUc X.K g vs) (tU X.K X.mg W0 Rb t) (tU X.K X.mg W0 (Rv X.K) e) vs σ H Q := by
  subst hw
  refine tU_bind (f := kLc g t e vs) q fun as env it S1 as1 H1 J re rel ok gg => ?_
  intro p hp
  obtain ⟨rel0, x0, hj0⟩ := new_lst (vs := []) (ds := []) rel hp .nil
  generalize hj : S1.length = j at *
  unfold kLc at gg
  rw [hj] at gg
  refine ⟨fun i n H => ∃ as S, Ex X.K (as1 ++ [p]) (upd H1 p (.lst [])) as H ∧ Rel X.K as S H ∧ Go X.K X.mg W (Rv X.K) (lcI it g t e j n i (wipeE env vs) S) as H σ Q, ⟨it.n, as1 ++ [p], _, Ex.refl, rel0, Go.later x0 gg⟩, ?_⟩
  rintro i n H ⟨as, S, x, rel, gg⟩
  have xx := x0.trans x
  cases n with
  | zero =>
    unfold lcI at gg
    split at gg
    · rename_i e1
      exact .inl ⟨ok.stop as S H i xx rel e1, gg as H _ Ex.refl rel (.obj (x.pre _ _ hj0))⟩
    · exact gg.elim
  | succ n =>
    unfold lcI at gg
    split at gg
    · rename_i e1
      exact .inl ⟨ok.stop as S H i xx rel e1, gg as H _ Ex.refl rel (.obj (x.pre _ _ hj0))⟩
    · rename_i d e1
      obtain ⟨h1, h2⟩ := ok.go as S H i d xx rel e1
      refine .inr ⟨h1, fun H' => ∃ as S, Ex X.K (as1 ++ [p]) (upd H1 p (.lst [])) as H' ∧ Rel X.K as S H' ∧ Go X.K X.mg W (Rv X.K) (lcI it g t e j n (i + 1) (wipeE env vs) S) as H' σ Q, fun H' q => ⟨n, Nat.lt_succ_self n, q⟩, fun y H' hy => ?_⟩
      obtain ⟨x1, rel1, rv⟩ := h2 y H' hy
      cases e2 : g d (wipeE env vs) S with
      | none => rw [e2] at gg; exact gg.elim
      | some env1 =>
        rw [e2] at gg
        dsimp only at gg
        have reW : Re X.K as H' (L2.wipe σ vs) (wipeE env vs) := (re.mono (xx.trans x1)).wipe vs
        refine ⟨as, _, S, d, env1, reW, rel1, rv, e2, fun σ2 re2 w2 => ⟨w2.trans wipe_wipe, as, env1, S, re2, rel1, ?_⟩⟩
        refine Go.bind0 (Go.later x1 gg) fun c S2 as2 H2 b x2 r2 rb g2 => ?_
        cases rb
        cases c with
        | false =>
          rw [if_neg Bool.false_ne_true] at g2 ⊢
          exact ⟨as2, S2, (x.trans x1).trans x2, r2, g2⟩
        | true =>
          rw [if_pos rfl] at g2 ⊢
          refine ⟨as2, env1, S2, re2.mono x2, r2, ?_⟩
          refine Go.bind0 g2 fun yd S3 as3 H3 yv x3 r3 ry g3 => ?_
          split at g3
          · rename_i acc e4
            have hj3 : as3[j]? = some p := x3.pre _ _ (x2.pre _ _ (x1.pre _ _ (x.pre _ _ hj0)))
            obtain ⟨vacc, hv, ra⟩ := r3.ob j p _ hj3 e4
            refine ⟨vacc, hv, ?_⟩
            by_cases hl : acc.length < sizeLine
            · rw [if_pos hl] at g3
              refine ⟨by rw [ra.len]; exact hl, ?_⟩
              have hmut : L2.Mut (H3 p) := by rw [hv]; exact True.intro
              obtain ⟨r4, x4⟩ := r3.put (u := .lst (acc ++ [yd])) (o := .lst (vacc ++ [yv])) hj3 e4 rfl rfl ⟨_, upd_same, (ra.append (.cons ry .nil)).mono (Ex.mut hmut)⟩
              exact ⟨as3, _, (((x.trans x1).trans x2).trans x3).trans x4, r4, Go.later x4 g3⟩
            · rw [if_neg hl] at g3; exact g3.elim
          · exact g3.elim
    · exact gg.elim
theorem em_lc {elt tg iter : Expr} {ifs : List Expr} {scope : Scope} {own : List (Str × Nat)} {pos : Pos} {mi : MI} {g : MG} {t : MT} {e : ME} (vs : List Nat) (hc : X.calm = true) (hN : X.N.Nodup) (hi : IM X W tg iter mi) (ok : BlkOk X.N X.env.scope scope own)
    (hg : ∀ (s : Shared) (H : Hp) (C : Addr) (cl : List (Str × Addr)) (fp : List Addr), GC (X.blk s H scope (compEnvC scope cl C X.env) fp) tg g vs) (ht : ∀ (s : Shared) (H : Hp) (C : Addr) (cl : List (Str × Addr)) (fp : List Addr), TMs (X.blk s H scope (compEnvC scope cl C X.env) fp) W0 ifs t)
    (he : ∀ (s : Shared) (H : Hp) (C : Addr) (cl : List (Str × Addr)) (fp : List Addr), EM (X.blk s H scope (compEnvC scope cl C X.env) fp) W0 elt e) (hv : own.map (·.2) = vs := by rfl) (hs : ∀ x, foldedSetIterable iter X.env x = pure x := by intro _; rfl) :
    EM X W (.ListComp elt [⟨tg, iter, ifs, 0⟩] scope pos) (mLc mi g t e vs) := by
  subst hv
  exact ⟨pe_imp (pe_lc (g := gUc X.K g (own.map (·.2))) (tt := tU X.K X.mg W0 Rb t) (te := tU X.K X.mg W0 (Rv X.K) e) hc hN hi.pi ok (fun s H C cl fp => (hg s H C cl fp).pg) (fun s H C cl fp => (ht s H C cl fp).pt) (fun s H C cl fp => (he s H C cl fp).pe) hs) fun σ H Q q => lc_reads rfl q⟩
theorem sm_setLc (i : Nat) {y : Str} {py : Pos} {elt tg iter : Expr} {ifs : List Expr} {scope : Scope} {own : List (Str × Nat)} {pos spos : Pos} {mi : MI} {g : MG} {t : MT} {e : ME} (vs : List Nat) (hc : X.calm = true) (hN : X.N.Nodup) (hi : IM X W tg iter mi) (ok : BlkOk X.N X.env.scope scope own)
    (hg : ∀ (s : Shared) (H : Hp) (C : Addr) (cl : List (Str × Addr)) (fp : List Addr), GC (X.blk s H scope (compEnvC scope cl C X.env) fp) tg g vs) (ht : ∀ (s : Shared) (H : Hp) (C : Addr) (cl : List (Str × Addr)) (fp : List Addr), TMs (X.blk s H scope (compEnvC scope cl C X.env) fp) W0 ifs t)
    (he : ∀ (s : Shared) (H : Hp) (C : Addr) (cl : List (Str × Addr)) (fp : List Addr), EM (X.blk s H scope (compEnvC scope cl C X.env) fp) W0 elt e) (hv : own.map (·.2) = vs := by rfl)
    (hy : X.N[i]? = some y := by rfl) (hyl : X.env.scope.names.lookup y = some .local := by rfl) (hk : X.env.scope.kind = .function := by rfl) (hl : (py.line == pos.line) = true := by rfl) (ha : (scope.names.any fun (n, k) => n == y && (k == .local || k == .cell)) = false := by rfl)
    (hs : ∀ x, foldedSetIterable iter X.env x = pure x := by intro _; rfl) :
    SM X W (.Assign [.Name y py] (.ListComp elt [⟨tg, iter, ifs, 0⟩] scope pos) spos) (sSet i (mLc mi g t e vs)) := by
  subst hv
  refine ⟨ps_imp (ps_setLc (g := gUc X.K g (own.map (·.2))) (tt := tU X.K X.mg W0 Rb t) (te := tU X.K X.mg W0 (Rv X.K) e) hc hN hy hyl (sw_true hk hyl hl ha) hi.pi ok (fun s H C cl fp => (hg s H C cl fp).pg) (fun s H C cl fp => (ht s H C cl fp).pt) (fun s H C cl fp => (he s H C cl fp).pe) hs) fun Dn σ H q => ?_⟩
  have q2 : tU X.K X.mg W (Rv X.K) (mLc mi g t e (own.map (·.2))) σ H fun x H1 => gName i x σ H1 Dn.nx := tS_of (f := fun env d S1 => .nx (env.set i (some d)) S1) q fun as env d S1 as1 H1 v re rel rv g => g as1 H1 _ Ex.refl rel (re.set rv)
  exact lc_reads rfl q2
end
end Mi

namespace Mi
open PySem PySem.Spec PyProof.Rows L2
/-! ### a call without arguments -/
section
variable {X : Cx} {W : WX}
def mCall0 (m : MFn) : ME := fun _ S => noEx (m [] S)
theorem em_call0 {k j : Nat} {x : Str} {m : MFn} {p pos : Pos} (c : Cal X.prog X.w X.K X.mg X.base k x m) (hr : Room j X.A) (hk : k ≤ j := by decide) (hg : Gl X x := by rfl)
    (hdb : (x == ("__debug__" : Str)) = false := by decide) : EM X W (.Call (.Name x p) [] [] pos) (mCall0 m) := by
  obtain ⟨f, fd, ps, F, hm, hkp, hb⟩ := c.ex
  refine ⟨pe_imp (pe_call0 (E := fun _ _ _ => False) F (hr.mono hk) hg hm hkp hb .nil (fun _ _ _ _ _ _ _ h => by obtain ⟨_, _, _, _, _, _, _, _, _, _, _, _, z⟩ := h; exact z.elim) hdb) fun σ H Q ⟨as, env, S, re, rel, g⟩ => ?_⟩
  refine ⟨as, [], S, .nil, rel, ?_⟩
  unfold mCall0 at g
  cases e : m [] S with
  | ok d S' => rw [e] at g; exact g
  | ex _ _ => rw [e] at g; exact g.elim
  | no => rw [e] at g; exact g.elim
/-! ### str * int -/
def strMul (x : Str) (n : Nat) : Str := ⟨(List.replicate n x.cps).foldl (· ++ ·) #[]⟩
theorem foldl_size {α : Type} (c : Array α) : ∀ (n : Nat) (a : Array α), ((List.replicate n c).foldl (· ++ ·) a).size = a.size + c.size * n
  | 0, a => by simp
  | n + 1, a => by rw [List.replicate_succ, List.foldl_cons, foldl_size c n, Array.size_append, Nat.mul_succ]; omega
theorem foldl_nil {α : Type} : ∀ (n : Nat) (a : Array α), (List.replicate n (#[] : Array α)).foldl (· ++ ·) a = a
  | 0, a => rfl
  | n + 1, a => by rw [List.replicate_succ, List.foldl_cons, foldl_nil n, Array.append_empty]
theorem strMul_len (x : Str) (n : Nat) : (strMul x n).length = x.length * n := by
  have h := foldl_size x.cps n #[]
  rw [show (#[] : Array Nat).size = 0 from rfl, Nat.zero_add] at h
  exact h
def fMulS : F2 := fun d e S => match d, e with
  | .str x, .int n => if -(2 ^ 63) ≤ n ∧ n < 2 ^ 63 ∧ x.length * n.toNat ≤ sizeLine then some (.str (strMul x n.toNat), S) else none
  | _, _ => none
theorem op_fMulS : OpR X (binaryOp .Mult) (rF X.K fMulS) := by
  intro pins s σ H x y v u Q I r r' ⟨as, S, d, e, z, S', rel, rx, ry, hf, q⟩
  cases d <;> cases e <;> try (cases hf; done)
  case str.int x n =>
    unfold fMulS at hf
    dsimp only at hf
    by_cases hl : -(2 ^ 63) ≤ n ∧ n < 2 ^ 63 ∧ x.length * n.toNat ≤ sizeLine
    · rw [if_pos hl] at hf
      cases hf
      obtain ⟨h1, h2, h3⟩ := hl
      cases rx.str_
      cases ry.int_
      obtain ⟨t, rfl⟩ := r
      obtain ⟨t', rfl⟩ := r'
      have hz : PySem.Builtin.Str.tooLong (x.length * n.toNat) = false := decide_eq_false (Nat.not_lt.mpr h3)
      refine PySem.P.mul_str ?_ (fun hn hx => ?_) (fun _ _ => hz) ?_
      · rw [decide_eq_false (Int.not_lt.mpr h1), decide_eq_false (by omega : ¬ n ≥ 2 ^ 63)] <;> rfl
      · have h5 : (x.length : Int) * n ≤ (sizeLine : Int) := by
          have : n = (n.toNat : Int) := by omega
          rw [this, ← Int.natCast_mul]
          exact Int.ofNat_le.mpr h3
        have h6 : (sizeLine : Int) ≤ 2 ^ 63 - 1 := by rw [sizeLine_eq]; decide
        have h7 : (x.length : Int) ≤ (2 ^ 63 - 1) / n := (Int.le_ediv_iff_mul_le (by omega)).mpr (Int.le_trans h5 h6)
        omega
      · by_cases hn : n < 1
        · rw [if_pos hn]
          have e0 : n.toNat = 0 := by omega
          refine ⟨by decide, .str Str.empty, H, I.tok _, ⟨_, rfl⟩, ?_⟩
          have q0 := q as H (.str (strMul x n.toNat)) Ex.refl rel (.str _)
          rw [e0] at q0
          exact q0
        · rw [if_neg hn]
          by_cases hx : (n == 1 || x.length == 0) = true
          · rw [if_pos hx]
            refine ⟨.str x, H, I, ⟨_, rfl⟩, ?_⟩
            have q0 := q as H (.str (strMul x n.toNat)) Ex.refl rel (.str _)
            have ex : strMul x n.toNat = x := by
              rw [Bool.or_eq_true] at hx
              rcases hx with hx | hx
              · have : n = 1 := by simpa using hx
                subst this
                show (⟨#[] ++ x.cps⟩ : Str) = x
                rw [Array.empty_append]
              · have h0 : x.cps = #[] := Array.eq_empty_of_size_eq_zero (show x.length = 0 by simpa using hx)
                unfold strMul
                obtain ⟨c⟩ := x
                simp only at h0
                subst h0
                rw [foldl_nil]
            rw [ex] at q0
            exact q0
          · rw [if_neg hx]
            exact ⟨by rw [show (Str.length ⟨_⟩ : Nat) = (strMul x n.toNat).length from rfl, strMul_len]; exact h3, .str (strMul x n.toNat), H, I.tok _, ⟨_, rfl⟩, q as H _ Ex.refl rel (.str _)⟩
    · rw [if_neg hl] at hf; cases hf
end
/-! ### list(str) -/
def signsD (z : Str) : List D := z.cps.toList.map fun c => .str ⟨#[c]⟩
def fList2 : F1 := fun d S => match d with
  | .str z => if z.length ≤ sizeLine then some (.obj S.length, S ++ [.lst (signsD z)]) else none
  | d => fList d S
section
variable {X : Cx} {W : WX}
theorem vals_sgn : ∀ (cs : List Nat) (its : List Value), its.length = cs.length → (∀ (j : Nat) (v : Value), its[j]? = some v → ∃ (c : Nat) (u : Tok), cs[j]? = some c ∧ v = Value.str ⟨#[c]⟩ u) → Vals (cs.map fun c => V.str ⟨#[c]⟩) its
  | [], [], _, _ => .nil
  | [], _ :: _, h, _ => by simp at h
  | _ :: _, [], h, _ => by simp at h
  | c :: cs, v :: its, h, hi => by
    obtain ⟨c', u, h1, h2⟩ := hi 0 v rfl
    have h1' : some c = some c' := h1
    cases h1'
    subst h2
    exact .cons ⟨u, rfl⟩ (vals_sgn cs its (by simpa using h) fun j w hj => hi (j + 1) w hj)
theorem call_list_sgn (hc : X.calm = true) : CallR X (.type "list") (fun xs H Q => ∃ z : Str, xs = [.str z] ∧ z.length ≤ sizeLine ∧ ∀ l, H l = none → Q (.ref l) (upd H l (.lst (z.cps.toList.map fun c => .str ⟨#[c]⟩)))) := by
  intro pins s σ H xs us Q I r h
  obtain ⟨z, rfl, hz, q⟩ := h
  obtain ⟨u, rfl, t, rfl⟩ := vals1 r
  refine PySem.call_list_str (I.ok.hd hc) z t (fun h' tk acc' c' k e hi => ?_) hz
  have hn : H s.heap.objs.size = none := I.hok.fresh (Nat.le_refl _)
  have hv : Vals (z.cps.toList.map fun c => V.str ⟨#[c]⟩) acc'.toList := by
    refine vals_sgn _ _ (by rw [Array.length_toList, Array.length_toList]; exact hi.1) fun j v hj => ?_
    obtain ⟨c, u, h1, h2⟩ := hi.2 j v (by rw [← Array.getElem?_toList]; exact hj)
    exact ⟨c, u, by rw [Array.getElem?_toList]; exact h1, h2⟩
  have new : ObjOk X.prog X.w (upd H s.heap.objs.size (.lst (z.cps.toList.map fun c => V.str ⟨#[c]⟩))) h' s.heap.objs.size (.lst (z.cps.toList.map fun c => V.str ⟨#[c]⟩)) :=
    ⟨by rw [List.length_map, Array.length_toList]; exact hz, acc'.toList, c', hv, by simpa using e⟩
  exact ⟨.ref s.heap.objs.size, _, I.laid (t' := tk) k (Nat.le_refl _) new, rfl, q _ hn⟩
theorem call_fList2 (hc : X.calm = true) : CallR X (.type "list") (rFL X.K (f1L fList2)) := by
  refine call_imp (call_or (call_list_sgn hc) (call_fList (X := X))) fun xs H Q ⟨as, S, ds, z, S', rel, rs, hf, q⟩ => ?_
  obtain ⟨x, d, ex, rx, hf'⟩ := f1L_inv rs hf
  cases d with
  | str z0 =>
    unfold fList2 at hf'
    dsimp only at hf'
    by_cases hl : z0.length ≤ sizeLine
    · rw [if_pos hl] at hf'
      cases hf'
      subst ex
      refine .inl ⟨z0, by rw [rx.str_], hl, fun p hp => ?_⟩
      have rv : Rvs X.K as H (z0.cps.toList.map fun c => V.str ⟨#[c]⟩) (signsD z0) := Rvs.map (fun c => .str _) _
      obtain ⟨r1, x1, e1⟩ := new_lst rel hp rv
      exact q _ _ _ x1 r1 (.obj e1)
    · rw [if_neg hl] at hf'; cases hf'
  | _ => subst ex; exact .inr ⟨as, S, [_], z, S', rel, .cons rx .nil, hf', q⟩
end
/-! ### a class's constant, its static method -/
section
variable {X : Cx} {W : WX}
open ClX
/-- C.f is v, wherever it is read -/
theorem em_cval {x f : Str} {C : Addr} {mc : Value} {v : V} {u : Value} {d : D} {p pos : Pos} (r : CRead X.K C mc) (k : CVal X.K C mc f v u) (hm : X.mg x = some (.ref C)) (rd : ∀ as H, Rv X.K as H v d) (hg : Gl X x := by rfl) (hd : (x == ("__debug__" : Str)) = false := by decide)
    (hb : attributeBase (.Name x p) f X.env (eval (.Name x p) X.env) = eval (.Name x p) X.env := by rfl) : EM X W (.Attribute (.Name x p) f pos) (mC d) :=
  ⟨pe_imp (pe_cval (pe_glob (v := .ref C) hg hm rfl hd) hb) fun σ H Q ⟨as, env, S, re, rel, g⟩ => ⟨C, mc, v, u, rfl, r, k, g as H v Ex.refl rel (rd as H)⟩⟩
/-- a static method m of the class x -/
structure Sta (P : Program) (w : World) (K : PySem.W.Frag) (mg : Str → Option Value) (base : Heap) (k : Nat) (x m : Str) (f : MFn) : Prop where
  ex : ∃ (C p g : Addr) (mc : Value) (fd : FuncData) (ps : List Str), CRead K C mc ∧ PySem.W.findCls K (.ref C) mc m = some (.get (.builtin "staticmethod.__get__") (.ref p) .none (.ref C)) ∧ (∃ rest, PySem.W.recIn K p "staticmethod" = some (.ref g :: rest)) ∧
    FnOk P w K mg base (L2.CX P w) k g fd ps (spM K mg f) ∧ mg x = some (.ref C) ∧ PySem.W.keepIn K (.ref g) = true ∧ Binds K fd ps []
theorem em_sta {k j : Nat} {x m : Str} {f : MFn} {e : Expr} {es : List Expr} {a : MA} {p apos pos : Pos} {pl : Sem Bool} (c : Sta X.prog X.w X.K X.mg X.base k x m f) (hr : Room j X.A) (tk : Takes X W) (ha : AM X W (e :: es) a) (hk : k ≤ j := by decide) (hg : Gl X x := by rfl)
    (hdb : (x == ("__debug__" : Str)) = false := by decide) (hst : starEach (e :: es) X.env = (false, eval e X.env) :: starEach es X.env := by rfl) (hpl : (backTo pos (starEach es X.env)).any (·.1) = false := by rfl)
    (ht : eval (.Call (.Attribute (.Name x p) m apos) (e :: es) [] pos) X.env = (do
      let ov ← eval (.Name x p) X.env
      standAt apos.atName
      let (f, first) ← holding [ov] (getMethod ov m pl)
      callWith pos f first (backTo pos (starEach (e :: es) X.env)) (backToKw pos (keywordEach [] X.env))) := by rfl) :
    EM X W (.Call (.Attribute (.Name x p) m apos) (e :: es) [] pos) (mCall f a) := by
  obtain ⟨C, q, g, mc, fd, ps, r, hf, ⟨rest, hrc⟩, F, hm, hkp, hb⟩ := c.ex
  refine ⟨⟨fun pins s σ H Q I h => ?_⟩⟩
  refine PySem.W.methodCall_KW (pl := pl) (ld_glob I hg hm ?_ hdb) ht
  refine PySem.W.method_cls I.kIn r.ga (PySem.W.cls_bind I.kIn r.rd hf ?_)
  refine wpAny_call (PySem.W.sm_get (s := { s with toks := s.toks + 1 }) I.kIn hrc (PySem.W.handed_on rfl ?_))
  have I1 := I.tok (s.toks + 1)
  have hq : tU X.K X.mg W (Rvs X.K) a σ H (fun vs H1 => spM X.K X.mg f vs H1 Q (WE W σ)) := tU_bind (f := fun _ => f) h fun as env ds S1 as1 H1 vs re rel rv gg => ⟨as1, ds, S1, rv, rel, gg.wish fun _ _ _ z => z⟩
  refine PySem.W.callWith_K (h₀ := X.base) I.ok.mod.kin hkp (thn (ha.pa.run pos pins _ σ H _ I1 hq) fun us s1 ⟨vs, H1, I2, rv, q2⟩ => ⟨I2.kIn, ?_⟩) hst hpl
  exact run_fnS F (hr.mono hk) hb (passAt tk σ) I2 rv q2
end
end Mi

namespace Mi
open PySem PySem.Spec PyProof.Rows L2

/-! ### the head's facts, read off a part of the heap -/
abbrev ga := He.ga
abbrev FnV : Type := Option (Str × Str × Arguments × FuncBody × Scope × Addr × Addr × List Str)
/-- the function object at a, without its cells -/
def fnV (K : PySem.W.Frag) (a : Addr) : FnV := match K.lookup a with
  | some ⟨_, _, .func fd, _⟩ => some (fd.name, fd.qualname, fd.params, fd.body, fd.scope, fd.globals, fd.builtins, fd.closure.map (·.1))
  | _ => none
/-- one def: where it stands, what the text says of it -/
structure FnM where
  adr : PySem.W.Frag → Addr
  name : Str
  qual : Str
  params : Arguments
  body : List Stmt
  scope : Scope
  clo : List Str := []
def FnM.val (d : FnM) : FnV := some (d.name, d.qual, d.params, .stmts d.body, d.scope, mainGlobals, builtinsNs, d.clo)
def noneB : Value → Bool
  | .none => true
  | _ => false
theorem noneB_ok {v : Value} (h : noneB v = true) : v = .none := by
  cases v <;> first | rfl | cases h
def FnM.ok (K : PySem.W.Frag) (d : FnM) : Bool := match K.lookup (d.adr K) with
  | some ⟨_, _, .func fd, _⟩ => PySem.W.codeIn K fd.code d.qual && noneB fd.defaults
  | _ => false
theorem ba {a b : Bool} (h : (a && b) = true) : a = true ∧ b = true := Bool.and_eq_true_iff.mp h
theorem FnM.at_ {K : PySem.W.Frag} {d : FnM} (e : fnV K (d.adr K) = d.val) (c : d.ok K = true) : ∃ (oc : Value) (od : Option Addr) (cl : List (Str × Addr)) (kV doc pm : Value) (an : Option Addr) (cdv ct : Value) (osl : Array (Option Value)),
    cl.map (·.1) = d.clo ∧ K.lookup (d.adr K) = some ⟨oc, od, .func (PySem.W.fnX d.name d.qual d.params d.body d.scope cl .none kV doc pm an cdv ct), osl⟩ ∧ PySem.W.codeIn K cdv d.qual = true := by
  unfold fnV at e
  unfold FnM.ok at c
  cases q : K.lookup (d.adr K) with
  | none => rw [q] at c; cases c
  | some o =>
    obtain ⟨oc, od, dt, osl⟩ := o
    rw [q] at c e
    cases dt with
    | func fd =>
      obtain ⟨n1, n2, n3, n4, n5, n6, n7, n8, n9, n10, n11, n12, n13, n14, n15⟩ := fd
      have e2 : (some (n1, n2, n3, n4, n5, n6, n15, n7.map (·.1)) : FnV) = some (d.name, d.qual, d.params, .stmts d.body, d.scope, mainGlobals, builtinsNs, d.clo) := e
      simp only [Option.some.injEq, Prod.mk.injEq] at e2
      obtain ⟨h1, h2, h3, h4, h5, h6, h7, h8⟩ := e2
      subst h1 h2 h3 h4 h5 h6 h7
      obtain ⟨c1, c2⟩ := ba c
      have h9 : n8 = .none := noneB_ok c2
      subst h9
      exact ⟨oc, od, n7, n9, n10, n11, n12, n13, n14, osl, h8, rfl, c1⟩
    | _ => cases c
theorem FnM.funD {K : PySem.W.Frag} {d : FnM} (e : fnV K (d.adr K) = d.val) (c : d.ok K = true) (hk : PySem.W.keepIn K (.ref (d.adr K)) = true) (h0 : d.clo = []) : ∃ fd, FunD K d.name d.qual d.params d.body d.scope [] [] (d.adr K) fd := by
  obtain ⟨oc, od, cl, kV, doc, pm, an, cdv, ct, osl, h1, h2, h3⟩ := d.at_ e c
  rw [h0] at h1
  have hcl : cl = [] := List.map_eq_nil_iff.mp h1
  subst hcl
  exact ⟨_, ⟨oc, od, .none, kV, doc, pm, an, cdv, ct, osl, rfl, h2, h3, .inl ⟨rfl, rfl⟩, .inl rfl⟩, hk⟩
/-! exceptions -/
def oexB (K : PySem.W.Frag) (C : Addr) : Bool := match K.lookup C with
  | some ⟨.type "type", _, .cls cd, sl⟩ => (match cd.mro, sl.toList with
    | .ref C' :: bm, [_, _, _, _, some (.builtin n), _] => C' == C && n == "ValueError.__new__" && !cd.hasDel && PySem.HandSPX.refsVE bm && cd.hasDict
    | _, _ => false)
  | _ => false
theorem oexB_ok {K : PySem.W.Frag} {C : Addr} (q : oexB K C = true) : ∃ nm q N bs bm sn sub ab col dd k0 k1 k2 k3 k5, K.lookup C = some (excClassObj nm q C N bs bm true sn sub ab col dd k0 k1 k2 k3 k5 "ValueError.__new__") ∧ PySem.HandSPX.refsVE bm = true := by
  unfold oexB at q
  split at q
  · rename_i dd cd sl ho
    split at q
    · rename_i C' bm k0 k1 k2 k3 n k5 hm hs
      simp only [Bool.and_eq_true, beq_iff_eq, Bool.not_eq_true'] at q
      obtain ⟨⟨⟨⟨rfl, rfl⟩, hdel⟩, ht⟩, hd'⟩ := q
      obtain ⟨nm, bs, mro, ns, qn, hd, sn, sub, ab, col, del⟩ := cd
      dsimp only at hm hdel hd'
      subst hm hdel hd'
      have hsl : sl = #[k0, k1, k2, k3, some (.builtin "ValueError.__new__"), k5] := by
        obtain ⟨l⟩ := sl
        simp only at hs
        rw [hs]
      subst hsl
      exact ⟨nm, qn, ns, bs, bm, sn, sub, ab, col, dd, k0, k1, k2, k3, k5, ho, ht⟩
    · cases q
  · cases q
def OexB (K : PySem.W.Frag) (C : Addr) : Bool := oexB K C && (decide (PySem.W.findIn K (.ref C) "__setattr__" = some (some (.builtin "object.__setattr__"))) && (decide (PySem.W.subIn K (.ref C) (.type "BaseException") = some true) && (decide (PySem.W.typeIn K (.ref C) = some (.type "type")) && PySem.W.keepIn K (.ref C))))
theorem OexB_ok {K : PySem.W.Frag} {C : Addr} (h : OexB K C = true) : OexC K C := by
  obtain ⟨h1, h⟩ := ba h
  obtain ⟨h2, h⟩ := ba h
  obtain ⟨h3, h⟩ := ba h
  obtain ⟨h4, h5⟩ := ba h
  exact ⟨oexB_ok h1, of_decide_eq_true h2, of_decide_eq_true h3, of_decide_eq_true h4, h5⟩
/-- where the __init__ of the class x stands -/
def iniA (x : Str) (K : PySem.W.Frag) : Addr := He.ma K (ga K x) "__init__"
def cellB (K : PySem.W.Frag) (a C : Addr) : Bool := match K.lookup a with
  | some ⟨_, _, .cell (some (.ref C')), _⟩ => C' == C
  | _ => false
def fileB (K : PySem.W.Frag) (cdv : Value) (file : Str) : Bool := match cdv with
  | .ref c => (match K.lookup c with
    | some ⟨_, _, .fields vs, _⟩ => (match (vs[2]? : Option Value) with
      | some (Value.str f _) => file == f
      | _ => false)
    | _ => false)
  | _ => false
/-- what is asked of the class x with an __init__ of its own -/
def iniB (K : PySem.W.Frag) (file x : Str) : Bool := OexB K (ga K x) && (decide (PySem.W.findIn K (.ref (ga K x)) "__init__" = some (some (.ref (iniA x K)))) && (decide (PySem.W.typeIn K (.ref (iniA x K)) = some (.type "function")) && (
  decide (PySem.W.mroIn K (ga K x) (.ref (ga K x)) = some true) && (decide (PySem.W.ks_superIn K (ga K x) (ga K x) "__init__" = some (some (.builtin "ValueError.__init__"))) && (decide (PySem.W.subIn K (.ref (ga K x)) (.type "ValueError") = some true) && (
  decide (PySem.W.nsIn K cStatics "thirdparty.any" = some none) && (match K.lookup (iniA x K) with
    | some ⟨_, _, .func fd, _⟩ => fileB K fd.code file && (match fd.closure with
      | [(_, cc)] => cellB K cc (ga K x)
      | _ => false)
    | _ => false)))))))
theorem iniB_ok {K : PySem.W.Frag} {P : Program} {x : Str} {d : FnM} (e : fnV K (d.adr K) = d.val) (c : d.ok K = true) (hd : d.adr K = iniA x K) (hn : d.name = "__init__") (hc : d.clo = [("__class__" : Str)]) (h : iniB K P.main.file x = true) (htop : (P.main.scope.names.lookup ("super" : Str)).isSome = false) :
    ∃ cc, ExcF K P (ga K x) (iniA x K) cc d.qual d.params d.body d.scope := by
  obtain ⟨h1, h⟩ := ba h
  obtain ⟨h2, h⟩ := ba h
  obtain ⟨h3, h⟩ := ba h
  obtain ⟨h4, h⟩ := ba h
  obtain ⟨h5, h⟩ := ba h
  obtain ⟨h6, h⟩ := ba h
  obtain ⟨h7, h⟩ := ba h
  obtain ⟨oc, od, cl, kV, doc, pm, an, cdv, ct, osl, g1, g2, g3⟩ := d.at_ e c
  rw [hd] at g2
  rw [g2] at h
  obtain ⟨h8, h9⟩ := ba h
  rw [hc] at g1
  obtain ⟨⟨nm, cc⟩, rfl⟩ : ∃ p, cl = [p] := by
    match cl, g1 with
    | [p], _ => exact ⟨p, rfl⟩
  have e1 : nm = "__class__" := by simpa using g1
  subst e1
  rw [hn] at g2
  have h9' : cellB K cc (ga K x) = true := h9
  have h8' : fileB K cdv P.main.file = true := h8
  unfold cellB at h9'
  unfold fileB at h8'
  split at h8'
  · rename_i cd
    split at h8'
    · rename_i ccl cdd vs ccs hcd
      split at h8'
      · rename_i f tf hf
        split at h9'
        · rename_i a1 a2 C' a3 hcell
          have hC : C' = ga K x := by simpa using h9'
          rw [hC] at hcell
          exact ⟨cc, ⟨OexB_ok h1, of_decide_eq_true h2, of_decide_eq_true h3, ⟨oc, od, kV, doc, pm, an, cd, ct, osl, vs, f, tf, ccl, cdd, ccs, g2, g3, hcd, hf, h8'⟩, ⟨_, _, _, hcell⟩, of_decide_eq_true h4, of_decide_eq_true h5, of_decide_eq_true h6, of_decide_eq_true h7, htop⟩⟩
        · cases h9'
      · cases h8'
    · cases h8'
  · cases h8'
/-! ### the Hook -/
def asM (g : Addr → Option Obj) : Nat → List Addr
  | 0 => [mainGlobals, cStatics]
  | n + 1 => He.growD g (asM g n)
abbrev AlM : Type := Bool × List FnV
def obsM (fa : List (PySem.W.Frag → Bool)) (fn : List FnM) (K : PySem.W.Frag) : AlM := ((fa.all fun f => f K) && fn.all fun d => d.ok K, fn.map fun d => fnV K (d.adr K))
def valM (fn : List FnM) : AlM := (true, fn.map FnM.val)
def SaysM (fa : List (PySem.W.Frag → Bool)) (fn : List FnM) (K : PySem.W.Frag) : Prop := obsM fa fn K = valM fn
def obsMG (n : Nat) (fa : List (PySem.W.Frag → Bool)) (fn : List FnM) (g : Addr → Option Obj) : AlM := obsM fa fn (He.frG g (asM g n))
def hookM (n : Nat) (fa : List (PySem.W.Frag → Bool)) (fn : List FnM) : PySem.W.Hook where
  α := AlM
  obs := fun s => obsMG n fa fn s.heap.get?
  val := fun _ => valM fn
  says := fun _ h => ∃ K : PySem.W.Frag, K.In h ∧ SaysM fa fn K
  of := fun _ _ e => ⟨_, He.frG_in, e⟩
  keeps := fun _ _ _ ⟨K, hK, c⟩ k => ⟨K, PySem.W.Frag.In.keeps hK k, c⟩
theorem obsMG_eq {n : Nat} {fa : List (PySem.W.Frag → Bool)} {fn : List FnM} {g : Addr → Option Obj} {s : Shared} (h : ∀ a, g a = s.heap.get? a) : obsMG n fa fn g = (hookM n fa fn).obs s := by
  have e : g = s.heap.get? := funext h
  rw [e] <;> rfl
section
variable {fa : List (PySem.W.Frag → Bool)} {fn : List FnM} {K : PySem.W.Frag}
theorem SaysM.fact (c : SaysM fa fn K) (i : Nat) {f : PySem.W.Frag → Bool} (h : fa[i]? = some f := by rfl) : f K = true := by
  have c1 := (ba (show ((fa.all fun f => f K) && fn.all fun d => d.ok K) = true from congrArg (fun z : AlM => z.1) c)).1
  exact List.all_eq_true.mp c1 f (List.mem_of_getElem? h)
theorem SaysM.fn_ (c : SaysM fa fn K) (i : Nat) {d : FnM} (h : fn[i]? = some d := by rfl) : fnV K (d.adr K) = d.val ∧ d.ok K = true := by
  have c2 := (ba (show ((fa.all fun f => f K) && fn.all fun d => d.ok K) = true from congrArg (fun z : AlM => z.1) c)).2
  have e : fn.map (fun d => fnV K (d.adr K)) = fn.map FnM.val := congrArg (fun z : AlM => z.2) c
  have e2 : (fn.map fun d => fnV K (d.adr K))[i]? = (fn.map FnM.val)[i]? := by rw [e]
  rw [List.getElem?_map, List.getElem?_map, h] at e2
  exact ⟨Option.some.inj e2, List.all_eq_true.mp c2 d (List.mem_of_getElem? h)⟩
end
end Mi

namespace Mi
open PySem PySem.Spec PyProof.Rows L2

def fMulA : F2 := fun d e S => match d with
  | .str _ => fMulS d e S
  | _ => fMul d e S
section
variable {X : Cx} {W : WX}
theorem op_fMulA : OpR X (binaryOp .Mult) (rF X.K fMulA) := by
  refine op_imp (OpR.or op_fMulS op_fMul) fun x y H Q ⟨as, S, d, e, z, S', rel, rx, ry, hf, q⟩ => ?_
  cases d with
  | str s => exact .inl ⟨as, S, _, e, z, S', rel, rx, ry, hf, q⟩
  | _ => exact .inr ⟨as, S, _, e, z, S', rel, rx, ry, hf, q⟩
theorem em_neg {a : Expr} {ma : ME} {pos : Pos} (ha : EM X W a ma) : EM X W (.UnaryOp .USub a pos) (m1 fNeg ma) := em_un un_fNeg ha pe_un
/-- a constant of the module -/
structure Gc (K : PySem.W.Frag) (mg : Str → Option Value) (x : Str) (d : D) : Prop where
  ex : ∃ (v : V) (u : Value), mg x = some u ∧ RelV v u ∧ ∀ as H, Rv K as H v d
theorem em_gc {x : Str} {d : D} {pos : Pos} (c : Gc X.K X.mg x d) (hg : Gl X x := by rfl) (hd : (x == ("__debug__" : Str)) = false := by decide) : EM X W (.Name x pos) (mC d) := by
  obtain ⟨v, u, h1, h2, h3⟩ := c.ex
  exact em_g hg h1 h2 h3 hd
open ClX in
/-- a constant of a class -/
structure Cc (K : PySem.W.Frag) (mg : Str → Option Value) (x f : Str) (d : D) : Prop where
  ex : ∃ (C : Addr) (mc : Value) (v : V) (u : Value), CRead K C mc ∧ CVal K C mc f v u ∧ mg x = some (.ref C) ∧ ∀ as H, Rv K as H v d
theorem em_cc {x f : Str} {d : D} {p pos : Pos} (c : Cc X.K X.mg x f d) (hg : Gl X x := by rfl) (hd : (x == ("__debug__" : Str)) = false := by decide)
    (hb : attributeBase (.Name x p) f X.env (eval (.Name x p) X.env) = eval (.Name x p) X.env := by rfl) : EM X W (.Attribute (.Name x p) f pos) (mC d) := by
  obtain ⟨C, mc, v, u, h1, h2, h3, h4⟩ := c.ex
  exact em_cval h1 h2 h3 h4 hg hd hb
end
/-- the def st stands as the module's name x -/
structure Fun1 (K : PySem.W.Frag) (mg : Str → Option Value) (x : Str) (st : Stmt) : Prop where
  ex : ∃ (f : Addr) (fd : FuncData), FunD K x x (defArgs st) (defBody st) (defScope st) [] [] f fd ∧ mg x = some (.ref f)
section
variable {P : Program} {w : World} {K : PySem.W.Frag} {mg : Str → Option Value} {base : Heap}
theorem cal1 {x : Str} {st : Stmt} {N ps : List Str} {k : Nat} {b : MS} (F : Fun1 K mg x st) (S : FnScope N ps (defScope st))
    (hbn : ∀ (kV doc pm : Value) (an : Option Addr) (cdv ct : Value) (us : List Value), us.length = ps.length → bindArgs (PySem.W.fnOf x x (defArgs st) (defBody st) (defScope st) .none kV doc pm an cdv ct) ⟨us, []⟩ = pure (ps.zip us))
    (hb : BodyOk P w K mg base k N x (defScope st) (defBody st) b) : Cal P w K mg base (k + 1) x (mFn ps.length N.length b) := by
  obtain ⟨f, fd, h1, h2⟩ := F.ex
  exact cal_of h1 S h2 (h1.bindsN hbn) hb
end
/-- the def st stands as the static method m of the class x -/
structure Sta1 (K : PySem.W.Frag) (mg : Str → Option Value) (x m qual : Str) (st : Stmt) : Prop where
  ex : ∃ (C p g : Addr) (mc : Value) (fd : FuncData), ClX.CRead K C mc ∧ PySem.W.findCls K (.ref C) mc m = some (.get (.builtin "staticmethod.__get__") (.ref p) .none (.ref C)) ∧ (∃ rest, PySem.W.recIn K p "staticmethod" = some (.ref g :: rest)) ∧
    FunD K m qual (defArgs st) (defBody st) (defScope st) [] [] g fd ∧ mg x = some (.ref C)
theorem sta1 {P : Program} {w : World} {K : PySem.W.Frag} {mg : Str → Option Value} {base : Heap} {x m qual : Str} {st : Stmt} {N ps : List Str} {k : Nat} {b : MS} (F : Sta1 K mg x m qual st) (S : FnScope N ps (defScope st))
    (hbn : ∀ (kV doc pm : Value) (an : Option Addr) (cdv ct : Value) (us : List Value), us.length = ps.length → bindArgs (PySem.W.fnOf m qual (defArgs st) (defBody st) (defScope st) .none kV doc pm an cdv ct) ⟨us, []⟩ = pure (ps.zip us))
    (hb : BodyOk P w K mg base k N qual (defScope st) (defBody st) b) : Sta P w K mg base (k + 1) x m (mFn ps.length N.length b) := by
  obtain ⟨C, p, g, mc, fd, h1, h2, h3, h4, h5⟩ := F.ex
  exact ⟨C, p, g, mc, fd, ps, h1, h2, h3, fn_ok h4 S hb, h5, h4.kp, h4.bindsN hbn⟩
def clsBody : Stmt → List Stmt
  | .ClassDef (body := b) .. => b
  | _ => []
def inCls (st : Stmt) (j : Nat) : Stmt := (clsBody st).getD j (.Pass ⟨0, 0, 0, 0⟩)
/-- the room that an equality asks -/
theorem uRoom {X : Cx} {j : Nat} (h : Room j X.A) : X.A.units + 64 < cLine := by have := h.un; omega
end Mi

namespace Mi
open PySem PySem.Spec PyProof.Rows L2

/-! ### constants, read off K -/
def all2 {α β : Type} (f : α → β → Bool) : List α → List β → Bool
  | [], [] => true
  | a :: as, b :: bs => f a b && all2 f as bs
  | _, _ => false
def constB (K : PySem.W.Frag) : Nat → Value → D → Bool
  | 0, _, _ => false
  | n + 1, u, d => match d, u with
    | .non, .none => true
    | .bl b, .bool c => b == c
    | .int i, .int j _ => decide (i = j)
    | .str x, .str y _ => decide (x = y)
    | .tup ds, .ref a => (match K.lookup a with
      | some ⟨.type c, _, .seq its _, _⟩ => decide (c = "tuple") && (decide (its.size ≤ sizeLine) && all2 (constB K n) its.toList ds)
      | _ => false)
    | _, _ => false
theorem all2_ok {K : PySem.W.Frag} {f : Value → D → Bool} (hf : ∀ u d, f u d = true → ∃ v, RelV v u ∧ ∀ as H, Rv K as H v d) : ∀ {us : List Value} {ds : List D}, all2 f us ds = true → ∃ vs, Vals vs us ∧ ∀ as H, Rvs K as H vs ds
  | [], [], _ => ⟨[], .nil, fun _ _ => .nil⟩
  | [], _ :: _, h => by cases h
  | _ :: _, [], h => by cases h
  | u :: us, d :: ds, h => by
    obtain ⟨h1, h2⟩ := ba (show (f u d && all2 f us ds) = true from h)
    obtain ⟨v, r1, r2⟩ := hf u d h1
    obtain ⟨vs, q1, q2⟩ := all2_ok hf h2
    exact ⟨v :: vs, .cons r1 q1, fun as H => .cons (r2 as H) (q2 as H)⟩
theorem constB_ok {K : PySem.W.Frag} : ∀ (n : Nat) (u : Value) (d : D), constB K n u d = true → ∃ v, RelV v u ∧ ∀ as H, Rv K as H v d
  | 0, _, _, h => by cases h
  | n + 1, u, d, h => by
    unfold constB at h
    split at h
    · exact ⟨.non, rfl, fun _ _ => .non⟩
    · rename_i b c
      have e : b = c := eq_of_beq h
      subst e
      exact ⟨.bl b, rfl, fun _ _ => .bl b⟩
    · rename_i i j t
      have e : i = j := of_decide_eq_true h
      subst e
      exact ⟨.int i, ⟨t, rfl⟩, fun _ _ => .int i⟩
    · rename_i x y t
      have e : x = y := of_decide_eq_true h
      subst e
      exact ⟨.str x, ⟨t, rfl⟩, fun _ _ => .str x⟩
    · rename_i ds a
      split at h
      · rename_i c x1 its x2 x3 hl
        obtain ⟨h1, h2⟩ := ba h
        obtain ⟨h3, h4⟩ := ba h2
        have e : c = "tuple" := of_decide_eq_true h1
        subst e
        obtain ⟨vs, q1, q2⟩ := all2_ok (fun u d => constB_ok n u d) h4
        exact ⟨.ref a, rfl, fun as H => .tup (.inr ⟨_, its, _, hl, rfl, rfl, of_decide_eq_true h3, q1⟩) (q2 as H)⟩
      · cases h
    · cases h
def gcB (x : Str) (d : D) (K : PySem.W.Frag) : Bool := match PySem.W.nsIn K mainGlobals x with
  | some (some u) => constB K 6 u d
  | _ => false
def creadB (K : PySem.W.Frag) (C : Addr) : Bool := PySem.W.readsIn K C (.type "type") && decide (PySem.W.specialIn K (.ref C) "__getattribute__" = some (some (.builtin "type.__getattribute__")))
theorem creadB_ok {K : PySem.W.Frag} {C : Addr} (h : creadB K C = true) : ClX.CRead K C (.type "type") := by
  obtain ⟨h1, h2⟩ := ba h
  exact ⟨h1, of_decide_eq_true h2⟩
def gloB (x : Str) (K : PySem.W.Frag) : Bool := (He.Fa.glo x).ok K
def freeB (x : Str) (K : PySem.W.Frag) : Bool := (He.Fa.free x).ok K
def ccB (x f : Str) (d : D) (K : PySem.W.Frag) : Bool := gloB x K && (creadB K (ga K x) && (match PySem.W.findCls K (.ref (ga K x)) (.type "type") f with
  | some (.val u) => constB K 6 u d
  | _ => false))
def funB (x : Str) (K : PySem.W.Frag) : Bool := gloB x K && PySem.W.keepIn K (.ref (ga K x))
/-- the function of the static method m of the class x -/
def staA (x m : Str) (K : PySem.W.Frag) : Addr := match PySem.W.findCls K (.ref (ga K x)) (.type "type") m with
  | some (.get _ (.ref p) _ _) => (match PySem.W.recIn K p "staticmethod" with
    | some (.ref g :: _) => g
    | _ => 0)
  | _ => 0
def staB (x m : Str) (K : PySem.W.Frag) : Bool := gloB x K && (creadB K (ga K x) && (PySem.W.keepIn K (.ref (staA x m K)) && (match PySem.W.findCls K (.ref (ga K x)) (.type "type") m with
  | some (.get (.builtin i) (.ref p) .none (.ref C)) => i == "staticmethod.__get__" && (C == ga K x && (match PySem.W.recIn K p "staticmethod" with
    | some (.ref _ :: _) => true
    | _ => false))
  | _ => false)))
def exmB (x y : Str) (b : Bool) (K : PySem.W.Frag) : Bool := (He.Fa.exm x y b).ok K && (gloB x K && gloB y K)
def xfkB (x f : Str) (K : PySem.W.Frag) : Bool := gloB x K && (xfB K (ga K x) && (He.Fa.noat x f).ok K)
def excB (file x : Str) (fs : List Str) (K : PySem.W.Frag) : Bool := gloB x K && (iniB K file x && fs.all fun f => (He.Fa.noat x f).ok K)
section
variable {K : PySem.W.Frag} {h : Heap} {mg : Str → Option Value} (X : K.In h) (G : h.Ns mainGlobals mg)
include X G
theorem gc_ok {x : Str} {d : D} (c : gcB x d K = true) : Gc K mg x d := by
  unfold gcB at c
  split at c
  · rename_i u e
    obtain ⟨v, r1, r2⟩ := constB_ok 6 u d c
    exact ⟨v, u, PySem.W.mg_of X G e, r1, r2⟩
  · cases c
theorem free_ok {x : Str} (c : freeB x K = true) : mg x = none := He.free_ok X G c
theorem glo_ok {x : Str} (c : gloB x K = true) : mg x = some (.ref (ga K x)) := He.glo_ok X G c
theorem cc_ok {x f : Str} {d : D} (c : ccB x f d K = true) : Cc K mg x f d := by
  obtain ⟨c1, c⟩ := ba c
  obtain ⟨c2, c⟩ := ba c
  split at c
  · rename_i u e
    obtain ⟨v, r1, r2⟩ := constB_ok 6 u d c
    exact ⟨ga K x, .type "type", v, u, creadB_ok c2, ⟨e, r1⟩, glo_ok X G c1, r2⟩
  · cases c
theorem fun_ok {x : Str} {st : Stmt} {d : FnM} (c : funB x K = true) (e : fnV K (d.adr K) = d.val ∧ d.ok K = true) (hd : d = ⟨fun K => ga K x, x, x, defArgs st, defBody st, defScope st, []⟩) : Fun1 K mg x st := by
  obtain ⟨c1, c2⟩ := ba c
  subst hd
  obtain ⟨fd, F⟩ := FnM.funD e.1 e.2 c2 rfl
  exact ⟨ga K x, fd, F, glo_ok X G c1⟩
theorem sta_ok {x m qual : Str} {st : Stmt} {d : FnM} (c : staB x m K = true) (e : fnV K (d.adr K) = d.val ∧ d.ok K = true) (hd : d = ⟨staA x m, m, qual, defArgs st, defBody st, defScope st, []⟩) : Sta1 K mg x m qual st := by
  obtain ⟨c1, c⟩ := ba c
  obtain ⟨c2, c⟩ := ba c
  obtain ⟨c3, c⟩ := ba c
  subst hd
  obtain ⟨fd, F⟩ := FnM.funD e.1 e.2 c3 rfl
  split at c
  · rename_i i p C hf
    obtain ⟨c4, c6⟩ := ba c
    obtain ⟨c5, c7⟩ := ba c6
    clear c c6
    have e1 : i = "staticmethod.__get__" := by simpa using c4
    have e2 : C = ga K x := by simpa using c5
    subst e1 e2
    cases hr : PySem.W.recIn K p "staticmethod" with
    | none => rw [hr] at c7; cases c7
    | some l =>
      rw [hr] at c7
      cases l with
      | nil => cases c7
      | cons v rest =>
        cases v <;> first | (cases c7; done) | skip
        rename_i g
        have eg : staA x m K = g := by
          unfold staA
          rw [hf]
          dsimp only
          rw [hr]
        have F' : FunD K m qual (defArgs st) (defBody st) (defScope st) [] [] g fd := by rw [← eg]; exact F
        exact ⟨ga K x, p, g, .type "type", fd, creadB_ok c2, hf, ⟨rest, hr⟩, F', glo_ok X G c1⟩
  · cases c
theorem exm_ok {x y : Str} {b : Bool} (c : exmB x y b K = true) : ∃ C C', mg x = some (.ref C) ∧ mg y = some (.ref C') ∧ PySem.W.exmOne K (.ref C) (.ref C') = some b := by
  obtain ⟨c1, c⟩ := ba c
  obtain ⟨c2, c3⟩ := ba c
  exact ⟨_, _, glo_ok X G c2, glo_ok X G c3, He.exm_ok c1⟩
/-- the except clauses that name x: l the classes it may meet -/
theorem exk_ok {x : Str} (l : List (Str × Bool)) (c1 : gloB x K = true) (c : ∀ p ∈ l, exmB p.1 x p.2 K = true) : Exk K mg x (fun y => l.lookup y) := by
  refine ⟨ga K x, glo_ok X G c1, fun y C' b hy hb => ?_⟩
  have hmem : ∀ {l : List (Str × Bool)}, l.lookup y = some b → (y, b) ∈ l := by
    intro l
    induction l with
    | nil => intro h; cases h
    | cons p l ih =>
      intro h
      obtain ⟨z, b'⟩ := p
      simp only [List.lookup] at h
      split at h
      · rename_i hz
        cases h
        rw [beq_iff_eq] at hz
        subst hz
        exact List.mem_cons_self ..
      · exact List.mem_cons_of_mem _ (ih h)
  obtain ⟨C, C2, e1, e2, e3⟩ := exm_ok X G (c _ (hmem hb))
  rw [hy] at e1
  cases e1
  rw [glo_ok X G c1] at e2
  cases e2
  exact e3
theorem exkB_ok {x : Str} {l : List (Str × Bool)} (c : (gloB x K && l.all fun p => exmB p.1 x p.2 K) = true) : Exk K mg x (fun y => l.lookup y) := by
  obtain ⟨c1, c2⟩ := ba c
  exact exk_ok X G l c1 (List.all_eq_true.mp c2)
theorem xfk_ok {f : Str} (l : List Str) (c : ∀ y ∈ l, xfkB y f K = true) : Xfk K mg f l := by
  refine ⟨fun y hy C hC => ?_⟩
  obtain ⟨c1, c2⟩ := ba (c y hy)
  obtain ⟨c3, c4⟩ := ba c2
  have e := glo_ok X G c1
  rw [hC] at e
  cases e
  exact ⟨xfB_ok c3, He.noat_ok c4⟩
theorem xfkB_ok {f : Str} {l : List Str} (c : (l.all fun y => xfkB y f K) = true) : Xfk K mg f l := xfk_ok X G l (List.all_eq_true.mp c)
theorem rsb1 {P : Program} {w : World} {base : Heap} {x qual z self p f : Str} {j : Nat} {st : Stmt} {d : FnM} {p0 p1 p2 p3 p4 p5 q1 q2 q3 q4 : Pos} (c : excB P.main.file x [f] K = true) (e : fnV K (d.adr K) = d.val ∧ d.ok K = true)
    (hd : d = ⟨iniA x, "__init__", qual, defArgs st, defBody st, defScope st, ["__class__"]⟩) (hs : freeB "super" K = true) (htop : (P.main.scope.names.lookup ("super" : Str)).isSome = false)
    (hbody : defBody st = [.Expr (supE z j p0 p1 p2 p3 p4) p5, .Assign [.Attribute (.Name self q1) f q2] (.Name p q3) q4]) (hev : SupEv z j p0 p1 p2 p3 p4)
    (S : NdefX.NScope [self, p, "__class__"] [self, p] ["__class__"] (defScope st)) (hks : (defScope st).names.lookup ("super" : Str) = some .globalImplicit) (hpar : ∃ ar, ((defArgs st).posonlyargs ++ (defArgs st).args).head? = some ar ∧ ar.arg = self)
    (d1 : (self == ("__debug__" : Str)) = false) (d2 : (p == ("__debug__" : Str)) = false) (d3 : (self == ("__classdict__" : Str)) = false) (d4 : (p == ("__classdict__" : Str)) = false)
    (hbn : ∀ (cc : Addr) (kV doc pm : Value) (an : Option Addr) (cdv ct : Value) (us : List Value), us.length = [self, p].length → bindArgs (PySem.W.fnX "__init__" qual (defArgs st) (defBody st) (defScope st) [("__class__", cc)] .none kV doc pm an cdv ct) ⟨us, []⟩ = pure ([self, p].zip us)) :
    Rsb P w K mg base 1 x 1 (fun ws => [(f, ws.getD 0 .non)]) := by
  obtain ⟨c1, c⟩ := ba c
  obtain ⟨c2, c3⟩ := ba c
  have c4 := He.noat_ok (List.all_eq_true.mp c3 f (List.mem_singleton.mpr rfl))
  subst hd
  obtain ⟨cc, F⟩ := iniB_ok e.1 e.2 rfl rfl rfl c2 htop
  obtain ⟨fd, H1, H2⟩ := ini1 (w := w) (mg := mg) (base := base) (k := 0) F hbody hev S hks hpar (free_ok X G hs) c4 d1 d2 d3 d4 (hbn cc)
  exact ⟨ga K x, iniA x K, fd, [self, p], F.ox, F.init, F.tI, H1, H2, glo_ok X G c1⟩
end
/-! ### the end -/
def script0 (ns : List Int) : Sto := [.fix (ns.map D.int)]
/-- the plain law: what is left to be shown of the mirror -/
def Plain (m : MFn) : Prop := ∀ ns : List Int, ns.length ≤ 63 → ∃ S', m [.obj 0] (script0 ns) = .ok (.bl true) S'
theorem spM_plain {K : PySem.W.Frag} {mg : Str → Option Value} {m : MFn} (h : Plain m) {H : Hp} {a : Addr} {ns : List Int} {E : XK} (hl : ns.length ≤ 63) (hO : Only H) (hS : SqL K H a (ns.map V.int)) : spM K mg m [.ref a] H (fun v _ => v = .bl true) E := by
  have rv : Rvs K [a] H (ns.map V.int) (ns.map D.int) := Rvs.map (fun i => .int i) ns
  have rel : Rel K [a] (script0 ns) H := by
    refine ⟨rfl, fun i b o hi ho => ?_, fun i j b o u hi hj ho hu mo mu => ?_⟩
    · match i, hi with
      | 0, hi =>
        cases hi
        cases ho
        refine ⟨ns.map V.int, ?_, rv⟩
        rcases hS with hS | hS
        · rcases hS with hS | hS
          · rcases hO a with z | ⟨o, xs, z⟩
            · rw [z] at hS; cases hS
            · rw [z] at hS; cases hS
          · exact .inl hS
        · exact .inr fun _ => .inr hS
      | _ + 1, hi => cases hi
    · match i, ho with
      | 0, ho => cases ho; cases mo
      | _ + 1, ho => cases ho
  refine ⟨[a], [.obj 0], script0 ns, .cons (.obj rfl) .nil, rel, ?_⟩
  obtain ⟨S', e⟩ := h ns hl
  rw [e]
  intro as' H' v x r q
  cases q
  rfl
/-- the law's end, an own exception let out of a call being no end -/
theorem walk_ofW {lw : PySem.W.OpenLaw} {m lv : Nat} {qv : Program} {lo : List Str} {XPr : (Str → Option Value) → Heap → Prop} {YPr : World → Heap → Prop} {df : DefRec} {x : Str} (h1 : lw.most = some m) (h2 : m ≤ sizeLine) (h3 : df.params.defaults = []) (h4 : Room lv callerA)
    (F : ∀ (w : World) (mg : Str → Option Value) (fa : Addr) (h : Heap), YPr w h → h.Ns mainGlobals mg → mg df.name = some (.ref fa) → ∃ (K : PySem.W.Frag) (fd : FuncData) (sp : Sp), K.In h ∧ (∀ (s : Shared) (u : Value), BindsTo s fd ⟨[u], []⟩ [(x, u)]) ∧
      (∀ (H : Hp) (a : Addr) (ns : List Int), ns.length ≤ m → Only H → SqL K H a (ns.map V.int) → sp [.ref a] H (fun v _ => v = .bl true) fun _ _ _ => False) ∧ ∀ base : Heap, K.In base → base.Ns mainGlobals mg → FnOk lw.prog w K mg base (L2.CX lw.prog w) lv fa fd [x] sp) :
    PySem.W.WalkO qv lo XPr YPr lw.row.toRowW df [] (fun f vs => PySem.call f vs) := by
  refine Att.attach_call h1 h3 fun w s0 s1 mg mb fa ob pm cd doc a us ns G Y z1 z2 z3 z4 z5 z6 z7 z8 => ?_
  obtain ⟨K, fd, sp, kx, q1, q2, q3⟩ := F w mg fa _ Y G.T.g z4
  refine law_call kx G.T.g G.T.b G.T.builtins G.T.nolimit z8 z5 z6 (Nat.le_trans z7 h2) h4 q3 q1 (fun H u v => q2 H a ns z7 u v) fun H e s' c => ?_
  obtain ⟨_, _, _, _, _, _, _, _, _, _, _, _, bad⟩ := c
  exact bad
end Mi

namespace Mi
open PySem PySem.Spec PyProof.Rows L2

/-! ### the mirror, evaluated -/
abbrev st (l : List Nat) : Str := ⟨l.toArray⟩
abbrev sD (l : List Nat) : D := .str (st l)
abbrev nD (n : Nat) : D := .int (n : Int)
theorem st_len (l : List Nat) : (st l).length = l.length := (rfl)
theorem st_eq {a b : List Nat} : (st a = st b) = (a = b) := by
  refine propext ⟨fun h => ?_, fun h => by rw [h]⟩
  have h1 : a.toArray = b.toArray := congrArg Str.cps h
  simpa using congrArg Array.toList h1
theorem st_app (a b : List Nat) : st a ++ st b = st (a ++ b) := by
  show (⟨a.toArray ++ b.toArray⟩ : Str) = _
  simp
section
variable {α β : Type} {env : Env} {S S1 : Sto}
theorem bind_ok {a : α} {f : α → Sto → R β} : (R.ok a S).bind f = f a S := (rfl)
theorem bind_ex {e : Xn} {f : α → Sto → R β} : (R.ex e S).bind f = R.ex e S := (rfl)
theorem bind_no {f : α → Sto → R β} : (R.no).bind f = R.no := (rfl)
theorem of_some {d : α} : R.of (some (d, S)) = R.ok d S := (rfl)
theorem rs_ok {a : α} {f : α → Sto → RS} : RS.of (.ok a S) env f = f a S := (rfl)
theorem rs_ex {e : Xn} {f : α → Sto → RS} : RS.of (.ex e S) env f = .ex e env S := (rfl)
theorem rs_bind {x : R α} {f : α → Sto → R β} {g : β → Sto → RS} : RS.of (x.bind f) env g = RS.of x env fun a S1 => RS.of (f a S1) env g := by
  cases x <;> rfl
theorem then_nx {f : Env → Sto → RS} : (RS.nx env S).then f = f env S := (rfl)
theorem then_rt {d : D} {f : Env → Sto → RS} : (RS.rt d S).then f = .rt d S := (rfl)
theorem then_ex {e : Xn} {f : Env → Sto → RS} : (RS.ex e env S).then f = .ex e env S := (rfl)
theorem then_bk {f : Env → Sto → RS} : (RS.bk env S).then f = .bk env S := (rfl)
theorem then_ct {f : Env → Sto → RS} : (RS.ct env S).then f = .ct env S := (rfl)
theorem mV0 {d : D} : mV 0 (some d :: env) S = .ok d S := (rfl)
theorem mVs {n : Nat} {x : Option D} : mV (n + 1) (x :: env) S = mV n env S := (rfl)
theorem mC_ {d : D} : mC d env S = .ok d S := (rfl)
theorem m2_ {f : F2} {a b : ME} : m2 f a b env S = (a env S).bind fun x S1 => (b env S1).bind fun y S2 => R.of (f x y S2) := (rfl)
theorem m1_ {f : F1} {a : ME} : m1 f a env S = (a env S).bind fun x S1 => R.of (f x S1) := (rfl)
def kB (x : D) (S : Sto) : R Bool := match x with
  | .bl b => .ok b S
  | _ => .no
theorem mB_ {a : ME} : mB a env S = (a env S).bind kB := (rfl)
theorem kB_bl {b : Bool} : kB (.bl b) S = .ok b S := (rfl)
theorem mB1_ {f : FL} {a : MA} : mB1 f a env S = (a env S).bind fun xs S1 => R.of (f xs S1) := (rfl)
theorem mNil_ : mNil env S = .ok [] S := (rfl)
theorem mCons_ {a : ME} {r : MA} : mCons a r env S = (a env S).bind fun x S1 => (r env S1).bind fun xs S2 => .ok (x :: xs) S2 := (rfl)
theorem f1L_ {f : F1} {d : D} : f1L f [d] S = f d S := (rfl)
theorem f2L_ {f : D → D → Sto → Option (D × Sto)} {d e : D} : f2L f [d, e] S = f d e S := (rfl)
theorem mTup_ {a : MA} : mTup a env S = (a env S).bind kTup := (rfl)
theorem mLst_ {a : MA} : mLst a env S = (a env S).bind kLst := (rfl)
theorem mCall_ {m : MFn} {a : MA} : mCall m a env S = (a env S).bind m := (rfl)
theorem mNotT_ {a : MT} : mNotT a env S = (a env S).bind fun b S1 => .ok (!b) S1 := (rfl)
theorem mAndT_ {a b : MT} : mAndT a b env S = (a env S).bind fun c S1 => if c = true then b env S1 else .ok false S1 := (rfl)
theorem mOrT_ {a b : MT} : mOrT a b env S = (a env S).bind fun c S1 => if c = true then .ok true S1 else b env S1 := (rfl)
theorem mIf_ {t : MT} {a b : ME} : mIf t a b env S = (t env S).bind fun c S1 => if c = true then a env S1 else b env S1 := (rfl)
def kAndV (b : ME) (env : Env) (c : D) (S : Sto) : R D := match c with
  | .bl true => b env S
  | .bl false => .ok (.bl false) S
  | _ => .no
def kOrV (b : ME) (env : Env) (c : D) (S : Sto) : R D := match c with
  | .bl false => b env S
  | .bl true => .ok (.bl true) S
  | _ => .no
def kNotV (c : D) (S : Sto) : R D := match c with
  | .bl b => .ok (.bl (!b)) S
  | _ => .no
theorem mAndV_ {a b : ME} : mAndV a b env S = (a env S).bind (kAndV b env) := by
  unfold mAndV; congr 1
theorem mOrV_ {a b : ME} : mOrV a b env S = (a env S).bind (kOrV b env) := by
  unfold mOrV; congr 1
theorem mNotV_ {a : ME} : mNotV a env S = (a env S).bind kNotV := (rfl)
theorem kAndV_bl {b : ME} {c : Bool} : kAndV b env (.bl c) S = if c = true then b env S else .ok (.bl false) S := by cases c <;> rfl
theorem kOrV_bl {b : ME} {c : Bool} : kOrV b env (.bl c) S = if c = true then .ok (.bl true) S else b env S := by cases c <;> rfl
theorem kNotV_bl {b : Bool} : kNotV (.bl b) S = .ok (.bl (!b)) S := (rfl)
theorem mSl_ {a : ME} {lo hi : MO'} : mSl a lo hi env S = (a env S).bind fun x S1 => (lo env S1).bind fun l S2 => (hi env S2).bind fun u S3 => R.of (fSl x l u S3) := (rfl)
theorem mPart_ {a : ME} : mPart a env S = (a env S).bind kPart := (rfl)
theorem kPart_ {i : Int} : kPart (.int i) S = .ok (some i) S := (rfl)
theorem mNoPart_ : mNoPart env S = .ok none S := (rfl)
theorem kTup_ {xs : List D} (h : xs.length ≤ sizeLine) : kTup xs S = .ok (.tup xs) S := if_pos h
theorem kLst_ {xs : List D} (h : xs.length ≤ sizeLine) : kLst xs S = .ok (.obj S.length) (S ++ [.lst xs]) := if_pos h
theorem kTu1 {x0 : D} : kTup [x0] S = .ok (.tup [x0]) S := kTup_ (by rw [sizeLine_eq]; simp)
theorem kLs1 {x0 : D} : kLst [x0] S = .ok (.obj S.length) (S ++ [.lst [x0]]) := kLst_ (by rw [sizeLine_eq]; simp)
theorem kTu2 {x0 x1 : D} : kTup [x0, x1] S = .ok (.tup [x0, x1]) S := kTup_ (by rw [sizeLine_eq]; simp)
theorem kLs2 {x0 x1 : D} : kLst [x0, x1] S = .ok (.obj S.length) (S ++ [.lst [x0, x1]]) := kLst_ (by rw [sizeLine_eq]; simp)
theorem kTu3 {x0 x1 x2 : D} : kTup [x0, x1, x2] S = .ok (.tup [x0, x1, x2]) S := kTup_ (by rw [sizeLine_eq]; simp)
theorem kLs3 {x0 x1 x2 : D} : kLst [x0, x1, x2] S = .ok (.obj S.length) (S ++ [.lst [x0, x1, x2]]) := kLst_ (by rw [sizeLine_eq]; simp)
theorem kTu4 {x0 x1 x2 x3 : D} : kTup [x0, x1, x2, x3] S = .ok (.tup [x0, x1, x2, x3]) S := kTup_ (by rw [sizeLine_eq]; simp)
theorem kLs4 {x0 x1 x2 x3 : D} : kLst [x0, x1, x2, x3] S = .ok (.obj S.length) (S ++ [.lst [x0, x1, x2, x3]]) := kLst_ (by rw [sizeLine_eq]; simp)
theorem kTu5 {x0 x1 x2 x3 x4 : D} : kTup [x0, x1, x2, x3, x4] S = .ok (.tup [x0, x1, x2, x3, x4]) S := kTup_ (by rw [sizeLine_eq]; simp)
theorem kLs5 {x0 x1 x2 x3 x4 : D} : kLst [x0, x1, x2, x3, x4] S = .ok (.obj S.length) (S ++ [.lst [x0, x1, x2, x3, x4]]) := kLst_ (by rw [sizeLine_eq]; simp)
theorem kLs0 : kLst [] S = .ok (.obj S.length) (S ++ [.lst []]) := kLst_ (by rw [sizeLine_eq]; simp)
/-! statements -/
theorem sSeq_ {m n : MS} : sSeq m n env S = (m env S).then n := (rfl)
theorem sSet_ {i : Nat} {a : ME} : sSet i a env S = RS.of (a env S) env fun d S1 => .nx (env.set i (some d)) S1 := (rfl)
theorem sRet_ {a : ME} : sRet a env S = RS.of (a env S) env fun d S1 => .rt d S1 := (rfl)
theorem sIf_ {t : MT} {a b : MS} : sIf t a b env S = RS.of (t env S) env fun c S1 => if c = true then a env S1 else b env S1 := (rfl)
theorem sExpr_ {a : ME} : sExpr a env S = RS.of (a env S) env fun _ S1 => .nx env S1 := (rfl)
theorem sNil_ : sNil env S = .nx env S := (rfl)
theorem sBreak_ : sBreak env S = .bk env S := (rfl)
theorem sCont_ : sCont env S = .ct env S := (rfl)
theorem sAug_ {i : Nat} {f : F2} {a : ME} {x : D} (h : env[i]? = some (some x)) : sAug i f a env S = RS.of ((a env S).bind fun y S1 => R.of (f x y S1)) env fun z S2 => .nx (env.set i (some z)) S2 := by
  unfold sAug
  rw [h]
  cases a env S with
  | ok y S1 =>
    show (match f x y S1 with | some (z, S2) => RS.nx (env.set i (some z)) S2 | none => .no) = RS.of (R.of (f x y S1)) env _
    cases f x y S1 <;> rfl
  | ex e S1 => rfl
  | no => rfl
theorem aug_int {i : Nat} {k v : Int} (h : env[i]? = some (some (.int v))) : sAug i fIAdd (mC (.int k)) env S = .nx (env.set i (some (.int (v + k)))) S := by
  rw [sAug_ h]; rfl
/-! while -/
theorem wh_eq {t : MT} {b : MS} {n : Nat} : whileM t b (n + 1) env S = RS.of (t env S) env fun c S1 => if c = true then (match b env S1 with
      | .nx env2 S2 => whileM t b n env2 S2
      | .ct env2 S2 => whileM t b n env2 S2
      | .bk env2 S2 => .nx env2 S2
      | o => o) else .nx env S1 := (rfl)
theorem wh_stop {t : MT} {b : MS} {n : Nat} (h : t env S = .ok false S1) : whileM t b (n + 1) env S = .nx env S1 := by unfold whileM; rw [h]; rfl
theorem wh_next {t : MT} {b : MS} {n : Nat} {env2 : Env} {S2 : Sto} (h : t env S = .ok true S1) (h2 : b env S1 = .nx env2 S2) : whileM t b (n + 1) env S = whileM t b n env2 S2 := by
  rw [wh_eq, h, rs_ok]; simp only [if_true, h2]
theorem wh_brk {t : MT} {b : MS} {n : Nat} {env2 : Env} {S2 : Sto} (h : t env S = .ok true S1) (h2 : b env S1 = .bk env2 S2) : whileM t b (n + 1) env S = .nx env2 S2 := by
  rw [wh_eq, h, rs_ok]; simp only [if_true, h2]
theorem wh_ex {t : MT} {b : MS} {n : Nat} {e : Xn} {env2 : Env} {S2 : Sto} (h : t env S = .ok true S1) (h2 : b env S1 = .ex e env2 S2) : whileM t b (n + 1) env S = .ex e env2 S2 := by
  rw [wh_eq, h, rs_ok]; simp only [if_true, h2]
theorem wh_rt {t : MT} {b : MS} {n : Nat} {d : D} {S2 : Sto} (h : t env S = .ok true S1) (h2 : b env S1 = .rt d S2) : whileM t b (n + 1) env S = .rt d S2 := by
  rw [wh_eq, h, rs_ok]; simp only [if_true, h2]
/-! operations -/
theorem e_len {l : List Nat} (h : l.length ≤ sizeLine) : fLen (sD l) S = some (.int (l.length : Int), S) := if_pos h
theorem e_lenL {i : Nat} {ds : List D} (h : S[i]? = some (.lst ds)) : fLen (.obj i) S = some (.int (ds.length : Int), S) := by unfold fLen; simp only [h]
theorem e_lenT {ds : List D} : fLen (.tup ds) S = some (.int (ds.length : Int), S) := (rfl)
theorem e_lt {a b : Int} : fLt (.int a) (.int b) S = some (.bl (decide (a < b)), S) := (rfl)
theorem e_le {a b : Int} : fLe (.int a) (.int b) S = some (.bl (decide (a ≤ b)), S) := (rfl)
theorem e_gt {a b : Int} : fGt (.int a) (.int b) S = some (.bl (decide (b < a)), S) := (rfl)
theorem e_ge {a b : Int} : fGe (.int a) (.int b) S = some (.bl (decide (b ≤ a)), S) := (rfl)
theorem e_eqI {a b : Int} : fEq (.int a) (.int b) S = some (.bl (decide (a = b)), S) := (rfl)
theorem e_neI {a b : Int} : fNe (.int a) (.int b) S = some (.bl (!decide (a = b)), S) := (rfl)
theorem e_eqS {a b : Str} : fEq (.str a) (.str b) S = some (.bl (decide (a = b)), S) := (rfl)
theorem e_neS {a b : Str} : fNe (.str a) (.str b) S = some (.bl (!decide (a = b)), S) := (rfl)
theorem e_add {a b : Int} : fAdd (.int a) (.int b) S = some (.int (a + b), S) := (rfl)
theorem e_sub {a b : Int} : fSub (.int a) (.int b) S = some (.int (a - b), S) := (rfl)
theorem e_addS {a b : List Nat} (h : a.length + b.length ≤ sizeLine) : fAdd (sD a) (sD b) S = some (sD (a ++ b), S) := by
  unfold fAdd
  dsimp only
  rw [st_len, st_len, if_pos h, st_app]
theorem nat_lt {c d : Nat} : decide ([c] < [d]) = decide (c < d) := by
  have : ([c] < [d]) ↔ c < d := by
    constructor
    · intro h
      cases h with
      | rel h => exact h
      | cons h => cases h
    · intro h; exact List.Lex.rel h
  simp only [this]
theorem e_ltS {c d : Nat} : fLt (sD [c]) (sD [d]) S = some (.bl (decide (c < d)), S) := by
  show some (D.bl (decide ((st [c]).cps.toList < (st [d]).cps.toList)), S) = _
  rw [show (st [c]).cps.toList = [c] from rfl, show (st [d]).cps.toList = [d] from rfl, nat_lt]
theorem e_gtS {c d : Nat} : fGt (sD [c]) (sD [d]) S = some (.bl (decide (d < c)), S) := by
  show some (D.bl (decide ((st [d]).cps.toList < (st [c]).cps.toList)), S) = _
  rw [show (st [c]).cps.toList = [c] from rfl, show (st [d]).cps.toList = [d] from rfl, nat_lt]
theorem e_leS {c d : Nat} : fLe (sD [c]) (sD [d]) S = some (.bl (decide (c ≤ d)), S) := by
  show some (D.bl (!decide ((st [d]).cps.toList < (st [c]).cps.toList)), S) = _
  rw [show (st [c]).cps.toList = [c] from rfl, show (st [d]).cps.toList = [d] from rfl, nat_lt]
  congr 3
  by_cases h : d < c <;> simp [h] <;> omega
theorem e_inS {c : Nat} {g : List Nat} : fIn (sD [c]) (sD g) S = some (.bl (decide (c ∈ g)), S) := by
  unfold fIn inB
  simp
theorem e_notinS {c : Nat} {g : List Nat} : fNotIn (sD [c]) (sD g) S = some (.bl (!decide (c ∈ g)), S) := by
  unfold fNotIn inB
  simp
theorem ixN_nat {n i : Nat} (h : i < n) : ixN n (i : Int) = some i := by
  unfold ixN
  rw [if_pos (by omega), if_pos (by omega)]
  simp
theorem e_at {pre suf : List Nat} {c : Nat} (h : (pre ++ c :: suf).length ≤ sizeLine) : fIx (sD (pre ++ c :: suf)) (.int (pre.length : Int)) S = some (sD [c], S) := by
  unfold fIx
  dsimp only
  rw [st_len, if_pos h]
  unfold atI
  rw [ixN_nat (by simp)]
  simp
theorem e_ixL {i k : Nat} {ds : List D} {d : D} (h : S[i]? = some (.lst ds)) (h2 : ds[k]? = some d) : fIx (.obj i) (.int (k : Int)) S = some (d, S) := by
  have e0 : lstAt S i = some ds := by unfold lstAt; rw [h]
  unfold fIx
  dsimp only
  rw [e0]
  show Option.map (fun z => (z, S)) (atI ds (k : Int)) = _
  unfold atI
  have hk : k < ds.length := by
    rcases Nat.lt_or_ge k ds.length with z | z
    · exact z
    · rw [List.getElem?_eq_none z] at h2; cases h2
  rw [ixN_nat hk]
  simp [h2]
theorem e_ixT {k : Nat} {ds : List D} {d : D} (h2 : ds[k]? = some d) : fIx (.tup ds) (.int (k : Int)) S = some (d, S) := by
  unfold fIx
  dsimp only
  unfold atI
  have hk : k < ds.length := by
    rcases Nat.lt_or_ge k ds.length with z | z
    · exact z
    · rw [List.getElem?_eq_none z] at h2; cases h2
  rw [ixN_nat hk]
  simp [h2]
theorem e_cut {a b c : List Nat} (h : (a ++ b ++ c).length ≤ sizeLine) : fSl (sD (a ++ b ++ c)) (some (a.length : Int)) (some ((a.length + b.length : Nat) : Int)) S = some (sD b, S) := by
  unfold fSl
  dsimp only
  rw [st_len, if_pos h]
  unfold cutS
  rw [st_len]
  rw [HT.sIx_nat, HT.sIx_nat]
  simp only [List.toList_toArray]
  have e1 : min a.length (a ++ b ++ c).length = a.length := by simp
  have e2 : min (a.length + b.length) (a ++ b ++ c).length = a.length + b.length := by simp
  rw [e1, e2]
  simp
theorem e_append {i : Nat} {ds : List D} {d : D} (h : S[i]? = some (.lst ds)) (hl : ds.length < sizeLine) : fAppend (.obj i) [d] S = some (.non, S.set i (.lst (ds ++ [d]))) := by
  unfold fAppend
  simp only [h, if_pos hl]
theorem mM_lst {f : FM} {o : ME} {a : MA} {i : Nat} {ds : List D} (ho : o env S = .ok (.obj i) S1) (h : S1[i]? = some (.lst ds)) : mM "list" f o a env S = (a env S1).bind fun xs S2 => R.of (f (.obj i) xs S2) := by
  unfold mM
  rw [ho, bind_ok]
  have : tyOk "list" (.obj i) S1 = true := by unfold tyOk; simp only [h]; rfl
  rw [if_pos this]
theorem e_cutK {pre suf : List Nat} {k : Nat} (h : (pre ++ suf).length ≤ sizeLine) : fSl (sD (pre ++ suf)) (some (pre.length : Int)) (some ((pre.length + k : Nat) : Int)) S = some (sD (suf.take k), S) := by
  unfold fSl
  dsimp only
  rw [st_len, if_pos h]
  unfold cutS
  rw [st_len, HT.sIx_nat, HT.sIx_nat]
  simp only [List.toList_toArray]
  have e1 : min pre.length (pre ++ suf).length = pre.length := by simp
  rw [e1, List.drop_left]
  rcases Nat.le_total (pre.length + k) (pre ++ suf).length with h2 | h2
  · rw [Nat.min_eq_left h2]
    simp
  · rw [Nat.min_eq_right h2]
    rw [List.length_append] at h2 ⊢
    rw [List.take_of_length_le (by omega), List.take_of_length_le (by omega)]
theorem flat_strs (ys : List (List Nat)) : (ys.map sD).all flatD = true := by
  rw [List.all_eq_true]
  intro d hd
  obtain ⟨y, _, rfl⟩ := List.mem_map.mp hd
  rfl
theorem in_strs (x : List Nat) (ys : List (List Nat)) : inFlat (sD x) (ys.map sD) = some (decide (x ∈ ys)) := by
  unfold inFlat
  rw [if_pos ⟨rfl, flat_strs ys⟩]
  congr 1
  unfold inD
  rw [List.any_map]
  induction ys with
  | nil => rfl
  | cons y ys ih =>
    rw [List.any_cons, ih]
    have e : eqF (sD y) (sD x) = decide (y = x) := by
      show (st y == st x) = decide (y = x)
      by_cases h : y = x
      · subst h; simp
      · have : ¬ st y = st x := by rw [st_eq]; exact h
        simp [h, this]
    show (eqF (sD y) (sD x) || decide (x ∈ ys)) = decide (x ∈ y :: ys)
    rw [e]
    by_cases h : y = x
    · subst h; simp
    · have : ¬ x = y := fun z => h z.symm
      simp [h, this]
theorem e_inT {x : List Nat} {ys : List (List Nat)} : fIn (sD x) (.tup (ys.map sD)) S = some (.bl (decide (x ∈ ys)), S) := by
  unfold fIn inB
  dsimp only
  rw [in_strs]; rfl
theorem e_inL {x : List Nat} {ys : List (List Nat)} {i : Nat} (h : S[i]? = some (.lst (ys.map sD))) : fIn (sD x) (.obj i) S = some (.bl (decide (x ∈ ys)), S) := by
  have e0 : lstAt S i = some (ys.map sD) := by unfold lstAt; rw [h]
  unfold fIn inB
  dsimp only
  rw [e0]
  show Option.map _ (inFlat (sD x) (ys.map sD)) = _
  rw [in_strs]; rfl
theorem e_notinL {x : List Nat} {ys : List (List Nat)} {i : Nat} (h : S[i]? = some (.lst (ys.map sD))) : fNotIn (sD x) (.obj i) S = some (.bl (!decide (x ∈ ys)), S) := by
  have e0 : lstAt S i = some (ys.map sD) := by unfold lstAt; rw [h]
  unfold fNotIn inB
  dsimp only
  rw [e0]
  show Option.map _ (inFlat (sD x) (ys.map sD)) = _
  rw [in_strs]; rfl
theorem mM_ {T : String} {f : FM} {o : ME} {a : MA} : mM T f o a env S = (o env S).bind fun d S1 => if tyOk T d S1 = true then (a env S1).bind fun ds S2 => R.of (f d ds S2) else .no := (rfl)
theorem mM0_ {T : String} {f : FM} {o : ME} : mM0 T f o env S = (o env S).bind fun d S1 => if tyOk T d S1 = true then R.of (f d [] S1) else .no := (rfl)
theorem tyL {i : Nat} {ds : List D} (h : S[i]? = some (.lst ds)) : tyOk "list" (.obj i) S = true := by unfold tyOk; simp only [h]; rfl
theorem tyS {z : Str} : tyOk "str" (.str z) S = true := (rfl)
theorem ga0 {T : Sto} {x : MO} : (S ++ x :: T)[S.length]? = some x := by simp
theorem ga1 {T : Sto} {x y : MO} : (S ++ x :: y :: T)[S.length + 1]? = some y := by simp
theorem sa0 {T : Sto} {x x' : MO} : (S ++ x :: T).set S.length x' = S ++ x' :: T := by simp
theorem sa1 {T : Sto} {x y y' : MO} : (S ++ x :: y :: T).set (S.length + 1) y' = S ++ x :: y' :: T := by simp
theorem sAsg_ {a : ME} {g : MG} : sAsg a g env S = RS.of (a env S) env (kAsg g env) := (rfl)
/-! for -/
theorem sFor_ {a : MI} {g : MG} {b : MS} : sFor a g b env S = RS.of (a env S) env fun it S1 => forI it g b it.n 0 env S1 := (rfl)
theorem iRng_ {a : MA} : iRng a env S = (a env S).bind kRngI := (rfl)
theorem kRng1 {j : Int} (h : -(2 ^ 62) ≤ j ∧ j < 2 ^ 62) : kRngI [.int j] S = .ok (itRng 0 j.toNat) S := if_pos h
theorem kRng2 {i j : Int} (h : -(2 ^ 62) ≤ i ∧ i < 2 ^ 62 ∧ -(2 ^ 62) ≤ j ∧ j < 2 ^ 62) : kRngI [.int i, .int j] S = .ok (itRng i (j - i).toNat) S := if_pos h
theorem fr_end {lo : Int} {n k : Nat} {g : MG} {b : MS} : forI (itRng lo n) g b k n env S = .nx env S := by
  have e : (itRng lo n).f n S = some none := if_neg (Nat.lt_irrefl n)
  cases k <;> (unfold forI; simp only [e])
theorem fr_at {lo : Int} {n i : Nat} (h : i < n) : (itRng lo n).f i S = some (some (.int (lo + (i : Int)))) := if_pos h
theorem fr_nx {lo : Int} {n i j k : Nat} {b : MS} {env2 : Env} {S2 : Sto} (h : i < n) (hb : b (env.set j (some (.int (lo + (i : Int))))) S = .nx env2 S2) : forI (itRng lo n) (gN j) b (k + 1) i env S = forI (itRng lo n) (gN j) b k (i + 1) env2 S2 := by
  rw [forI]; simp only [fr_at h, gN, hb]
theorem fr_rt {lo : Int} {n i j k : Nat} {b : MS} {d : D} {S2 : Sto} (h : i < n) (hb : b (env.set j (some (.int (lo + (i : Int))))) S = .rt d S2) : forI (itRng lo n) (gN j) b (k + 1) i env S = .rt d S2 := by
  rw [forI]; simp only [fr_at h, gN, hb]
theorem fr_ex {lo : Int} {n i j k : Nat} {b : MS} {e : Xn} {env2 : Env} {S2 : Sto} (h : i < n) (hb : b (env.set j (some (.int (lo + (i : Int))))) S = .ex e env2 S2) : forI (itRng lo n) (gN j) b (k + 1) i env S = .ex e env2 S2 := by
  rw [forI]; simp only [fr_at h, gN, hb]
/-- turns over a fixed row -/
theorem fx_end {ds : List D} {k : Nat} {g : MG} {b : MS} : forI (itFix ds) g b k ds.length env S = .nx env S := by
  have e : (itFix ds).f ds.length S = some none := by show some (ds[ds.length]?) = some none; simp
  cases k <;> (unfold forI; simp only [e])
theorem fx_nx {ds : List D} {d : D} {i k : Nat} {g : MG} {b : MS} {env1 env2 : Env} {S2 : Sto} (h : ds[i]? = some d) (hg : g d env S = some env1) (hb : b env1 S = .nx env2 S2) : forI (itFix ds) g b (k + 1) i env S = forI (itFix ds) g b k (i + 1) env2 S2 := by
  have e : (itFix ds).f i S = some (some d) := by show some (ds[i]?) = some (some d); rw [h]
  rw [forI]; simp only [e, hg, hb]
theorem fx_rt {ds : List D} {d d' : D} {i k : Nat} {g : MG} {b : MS} {env1 : Env} {S2 : Sto} (h : ds[i]? = some d) (hg : g d env S = some env1) (hb : b env1 S = .rt d' S2) : forI (itFix ds) g b (k + 1) i env S = .rt d' S2 := by
  have e : (itFix ds).f i S = some (some d) := by show some (ds[i]?) = some (some d); rw [h]
  rw [forI]; simp only [e, hg, hb]
/-- turns over a list in the store -/
theorem fl_end {ds : List D} {n j k : Nat} {g : MG} {b : MS} (h : S[j]? = some (.lst ds)) : forI (itLst n j) g b k ds.length env S = .nx env S := by
  have e : (itLst n j).f ds.length S = some none := by show (lstAt S j).map _ = some none; unfold lstAt; rw [h]; simp
  cases k <;> (unfold forI; simp only [e])
theorem fl_at {ds : List D} {d : D} {n j i : Nat} (h : S[j]? = some (.lst ds)) (h2 : ds[i]? = some d) : (itLst n j).f i S = some (some d) := by
  show (lstAt S j).map _ = some (some d); unfold lstAt; rw [h]; simp [h2]
theorem fl_nx {ds : List D} {d : D} {n j i k : Nat} {g : MG} {b : MS} {env1 env2 : Env} {S2 : Sto} (h : S[j]? = some (.lst ds)) (h2 : ds[i]? = some d) (hg : g d env S = some env1) (hb : b env1 S = .nx env2 S2) : forI (itLst n j) g b (k + 1) i env S = forI (itLst n j) g b k (i + 1) env2 S2 := by
  rw [forI]; simp only [fl_at h h2, hg, hb]
theorem fl_rt {ds : List D} {d d' : D} {n j i k : Nat} {g : MG} {b : MS} {env1 : Env} {S2 : Sto} (h : S[j]? = some (.lst ds)) (h2 : ds[i]? = some d) (hg : g d env S = some env1) (hb : b env1 S = .rt d' S2) : forI (itLst n j) g b (k + 1) i env S = .rt d' S2 := by
  rw [forI]; simp only [fl_at h h2, hg, hb]
theorem iSeq_ {a : ME} : iSeq a env S = (a env S).bind kSeqI := (rfl)
theorem kSeqT {ds : List D} : kSeqI (.tup ds) S = .ok (itFix ds) S := (rfl)
theorem kSeqL {ds : List D} {j : Nat} (h : S[j]? = some (.lst ds)) : kSeqI (.obj j) S = .ok (itLst ds.length j) S := by
  unfold kSeqI lstAt; simp only [h]
end
end Mi

namespace Mi
open PySem PySem.Spec PyProof.Rows L2
/-! ### dicts whose keys are ints and texts -/
def keyD : D → Option Key
  | .int i => some (.inl i)
  | .str x => some (.inr x)
  | _ => none
def valD (kds : List (Key × D)) (k : Key) : Option D := (kds.find? fun kv => decide (kv.1 = k)).map (·.2)
def putD (kds : List (Key × D)) (k : Key) (v : D) : List (Key × D) := if (kds.any fun kv => decide (kv.1 = k)) then kds.map fun kv => if kv.1 = k then (kv.1, v) else kv else kds ++ [(k, v)]
theorem valD_pos {p : Key × D} {r : List (Key × D)} {k : Key} (e : p.1 = k) : valD (p :: r) k = some p.2 := by simp [valD, List.find?_cons, e]
theorem valD_neg {p : Key × D} {r : List (Key × D)} {k : Key} (e : ¬ p.1 = k) : valD (p :: r) k = valD r k := by simp [valD, List.find?_cons, e]
section
variable {K : PySem.W.Frag} {as : List Addr} {S : Sto} {H : Hp}
theorem key_v {v : V} {d : D} {k : Key} (r : Rv K as H v d) (h : keyD d = some k) : v = kV k := by
  cases d <;> first | (cases h; done) | skip
  case int i => cases h; exact r.int_
  case str x => cases h; exact r.str_
theorem Rvs.appx {vs us : List V} {ds es : List D} (r : Rvs K as H vs ds) (t : Rvs K as H us es) : Rvs K as H (vs ++ us) (ds ++ es) := by
  induction vs generalizing ds with
  | nil => cases r; exact t
  | cons v vs ih => cases r with | cons h q => exact .cons h (ih q)
theorem rkv_val : ∀ {kvs : List (Key × V)} {kds : List (Key × D)} (k : Key), Rkv K as H kvs kds → (valV kvs k = none ∧ valD kds k = none) ∨ ∃ v d, valV kvs k = some v ∧ valD kds k = some d ∧ Rv K as H v d
  | [], [], k, _ => .inl ⟨rfl, rfl⟩
  | [], _ :: _, k, h => by cases h.1
  | _ :: _, [], k, h => by cases h.1
  | p :: kvs, q :: kds, k, h => by
    obtain ⟨h1, h2⟩ := h
    have e1 : p.1 = q.1 := (List.cons.inj h1).1
    have e2 := (List.cons.inj h1).2
    cases h2 with
    | cons r t =>
      by_cases e : p.1 = k
      · exact .inr ⟨p.2, q.2, valV_pos e, valD_pos (e1 ▸ e), r⟩
      · rw [valV_neg e, valD_neg (fun z => e (e1.trans z))]
        exact rkv_val k ⟨e2, t⟩
theorem rkv_any (k : Key) {kvs : List (Key × V)} {kds : List (Key × D)} (h : Rkv K as H kvs kds) : (kvs.any fun kv => decide (kv.1 = k)) = kds.any fun kv => decide (kv.1 = k) := by
  have e : ∀ {β : Type} (l : List (Key × β)), (l.any fun kv => decide (kv.1 = k)) = (l.map (·.1)).any fun x => decide (x = k) := by
    intro β l; rw [List.any_map]; rfl
  rw [e, e, h.1]
theorem rkv_repl (k : Key) {v : V} {d : D} (r : Rv K as H v d) : ∀ {kvs : List (Key × V)} {kds : List (Key × D)}, Rkv K as H kvs kds → Rkv K as H (kvs.map fun kv => if kv.1 = k then (kv.1, v) else kv) (kds.map fun kv => if kv.1 = k then (kv.1, d) else kv)
  | [], [], h => h
  | [], _ :: _, h => by cases h.1
  | _ :: _, [], h => by cases h.1
  | p :: kvs, q :: kds, h => by
    obtain ⟨h1, h2⟩ := h
    have e1 : p.1 = q.1 := (List.cons.inj h1).1
    have e2 := (List.cons.inj h1).2
    cases h2 with
    | cons r1 t =>
      obtain ⟨i1, i2⟩ := rkv_repl k r ⟨e2, t⟩
      by_cases e : p.1 = k
      · have e' : q.1 = k := e1 ▸ e
        refine ⟨?_, ?_⟩
        · simp only [List.map_cons, if_pos e, if_pos e', e1]
          rw [i1]
        · simp only [List.map_cons, if_pos e, if_pos e']
          exact .cons r i2
      · have e' : ¬ q.1 = k := fun z => e (e1.trans z)
        refine ⟨?_, ?_⟩
        · simp only [List.map_cons, if_neg e, if_neg e', e1]
          rw [i1]
        · simp only [List.map_cons, if_neg e, if_neg e']
          exact .cons r1 i2
theorem rkv_put (k : Key) {v : V} {d : D} {kvs : List (Key × V)} {kds : List (Key × D)} (r : Rv K as H v d) (h : Rkv K as H kvs kds) : Rkv K as H (putK kvs k v) (putD kds k d) := by
  unfold putK putD
  rw [rkv_any k h]
  cases e : kds.any fun kv => decide (kv.1 = k) with
  | true => exact rkv_repl k r h
  | false =>
    obtain ⟨h1, h2⟩ := h
    refine ⟨?_, ?_⟩
    · show (kvs ++ [(k, v)]).map _ = (kds ++ [(k, d)]).map _
      rw [List.map_append, List.map_append, h1]; rfl
    · show Rvs K as H ((kvs ++ [(k, v)]).map _) ((kds ++ [(k, d)]).map _)
      rw [List.map_append, List.map_append]
      exact h2.appx (.cons r .nil)
theorem rkv_len {kvs : List (Key × V)} {kds : List (Key × D)} (h : Rkv K as H kvs kds) : kvs.length = kds.length := by
  have := congrArg List.length h.1
  rwa [List.length_map, List.length_map] at this
end
/-- {} -/
def mDNew : ME := fun _ S => .ok (.obj S.length) (S ++ [.dic []])
def fGet : FM := fun d ds S => match d, ds with
  | .obj i, [e] => match S[i]? with
    | some (.dic kds) => (keyD e).map fun k => ((valD kds k).getD .non, S)
    | _ => none
  | .obj i, [e, z] => match S[i]? with
    | some (.dic kds) => (keyD e).map fun k => ((valD kds k).getD z, S)
    | _ => none
  | _, _ => none
def fDPut (o i v : D) (S : Sto) : Option Sto := match o with
  | .obj j => (match S[j]? with
    | some (.dic kds) => (keyD i).bind fun k => if kds.length < sizeLine then some (S.set j (.dic (putD kds k v))) else none
    | _ => none)
  | _ => none
def sDPut (o i e : ME) : MS := fun env S => RS.of (e env S) env fun v S1 => RS.of (o env S1) env fun x S2 => RS.of (i env S2) env fun y S3 => match fDPut x y v S3 with
  | some S4 => .nx env S4
  | none => .no
section
variable {X : Cx} {W : WX}
theorem em_dnew {pos : Pos} : EM X W (.Dict [] [] pos) mDNew :=
  ⟨pe_imp pe_dnewK fun σ H Q ⟨as, env, S, re, rel, g⟩ p hp => by
    obtain ⟨rel', x, hj⟩ := rel.new (u := .dic []) hp ⟨[], upd_same, rfl, .nil⟩ rfl
    exact g (as ++ [p]) _ _ x rel' (.obj hj)⟩
theorem mt_fGet (hu : X.A.units + 64 < cLine) : MtR X "dict.get" (rFM X.K fGet) := by
  intro pins s σ H x xs v us Q I rx rxs ⟨as, S, d, ds, z, S', rel, rv, rvs, hf, q⟩
  have hu1 : X.A.units + 1 < cLine := by omega
  cases d <;> first | (cases hf; done) | skip
  case obj i =>
    match ds, rvs, hf with
    | [e], rvs, hf =>
      unfold fGet at hf
      dsimp only at hf
      split at hf
      · rename_i kds e0
        obtain ⟨k, hk, e2⟩ := Option.map_eq_some_iff.mp hf
        cases e2
        obtain ⟨a, kvs, rfl, ha, hH, rk⟩ := rv.dic_ rel e0
        obtain ⟨y, rfl, ry⟩ := rvs.sing
        cases key_v ry hk
        obtain rfl : v = Value.ref a := rx
        cases rxs with
        | cons r1 rr =>
          cases rr
          refine d_get1 hu1 I (DGet.k hH) r1 fun w' s' I' rw' => ?_
          rcases rkv_val k rk with ⟨q1, q2⟩ | ⟨v', d', q1, q2, r'⟩
          · rw [q1] at rw'; rw [q2] at q
            exact ⟨_, H, I', rw', q as H _ Ex.refl rel .non⟩
          · rw [q1] at rw'; rw [q2] at q
            exact ⟨_, H, I', rw', q as H _ Ex.refl rel r'⟩
      · cases hf
    | [e, z0], rvs, hf =>
      unfold fGet at hf
      dsimp only at hf
      split at hf
      · rename_i kds e0
        obtain ⟨k, hk, e2⟩ := Option.map_eq_some_iff.mp hf
        cases e2
        obtain ⟨a, kvs, rfl, ha, hH, rk⟩ := rv.dic_ rel e0
        obtain ⟨y, y2, rfl, ry, ry2⟩ := rvs.pair
        cases key_v ry hk
        obtain rfl : v = Value.ref a := rx
        cases rxs with
        | cons r1 rr =>
          cases rr with
          | cons r2 rr2 =>
            cases rr2
            refine d_get2 hu1 I (DGet.k hH) r1 r2 fun w' s' I' rw' => ?_
            rcases rkv_val k rk with ⟨q1, q2⟩ | ⟨v', d', q1, q2, r'⟩
            · rw [q1] at rw'; rw [q2] at q
              exact ⟨_, H, I', rw', q as H _ Ex.refl rel ry2⟩
            · rw [q1] at rw'; rw [q2] at q
              exact ⟨_, H, I', rw', q as H _ Ex.refl rel r'⟩
      · cases hf
    | [], _, hf => cases hf
    | _ :: _ :: _ :: _, _, hf => cases hf
theorem put_dic {K : PySem.W.Frag} {as : List Addr} {S : Sto} {H : Hp} {i : Nat} {a : Addr} {kds kds' : List (Key × D)} {kvs kvs' : List (Key × V)} (rel : Rel K as S H) (ha : as[i]? = some a) (hs : S[i]? = some (.dic kds)) (hH : H a = some (.dK kvs)) (ru : Rkv K as H kvs' kds') :
    Rel K as (S.set i (.dic kds')) (upd H a (.dK kvs')) ∧ Ex K as H as (upd H a (.dK kvs')) := by
  have x : Ex K as H as (upd H a (.dK kvs')) := Ex.mut (by rw [hH]; trivial)
  exact rel.put ha hs rfl rfl ⟨kvs', upd_same, ru.1, ru.2.mono x⟩
theorem sm_dput {o i e : Expr} {mo mi me : ME} {pos pos' : Pos} (hu : X.A.units + 64 < cLine) (ho : EM X W o mo) (hi : EM X W i mi) (he : EM X W e me) (hs : swapsWith e (some (.Subscript o i pos')) pos.line X.env = pure false := by rfl) :
    SM X W (.Assign [.Subscript o i pos'] e pos) (sDPut mo mi me) :=
  ⟨ps_imp (ps_dput (by omega) ho.pe hi.pe he.pe hs) fun Dn σ H q => tS_of (f := fun env v S1 => RS.of (mo env S1) env fun x S2 => RS.of (mi env S2) env fun y S3 => match fDPut x y v S3 with
    | some S4 => .nx env S4
    | none => .no) q fun as env d S1 as1 H1 v re rel rv g1 =>
    ⟨as1, env, S1, re, rel, GoS.ofE re g1 fun x S2 as2 H2 xv x2 r2 rx g2 => ⟨as2, env, S2, re.mono x2, r2, GoS.ofE (re.mono x2) g2 fun y S3 as3 H3 yv x3 r3 ry g3 => by
      cases e0 : fDPut x y d S3 with
      | none => rw [e0] at g3; exact g3.elim
      | some S4 =>
        rw [e0] at g3
        cases x <;> first | (cases e0; done) | skip
        rename_i j
        unfold fDPut at e0
        dsimp only at e0
        split at e0
        · rename_i kds e1
          obtain ⟨k, hk, e2⟩ := Option.bind_eq_some_iff.mp e0
          split at e2
          · rename_i hl
            cases e2
            obtain ⟨a, kvs, rfl, ha, hH, rk⟩ := (rx.mono x3).dic_ r3 e1
            cases key_v ry hk
            obtain ⟨r4, x4⟩ := put_dic r3 ha e1 hH (rkv_put k ((rv.mono x2).mono x3) rk)
            exact ⟨a, _, rfl, DPut.k hH (by rw [rkv_len rk]; exact hl), g3 as3 _ σ x4 r4 (((re.mono x2).mono x3).mono x4)⟩
          · cases e2
        · cases e0⟩⟩⟩
end
end Mi

namespace Mi
open PySem PySem.Spec PyProof.Rows L2
/-! ### enumerate over a tuple -/
theorem meets_enumB {v : Value} {o : Obj} {H : Heap → Prop} (B : Begins v o H) :
    Meets (Builtin.«enumerate.__new__» ⟨[.type "enumerate", v], []⟩) (fun _ R s => H s.heap ∧
      R (.ok (.ret (.ref (s.heap.push o).objs.size))) { s with heap := (s.heap.push o).push { cls := .type "enumerate", data := .fields #[.none, .bool false, .ref s.heap.objs.size, rawInt 0, .none, .none] } }) :=
  .of_wp fun prog w A R s h => by
    obtain ⟨hp, g, d, tk, os⟩ := s; obtain ⟨h1, h⟩ := h
    have hsub := sub_enumerate
    have q1 : ∀ {A' : Around} {E : Value → Shared → Prop} {Q : Value → Shared → Prop}, Q (.ref hp.objs.size) ⟨hp.push o, g, d, tk, os⟩ → wpAny (model prog w) A' (pyIter v) Q E ⟨hp, g, d, tk, os⟩ :=
      fun q => B.iter prog w _ _ ⟨hp, g, d, tk, os⟩ _ h1 q
    wp_walk using q1
    refine wpAny_stack_any fun st => wpAny_pure ?_
    split
    · rename_i c _ _ _ _ _
      cases (c == Value.type "enumerate")
      · wp_walk using q1
        exact ⟨_, rfl, h⟩
      · wp_walk using q1
        exact ⟨_, rfl, h⟩
    · wp_walk using q1
      exact ⟨_, rfl, h⟩
theorem call_enumB {prog : Program} {w : World} {A : Around} {E : Value → Shared → Prop} {s : Shared} {v : Value} {o : Obj} {H : Heap → Prop} {Q : Value → Shared → Prop} (B : Begins v o H) (h1 : H s.heap)
    (h : ∀ h', IsEnum h' (s.heap.objs.size + 1) s.heap.objs.size 0 .none → h'.get? s.heap.objs.size = some o → h'.objs.size = s.heap.objs.size + 2 →
      (∀ b o, s.heap.get? b = some o → h'.get? b = some o) → Q (.ref (s.heap.objs.size + 1)) { s with heap := h' }) :
    wpAny (model prog w) A (call (.type "enumerate") [v]) Q E s := by
  refine callType_new F.called_enumerate (by decide) (F.typeCall_enumerate_1 _) (F.newCall_enumerate_1 _) (fun obj => F.args_object_init_2 obj _) F.entry_enumerate_new
    (meets_enumB B) ⟨h1, ?_⟩
  have hz : (s.heap.push o).objs.size = s.heap.objs.size + 1 := Heap.size_push ..
  show _ ∧ _
  rw [hz]
  have he : IsEnum ((s.heap.push o).push { cls := .type "enumerate", data := .fields #[.none, .bool false, .ref s.heap.objs.size, rawInt 0, .none, .none] }) (s.heap.objs.size + 1) s.heap.objs.size 0 .none := by
    have := Heap.get?_push_size (s.heap.push o) (o := { cls := .type "enumerate", data := .fields #[.none, .bool false, .ref s.heap.objs.size, rawInt 0, .none, .none] }) rfl
    rw [hz] at this; exact this
  refine ⟨⟨_, he, rfl⟩, h _ he (Heap.get?_push_of_some _ (Heap.get?_push_size _ B.free)) (by rw [Heap.size_push, hz]) fun b o x => Heap.get?_push_of_some _ (Heap.get?_push_of_some _ x)⟩
/-- the tuple at a, each item in a new pair -/
def IteT (K : PySem.W.Frag) (a : Addr) : It :=
  ⟨fun i H => ∃ (xs : List V) (x : V), SqT K H a xs ∧ xs[i]? = some x, fun i H v H' => ∃ T x, v = .ref T ∧ H T = none ∧ H' = upd H T (.tup [.int (i : Nat), x]) ∧ ∀ xs, SqT K H a xs → xs[i]? = some x, fun i H => ∃ xs : List V, SqT K H a xs ∧ xs.length ≤ i⟩
theorem enumT_end {prog : Program} {w : World} {A : Around} {E : Value → Shared → Prop} {s : Shared} {e it a : Addr} {i : Nat} {items : Array Value} {old : Value} {Q : Option Value → Shared → Prop} (hh : A.handled = none)
    (he : IsEnum s.heap e it ((i : Nat) : Int) old) (hit : s.heap.IsTupleIter it a i) (hl : s.heap.IsTuple a items) (hx : items[i]? = none)
    (hQ : ∀ h', Heap.ExtBut it s.heap h' → Q none { s with heap := h' }) : wpAny (model prog w) A (pyNext (.ref e)) Q E s := by
  have hT : s.TypeIs (.ref e) "enumerate" := ⟨_, he, rfl⟩
  unfold pyNext
  refine wpAny_bind (wpAny_attempt (wpAny_callSpecial?_slot (name := Str.ofString "__next__") hT F.slot_enumerate_next
    (wpAny_call_entry F.slot_enumerate_next hT F.entry_enumerate_next ?_ (F.args_enumerate_next_1 _))))
  show wpAny _ _ (field (.ref e) 2 >>= _) _ _ _
  refine wpAny_bind (wpAny_field he rfl (x := .ref it) rfl ?_)
  refine wpAny_bind (wpAny_nextOf_tuple_end (show A.in1.handled = none from hh) hit hl hx fun h' x he' hx' => ?_)
  obtain ⟨o, ho, hc⟩ := hx'
  refine wpAny_bind (wpAny_isInstance (T := "StopIteration") (b := true) ⟨o, ho, hc⟩ isSubtype_stop ?_)
  exact wpAny_pure (hQ _ he')
theorem turn_enumT {P : Program} {w : World} {K : PySem.W.Frag} {elts : List Expr} {kk : Nat} {tpos : Pos} (a e it : Addr) (hea : e ≠ a) (hai : a ≠ it) :
    Turn P w K (.Tuple elts kk tpos) (IteT K a) [e, it] e (fun i h => (∃ old, IsEnum h e it ((i : Nat) : Int) old) ∧ h.IsTupleIter it a i ∧ e ≠ it) where
  mem := by simp
  obj := fun i h st b hb => by
    obtain ⟨⟨old, he⟩, ⟨o, ho, hc, hd⟩, _⟩ := st
    have e' : b = e ∨ b = it := by simpa using hb
    rcases e' with z | z
    · rw [z]; exact ⟨_, he, fun v q => nomatch q⟩
    · rw [z]; exact ⟨o, ho, fun v q => by rw [hd] at q; cases q⟩
  keep := fun i h h' st k => let ⟨⟨old, he⟩, hi, hne⟩ := st; ⟨⟨old, k e (by simp) _ he⟩, hi.at fun o q => k it (by simp) o q, hne⟩
  item := by
    intro X hP hw hK hc i pins s σ H E I hf st hg
    subst hP hw hK
    obtain ⟨⟨old, he⟩, hit, hne⟩ := st
    obtain ⟨xs, x, hq, hx⟩ := hg
    obtain ⟨its, rv, p, hz⟩ := I.tuple hq
    obtain ⟨u, hu, ru⟩ := rv.get hx
    have hel : e < s.heap.objs.size := Heap.lt_size he
    have hil : it < s.heap.objs.size := by obtain ⟨_, q, _⟩ := hit; exact Heap.lt_size q
    have D := Draws.tuple (prog := X.prog) (w := X.w) (A := X.A.in1) (show X.A.in1.handled = none from I.ok.hd hc) it a hai its.toArray
    have hef : e ∉ [it, a] := by simp only [List.mem_cons, List.not_mem_nil, or_false]; rintro (z | z); exact hne z; exact hea z
    have hlt : i < its.toArray.size := by
      have := (List.getElem?_eq_some_iff.mp hu).1
      simpa using this
    refine wpAny_pyNext_enum_itemD D he ⟨hit, p⟩ hlt hne hef fun u' h' tk hP ho hit' hT hsz hk => ?_
    have hu' : u' = u := by
      have : its[i]? = some u' := by simpa using hP
      rw [hu] at this; exact (Option.some.inj this).symm
    subst hu'
    refine ⟨_, rfl, wpAny_letOwnedTupleGo_enum (s := { s with heap := h', toks := tk + 1 }) ho fun h'' he' sb => ?_⟩
    have hT2 : h''.get? s.heap.objs.size = some { cls := .type "tuple", data := .seq #[.int i tk, u'] } := (sb.2 _ (Nat.ne_of_gt hel)).trans hT
    have new : ObjOk X.prog X.w (upd H s.heap.objs.size (.tup [.int (i : Nat), x])) h'' s.heap.objs.size (.tup [.int (i : Nat), x]) :=
      ⟨by show 2 ≤ sizeLine; decide, [.int i tk, u'], .cons ⟨_, rfl⟩ (.cons ru .nil), ⟨_, hT2, rfl, _, rfl⟩⟩
    have I1 : Inv X pins σ (upd H s.heap.objs.size (.tup [.int (i : Nat), x])) { s with heap := h'', toks := tk + 1 } :=
      I.turnedNew (ch := [e, it]) (fun b ob hb q => (sb.2 b (fun z => hb (by simp [z]))).trans (hk b ob (fun z => hb (by simp [z])) (fun z => hb (by simp [z])) q)) hf (Nat.le_refl _) new
    refine ⟨.ref s.heap.objs.size, _, I1, rfl, ⟨_, x, rfl, I.hok.fresh (Nat.le_refl _), rfl, fun ys hy => by rw [I.tuple_inj hy hq]; exact hx⟩, ⟨⟨u', ?_⟩, hit'.1.at fun o q => (sb.2 it (Ne.symm hne)).trans q, hne⟩, fun b hb => ?_⟩
    · have e1 : ((i + 1 : Nat) : Int) = (i : Int) + 1 := by omega
      rw [e1]; exact he'
    · have hb' : b < s.heap.objs.size := by
        have e' : b = e ∨ b = it := by simpa using hb
        rcases e' with z | z
        · rw [z]; exact hel
        · rw [z]; exact hil
      rw [upd_ne (Nat.ne_of_lt hb')]
      exact (hf b hb).1
  done := by
    intro X hP hw hK hc i pins s σ H E I hf st hg
    subst hP hw hK
    obtain ⟨⟨old, he⟩, hit, hne⟩ := st
    obtain ⟨xs, hq, hx⟩ := hg
    obtain ⟨its, rv, p, hz⟩ := I.tuple hq
    obtain ⟨f0, f1, f2, f3, f4, f5⟩ := hf it (by simp)
    have hl := rv.length
    exact enumT_end (I.ok.hd hc) he hit p (by simp; omega) fun h' eb => ⟨rfl, I.turned (t' := s.toks) (fun b o hb q => eb b o hb q) f0 f1 f3 f4 f5⟩
  self := fun A i s Q E st h => let ⟨⟨_, he⟩, _⟩ := st; wpAny_pyIter_enum he h

def iEnumT2 (K : PySem.W.Frag) (ta : TA) : TI := fun σ H R => ta σ H fun vs H1 => ∃ a, vs = [.ref a] ∧ (((∃ xs, SqL K H1 a xs) ∧ R (Ite K a) H1) ∨ ((∃ xs, SqT K H1 a xs) ∧ R (IteT K a) H1))
theorem pi_enum2 {X : Cx} {e : Expr} {ta : TA} {p pos tpos : Pos} {elts : List Expr} {kk : Nat} (hg : Gl X "enumerate") (hm : X.mg "enumerate" = none) (ha : PA X [e] ta) (hs : starEach [e] X.env = [(false, eval e X.env)] := by rfl) :
    PI X (.Tuple elts kk tpos) (.Call (.Name "enumerate" p) [e] [] pos) (iEnumT2 X.K ta) := by
  refine ⟨fun pins s σ H R I h => ?_⟩
  refine Call_ (ld_blt I hg hm boot_enumerate (PyProof.Rows.callWith_type1 (thn (ha.run pos pins s σ H _ I h) fun us s1 ⟨vs, H1, I1, r1, q1⟩ => ?_) hs rfl))
  obtain ⟨a, ex, q1⟩ := q1
  subst ex
  cases r1 with
  | cons r rr =>
    cases rr
    cases r
    rcases q1 with ⟨⟨xs, hq⟩, q⟩ | ⟨⟨xs, hq⟩, q⟩
    · obtain ⟨its, rv, p', hz⟩ := I1.list hq
      refine call_enumerate_list p'.isList fun h' he hit hsz hk => wpAny_pyIter_enum he ?_
      have I2 : Inv X pins σ H1 { s1 with heap := h' } := I1.kept (t' := s1.toks) hk
      refine ⟨s1.heap.objs.size + 1, [s1.heap.objs.size + 1, s1.heap.objs.size], _, _, H1, rfl, I2, turn_enum a (s1.heap.objs.size + 1) s1.heap.objs.size, ⟨⟨.none, he⟩, hit, Nat.succ_ne_self _⟩, fun b hb => ?_, q⟩
      have e' : b = s1.heap.objs.size + 1 ∨ b = s1.heap.objs.size := by simpa using hb
      have hle : s1.heap.objs.size ≤ b := by
        rcases e' with z | z
        · rw [z]; exact Nat.le_add_right _ _
        · rw [z]; exact Nat.le_refl _
      exact I1.fpOk hle (I1.hok.fresh hle)
    · obtain ⟨its, rv, p', hz⟩ := I1.tuple hq
      have hlt : a < s1.heap.objs.size := by obtain ⟨o, e, _⟩ := p'; exact Heap.lt_size e
      refine call_enumB (begins_tuple a its.toArray) (show s1.heap.IsTuple a its.toArray from p') fun h' he hit hsz hk => wpAny_pyIter_enum he ?_
      have I2 : Inv X pins σ H1 { s1 with heap := h' } := I1.kept (t' := s1.toks) hk
      refine ⟨s1.heap.objs.size + 1, [s1.heap.objs.size + 1, s1.heap.objs.size], _, _, H1, rfl, I2, turn_enumT a (s1.heap.objs.size + 1) s1.heap.objs.size (Nat.ne_of_gt (Nat.lt_succ_of_lt hlt)) (Nat.ne_of_lt hlt), ⟨⟨.none, he⟩, ⟨_, hit, rfl, rfl⟩, Nat.succ_ne_self _⟩, fun b hb => ?_, q⟩
      have e' : b = s1.heap.objs.size + 1 ∨ b = s1.heap.objs.size := by simpa using hb
      have hle : s1.heap.objs.size ≤ b := by
        rcases e' with z | z
        · rw [z]; exact Nat.le_add_right _ _
        · rw [z]; exact Nat.le_refl _
      exact I1.fpOk hle (I1.hok.fresh hle)
def itEnumT (es : List D) : MIt := ⟨es.length, fun i _ => some (es[i]?.map fun d => .tup [.int (i : Int), d])⟩
def kEnumA (ds : List D) (S : Sto) : R MIt := match ds with
  | [.obj j] => (match lstAt S j with
    | some ds => .ok (itEnumL ds.length j) S
    | none => .no)
  | [.tup es] => .ok (itEnumT es) S
  | _ => .no
def iEnumA (a : MA) : MI := fun env S => (a env S).bind kEnumA
theorem iteT_ok {K : PySem.W.Frag} {as1 : List Addr} {H1 : Hp} {a : Addr} {xs : List V} {ds : List D} (ha : SqT K H1 a xs) (ra : Rvs K as1 H1 xs ds) : ItOk K as1 H1 (IteT K a) (itEnumT ds) where
  stop := fun as S H i x rel e => ⟨xs, x.tup _ _ ha, by
    have e3 : ds[i]?.map (fun d => D.tup [.int (i : Int), d]) = none := Option.some.inj e
    rw [ra.len]; exact List.getElem?_eq_none_iff.mp (Option.map_eq_none_iff.mp e3)⟩
  go := fun as S H i d x rel e => by
    have e3 : ds[i]?.map (fun d => D.tup [.int (i : Int), d]) = some d := Option.some.inj e
    obtain ⟨d0, e4, e5⟩ := Option.map_eq_some_iff.mp e3
    subst e5
    obtain ⟨v, hv, rv⟩ := (ra.mono x).get e4
    have ha' := x.tup _ _ ha
    refine ⟨⟨xs, v, ha', hv⟩, fun y H' hy' => ?_⟩
    obtain ⟨T, x', rfl, hT, rfl, hy'⟩ := hy'
    have e6 := hy' xs ha'
    rw [hv] at e6
    cases e6
    exact ⟨Ex.fresh hT, rel.fresh hT, .tup (SqT.of upd_same) (.cons (.int _) (.cons (rv.mono (Ex.fresh hT)) .nil))⟩
section
variable {X : Cx} {W : WX}
theorem im_enumA {e : Expr} {m : ME} {elts : List Expr} {kk : Nat} {p pos tpos : Pos} (hm : X.mg "enumerate" = none) (h : EM X W e m) (hg : Gl X "enumerate" := by rfl) (hs : starEach [e] X.env = [(false, eval e X.env)] := by rfl) :
    IM X W (.Tuple elts kk tpos) (.Call (.Name "enumerate" p) [e] [] pos) (iEnumA (mCons m mNil)) :=
  ⟨pi_imp (pi_enum2 hg hm (am_cons h am_nil (by rw [hs]; rfl)).pa hs) fun σ H R q => tU_bind (f := fun _ => kEnumA) q fun as env ds S1 as1 H1 vs re rel rvs g => by
    unfold kEnumA at g
    split at g
    · rename_i j
      cases e0 : lstAt S1 j with
      | none => rw [e0] at g; exact g.elim
      | some es =>
        rw [e0] at g
        obtain ⟨v, rfl, r⟩ := rvs.sing
        obtain ⟨a, xs, rfl, hj, ha, ra⟩ := r.seq_ rel e0
        exact ⟨a, rfl, .inl ⟨⟨xs, ha⟩, g as1 H1 _ Ex.refl rel (ite_ok hj)⟩⟩
    · rename_i es
      obtain ⟨v, rfl, r⟩ := rvs.sing
      obtain ⟨a, xs, rfl, ha, ra⟩ := r.tup_
      exact ⟨a, rfl, .inr ⟨⟨xs, ha⟩, g as1 H1 _ Ex.refl rel (iteT_ok ha ra)⟩⟩
    · exact g.elim⟩
end
end Mi

namespace Mi
open PySem PySem.Spec PyProof.Rows L2
/-! ### list(enumerate(row)): each pair is kept by the list -/
theorem en_nolen : typeLookup (.type "enumerate") "__len__" = pure none := by rw [typeLookup_type, builtinLookup_eq_fast]; kernel_rfl
theorem en_nohint : typeLookup (.type "enumerate") "__length_hint__" = pure none := by rw [typeLookup_type, builtinLookup_eq_fast]; kernel_rfl
/-- the numbering stands ahead of item i: nothing was given yet, or the last pair T is kept -/
def EnAt (h : Heap) (e it : Addr) (i : Nat) : Prop := (∃ old, IsEnum h e it ((i : Nat) : Int) old) ∨ ∃ old T f o, IsEnumHeld h e it ((i : Nat) : Int) old T f ∧ h.get? T = some o ∧ T ≠ e ∧ T ≠ it
theorem EnAt.get {h : Heap} {e it : Addr} {i : Nat} (a : EnAt h e it i) : ∃ o, h.get? e = some o ∧ o.cls = .type "enumerate" ∧ (∀ v, o.data ≠ .cell v) := by
  rcases a with ⟨old, he⟩ | ⟨old, T, f, o, he, _⟩
  · exact ⟨_, he, rfl, fun v q => nomatch q⟩
  · exact ⟨_, he, rfl, fun v q => nomatch q⟩
theorem EnAt.keep {h h' : Heap} {e it Sa : Addr} {i : Nat} (a : EnAt h e it i) (he : e ≠ Sa) (k : ∀ b o, b ≠ Sa → h.get? b = some o → h'.get? b = some o) (kS : ∀ o, h.get? Sa = some o → ∃ o', h'.get? Sa = some o') : EnAt h' e it i := by
  rcases a with ⟨old, q⟩ | ⟨old, T, f, o, q, hT, h1, h2⟩
  · exact .inl ⟨old, k e _ he q⟩
  · by_cases z : T = Sa
    · subst z
      obtain ⟨o', q'⟩ := kS o hT
      exact .inr ⟨old, T, f, o', k e _ he q, q', h1, h2⟩
    · exact .inr ⟨old, T, f, o, k e _ he q, k T o z hT, h1, h2⟩
section
variable {prog : Program} {w : World} {A : Around} {E : Value → Shared → Prop} {s : Shared} {e it : Addr} {fp : List Addr} {n i : Nat} {P : Nat → Value → Prop} {St : Nat → Heap → Prop}
theorem next_held {old : Value} {T : Addr} {f : Bool} {oT : Obj} {Q : Value → Shared → Prop} (D : Draws prog w A it fp n P St) (he : IsEnumHeld s.heap e it ((i : Nat) : Int) old T f) (hT : s.heap.get? T = some oT) (hTe : T ≠ e) (hTi : T ≠ it) (hst : St i s.heap) (hlt : i < n) (hne : e ≠ it) (hef : e ∉ fp)
    (hQ : ∀ x h' tk, P i x → IsEnumHeld h' e it ((i : Int) + 1) old T true → St (i + 1) h' → h'.get? s.heap.objs.size = some { cls := .type "tuple", data := .seq #[.int i tk, x] } → h'.objs.size = s.heap.objs.size + 1 →
      (∀ b o, b ≠ e → b ≠ it → s.heap.get? b = some o → h'.get? b = some o) → Q (.ref s.heap.objs.size) { s with heap := h', toks := tk + 1 }) :
    wpAny (model prog w) A (Builtin.«enumerate.__next__» ⟨[.ref e], []⟩) (fun fin s' => ∃ v, fin = .done (.ret v) ∧ Q v s') E s := by
  obtain ⟨hp, g, d, tk₀, os⟩ := s
  show wpAny _ _ (field (.ref e) 2 >>= _) _ _ _
  refine wpAny_bind (wpAny_field he rfl (x := .ref it) rfl ?_)
  refine wpAny_bind (D.item i _ _ _ hlt hst fun x a1 tk px st1 sb1 => ?_)
  have e1 : IsEnumHeld a1 e it i old T f := (sb1.2 e hne).trans he
  show wpAny _ _ (field (.ref e) 3 >>= _) _ _ ⟨a1, g, d, tk, os⟩
  refine wpAny_bind (wpAny_field e1 rfl (x := rawInt i) rfl ?_)
  show wpAny _ _ (field (.ref e) 4 >>= _) _ _ ⟨a1, g, d, tk, os⟩
  refine wpAny_bind (wpAny_field e1 rfl (x := .none) rfl ?_)
  show wpAny _ _ (mkInt i >>= _) _ _ ⟨a1, g, d, tk, os⟩
  refine wpAny_bind (wpAny_mkInt ?_)
  show wpAny _ _ (setField (.ref e) 3 (rawInt ((i : Int) + 1)) >>= _) _ _ ⟨a1, g, d, tk + 1, os⟩
  refine wpAny_bind (wpAny_setField_rec e1 (by simp) fun a2 e2 sb2 => ?_)
  show wpAny _ _ (setField (.ref e) 4 .none >>= _) _ _ ⟨a2, g, d, tk + 1, os⟩
  refine wpAny_bind (wpAny_setField_rec e2 (by simp) fun a3 e3 sb3 => ?_)
  show wpAny _ _ (newTuple [.int i tk, x] >>= _) _ _ ⟨a3, g, d, tk + 1, os⟩
  have z3 : a3.objs.size = hp.objs.size := sb3.1.trans (sb2.1.trans sb1.1)
  have k3 : ∀ b o, b ≠ e → b ≠ it → hp.get? b = some o → a3.get? b = some o := fun b o n1 n2 q => sb3.extBut b o n1 (sb2.extBut b o n1 (sb1.extBut b o n2 q))
  have e3' : IsEnumHeld a3 e it ((i : Int) + 1) old T f := e3
  refine wpAny_bind (wpAny_newTuple ?_)
  have e4 : IsEnumHeld (a3.push { cls := .type "tuple", data := .seq #[.int i tk, x] }) e it ((i : Int) + 1) old T f := Heap.get?_push_of_some _ e3'
  have t4 := Heap.get?_push_size a3 (o := { cls := .type "tuple", data := .seq #[.int i tk, x] }) rfl
  have s4 := Heap.size_push a3 { cls := .type "tuple", data := .seq #[.int i tk, x] }
  have k4 : ∀ b o, b ≠ e → b ≠ it → hp.get? b = some o → (a3.push { cls := .type "tuple", data := .seq #[.int i tk, x] }).get? b = some o := fun b o n1 n2 q => Heap.get?_push_of_some _ (k3 b o n1 n2 q)
  have st4 : St (i + 1) (a3.push { cls := .type "tuple", data := .seq #[.int i tk, x] }) := D.frame _ _ _ st1 fun b hb o q => by
    have n1 : b ≠ e := fun z => hef (z ▸ hb)
    exact Heap.get?_push_of_some _ (sb3.extBut b o n1 (sb2.extBut b o n1 q))
  generalize a3.push { cls := .type "tuple", data := .seq #[.int i tk, x] } = a4 at e4 t4 s4 k4 st4
  rw [z3] at t4 s4
  show wpAny _ _ (Builtin.SmallTypes.ownedTupleIsFree (.ref e) >>= _) _ _ ⟨a4, g, d, tk + 1, os⟩
  rw [z3]
  have hel : e < hp.objs.size := Heap.lt_size he
  refine wpAny_bind (wpAny_tupleHeld_enum (s := ⟨a4, g, d, tk + 1, os⟩) e4 (k4 T oT hTe hTi hT) fun a5 e5 sb5 => ?_)
  have sb5' : Heap.SameBut e a4 a5 := sb5
  simp only [Bool.false_eq_true, if_false]
  refine wpAny_pure ⟨_, rfl, hQ x a5 tk px e5 ?_ (sb5'.extBut _ _ (Nat.ne_of_gt hel) t4) (sb5'.1.trans s4) fun b o n1 n2 q => sb5'.extBut b o n1 (k4 b o n1 n2 q)⟩
  exact D.frame _ _ _ st4 fun b hb o q => sb5'.extBut b o (fun z => hef (z ▸ hb)) q
theorem next_en {Q : Option Value → Shared → Prop} (D : Draws prog w A.in1 it fp n P St) (a : EnAt s.heap e it i) (hst : St i s.heap) (hlt : i < n) (hne : e ≠ it) (hef : e ∉ fp) (hil : it < s.heap.objs.size)
    (hQ : ∀ x h' tk, P i x → EnAt h' e it (i + 1) → St (i + 1) h' → h'.get? s.heap.objs.size = some { cls := .type "tuple", data := .seq #[.int i tk, x] } → h'.objs.size = s.heap.objs.size + 1 →
      (∀ b o, b ≠ e → b ≠ it → s.heap.get? b = some o → h'.get? b = some o) → Q (some (.ref s.heap.objs.size)) { s with heap := h', toks := tk + 1 }) : wpAny (model prog w) A (pyNext (.ref e)) Q E s := by
  have ei : ((i + 1 : Nat) : Int) = (i : Int) + 1 := by omega
  rcases a with ⟨old, he⟩ | ⟨old, T, f, o, he, hT, h1, h2⟩
  · have hel : e < s.heap.objs.size := Heap.lt_size he
    refine wpAny_pyNext_enum_itemD D he hst hlt hne hef fun x h' tk px out st t z k => hQ x h' tk px (.inr ⟨x, s.heap.objs.size, false, _, by rw [ei]; exact out, t, Nat.ne_of_gt hel, Nat.ne_of_gt hil⟩) st t z k
  · have hTy : s.TypeIs (.ref e) "enumerate" := ⟨_, he, rfl⟩
    unfold pyNext
    refine wpAny_bind (wpAny_attempt (wpAny_callSpecial?_slot (name := Str.ofString "__next__") hTy F.slot_enumerate_next
      (wpAny_call_entry F.slot_enumerate_next hTy F.entry_enumerate_next (next_held D he hT h1 h2 hst hlt hne hef fun x h' tk px hh st t z k => wpAny_pure ?_) (F.args_enumerate_next_1 _))))
    exact hQ x h' tk px (.inr ⟨old, T, true, o, by rw [ei]; exact hh, k T o h1 h2 hT, h1, h2⟩) st t z k
theorem end_en {Q : Option Value → Shared → Prop} (D : Draws prog w A.in1 it fp n P St) (a : EnAt s.heap e it i) (hst : St n s.heap)
    (hQ : ∀ h', Heap.ExtBut it s.heap h' → Q none { s with heap := h' }) : wpAny (model prog w) A (pyNext (.ref e)) Q E s := by
  rcases a with ⟨old, he⟩ | ⟨old, T, f, o, he, _⟩
  · exact wpAny_pyNext_enum_endD D he hst hQ
  · have hTy : s.TypeIs (.ref e) "enumerate" := ⟨_, he, rfl⟩
    unfold pyNext
    refine wpAny_bind (wpAny_attempt (wpAny_callSpecial?_slot (name := Str.ofString "__next__") hTy F.slot_enumerate_next
      (wpAny_call_entry F.slot_enumerate_next hTy F.entry_enumerate_next ?_ (F.args_enumerate_next_1 _))))
    show wpAny _ _ (field (.ref e) 2 >>= _) _ _ _
    refine wpAny_bind (wpAny_field he rfl (x := .ref it) rfl ?_)
    refine wpAny_bind (D.done _ _ _ hst fun h' u hx ⟨o', q1, q2⟩ => ?_)
    exact wpAny_bind (wpAny_isInstance (T := "StopIteration") (b := true) ⟨o', q1, q2⟩ isSubtype_stop (wpAny_pure (hQ _ hx)))
end
/-! the loop -/
def enD : Nat → List D → List D
  | _, [] => []
  | i, d :: ds => .tup [.int (i : Int), d] :: enD (i + 1) ds
theorem enD_len : ∀ (i : Nat) (ds : List D), (enD i ds).length = ds.length
  | _, [] => rfl
  | i, _ :: ds => congrArg (· + 1) (enD_len (i + 1) ds)
theorem enD_snoc : ∀ (i : Nat) (ds : List D) (d : D), enD i (ds ++ [d]) = enD i ds ++ [.tup [.int ((i + ds.length : Nat) : Int), d]]
  | i, [], d => rfl
  | i, x :: ds, d => by
    show _ :: enD (i + 1) (ds ++ [d]) = _ :: (enD (i + 1) ds ++ _)
    rw [enD_snoc (i + 1) ds d, show i + 1 + ds.length = i + (x :: ds).length by simp; omega]
section
variable {X : Cx} {pins : List (Addr × Obj)} {σ : L2.St} {as1 : List Addr} {S0 : Sto} {H1 : Hp} {e it Sa : Addr} {fp : List Addr} {xs : List V} {ds : List D} {its : List Value} {A : Around} {St : Nat → Heap → Prop} {res : Value} {R : Result → Shared → Prop}
theorem ext_loop (D : Draws X.prog X.w A.in1.in1 it fp its.length (fun i v => its[i]? = some v) St) (hif : it ∈ fp) (hne : e ≠ it) (hef : e ∉ fp) (hSe : e ≠ Sa) (hSf : Sa ∉ fp) (rv : Vals xs its) (rd : Rvs X.K as1 H1 xs ds) (hz : its.length ≤ sizeLine) (hSn : S0.length = as1.length)
    (hR : ∀ s' H', L2.Inv X pins σ H' s' → Rel X.K (as1 ++ [Sa]) (S0 ++ [.lst (enD 0 ds)]) H' → Ex X.K as1 H1 (as1 ++ [Sa]) H' → R (.ok (.ret res)) s') :
    ∀ (k i : Nat) (s : Shared) (H : Hp), its.length = i + k → L2.Inv X pins σ H s → St i s.heap → EnAt s.heap e it i → Rel X.K (as1 ++ [Sa]) (S0 ++ [.lst (enD 0 (ds.take i))]) H → Ex X.K as1 H1 (as1 ++ [Sa]) H → (∀ b ∈ [e, it], FpOk X pins H b) →
      codeAny (model X.prog X.w) A (.builtin "list.extend.loop" ⟨[.ref Sa, .ref e, res], []⟩) R s := by
  have hl1 : xs.length = its.length := rv.length
  have hl2 : xs.length = ds.length := rd.len
  have hSi : Sa ≠ it := fun z => hSf (z ▸ hif)
  have hSat : (as1 ++ [Sa])[S0.length]? = some Sa := by rw [hSn]; simp
  intro k
  induction k with
  | zero =>
    intro i s H hn I hst hen rel ex hf
    have hi : i = its.length := by omega
    subst hi
    refine codeAny_builtin F.entry_extend_loop ?_
    rw [Around.under_plainId F.plain_extend_loop _]
    show wpAny _ A.in1 (pyNext (.ref e) >>= _) _ _ s
    refine wpAny_bind (end_en D hen hst fun h' hx => ?_)
    obtain ⟨f0, f1, f2, f3, f4, f5⟩ := hf it (by simp)
    have I' : L2.Inv X pins σ H { s with heap := h' } := I.turned (t' := s.toks) (fun b o hb q => hx b o hb q) f0 f1 f3 f4 f5
    rw [List.take_of_length_le (by omega)] at rel
    exact wpAny_pure (hR _ H I' rel ex)
  | succ k ih =>
    intro i s H hn I hst hen rel ex hf
    have hlt : i < its.length := by omega
    refine codeAny_builtin F.entry_extend_loop ?_
    rw [Around.under_plainId F.plain_extend_loop _]
    show wpAny _ A.in1 (pyNext (.ref e) >>= _) _ _ s
    have hil : it < s.heap.objs.size := by obtain ⟨o, q⟩ := D.live _ _ hst; exact Heap.lt_size q
    have hel : e < s.heap.objs.size := by obtain ⟨o, q, _⟩ := hen.get; exact Heap.lt_size q
    refine wpAny_bind (next_en D hen hst hlt hne hef hil fun u h' tk hu hen' hst' hT hsz hk => ?_)
    have hiv : i < xs.length := by omega
    obtain ⟨d, hd⟩ : ∃ d, ds[i]? = some d := ⟨_, List.getElem?_eq_getElem (by omega)⟩
    obtain ⟨x, hx, rx⟩ := rd.get hd
    obtain ⟨u', hu', ru⟩ := rv.get hx
    have hu : its[i]? = some u := hu
    rw [hu] at hu'
    cases hu'
    have hNS : H s.heap.objs.size = none := I.hok.fresh (Nat.le_refl _)
    have new : ObjOk X.prog X.w (upd H s.heap.objs.size (.tup [.int (i : Nat), x])) h' s.heap.objs.size (.tup [.int (i : Nat), x]) :=
      ⟨by show 2 ≤ sizeLine; decide, [.int i tk, u], .cons ⟨_, rfl⟩ (.cons ru .nil), ⟨_, hT, rfl, _, rfl⟩⟩
    have I1 : L2.Inv X pins σ (upd H s.heap.objs.size (.tup [.int (i : Nat), x])) { s with heap := h', toks := tk + 1 } :=
      I.turnedNew (ch := [e, it]) (fun b ob hb q => hk b ob (fun z => hb (by simp [z])) (fun z => hb (by simp [z])) q) hf (Nat.le_refl _) new
    have rel1 := rel.fresh (o := .tup [.int (i : Nat), x]) hNS
    have ex1 : Ex X.K as1 H1 (as1 ++ [Sa]) (upd H s.heap.objs.size (.tup [.int (i : Nat), x])) := ex.trans (Ex.fresh hNS)
    have hSs : (S0 ++ [MO.lst (enD 0 (ds.take i))])[S0.length]? = some (.lst (enD 0 (ds.take i))) := by simp
    obtain ⟨vs, hHS, rvs⟩ := rel1.ob _ _ _ hSat hSs
    obtain ⟨zS, itS, nS, rS, lS, eS⟩ := I1.lstM hHS
    have hvl : vs.length = i := by rw [rvs.len, enD_len, List.length_take]; omega
    show wpAny _ A.in1 (updateSeq Sa (·.push (.ref s.heap.objs.size)) >>= _) _ _ _
    have hDo : Rv X.K (as1 ++ [Sa]) (upd H s.heap.objs.size (.tup [.int (i : Nat), x])) (.ref s.heap.objs.size) (.tup [.int (i : Int), d]) := .tup (SqT.of upd_same) (.cons (.int _) (.cons (rx.mono ex1) .nil))
    have rvs2 := rvs.appx (.cons hDo .nil)
    obtain ⟨rel2, ex2⟩ := put_lst rel1 hSat hSs hHS rvs2
    have hset : (S0 ++ [MO.lst (enD 0 (ds.take i))]).set S0.length (.lst (enD 0 (ds.take i) ++ [.tup [.int (i : Int), d]])) = S0 ++ [.lst (enD 0 (ds.take (i + 1)))] := by
      have et : ds.take (i + 1) = ds.take i ++ [d] := by rw [List.take_add_one, hd]; rfl
      rw [et, enD_snoc, List.length_take, Nat.zero_add, Nat.min_eq_left (by omega)]
      simp
    rw [hset] at rel2
    have I2 := I1.lset (its' := itS ++ [.ref s.heap.objs.size]) (ys := vs ++ [.ref s.heap.objs.size]) (f := (·.push (.ref s.heap.objs.size))) (t' := tk + 1) hHS eS (by simp) (rS.append (.cons (show L2.RelV (.ref s.heap.objs.size) (.ref s.heap.objs.size) from rfl) .nil)) (by rw [List.length_append, List.length_singleton]; omega)
    have oth : ∀ b o, b ≠ Sa → h'.get? b = some o → (h'.update Sa (Obj.mapSeq (·.push (.ref s.heap.objs.size)))).get? b = some o := fun b o hb q => (Heap.get?_update_other _ _ (Ne.symm hb)).trans q
    refine wpAny_bind ?_
    refine wpAny_updateSeq (s := { s with heap := h', toks := tk + 1 }) eS rfl (wpAny_pure ⟨plainId_quiet F.plain_extend_loop _, ih (i + 1) _ _ (by omega) I2 (D.frame _ _ _ hst' fun b hb o q => oth b o (fun z => hSf (z ▸ hb)) q) (hen'.keep hSe oth fun o q => ⟨_, Heap.get?_update_self _ eS rfl⟩) rel2 (ex1.trans ex2) fun b hb => ?_⟩) (by rw [List.size_toArray]; omega) (by show (itS.toArray.push _).size ≤ _; rw [Array.size_push, List.size_toArray]; omega)
    have hb' : b < s.heap.objs.size ∧ b ≠ Sa := by
      have e' : b = e ∨ b = it := by simpa using hb
      rcases e' with z | z
      · rw [z]; exact ⟨hel, hSe⟩
      · rw [z]; exact ⟨hil, Ne.symm hSi⟩
    refine ⟨?_, (hf b hb).2⟩
    rw [upd_ne hb'.2, upd_ne (Nat.ne_of_lt hb'.1)]
    exact (hf b hb).1
end
section
variable {X : Cx} {pins : List (Addr × Obj)} {σ : L2.St} {as1 : List Addr} {S0 : Sto} {H1 : Hp} {s : Shared} {e it : Addr} {fp : List Addr} {xs : List V} {ds : List D} {its : List Value} {A : Around} {St : Nat → Heap → Prop} {E : Value → Shared → Prop} {Q : Value → Shared → Prop}
theorem call_listEn (hh : A.handled = none) (I : L2.Inv X pins σ H1 s) (rel : Rel X.K as1 S0 H1) (D : ∀ A' : Around, A'.handled = none → Draws X.prog X.w A' it fp its.length (fun i v => its[i]? = some v) St) (hif : it ∈ fp) (hne : e ≠ it) (hef : e ∉ fp) (hfl : ∀ b ∈ fp, b < s.heap.objs.size) (rv : Vals xs its) (rd : Rvs X.K as1 H1 xs ds) (hz : its.length ≤ sizeLine)
    (hst : St 0 s.heap) (hen : IsEnum s.heap e it 0 .none) (hf : ∀ b ∈ [e, it], FpOk X pins H1 b)
    (hQ : ∀ s' H' Sa, L2.Inv X pins σ H' s' → Rel X.K (as1 ++ [Sa]) (S0 ++ [.lst (enD 0 ds)]) H' → Ex X.K as1 H1 (as1 ++ [Sa]) H' → Q (.ref Sa) s') : wpAny (model X.prog X.w) A (call (.type "list") [.ref e]) Q E s := by
  have hel : e < s.heap.objs.size := Heap.lt_size hen
  have hSf : s.heap.objs.size ∉ fp := fun z => Nat.lt_irrefl _ (hfl _ z)
  have hSe : s.heap.objs.size ≠ e := Nat.ne_of_gt hel
  refine callType_codes (Q₁ := fun obj s₁ => obj = .ref s.heap.objs.size ∧ s₁ = { s with heap := s.heap.push { cls := .type "list", data := .seq #[] } }) F.called_list (F.typeCall_list_1 _) F.entry_list_init
    (code_list_new _ ⟨rfl, rfl⟩) fun obj s₁ h₁ => ?_
  obtain ⟨rfl, rfl⟩ := h₁
  have c1 := Heap.get?_push_size s.heap (o := { cls := .type "list", data := .seq #[] }) rfl
  refine ⟨⟨_, c1, rfl⟩, F.args_list_init_2 _ _, ?_⟩
  show wpAny _ A.in1.in1 (do let old ← Builtin.List.listItems (.ref s.heap.objs.size); Builtin.List.listUpdate (.ref s.heap.objs.size) (fun _ => #[]); letGo old.toList.reverse; Builtin.List.listExtendWith (.ref s.heap.objs.size) (.ref e) .none) _ _ _
  refine wpAny_bind ?_
  unfold Builtin.List.listItems
  refine wpAny_bind (wpAny_seqItems c1 rfl (wpAny_pure ?_))
  show wpAny _ A.in1.in1 (updateSeq s.heap.objs.size (fun _ => #[]) >>= fun _ => letGo (#[] : Array Value).toList.reverse >>= fun _ => Builtin.List.listExtendWith (.ref s.heap.objs.size) (.ref e) .none) _ _ _
  refine wpAny_bind (wpAny_updateSeq c1 rfl ?_)
  have c2 := Heap.get?_update_self (Obj.mapSeq (fun _ => (#[] : Array Value))) c1 rfl
  refine wpAny_bind (wpAny_letGo ?_)
  unfold Builtin.List.listExtendWith
  have up : ∀ (h : Heap) (f : Obj → Obj), (∀ b o, s.heap.get? b = some o → h.get? b = some o) → ∀ b o, s.heap.get? b = some o → (h.update s.heap.objs.size f).get? b = some o := fun h f q b o z =>
    (Heap.get?_update_other _ _ (Ne.symm (Nat.ne_of_lt (Heap.lt_size z)))).trans (q b o z)
  have k1 : ∀ b o, s.heap.get? b = some o → (s.heap.push { cls := .type "list", data := .seq #[] }).get? b = some o := fun b o z => Heap.get?_push_of_some _ z
  have k2 := up _ (Obj.mapSeq (fun _ => (#[] : Array Value))) k1
  have ty2 : Shared.TypeIs { s with heap := (s.heap.push { cls := .type "list", data := .seq #[] }).update s.heap.objs.size (Obj.mapSeq (fun _ => (#[] : Array Value))) } (.ref e) "enumerate" := ⟨_, k2 _ _ hen, rfl⟩
  refine wpAny_bind (wpAny_typeOf ty2 ?_)
  have n1 : Builtin.List.listSameRef (.ref s.heap.objs.size) (.ref e) = false := by simp [Builtin.List.listSameRef, hSe]
  have n2 : (Value.type "enumerate" == Value.type "list") = false := by decide
  have n3 : (Value.type "enumerate" == Value.type "tuple") = false := by decide
  simp only [n1, n2, n3, Bool.or_false, Bool.false_eq_true, if_false]
  refine wpAny_bind (wpAny_pyIter_enum (s := { s with heap := _ }) (k2 _ _ hen) ?_)
  refine wpAny_bind (wpAny_holding ?_)
  unfold Builtin.List.listLengthHint
  refine wpAny_bind (wpAny_specialOf ty2 en_nolen ?_)
  show wpAny _ A.in1.in1 (specialOf (Value.ref e) (Str.ofString "__length_hint__") >>= _) _ _ _
  refine wpAny_bind (wpAny_specialOf ty2 en_nohint ?_)
  refine wpAny_pure ?_
  show wpAny _ A.in1.in1 (rule "list.extend.makes-room" >>= fun _ => Builtin.List.listTouch (.ref s.heap.objs.size) >>= fun _ =>
    again (.builtin "list.extend.loop" ⟨[.ref s.heap.objs.size, .ref e, .none], []⟩)) _ _ _
  refine wpAny_bind (wpAny_rule ?_)
  refine wpAny_bind ?_
  show wpAny _ A.in1.in1 (updateSeq s.heap.objs.size (·.push .none) >>= fun _ => updateSeq s.heap.objs.size (·.pop)) _ _ _
  refine wpAny_bind (wpAny_updateSeq c2 rfl ?_)
  have c3 := Heap.get?_update_self (Obj.mapSeq (·.push Value.none)) c2 rfl
  refine wpAny_updateSeq (hz := by seq_fits) c3 rfl ?_
  have c4 := Heap.get?_update_self (Obj.mapSeq (·.pop)) c3 rfl
  have k4 := up _ (Obj.mapSeq (·.pop)) (up _ (Obj.mapSeq (·.push Value.none)) k2)
  have hSn : H1 s.heap.objs.size = none := I.hok.fresh (Nat.le_refl _)
  have I2 := I.laid (a := s.heap.objs.size) (o := .lst []) (t' := s.toks) k4 (Nat.le_refl _) ⟨Nat.zero_le _, [], _, .nil, c4⟩
  obtain ⟨rel2, ex2, _⟩ := new_lst (K := X.K) (ds := []) (vs := []) rel hSn .nil
  refine wpAny_pure ⟨plainId_quiet F.plain_extend_loop _, ext_loop (X := X) (pins := pins) (σ := σ) (as1 := as1) (S0 := S0) (H1 := H1) (it := it) (fp := fp) (xs := xs) (ds := ds) (its := its) (A := A.in1) (St := St) (D _ (show A.handled = none from hh)) hif hne hef (Ne.symm hSe) hSf rv rd hz rel.len.symm (fun s' H' i1 r1 x1 => ⟨rfl, hQ s' H' _ i1 r1 x1⟩)
    its.length 0 _ _ (by omega) I2 ((D A hh).frame _ _ _ hst fun b _ o q => k4 b o q) (.inl ⟨_, k4 _ _ hen⟩) rel2 ex2 fun b hb => ?_⟩
  refine ⟨?_, (hf b hb).2⟩
  have hb' : b < s.heap.objs.size := by
    have e' : b = e ∨ b = it := by simpa using hb
    rcases e' with z | z
    · rw [z]; exact hel
    · rw [z]; exact hfl _ hif
  rw [upd_ne (Nat.ne_of_lt hb')]
  exact (hf b hb).1
end
def tLE (K : PySem.W.Frag) (te : TE) : TE := fun σ H Q => te σ H fun x H1 => ∃ (a : Addr) (xs : List V) (as1 : List Addr) (S0 : Sto) (ds : List D), x = .ref a ∧ (SqL K H1 a xs ∨ SqT K H1 a xs) ∧ Rel K as1 S0 H1 ∧ Rvs K as1 H1 xs ds ∧
  ∀ H' Sa, Rel K (as1 ++ [Sa]) (S0 ++ [.lst (enD 0 ds)]) H' → Ex K as1 H1 (as1 ++ [Sa]) H' → Q (.ref Sa) H'
theorem pe_listEn {X : Cx} {e : Expr} {te : TE} {p p2 pos pos2 : Pos} (hc : X.calm = true) (he : PE X e te) (hg : Gl X "list") (hm : X.mg "list" = none) (hg2 : Gl X "enumerate") (hm2 : X.mg "enumerate" = none)
    (na : starEach [e] X.env = (false, eval e X.env) :: starEach [] X.env := by rfl) (nb : starEach [.Call (.Name "enumerate" p2) [e] [] pos2] X.env = (false, eval (.Call (.Name "enumerate" p2) [e] [] pos2) X.env) :: starEach [] X.env := by rfl) :
    PE X (.Call (.Name "list" p) [.Call (.Name "enumerate" p2) [e] [] pos2] [] pos) (tLE X.K te) := by
  refine ⟨fun pins s σ H Q I h => ?_⟩
  have fp2 : ∀ {H1 : Hp} {s1 : Shared}, L2.Inv X pins σ H1 s1 → ∀ b ∈ [s1.heap.objs.size + 1, s1.heap.objs.size], FpOk X pins H1 b := fun {H1 s1} I1 b hb => by
    have e' : b = s1.heap.objs.size + 1 ∨ b = s1.heap.objs.size := by simpa using hb
    rcases e' with z | z
    · rw [z]; exact I1.fpOk (Nat.le_succ _) (I1.hok.fresh (Nat.le_succ _))
    · rw [z]; exact I1.fpOk (Nat.le_refl _) (I1.hok.fresh (Nat.le_refl _))
  have inner : wpAny (model X.prog X.w) X.A (eval (.Call (.Name "enumerate" p2) [e] [] pos2) X.env) (fun v s2 => ∃ (ea it : Addr) (fp : List Addr) (H1 : Hp) (xs : List V) (its : List Value) (as1 : List Addr) (S0 : Sto) (ds : List D) (St : Nat → Heap → Prop), v = .ref ea ∧ L2.Inv X pins σ H1 s2 ∧ Rel X.K as1 S0 H1 ∧ Rvs X.K as1 H1 xs ds ∧ Vals xs its ∧ its.length ≤ sizeLine ∧
      (∀ A' : Around, A'.handled = none → Draws X.prog X.w A' it fp its.length (fun i v => its[i]? = some v) St) ∧ it ∈ fp ∧ ea ≠ it ∧ ea ∉ fp ∧ (∀ b ∈ fp, b < s2.heap.objs.size) ∧ St 0 s2.heap ∧ IsEnum s2.heap ea it 0 .none ∧ (∀ b ∈ [ea, it], FpOk X pins H1 b) ∧
      ∀ H' Sa, Rel X.K (as1 ++ [Sa]) (S0 ++ [.lst (enD 0 ds)]) H' → Ex X.K as1 H1 (as1 ++ [Sa]) H' → Q (.ref Sa) H') X.xe s := by
    refine Call_ (ld_blt I hg2 hm2 boot_enumerate (PyProof.Rows.callWith_type1 (args_cons (thn (he.run pins s σ H _ I h) fun v s1 ⟨x, H1, I1, r1, a, xs, as1, S0, ds, ex, hq, rel, rd, q⟩ => args_nil ?_) na) na))
    subst ex
    obtain rfl : v = Value.ref a := r1
    rcases hq with hq | hq
    · obtain ⟨its, rv, p', hz⟩ := I1.list hq
      have hlt : a < s1.heap.objs.size := by obtain ⟨o, n, z, _⟩ := p'; exact Heap.lt_size z
      refine call_enumerate_list p'.isList fun h' hen hit hsz hk => ⟨_, _, [s1.heap.objs.size, a], H1, xs, its, as1, S0, ds, fun i h => h.IsListIter s1.heap.objs.size a i ∧ h.IsList a its.toArray, rfl, I1.kept (t' := s1.toks) hk, rel, rd, rv, by rw [← rv.length]; exact hz, fun A' hA => ?_, by simp, Nat.succ_ne_self _, ?_, fun b hb => ?_, ⟨hit, p'.isList.at fun o z => hk a o z⟩, hen, fp2 I1, q⟩
      · have D := Draws.list (prog := X.prog) (w := X.w) hA s1.heap.objs.size a (Nat.ne_of_lt hlt) its.toArray
        simpa using D
      · simp only [List.mem_cons, List.not_mem_nil, or_false]
        rintro (z | z)
        · exact Nat.succ_ne_self _ z
        · exact Nat.ne_of_gt (Nat.lt_succ_of_lt hlt) z
      · have e' : b = s1.heap.objs.size ∨ b = a := by simpa using hb
        show b < h'.objs.size
        rw [hsz]
        rcases e' with z | z
        · rw [z]; exact Nat.lt_succ_of_lt (Nat.lt_succ_self _)
        · rw [z]; exact Nat.lt_succ_of_lt (Nat.lt_succ_of_lt hlt)
    · obtain ⟨its, rv, p', hz⟩ := I1.tuple hq
      have hlt : a < s1.heap.objs.size := by obtain ⟨o, z, _⟩ := p'; exact Heap.lt_size z
      have p2' : s1.heap.IsTuple a its.toArray := p'
      refine call_enumB (begins_tuple a its.toArray) p2' fun h' hen hit hsz hk => ⟨_, _, [s1.heap.objs.size, a], H1, xs, its, as1, S0, ds, fun i h => h.IsTupleIter s1.heap.objs.size a i ∧ h.IsTuple a its.toArray, rfl, I1.kept (t' := s1.toks) hk, rel, rd, rv, by rw [← rv.length]; exact hz, fun A' hA => ?_, by simp, Nat.succ_ne_self _, ?_, fun b hb => ?_, ⟨⟨_, hit, rfl, rfl⟩, p2'.at fun o z => hk a o z⟩, hen, fp2 I1, q⟩
      · have D := Draws.tuple (prog := X.prog) (w := X.w) hA s1.heap.objs.size a (Nat.ne_of_lt hlt) its.toArray
        simpa using D
      · simp only [List.mem_cons, List.not_mem_nil, or_false]
        rintro (z | z)
        · exact Nat.succ_ne_self _ z
        · exact Nat.ne_of_gt (Nat.lt_succ_of_lt hlt) z
      · have e' : b = s1.heap.objs.size ∨ b = a := by simpa using hb
        show b < h'.objs.size
        rw [hsz]
        rcases e' with z | z
        · rw [z]; exact Nat.lt_succ_of_lt (Nat.lt_succ_self _)
        · rw [z]; exact Nat.lt_succ_of_lt (Nat.lt_succ_of_lt hlt)
  refine Call_ (ld_blt I hg hm boot_list (PyProof.Rows.callWith_type1 (args_cons (thn inner fun v s2 ⟨ea, it, fp, H1, xs, its, as1, S0, ds, St', ev, I2, rel, rd, rv, hz, D, m1, m2, m3, m4, m5, m6, m7, q⟩ => args_nil ?_) nb) nb))
  subst ev
  exact call_listEn (I2.ok.hd hc) I2 rel D m1 m2 m3 m4 rv rd hz m5 m6 m7 fun s' H' Sa i1 r1 x1 => ⟨.ref Sa, H', i1, rfl, q H' Sa r1 x1⟩
def fListEn : F1 := fun d S => match d with
  | .tup ds => some (.obj S.length, S ++ [.lst (enD 0 ds)])
  | .obj i => (lstAt S i).map fun ds => (.obj S.length, S ++ [.lst (enD 0 ds)])
  | _ => none
theorem em_listEn {X : Cx} {W : WX} {e : Expr} {m : ME} {p p2 pos pos2 : Pos} (hm : X.mg "list" = none) (hm2 : X.mg "enumerate" = none) (h : EM X W e m) (hc : X.calm = true := by rfl) (hg : Gl X "list" := by rfl) (hg2 : Gl X "enumerate" := by rfl)
    (na : starEach [e] X.env = (false, eval e X.env) :: starEach [] X.env := by rfl) (nb : starEach [.Call (.Name "enumerate" p2) [e] [] pos2] X.env = (false, eval (.Call (.Name "enumerate" p2) [e] [] pos2) X.env) :: starEach [] X.env := by rfl) :
    EM X W (.Call (.Name "list" p) [.Call (.Name "enumerate" p2) [e] [] pos2] [] pos) (m1 fListEn m) :=
  ⟨pe_imp (pe_listEn hc h.pe hg hm hg2 hm2 na nb) fun σ H Q q => tU_bind (f := fun _ x S1 => R.of (fListEn x S1)) q fun as env d S1 as1 H1 v re rel rv g => by
    obtain ⟨z, S', hz, g⟩ := go_of g
    cases d <;> first | (cases hz; done) | skip
    case tup ds =>
      cases hz
      obtain ⟨a, xs, rfl, ha, ra⟩ := rv.tup_
      exact ⟨a, xs, as1, S1, ds, rfl, .inr ha, rel, ra, fun H' Sa r x => g _ _ _ x r (.obj (by rw [← rel.len]; simp))⟩
    case obj j =>
      unfold fListEn at hz
      dsimp only at hz
      cases e0 : lstAt S1 j with
      | none => rw [e0] at hz; cases hz
      | some ds =>
        rw [e0] at hz
        cases hz
        obtain ⟨a, xs, rfl, hj, ha, ra⟩ := rv.seq_ rel e0
        exact ⟨a, xs, as1, S1, ds, rfl, .inl ha, rel, ra, fun H' Sa r x => g _ _ _ x r (.obj (by rw [← rel.len]; simp))⟩⟩
end Mi

namespace Mi
open PySem PySem.Spec PyProof.Rows L2
/-! ### for x in d, d a dict: the dict is locked meanwhile -/
def keyV : Key → D
  | .inl i => .int i
  | .inr x => .str x
section
variable {K : PySem.W.Frag} {as as' : List Addr} {H H' : Hp} {S : Sto}
theorem rv_key (k : Key) : Rv K as H (kV k) (keyV k) := by
  cases k with
  | inl i => exact .int i
  | inr x => exact .str x
mutual
theorem Rv.monoT (hp : ∀ (i : Nat) (a : Addr), as[i]? = some a → as'[i]? = some a) (ht : ∀ (a : Addr) (xs : List V), SqT K H a xs → SqT K H' a xs) : ∀ {v : V} {d : D}, Rv K as H v d → Rv K as' H' v d
  | _, _, .non => .non
  | _, _, .bl b => .bl b
  | _, _, .int i => .int i
  | _, _, .str x => .str x
  | _, _, .tup h t => .tup (ht _ _ h) (Rvs.monoT hp ht t)
  | _, _, .obj h => .obj (hp _ _ h)
theorem Rvs.monoT (hp : ∀ (i : Nat) (a : Addr), as[i]? = some a → as'[i]? = some a) (ht : ∀ (a : Addr) (xs : List V), SqT K H a xs → SqT K H' a xs) : ∀ {vs : List V} {ds : List D}, Rvs K as H vs ds → Rvs K as' H' vs ds
  | _, _, .nil => .nil
  | _, _, .cons r t => .cons (Rv.monoT hp ht r) (Rvs.monoT hp ht t)
end
theorem sqt_frz {a : Addr} {od : Obj} {kvs kvs' : List (Key × V)} (hH : H a = some (.frz od (.dK kvs))) (b : Addr) (xs : List V) (h : SqT K H b xs) : SqT K (upd H a (.dK kvs')) b xs := by
  have ne : ∀ u, H b = some u → u ≠ .frz od (.dK kvs) → b ≠ a := fun u e n z => by subst z; rw [hH] at e; cases e; exact n rfl
  rcases h with (h | ⟨u, h⟩) | h
  · exact .inl (.inl (by rw [upd_ne (ne _ h fun z => nomatch z)]; exact h))
  · exact .inl (.inr ⟨u, by rw [upd_ne (ne _ h fun z => nomatch z)]; exact h⟩)
  · exact .inr h
theorem rel_lock {a : Addr} {j : Nat} {kds : List (Key × D)} {kvs : List (Key × V)} (r : Rel K as S H) (ha : as[j]? = some a) (hs : S[j]? = some (.dic kds)) (hH : H a = some (.dK kvs)) (od : Obj) :
    Rel K as (S.set j .gap) (upd H a (.frz od (.dK kvs))) ∧ Ex K as H as (upd H a (.frz od (.dK kvs))) := by
  have x : Ex K as H as (upd H a (.frz od (.dK kvs))) := Ex.mut (by rw [hH]; trivial)
  have old : ∀ (k : Nat) (z : MO), k ≠ j → (S.set j .gap)[k]? = some z → S[k]? = some z := fun k z hk h => by
    rw [List.getElem?_set_ne (Ne.symm hk)] at h; exact h
  have hl : j < S.length := (List.getElem?_eq_some_iff.mp hs).1
  refine ⟨⟨by rw [List.length_set]; exact r.len, fun k b z h1 h2 => ?_, fun k m b z z2 h1 h2 h3 h4 m1 m2 => ?_⟩, x⟩
  · by_cases hk : k = j
    · subst hk
      rw [List.getElem?_set_self hl] at h2
      cases h2
      trivial
    · have h2' := old k z hk h2
      have q := r.ob k b z h1 h2'
      cases z with
      | gap => trivial
      | lst ds => exact q.mono_same x (upd_ne fun e => by subst e; exact hk (r.sep k j b _ _ h1 ha h2' hs rfl rfl))
      | dic ds => exact q.mono_same x (upd_ne fun e => by subst e; exact hk (r.sep k j b _ _ h1 ha h2' hs rfl rfl))
      | fix ds =>
        obtain ⟨vs, h, rr⟩ := q
        refine ⟨vs, ?_, rr.mono x⟩
        rcases h with ⟨ob, h⟩ | h
        · exact .inl ⟨ob, by rw [upd_ne (fun e => by subst e; rw [hH] at h; cases h)]; exact h⟩
        · exact .inr h
  · have nj : ∀ (k : Nat) (z : MO), (S.set j .gap)[k]? = some z → z.mut = true → k ≠ j := fun k z h m e => by
      subst e
      rw [List.getElem?_set_self hl] at h
      cases h
      cases m
    exact r.sep k m b z z2 h1 h2 (old k z (nj k z h3 m1) h3) (old m z2 (nj m z2 h4 m2) h4) m1 m2
theorem rel_unlock {a : Addr} {j : Nat} {kds : List (Key × D)} {kvs : List (Key × V)} {od : Obj} (r : Rel K as S H) (ha : as[j]? = some a) (hs : S[j]? = some .gap) (hH : H a = some (.frz od (.dK kvs))) (rk : Rkv K as H kvs kds) :
    Rel K as (S.set j (.dic kds)) (upd H a (.dK kvs)) := by
  have ht := sqt_frz (K := K) (kvs' := kvs) hH
  have hp : ∀ (i : Nat) (b : Addr), as[i]? = some b → as[i]? = some b := fun _ _ h => h
  have hl : j < S.length := (List.getElem?_eq_some_iff.mp hs).1
  have old : ∀ (k : Nat) (z : MO), k ≠ j → (S.set j (.dic kds))[k]? = some z → S[k]? = some z := fun k z hk h => by
    rw [List.getElem?_set_ne (Ne.symm hk)] at h; exact h
  have apart : ∀ (k : Nat) (z : MO), k ≠ j → S[k]? = some z → z.mut = true → as[k]? ≠ some a := fun k z hk h m e => by
    have q := r.ob k a z e h
    cases z with
    | gap => cases m
    | fix _ => cases m
    | lst ds => obtain ⟨vs, q, _⟩ := q; rw [hH] at q; cases q
    | dic ds => obtain ⟨vs, q, _⟩ := q; rw [hH] at q; cases q
  refine ⟨by rw [List.length_set]; exact r.len, fun k b z h1 h2 => ?_, fun k m b z z2 h1 h2 h3 h4 m1 m2 => ?_⟩
  · by_cases hk : k = j
    · subst hk
      rw [List.getElem?_set_self hl] at h2
      rw [ha] at h1
      cases h2
      cases h1
      exact ⟨kvs, upd_same, rk.1, Rvs.monoT hp ht rk.2⟩
    · have h2' := old k z hk h2
      have q := r.ob k b z h1 h2'
      cases z with
      | gap => trivial
      | lst ds => obtain ⟨vs, q, rr⟩ := q; exact ⟨vs, by rw [upd_ne (fun e => by subst e; rw [hH] at q; cases q)]; exact q, Rvs.monoT hp ht rr⟩
      | dic ds => obtain ⟨vs, q, r1, rr⟩ := q; exact ⟨vs, by rw [upd_ne (fun e => by subst e; rw [hH] at q; cases q)]; exact q, r1, Rvs.monoT hp ht rr⟩
      | fix ds =>
        obtain ⟨vs, h, rr⟩ := q
        refine ⟨vs, ?_, Rvs.monoT hp ht rr⟩
        rcases h with ⟨ob, h⟩ | h
        · exact .inl ⟨ob, by rw [upd_ne (fun e => by subst e; rw [hH] at h; cases h)]; exact h⟩
        · exact .inr h
  · by_cases hk : k = j
    · by_cases hm : m = j
      · rw [hk, hm]
      · subst hk
        rw [ha] at h1; cases h1
        exact absurd h2 (apart m z2 hm (old m z2 hm h4) m2)
    · by_cases hm : m = j
      · subst hm
        rw [ha] at h2; cases h2
        exact absurd h1 (apart k z hk (old k z hk h3) m1)
      · exact r.sep k m b z z2 h1 h2 (old k z hk h3) (old m z2 hm h4) m1 m2
end
def itKeys (kds : List (Key × D)) : MIt := itFix (kds.map fun p => keyV p.1)
def endD (j : Nat) (kds : List (Key × D)) (o : RS) : RS := match o with
  | .nx env S => (match S[j]? with
    | some .gap => .nx env (S.set j (.dic kds))
    | _ => .no)
  | _ => .no
def sForD (i : Nat) (g : MG) (b : MS) : MS := fun env S => match env[i]? with
  | some (some (.obj j)) => (match S[j]? with
    | some (.dic kds) => endD j kds (forI (itKeys kds) g b kds.length 0 env (S.set j .gap))
    | _ => .no)
  | _ => .no
section
variable {X : Cx} {W : WX}
theorem itk_ok {as1 : List Addr} {H1 : Hp} {a : Addr} {od : Obj} {kvs : List (Key × V)} {kds : List (Key × D)} (hH : H1 a = some (.frz od (.dK kvs))) (hk : kvs.map (·.1) = kds.map (·.1)) : ItOk X.K as1 H1 (Itk a od kvs) (itKeys kds) := by
  have hlen : kvs.length = kds.length := by have := congrArg List.length hk; rwa [List.length_map, List.length_map] at this
  constructor
  · intro as S H i x rel e
    have e3 : (kds.map fun p => keyV p.1)[i]? = none := Option.some.inj e
    rw [List.getElem?_eq_none_iff, List.length_map] at e3
    exact ⟨x.frz _ _ _ hH, by omega⟩
  · intro as S H i d x rel e
    have e3 : (kds.map fun p => keyV p.1)[i]? = some d := Option.some.inj e
    rw [List.getElem?_map] at e3
    obtain ⟨p, e4, e5⟩ := Option.map_eq_some_iff.mp e3
    have hi : i < kds.length := (List.getElem?_eq_some_iff.mp e4).1
    refine ⟨⟨x.frz _ _ _ hH, by omega⟩, fun y H' hy => ?_⟩
    obtain ⟨rfl, k, v, e6, rfl⟩ := hy
    have e7 : (kvs.map (·.1))[i]? = (kds.map (·.1))[i]? := by rw [hk]
    rw [List.getElem?_map, List.getElem?_map, e6, e4] at e7
    have e8 : k = p.1 := Option.some.inj e7
    subst e5
    rw [e8]
    exact ⟨Ex.refl, rel, rv_key _⟩
theorem for_core {as1 : List Addr} {env : Env} {S1 : Sto} {H1 : Hp} {σ1 : L2.St} {J : It} {m : MIt} {g : MG} {b : MS} {k : Nat} {Dn : Ends} (ok : ItOk X.K as1 H1 J m) (re : Re X.K as1 H1 σ1 env) (rel : Rel X.K as1 S1 H1) (g1 : GoS X.K X.mg W (forI m g b k 0 env S1) as1 H1 Dn) :
    ∃ Wv : Nat → Nat → L2.St → Hp → Prop, (∃ m, Wv 0 m σ1 H1) ∧ ∀ i m σ H, Wv i m σ H → (J.stop i H ∧ Dn.nx σ H) ∨ (J.go i H ∧ ∃ N : L2.St → Hp → Prop, (∀ σ' H', N σ' H' → ∃ m', m' < m ∧ Wv (i + 1) m' σ' H') ∧ ∀ x H', J.yld i H x H' → gU X.K g x σ H' fun σ2 H2 => tS X.K X.mg W b { Dn with nx := N, ct := N, bk := Dn.nx } σ2 H2) := by
  refine ⟨fun i n σ H => ∃ as env S, Ex X.K as1 H1 as H ∧ Re X.K as H σ env ∧ Rel X.K as S H ∧ GoS X.K X.mg W (forI m g b n i env S) as H Dn, ⟨k, as1, env, S1, Ex.refl, re, rel, g1⟩, ?_⟩
  rintro i n σ H ⟨as, env, S, x, re, rel, gg⟩
  cases n with
  | zero =>
    unfold forI at gg
    split at gg
    · rename_i e1
      exact .inl ⟨ok.stop as S H i x rel e1, gg as H σ Ex.refl rel re⟩
    · exact gg.elim
  | succ n =>
    unfold forI at gg
    split at gg
    · rename_i e1
      exact .inl ⟨ok.stop as S H i x rel e1, gg as H σ Ex.refl rel re⟩
    · rename_i d e1
      obtain ⟨h1, h2⟩ := ok.go as S H i d x rel e1
      refine .inr ⟨h1, fun σ' H' => ∃ as env S, Ex X.K as1 H1 as H' ∧ Re X.K as H' σ' env ∧ Rel X.K as S H' ∧ GoS X.K X.mg W (forI m g b n (i + 1) env S) as H' Dn, fun σ' H' q => ⟨n, Nat.lt_succ_self n, q⟩, fun y H' hy => ?_⟩
      obtain ⟨x1, rel1, rv⟩ := h2 y H' hy
      cases e2 : g d env S with
      | none => rw [e2] at gg; exact gg.elim
      | some env1 =>
        rw [e2] at gg
        dsimp only at gg
        have gg' := GoS.later x1 gg
        refine ⟨as, env, S, d, env1, re.mono x1, rel1, rv, e2, fun σ' re' => ⟨as, env1, S, re', rel1, ?_⟩⟩
        cases e : b env1 S with
        | nx env2 S2 => rw [e] at gg'; exact fun as2 H2 σ2 y r q => ⟨as2, env2, S2, (x.trans x1).trans y, q, r, GoS.later y gg'⟩
        | ct env2 S2 => rw [e] at gg'; exact fun as2 H2 σ2 y r q => ⟨as2, env2, S2, (x.trans x1).trans y, q, r, GoS.later y gg'⟩
        | bk env2 S2 => rw [e] at gg'; exact gg'
        | rt d S2 => rw [e] at gg'; exact gg'
        | ex x env2 S2 => rw [e] at gg'; exact gg'
        | no => rw [e] at gg'; exact gg'.elim
    · exact gg.elim
theorem sm_forD (i : Nat) {x : Str} {tg : Expr} {body : List Stmt} {g : MG} {b : MS} {pos pos0 : Pos} (hp : PassesOwn (model X.prog X.w) X.A X.env X.xe) (hc : X.calm = true) (he : EM X W (.Name x pos0) (mV i)) (hg : GM X tg g) (hb : BM X W body b)
    (hs : ∀ y, foldedSetIterable (.Name x pos0) X.env y = pure y := by intro _; rfl) : SM X W (.For tg (.Name x pos0) body [] pos) (sForD i g b) :=
  ⟨ps_imp (ps_lock (ps_for hp hc (pi_keys he.pe) hg.pg hb.ps hs)) fun Dn σ H ⟨as, env, S, re, rel, g0⟩ => by
    unfold sForD at g0
    split at g0
    · rename_i j e0
      split at g0
      · rename_i kds e1
        obtain ⟨v, hv, rv⟩ := re.at_ i _ e0
        obtain ⟨a, kvs, rfl, ha, hH, rk⟩ := rv.dic_ rel e1
        refine ⟨a, .dK kvs, hH, trivial, fun od => ?_⟩
        obtain ⟨rel1, x1⟩ := rel_lock rel ha e1 hH od
        refine ⟨as, env, S.set j .gap, re.mono x1, rel1, ?_⟩
        have em : mV i env (S.set j .gap) = .ok (.obj j) (S.set j .gap) := by unfold mV; rw [e0]
        rw [em]
        intro as' H' v' x2 rel2 rv2
        obtain ⟨a', rfl, ha'⟩ := rv2.obj_
        have ea : as'[j]? = some a := x2.pre _ _ ha
        rw [ha'] at ea
        cases ea
        have hF : H' a = some (.frz od (.dK kvs)) := x2.frz _ _ _ upd_same
        refine ⟨a, od, rfl, .inl ⟨kvs, hF, ?_⟩⟩
        refine for_core (itk_ok hF rk.1) ((re.mono x1).mono x2) rel2 (k := kds.length) ?_
        have hx := x1.trans x2
        cases e : forI (itKeys kds) g b kds.length 0 env (S.set j .gap) with
        | nx env' S' =>
          rw [e] at g0
          unfold endD at g0
          dsimp only at g0
          split at g0
          · rename_i eg
            intro as2 H2 σ2 y r q
            have hF2 := y.frz _ _ _ hF
            refine ⟨hF2, ?_⟩
            have ht := sqt_frz (K := X.K) (kvs' := kvs) hF2
            have hxy := hx.trans y
            have a2 : as2[j]? = some a := hxy.pre _ _ ha
            refine g0 as2 (upd H2 a (.dK kvs)) σ2 ⟨hxy.pre, fun b xs h => ht b xs (hxy.tup b xs h), fun b o u h => ?_⟩ (rel_unlock r a2 eg hF2 ⟨rk.1, rk.2.mono hxy⟩) ⟨q.len, fun n d h => ?_⟩
            · rw [upd_ne (fun z => by subst z; rw [hH] at h; cases h)]; exact hxy.frz b o u h
            · obtain ⟨w, h1, h2⟩ := q.at_ n d h
              exact ⟨w, h1, Rv.monoT (fun _ _ h => h) ht h2⟩
          · exact g0.elim
        | ct env' S' => rw [e] at g0; exact g0.elim
        | bk env' S' => rw [e] at g0; exact g0.elim
        | rt d S' => rw [e] at g0; exact g0.elim
        | ex x env' S' => rw [e] at g0; exact g0.elim
        | no => rw [e] at g0; exact g0.elim
      · exact g0.elim
    · exact g0.elim⟩
end
end Mi

namespace Mi
open PySem PySem.Spec PyProof.Rows L2
/-! ### | of ints, abs -/
def fOr : F2 := fun d e S => match d, e with
  | .int i, .int j => some (.int (Builtin.bitOr i j), S)
  | _, _ => none
def fAbs : F1 := fun d S => match d with
  | .int i => some (.int (if i < 0 then -i else i), S)
  | _ => none
def fGcd2 : F2 := fun d e S => match d, e with
  | .int i, .int j => some (.int ((Nat.gcd i.natAbs j.natAbs : Nat) : Int), S)
  | _, _ => none
def fBits : F1 := fun d S => match d with
  | .int i => some (.int ((Builtin.Int.intBits i : Nat) : Int), S)
  | _ => none
section
variable {X : Cx} {W : WX}
theorem op_fOr : OpR X (binaryOp .BitOr) (rF X.K fOr) := by
  refine op_imp L2.op_or fun x y H Q ⟨as, S, d, e, z, S', rel, rx, ry, hf, q⟩ => ?_
  cases d <;> cases e <;> try (cases hf; done)
  case int.int i j => cases hf; exact ⟨i, j, rx.int_, ry.int_, q as H _ Ex.refl rel (.int _)⟩
theorem call_fAbs : CallR X (.builtin "abs") (rFL X.K (f1L fAbs)) := by
  refine call_imp call_abs fun xs H Q ⟨as, S, ds, z, S', rel, rs, hf, q⟩ => ?_
  obtain ⟨x, d, rfl, rx, hf⟩ := f1L_inv rs hf
  cases d <;> try (cases hf; done)
  case int i => cases hf; exact ⟨i, by rw [rx.int_], q as H _ Ex.refl rel (.int _)⟩
theorem call_fGcd2 : CallR X (.builtin "math.gcd") (rFL X.K (f2L fGcd2)) := by
  refine call_imp cr_gcd fun xs H Q ⟨as, S, ds, z, S', rel, rs, hf, q⟩ => ?_
  obtain ⟨x, y, d, e, rfl, rx, ry, hf⟩ := f2L_inv rs hf
  cases d <;> cases e <;> first | (cases hf; done) | skip
  rename_i i j
  cases hf
  exact ⟨i, j, by rw [rx.int_, ry.int_], q as H _ Ex.refl rel (.int _)⟩
/-- f(e, ..), f a module's name for a built-in function -/
theorem em_callF {f : FL} {x : Str} {id : String} {e : Expr} {es : List Expr} {m : MA} {p pos : Pos} (hc : CallR X (.builtin id) (rFL X.K f)) (hm : X.mg x = some (.builtin id)) (ha : AM X W (e :: es) m) (hg : Gl X x := by rfl)
    (hdb : (x == ("__debug__" : Str)) = false := by decide) (he : starEach (e :: es) X.env = (false, eval e X.env) :: starEach es X.env := by rfl) (hpl : (backTo pos (starEach es X.env)).any (·.1) = false := by rfl) :
    EM X W (.Call (.Name x p) (e :: es) [] pos) (mB1 f m) := ⟨pe_imp (pe_callBfun hc hg hm ha.pa hdb he hpl) fun σ H Q h => mB1_step h⟩
/-- x.bit_length() -/
theorem em_bits {o : Expr} {m : ME} {apos pos : Pos} (ho : EM X W o m) (hbase : attributeBase o "bit_length" X.env (eval o X.env) = eval o X.env := by rfl) (hline : (apos.endLine == pos.line) = true := by rfl) :
    EM X W (.Call (.Attribute o "bit_length" apos) [] [] pos) (m1 fBits m) :=
  ⟨pe_imp (pe_bits ho.pe hbase hline) fun σ H Q q => tU_bind (f := fun _ x S1 => R.of (fBits x S1)) q fun as env d S1 as1 H1 x re rel rv g => by
    obtain ⟨z, S', hz, q⟩ := go_of g
    cases d <;> first | (cases hz; done) | skip
    case int i =>
      cases hz
      exact ⟨i, rv.int_, q as1 H1 _ Ex.refl rel (.int _)⟩⟩
end
/-! ### < of data that are alike -/
def nonP : PyData → Bool
  | .none => true
  | _ => false
theorem nonP_ne {p : PyData} (h : nonP p = false) : p ≠ .none := fun e => by subst e; cases h
def ltD (S : Sto) (d e : D) : Option Bool := match toP S 1000000 d, toP S 1000000 e with
  | some p, some q => if PySem.W.alike p q = true ∧ nonP p = false ∧ p.depth ≤ 60 ∧ q.depth ≤ 60 then some (PySem.W.dataLt p q) else none
  | _, _ => none
def fLtD : F2 := fun d e S => match d, e with
  | .int i, .int j => fLt (.int i) (.int j) S
  | .str i, .str j => fLt (.str i) (.str j) S
  | _, _ => (ltD S d e).map fun b => (.bl b, S)
section
variable {X : Cx} {W : WX}
theorem op_ltDeep (hu : X.A.units + 64 < cLine) : OpR X (compareOp .Lt) (fun x y H Q => ∃ d e, Dp X.K H x d ∧ Dp X.K H y e ∧ PySem.W.alike d e = true ∧ d ≠ .none ∧ d.depth ≤ 60 ∧ e.depth ≤ 60 ∧ Q (.bl (PySem.W.dataLt d e)) H) := by
  intro pins s σ H x y v u Q I rx ry h
  obtain ⟨d, e, hd, he, ha, hn, h1, h2, q⟩ := h
  obtain ⟨as, r1⟩ := Dp.reads I d x v hd rx
  obtain ⟨bs, r2⟩ := Dp.reads I e y u he ry
  exact PySem.W.rcLt_alike d e X.A s v u as bs r1 r2 ha hn (by omega) X.prog X.w _ _ ⟨.bl _, H, I, rfl, q⟩
theorem op_fLtD (hu : X.A.units + 64 < cLine) : OpR X (compareOp .Lt) (rF X.K fLtD) := by
  refine op_imp (OpR.or op_fLt (op_ltDeep hu)) fun x y H Q ⟨as, S, d, e, z, S', rel, rx, ry, hf, q⟩ => ?_
  have deep : ∀ d e, Rv X.K as H x d → Rv X.K as H y e → (ltD S d e).map (fun b => (D.bl b, S)) = some (z, S') → (∃ d e, Dp X.K H x d ∧ Dp X.K H y e ∧ PySem.W.alike d e = true ∧ d ≠ .none ∧ d.depth ≤ 60 ∧ e.depth ≤ 60 ∧ Q (.bl (PySem.W.dataLt d e)) H) := fun d e rx ry hf => by
    unfold ltD at hf
    cases e1 : toP S 1000000 d with
    | none => rw [e1] at hf; cases hf
    | some p =>
      cases e2 : toP S 1000000 e with
      | none => rw [e1, e2] at hf; cases hf
      | some p' =>
        rw [e1, e2] at hf
        dsimp only at hf
        split at hf
        · rename_i hc
          cases hf
          exact ⟨p, p', (dp_both rel _).1 rx e1, (dp_both rel _).1 ry e2, hc.1, nonP_ne hc.2.1, hc.2.2.1, hc.2.2.2, q as H _ Ex.refl rel (.bl _)⟩
        · cases hf
  unfold fLtD at hf
  split at hf
  · exact .inl ⟨as, S, _, _, z, S', rel, rx, ry, hf, q⟩
  · exact .inl ⟨as, S, _, _, z, S', rel, rx, ry, hf, q⟩
  · exact .inr (deep _ _ rx ry hf)
end
end Mi

namespace Mi
open PySem PySem.Spec PyProof.Rows L2
/-! ### sorted of data that are alike -/
def tupNE : PyData → Bool
  | .tuple (_ :: _) => true
  | _ => false
def sortable (ps : List PyData) : Bool := (ps.all fun p => ps.all fun q => PySem.W.alike p q) && ps.all fun p => tupNE p && decide (p.depth ≤ 55)
def sortD (ds : List D) (ps : List PyData) : List D := ((ds.zip ps).mergeSort (PySem.W.dataLe false Prod.snd)).map Prod.fst
def fSortedD : F1 := fun d S => match d with
  | .obj i => match lstAt S i with
    | some ds => (match toPs S 1000000 ds with
      | some ps => if sortable ps = true ∧ ds.length ≤ sizeLine then some (.obj S.length, S ++ [.lst (sortD ds ps)]) else none
      | none => none)
    | none => none
  | _ => none
section
variable {X : Cx}
theorem each_in {K : PySem.W.Frag} {as : List Addr} {H : Hp} {P : Program} {w : World} : ∀ {xs : List V} {vs : List Value} {ds : List D} {ps : List PyData}, Vals xs vs → Rvs K as H xs ds → DpAll K H xs ps →
    PySem.W.EachIs (fun v (b : D × PyData) => ∃ x, RelV x v ∧ Rv K as H x b.1 ∧ Dp K H x b.2) vs (ds.zip ps)
  | _, _, _, _, .nil, .nil, .nil => .nil
  | _, _, _, _, .cons r t, .cons r2 t2, .cons r3 t3 => .cons ⟨_, r, r2, r3⟩ (each_in (P := P) (w := w) t t2 t3)
theorem each_out {K : PySem.W.Frag} {as : List Addr} {H : Hp} : ∀ {vs : List Value} {bs : List (D × PyData)}, PySem.W.EachIs (fun v (b : D × PyData) => ∃ x, RelV x v ∧ Rv K as H x b.1 ∧ Dp K H x b.2) vs bs → ∃ xs, Vals xs vs ∧ Rvs K as H xs (bs.map Prod.fst)
  | _, _, .nil => ⟨[], .nil, .nil⟩
  | _, _, .cons ⟨x, r, r2, _⟩ t => by
    obtain ⟨xs, h1, h2⟩ := each_out t
    exact ⟨x :: xs, .cons r h1, .cons r2 h2⟩
theorem zip_snd : ∀ {ds : List D} {ps : List PyData}, ds.length = ps.length → (ds.zip ps).map Prod.snd = ps
  | [], [], _ => rfl
  | [], _ :: _, h => by cases h
  | _ :: _, [], h => by cases h
  | d :: ds, p :: ps, h => by
    show p :: (ds.zip ps).map Prod.snd = p :: ps
    rw [zip_snd (Nat.succ.inj h)]
theorem dp_len {K : PySem.W.Frag} {H : Hp} : ∀ {xs : List V} {ps : List PyData}, DpAll K H xs ps → xs.length = ps.length
  | _, _, .nil => rfl
  | _, _, .cons _ t => congrArg Nat.succ (dp_len t)
theorem call_fSortedD (hu : X.A.units + 64 < cLine) : CallR X (.builtin "sorted") (rFL X.K (f1L fSortedD)) := by
  intro pins s σ H xs us Q I rr ⟨as, S, ds0, z, S', rel, rs, hf, q⟩
  obtain ⟨x, d, rfl, rx, hf⟩ := f1L_inv rs hf
  cases d <;> try (cases hf; done)
  case obj i =>
    unfold fSortedD at hf
    dsimp only at hf
    cases h0 : lstAt S i with
    | none => rw [h0] at hf; cases hf
    | some ds =>
      rw [h0] at hf
      dsimp only at hf
      cases h1 : toPs S 1000000 ds with
      | none => rw [h1] at hf; cases hf
      | some ps =>
        rw [h1] at hf
        dsimp only at hf
        split at hf
        · rename_i hc
          cases hf
          obtain ⟨hs, hz0⟩ := hc
          obtain ⟨a, ys, rfl, _, ha, ra⟩ := rx.seq_ rel h0
          have dp := (dp_both rel _).2 ra h1
          obtain ⟨its, rv, hl, hz⟩ := I.list ha
          rw [Vals.ref1 rr]
          unfold sortable at hs
          obtain ⟨hs1, hs2⟩ := ba hs
          have lps : ds.length = ps.length := by rw [← ra.len]; exact dp_len dp
          have e1 := each_in (P := X.prog) (w := X.w) rv ra dp
          have hal : PySem.W.AllAlike ((ds.zip ps).map Prod.snd) := by
            rw [zip_snd lps]
            intro p hp p' hp'
            exact List.all_eq_true.mp (List.all_eq_true.mp hs1 p hp) p' hp'
          have hk : PySem.W.Sortable ((ds.zip ps).map Prod.snd) := by
            rw [zip_snd lps]
            refine .inl fun p hp => ?_
            have := (ba (List.all_eq_true.mp hs2 p hp)).1
            cases p <;> first | (cases this; done) | skip
            rename_i l
            cases l with
            | nil => cases this
            | cons x r => exact ⟨x, r, rfl⟩
          have hdep : ∀ b, b ∈ ds.zip ps → X.A.units + 2 + b.2.depth < cLine := fun b hb => by
            have hm : b.2 ∈ ps := by rw [← zip_snd lps]; exact List.mem_map.mpr ⟨b, hb, rfl⟩
            have := of_decide_eq_true (ba (List.all_eq_true.mp hs2 _ hm)).2
            omega
          refine PySem.W.sorted_data hl.isList e1 (e1.mono fun v b ⟨x, r, _, dpx⟩ => Dp.reads I b.2 x v dpx r) hal hk (by rw [List.length_zip, ← lps, Nat.min_self]; exact hz0) hdep fun out hlen eo => ?_
          obtain ⟨zs, r1, r2⟩ := each_out eo
          obtain ⟨ep, he'⟩ := PyProof.Rows.sortedAll_at s.heap its out.toArray
          have hn := I.hok.fresh (Nat.le_succ s.heap.objs.size)
          obtain ⟨q1, q2, q3⟩ := new_lst rel hn r2
          exact ⟨.ref _, upd H (s.heap.objs.size + 1) (.lst zs), I.laid (t' := s.toks) (fun _ _ => PyProof.Rows.sortedAll_old) (Nat.le_succ _) ⟨by rw [r1.length, hlen, List.length_zip, ← lps, Nat.min_self]; exact hz0, out, ep, r1, he'⟩, rfl, q _ _ _ q2 q1 (.obj q3)⟩
        · cases hf
end
end Mi

namespace Mi
open PySem PySem.Spec PyProof.Rows L2
/-! ### x in l, x and l's items data -/
def inDeep (S : Sto) (d e : D) : Option Bool := match e with
  | .obj i => (match lstAt S i with
    | some ds => (match toP S 1000000 d, toPs S 1000000 ds with
      | some p, some ps => if SeqAt.shaped p = true ∧ SeqAt.shaped (.list ps) = true then some (ps.any fun z => PyData.eqv z p) else none
      | _, _ => none)
    | none => none)
  | _ => none
def inB2 (S : Sto) (d e : D) : Option Bool := match inB S d e with
  | some b => some b
  | none => inDeep S d e
def fInD : F2 := fun d e S => (inB2 S d e).map fun b => (.bl b, S)
def fNotInD : F2 := fun d e S => (inB2 S d e).map fun b => (.bl (!b), S)
section
variable {X : Cx} {W : WX}
theorem room65 {j : Nat} (h : Room j X.A) : X.A.units + 65 < cLine := by have := h.un; omega
theorem in_deep {K : PySem.W.Frag} {as : List Addr} {H : Hp} {S : Sto} {x y : V} {d e : D} {b : Bool} (rel : Rel K as S H) (rx : Rv K as H x d) (ry : Rv K as H y e) (h : inDeep S d e = some b) :
    ∃ p ps, Dp K H x p ∧ Dp K H y (.list ps) ∧ SeqAt.shaped p = true ∧ SeqAt.shaped (.list ps) = true ∧ (ps.any fun z => PyData.eqv z p) = b := by
  cases e <;> first | (cases h; done) | skip
  case obj i =>
    unfold inDeep at h
    dsimp only at h
    cases h0 : lstAt S i with
    | none => rw [h0] at h; cases h
    | some ds =>
      rw [h0] at h
      dsimp only at h
      cases e1 : toP S 1000000 d with
      | none => rw [e1] at h; cases h
      | some p =>
        cases e2 : toPs S 1000000 ds with
        | none => rw [e1, e2] at h; cases h
        | some ps =>
          rw [e1, e2] at h
          dsimp only at h
          split at h
          · rename_i hc
            cases h
            obtain ⟨a, ys, rfl, _, ha, ra⟩ := ry.seq_ rel h0
            exact ⟨p, ps, (dp_both rel _).1 rx e1, .lst ha ((dp_both rel _).2 ra e2), hc.1, hc.2, rfl⟩
          · cases h
theorem op_fInD (hu : X.A.units + 65 < cLine) : OpR X (compareOp .In) (rF X.K fInD) := by
  refine op_imp (OpR.or op_fIn (op_inD hu)) fun x y H Q ⟨as, S, d, e, z, S', rel, rx, ry, hf, q⟩ => ?_
  unfold fInD inB2 at hf
  cases h : inB S d e with
  | some b =>
    rw [h] at hf
    refine .inl ⟨as, S, d, e, z, S', rel, rx, ry, ?_, q⟩
    unfold fIn
    rw [h]; exact hf
  | none =>
    rw [h] at hf
    dsimp only at hf
    cases h2 : inDeep S d e with
    | none => rw [h2] at hf; cases hf
    | some b =>
      rw [h2] at hf; cases hf
      obtain ⟨p, ps, a1, a2, a3, a4, a5⟩ := in_deep rel rx ry h2
      exact .inr ⟨p, ps, a1, a2, a3, a4, by rw [a5]; exact q as H _ Ex.refl rel (.bl _)⟩
theorem op_fNotInD (hu : X.A.units + 65 < cLine) : OpR X (compareOp .NotIn) (rF X.K fNotInD) := by
  refine op_imp (OpR.or op_fNotIn (op_notInD hu)) fun x y H Q ⟨as, S, d, e, z, S', rel, rx, ry, hf, q⟩ => ?_
  unfold fNotInD inB2 at hf
  cases h : inB S d e with
  | some b =>
    rw [h] at hf
    refine .inl ⟨as, S, d, e, z, S', rel, rx, ry, ?_, q⟩
    unfold fNotIn
    rw [h]; exact hf
  | none =>
    rw [h] at hf
    dsimp only at hf
    cases h2 : inDeep S d e with
    | none => rw [h2] at hf; cases hf
    | some b =>
      rw [h2] at hf; cases hf
      obtain ⟨p, ps, a1, a2, a3, a4, a5⟩ := in_deep rel rx ry h2
      exact .inr ⟨p, ps, a1, a2, a3, a4, by rw [a5]; exact q as H _ Ex.refl rel (.bl _)⟩
end
/-! ### d[k] -/
def fDIx : F2 := fun d e S => match d with
  | .obj i => (match S[i]? with
    | some (.dic kds) => (keyD e).bind fun k => (valD kds k).map fun v => (v, S)
    | _ => none)
  | _ => none
section
variable {X : Cx} {W : WX}
theorem em_dix {o i : Expr} {mo mi : ME} {pos : Pos} (hu : X.A.units + 64 < cLine) (ho : EM X W o mo) (hi : EM X W i mi) (hs : NoSl i := by exact fun _ _ => rfl) : EM X W (.Subscript o i pos) (m2 fDIx mo mi) :=
  ⟨pe_imp (pe_dget (by omega) ho.pe hi.pe hs) fun σ H Q q => tU_bind (f := fun env x S1 => (mi env S1).bind fun y S2 => R.of (fDIx x y S2)) q fun as env d S1 as1 H1 x re rel rv g =>
    ⟨as1, env, S1, re, rel, Go.bind g fun e S2 as2 H2 y x2 r2 ry g2 => by
      obtain ⟨z, S', hz, q⟩ := go_of g2
      cases d <;> first | (cases hz; done) | skip
      rename_i j
      unfold fDIx at hz
      dsimp only at hz
      split at hz
      · rename_i kds e0
        obtain ⟨k, hk, e2⟩ := Option.bind_eq_some_iff.mp hz
        obtain ⟨v, hv, e3⟩ := Option.map_eq_some_iff.mp e2
        cases e3
        obtain ⟨a, kvs, rfl, ha, hH, rk⟩ := (rv.mono x2).dic_ r2 e0
        cases key_v ry hk
        rcases rkv_val k rk with ⟨q1, q2⟩ | ⟨v', d', q1, q2, r'⟩
        · rw [q2] at hv; cases hv
        · rw [q2] at hv; cases hv
          have g : DGet H2 a (kV k) (valV kvs k) := DGet.k hH
          rw [q1] at g
          exact ⟨a, v', rfl, g, q as2 H2 _ Ex.refl r2 r'⟩
      · cases hz⟩⟩
end
/-! ### {k: v, ..}, the keys written texts -/
def mergeD (kds more : List (Key × D)) : List (Key × D) := more.foldl (fun acc kv => putD acc kv.1 kv.2) kds
def mDisp (ks : List Str) (a : MA) : ME := fun env S => (a env (S ++ [.dic []])).bind fun ds S2 => if ds.length = ks.length ∧ ks.length ≤ 15 then (match S2[S.length]? with
  | some (.dic []) => .ok (.obj S.length) (S2.set S.length (.dic (mergeD [] ((ks.map Sum.inr).zip ds))))
  | _ => .no) else .no
section
variable {X : Cx} {W : WX}
structure DM (X : Cx) (W : WX) (pos : Pos) (keys : List (Option Expr)) (values : List Expr) (ks : List Str) (m : MA) : Prop where
  ex : ∃ trs, PPs X pos keys values trs ∧ ∀ σ H (Q : List (V × V) → Hp → Prop), (tU X.K X.mg W (Rvs X.K) m σ H fun xs H' => Q ((ks.map V.str).zip xs) H') → tPairs trs σ H Q
  l1 : keys.length = values.length
  l2 : ks.length = values.length
  al : keys.all (·.isSome) = true
theorem dm_nil {pos : Pos} : DM X W pos [] [] [] mNil := ⟨⟨[], pps_nil, fun σ H Q ⟨as, env, S, re, rel, g⟩ => g as H [] Ex.refl rel .nil⟩, rfl, rfl, rfl⟩
theorem dm_cons {pos pk : Pos} {x : Str} {j : Nat} {v : Expr} {keys : List (Option Expr)} {values : List Expr} {ks : List Str} {m : ME} {a : MA} (h : EM X W v m) (r : DM X W pos keys values ks a) :
    DM X W pos (some (.Constant (.str x) j pk) :: keys) (v :: values) (x :: ks) (mCons m a) := by
  obtain ⟨trs, pp, st⟩ := r.ex
  refine ⟨⟨_, pps_cons (pe_str (x := x)) h.pe pp, fun σ H Q q => ?_⟩, congrArg Nat.succ r.l1, congrArg Nat.succ r.l2, by rw [List.all_cons, r.al]; rfl⟩
  show (tU X.K X.mg W (Rv X.K) m) σ H fun y H2 => tPairs trs σ H2 fun ps H3 => Q ((V.str x, y) :: ps) H3
  exact tU_bind (f := fun env x S1 => (a env S1).bind fun xs S2 => .ok (x :: xs) S2) q fun as env d S1 as1 H1 y re rel rv g =>
    st _ _ _ ⟨as1, env, S1, re, rel, Go.bind g fun ds S2 as2 H2 xs x2 r2 rv2 g2 => g2 as2 H2 _ Ex.refl r2 (.cons (rv.mono x2) rv2)⟩
theorem rkv_merge {K : PySem.W.Frag} {as : List Addr} {H : Hp} : ∀ {ks : List Str} {xs : List V} {ds : List D} {kvs : List (Key × V)} {kds : List (Key × D)}, Rvs K as H xs ds → Rkv K as H kvs kds → Rkv K as H (mergeK kvs ((ks.map Sum.inr).zip xs)) (mergeD kds ((ks.map Sum.inr).zip ds))
  | [], _, _, _, _, _, h => h
  | k :: ks, _, _, _, _, .nil, h => h
  | k :: ks, _, _, _, _, .cons r t, h => rkv_merge (ks := ks) t (rkv_put (.inr k) r h)
theorem zip_kv (ks : List Str) : ∀ (xs : List V), (ks.map V.str).zip xs = ((ks.map Sum.inr : List Key).zip xs).map fun kv => (kV kv.1, kv.2) := by
  induction ks with
  | nil => intro xs; rfl
  | cons k ks ih =>
    intro xs
    cases xs with
    | nil => rfl
    | cons x xs =>
      show (V.str k, x) :: (ks.map V.str).zip xs = (kV (.inr k), x) :: _
      rw [ih xs]; rfl
theorem em_disp {pos : Pos} {keys : List (Option Expr)} {values : List Expr} {ks : List Str} {a : MA} (h : DM X W pos keys values ks a) (h0 : keys ≠ [] := by exact List.cons_ne_nil _ _) (h15 : keys.length ≤ 15 := by decide) : EM X W (.Dict keys values pos) (mDisp ks a) := by
  obtain ⟨trs, pp, st⟩ := h.ex
  · refine ⟨pe_imp (pe_disp pp h.al h.l1 h0 h15) fun σ H Q ⟨as, env, S, re, rel, g⟩ p hp => ?_⟩
    obtain ⟨rel', x, hj⟩ := rel.new (u := .dic []) hp ⟨[], upd_same, rfl, .nil⟩ rfl
    refine st _ _ _ ⟨as ++ [p], env, _, re.mono x, rel', ?_⟩
    have g1 := Go.later x g
    refine Go.bind g1 fun ds S2 as2 H2 xs x2 r2 rv2 g2 => ?_
    split at g2
    · rename_i hc
      obtain ⟨c1, c2⟩ := hc
      split at g2
      · rename_i e0
        have ha := x2.pre _ _ hj
        obtain ⟨kvs, hH, rk⟩ := r2.ob _ _ _ ha e0
        have e3 : kvs = [] := by
          have := rk.1
          cases kvs with
          | nil => rfl
          | cons _ _ => cases this
        subst e3
        obtain ⟨r4, x4⟩ := put_dic r2 ha e0 hH (rkv_merge (ks := ks) (kvs := []) (kds := []) rv2 ⟨rfl, .nil⟩)
        refine ⟨hH, (ks.map Sum.inr).zip xs, zip_kv ks xs, ?_, ?_⟩
        · rw [List.length_zip, List.length_map]
          omega
        · exact g2 as2 _ _ x4 r4 (.obj ha)
      · exact g2.elim
    · exact g2.elim
end
end Mi

namespace Mi
open PySem PySem.Spec PyProof.Rows L2
/-! ### recursion: at no fuel nothing is claimed -/
def mfNo : MFn := fun _ _ => .no
section
variable {P : Program} {w : World} {K : PySem.W.Frag} {mg : Str → Option Value} {base : Heap}
theorem cal_no {x : Str} {st : Stmt} {N ps : List Str} {k : Nat} (F : Fun1 K mg x st) (S : FnScope N ps (defScope st))
    (hbn : ∀ (kV doc pm : Value) (an : Option Addr) (cdv ct : Value) (us : List Value), us.length = ps.length → bindArgs (PySem.W.fnOf x x (defArgs st) (defBody st) (defScope st) .none kV doc pm an cdv ct) ⟨us, []⟩ = pure (ps.zip us)) :
    Cal P w K mg base (k + 1) x mfNo := by
  obtain ⟨f, fd, h1, h2⟩ := F.ex
  refine ⟨f, fd, ps, ?_, h2, h1.kp, h1.bindsN hbn⟩
  refine h1.ok S (fun vs H Q E h => ?_) (fun cdv A outer s H vs Q E hr h => ?_)
  · obtain ⟨as, ds, S', rv, rel, g⟩ := h
    exact g.elim
  · obtain ⟨as, ds, S', rv, rel, g⟩ := h
    exact g.elim
theorem cal1' {x : Str} {st : Stmt} {N ps : List Str} {k : Nat} {b : MS} {n m : Nat} (F : Fun1 K mg x st) (S : FnScope N ps (defScope st)) (hn : n = ps.length) (hm : m = N.length)
    (hbn : ∀ (kV doc pm : Value) (an : Option Addr) (cdv ct : Value) (us : List Value), us.length = ps.length → bindArgs (PySem.W.fnOf x x (defArgs st) (defBody st) (defScope st) .none kV doc pm an cdv ct) ⟨us, []⟩ = pure (ps.zip us))
    (hb : BodyOk P w K mg base k N x (defScope st) (defBody st) b) : Cal P w K mg base (k + 1) x (mFn n m b) := by
  subst hn hm
  exact cal1 F S hbn hb
end
/-! ### a built-in function under a module's name -/
def bltB (x : Str) (id : String) (K : PySem.W.Frag) : Bool := match PySem.W.nsIn K mainGlobals x with
  | some (some (.builtin i)) => i == id
  | _ => false
theorem blt_ok {K : PySem.W.Frag} {h : Heap} {mg : Str → Option Value} (X : K.In h) (G : h.Ns mainGlobals mg) {x : Str} {id : String} (c : bltB x id K = true) : mg x = some (.builtin id) := by
  unfold bltB at c
  split at c
  · rename_i i e
    have e2 : i = id := eq_of_beq c
    subst e2
    exact PySem.W.mg_of X G e
  · cases c
/-! ### keyword-only parameters with defaults -/
structure FunK (K : PySem.W.Frag) (mg : Str → Option Value) (x : Str) (st : Stmt) (kds : List (Str × D)) : Prop where
  ex : ∃ (f : Addr) (fd : FuncData) (kws : List (Str × V)), FunD K x x (defArgs st) (defBody st) (defScope st) [] kws f fd ∧ mg x = some (.ref f) ∧ kws.map (·.1) = kds.map (·.1) ∧ ∀ as H, Rvs K as H (kws.map (·.2)) (kds.map (·.2))
def kwdB (x : Str) (kds : List (Str × D)) (K : PySem.W.Frag) : Bool := match K.lookup (ga K x) with
  | some ⟨_, _, .func fd, _⟩ => (match fd.kwdefaults with
    | .ref A => kds.all fun q => (match PySem.W.nsIn K A q.1 with
      | some (some u) => constB K 6 u q.2
      | _ => false)
    | _ => false)
  | _ => false
theorem kws_of {K : PySem.W.Frag} {A : Addr} : ∀ {kds : List (Str × D)}, (kds.all fun q => (match PySem.W.nsIn K A q.1 with
      | some (some u) => constB K 6 u q.2
      | _ => false)) = true → ∃ kws : List (Str × V), (∀ q ∈ kws, ∃ u, PySem.W.nsIn K A q.1 = some (some u) ∧ RelV q.2 u) ∧ kws.map (·.1) = kds.map (·.1) ∧ ∀ as H, Rvs K as H (kws.map (·.2)) (kds.map (·.2))
  | [], _ => ⟨[], fun q h => (by cases h), rfl, fun _ _ => .nil⟩
  | q :: kds, h => by
    rw [List.all_cons] at h
    obtain ⟨h1, h2⟩ := ba h
    obtain ⟨kws, a, b, c⟩ := kws_of h2
    split at h1
    · rename_i u e
      obtain ⟨v, r1, r2⟩ := constB_ok 6 u q.2 h1
      refine ⟨(q.1, v) :: kws, fun p hp => ?_, by rw [List.map_cons, List.map_cons, b], fun as H => .cons (r2 as H) (c as H)⟩
      rcases List.mem_cons.mp hp with rfl | hp
      · exact ⟨u, e, r1⟩
      · exact a p hp
    · cases h1
theorem funk_ok {K : PySem.W.Frag} {h : Heap} {mg : Str → Option Value} (X : K.In h) (G : h.Ns mainGlobals mg) {x : Str} {st : Stmt} {kds : List (Str × D)} {d : FnM} (c : (funB x K && kwdB x kds K) = true) (e : fnV K (d.adr K) = d.val ∧ d.ok K = true) (hd : d = ⟨fun K => ga K x, x, x, defArgs st, defBody st, defScope st, []⟩) : FunK K mg x st kds := by
  obtain ⟨c0, c3⟩ := ba c
  obtain ⟨c1, c2⟩ := ba c0
  subst hd
  obtain ⟨oc, od, cl, kwV, doc, pm, an, cdv, ct, osl, h1, h2, h3⟩ := FnM.at_ e.1 e.2
  have hcl : cl = [] := List.map_eq_nil_iff.mp h1
  subst hcl
  unfold kwdB at c3
  have h2' : K.lookup (ga K x) = some ⟨oc, od, .func (PySem.W.fnX x x (defArgs st) (defBody st) (defScope st) [] .none kwV doc pm an cdv ct), osl⟩ := h2
  rw [h2'] at c3
  dsimp only at c3
  split at c3
  · rename_i A
    obtain ⟨kws, a, b, r⟩ := kws_of c3
    exact ⟨ga K x, _, kws, ⟨⟨oc, od, .none, .ref A, doc, pm, an, cdv, ct, osl, rfl, h2, h3, .inl ⟨rfl, rfl⟩, .inr ⟨A, rfl, a⟩⟩, c2⟩, glo_ok X G c1, b, r⟩
  · cases c3
/-- a def that is called without its keyword-only parameters -/
structure CalK (P : Program) (w : World) (K : PySem.W.Frag) (mg : Str → Option Value) (base : Heap) (k : Nat) (x : Str) (m : MFn) : Prop where
  ex : ∃ (f : Addr) (fd : FuncData) (ps : List Str) (ds : List Value) (dvs : List V) (kds : List D) (m0 : MFn), FnOk P w K mg base (L2.CX P w) k f fd ps (spM K mg m0) ∧ mg x = some (.ref f) ∧ PySem.W.keepIn K (.ref f) = true ∧ Binds K fd ps ds ∧ Vals dvs ds ∧ (∀ as H, Rvs K as H dvs kds) ∧ m = fun xs S => m0 (xs ++ kds) S
section
variable {P : Program} {w : World} {K : PySem.W.Frag} {mg : Str → Option Value} {base : Heap}
theorem calk1 {x : Str} {st : Stmt} {N ps : List Str} {kds : List (Str × D)} {k n m j : Nat} {b : MS} (F : FunK K mg x st kds) (S : FnScope N ps (defScope st)) (hn : n = ps.length) (hm : m = N.length) (h0 : kds ≠ []) (hj : j + kds.length = ps.length)
    (h : ∀ (A : Addr) (doc pm : Value) (an : Option Addr) (cdv ct : Value) (us ks : List Value), us.length = j → ks.length = kds.length →
      KwChain A ((kds.map (·.1)).zip ks) (bindArgs (PySem.W.fnOf x x (defArgs st) (defBody st) (defScope st) .none (.ref A) doc pm an cdv ct) ⟨us, []⟩) (ps.zip (us ++ ks)))
    (hb : BodyOk P w K mg base k N x (defScope st) (defBody st) b) : CalK P w K mg base (k + 1) x (fun xs S => mFn n m b (xs ++ kds.map (·.2)) S) := by
  subst hn hm
  obtain ⟨f, fd, kws, F1, hmg, e1, e2⟩ := F.ex
  have hl : kws.length = kds.length := by
    have := congrArg List.length e1
    rwa [List.length_map, List.length_map] at this
  obtain ⟨ds, hv, hbd⟩ := F1.binds0 (ps := ps) j (fun e => h0 (by subst e; exact List.length_eq_zero_iff.mp hl.symm)) (by rw [hl]; exact hj) (fun A doc pm an cdv ct us ks h1 h2 => by rw [e1]; exact h A doc pm an cdv ct us ks h1 (by rw [h2, hl]))
  refine ⟨f, fd, ps, ds, kws.map (·.2), kds.map (·.2), _, ?_, hmg, F1.kp, hbd, hv, e2, rfl⟩
  refine F1.ok S (fun vs H Q E h => ?_) (fun cdv A outer s H vs Q E hr h => ?_)
  · obtain ⟨as, ds, S', rv, rel, g⟩ := h
    unfold mFn at g
    by_cases hl : ds.length = ps.length
    · rw [rv.len, hl]
    · rw [if_neg hl] at g; exact g.elim
  · have B := hb f cdv A outer s H E hr (takes_of rfl rfl rfl rfl) (passes_of (K := fun e s'' => L2.CX P w outer H s E e s'') rfl)
    refine ⟨_, B.ps, ?_⟩
    obtain ⟨as, ds, S', rv, rel, g⟩ := h
    unfold mFn at g
    by_cases hl : ds.length = ps.length
    · rw [if_pos hl] at g
      refine ⟨as, _, S', Re.start (N := N) rv, rel, ?_⟩
      rw [hl]
      cases e : b (ds.map some ++ List.replicate (N.length - ps.length) none) S' with
      | nx env S2 => rw [e] at g; exact fun as' H' σ' x r q => g as' H' _ x r .non
      | rt d S2 => rw [e] at g; exact fun as' H' v x r q => g as' H' v x r q
      | bk env S2 => rw [e] at g; exact g.elim
      | ct env S2 => rw [e] at g; exact g.elim
      | ex z env S2 => rw [e] at g; exact fun as' H' σ' c dd x r q q2 => g as' H' c dd x r q2
      | no => rw [e] at g; exact g.elim
    · rw [if_neg hl] at g; exact g.elim
end
section
variable {X : Cx} {W : WX}
theorem em_callK {k j : Nat} {x : Str} {m : MFn} {e : Expr} {es : List Expr} {a : MA} {p pos : Pos} (c : CalK X.prog X.w X.K X.mg X.base k x m) (hr : Room j X.A) (tk : Takes X W) (ha : AM X W (e :: es) a) (hk : k ≤ j := by decide) (hg : Gl X x := by rfl)
    (hdb : (x == ("__debug__" : Str)) = false := by decide) (he : starEach (e :: es) X.env = (false, eval e X.env) :: starEach es X.env := by rfl) (hpl : (backTo pos (starEach es X.env)).any (·.1) = false := by rfl) :
    EM X W (.Call (.Name x p) (e :: es) [] pos) (mCall m a) := by
  obtain ⟨f, fd, ps, ds, dvs, kds, m0, F, hm, hkp, hb, hd, hr2, rfl⟩ := c.ex
  refine ⟨pe_imp (pe_callSD F (hr.mono hk) hg hm hkp hb hd (fun σ => passAt tk σ) ha.pa hdb he hpl) fun σ H Q q => ?_⟩
  exact tU_bind (f := fun _ xs S => m0 (xs ++ kds) S) q fun as env ds S1 as1 H1 vs re rel rv g => ⟨as1, ds ++ kds, S1, rv.appx (hr2 as1 H1), rel, g.wish fun _ _ _ z => z⟩
end
end Mi

namespace Mi
open PySem PySem.Spec PyProof.Rows L2
/-! ### own exceptions without fields -/
def spIni0 (C : Addr) : Sp := fun vs H Q _ => ∃ a, vs = [.ref a] ∧ H a = some (exo a C none) ∧ Q .non H
section
variable {P : Program} {w : World} {K : PySem.W.Frag} {mg : Str → Option Value} {base : Heap} {C fI cc : Addr} {qual : Str} {params : Arguments} {body : List Stmt} {scope : Scope}
theorem ini0 {z self : Str} {j k : Nat} {p0 p1 p2 p3 p4 p5 : Pos}
    (F : ExcF K P C fI cc qual params body scope) (hbody : body = [.Expr (supE z j p0 p1 p2 p3 p4) p5]) (hev : SupEv z j p0 p1 p2 p3 p4)
    (S : NdefX.NScope [self, "__class__"] [self] ["__class__"] scope) (hks : scope.names.lookup ("super" : Str) = some .globalImplicit) (hpar : ∃ ar, (params.posonlyargs ++ params.args).head? = some ar ∧ ar.arg = self)
    (hm : mg "super" = none)
    (hbn : ∀ (kV doc pm : Value) (an : Option Addr) (cdv ct : Value) (us : List Value), us.length = [self].length → bindArgs (PySem.W.fnX "__init__" qual params body scope [("__class__", cc)] .none kV doc pm an cdv ct) ⟨us, []⟩ = pure ([self].zip us)) :
    ∃ fd : FuncData, FnOk P w K mg base (L2.CX P w) (k + 1) fI fd [self] (spIni0 C) ∧ Binds K fd [self] [] := by
  refine xin_ok (ps := []) (rest := []) (ts := fun _ => tNext) F hbody hev S hks hpar hm (fun vs H Q E h => ?_) (fun vs H Q E h => ?_) (fun X a eK eN eS => pss_nil) hbn
  · obtain ⟨a, rfl, _⟩ := h
    rfl
  · obtain ⟨a, rfl, ha, hq⟩ := h
    exact ⟨a, [], rfl, ha, hq⟩
structure Rsb0 (P : Program) (w : World) (K : PySem.W.Frag) (mg : Str → Option Value) (base : Heap) (k : Nat) (x : Str) : Prop where
  ex : ∃ (C fI : Addr) (fd : FuncData) (ps : List Str), OexC K C ∧ PySem.W.findIn K (.ref C) "__init__" = some (some (.ref fI)) ∧ PySem.W.typeIn K (.ref fI) = some (.type "function") ∧
    FnOk P w K mg base (L2.CX P w) k fI fd ps (spIni0 C) ∧ Binds K fd ps [] ∧ mg x = some (.ref C)
end
section
variable {X : Cx} {W : WX}
/-- the end of C(): the exception, which has no dict, is let go -/
theorem let_go {pins : List (Addr × Obj)} {σ : L2.St} {H1 : Hp} {hp hp2 h2 : Heap} {g1 g2 : Array GenState} {d1 d2 : Drawn} {t1 t2 : Nat} {os1 os2 : OsState} {a C : Addr} (I1 : Inv X pins σ H1 ⟨hp, g1, d1, t1, os1⟩)
    (ha : hp.objs.size ≤ a) (k : ∀ b o, hp.get? b = some o → hp2.get? b = some o) (un : Un (frs X.stack) [] (upd H1 a (exo a C none)) (upd H1 a (exo a C none)) hp2 h2) (hok : HOk X.prog X.w (upd H1 a (exo a C none)) h2) (ho : os2 = os1) (hb : AllBare g2) :
    ∃ (t0 : Addr) (G : Heap), Inv X pins σ H1 ⟨G, g2, d2, t2, os2⟩ ∧ (∀ b o, G.get? b = some o → h2.get? b = some o) ∧ G.get? a = none ∧
      h2.get? a = some ({ cls := .ref C, dict := none, data := .fields #[.ref t0, .none, .none, .none, .bool false, .none] } : Obj) := by
  have hn : H1 a = none := I1.hok.fresh ha
  obtain ⟨t0, hoe⟩ := exo_at (e := a) (C := C) (d := none) hok upd_same
  obtain ⟨G, q1, q2⟩ := restrict h2 fun b => decide (b ≠ a)
  have at_ : ∀ b, b ≠ a → G.get? b = h2.get? b := fun b hb => q1 b (decide_eq_true hb)
  have gone : G.get? a = none := q2 a (by simp)
  have old : ∀ {b : Addr} {o : Obj}, hp.get? b = some o → b ≠ a := fun {b o} z => Nat.ne_of_lt (Nat.lt_of_lt_of_le (Heap.lt_size z) ha)
  have stays : ∀ {b : Addr} {o : Option HO}, b ≠ a → H1 b = o → upd H1 a (exo a C none) b = o := fun {b o} hb n => by rw [upd_ne hb]; exact n
  have U : Un (frs X.stack) [] H1 H1 hp G := {
    keep := fun b o z n hf hx => (at_ b (old z)).trans (un.keep b o (k b o z) (stays (old z) n) hf hx)
    slot := fun b o z n hf hx => by
      rw [at_ b (old z)]
      exact un.slot b o (k b o z) (stays (old z) n) hf hx
    free := fun b o z n hx => n
    there := fun b o z hx => by
      rw [at_ b (old z)]
      exact un.there b o (k b o z) hx
    tups := fun b xs z => z
    frzs := fun b o v z => z
    tbls := fun b ps z => ⟨#[], by rw [Array.append_empty]; exact z⟩ }
  have hok1 : HOk X.prog X.w H1 G := fun b o z => by
    have hba : b ≠ a := ne_of_none z hn
    refine (hok b o (stays hba z)).stay (fun c v hc y => ?_) (fun c hc => ?_) (fun c xs hc => ?_)
    · have hca : c ≠ a := by
        rcases hc with hc | hc
        · rw [hc]; exact hba
        · intro e
          rw [e, upd_same] at hc
          exact exo_own (Option.some.inj hc)
      rw [at_ c hca]; exact y
    · have hca : c ≠ a := fun e => by
        rw [e, upd_same] at hc
        exact exo_own (Option.some.inj hc)
      rwa [upd_ne hca] at hc
    · have hca : c ≠ a := fun e => by
        rw [e, upd_same] at hc
        exact exo_tup (Option.some.inj hc)
      rwa [upd_ne hca] at hc
  have J : Inv X pins σ H1 ⟨G, g2, d2, t2, os2⟩ := I1.call' (ch := []) ho U hok1 hb (fun b z => absurd z (by simp))
  refine ⟨t0, G, J, fun b o z => ?_, gone, hoe⟩
  by_cases hba : b = a
  · rw [hba, gone] at z; cases z
  · exact (at_ b hba).symm.trans z
theorem pmk_own0 {x : Str} {C fI : Addr} {k : Nat} {fd : FuncData} {ps : List Str} {p pos : Pos} (T : OexC X.K C) (iC : PySem.W.findIn X.K (.ref C) "__init__" = some (some (.ref fI))) (tI : PySem.W.typeIn X.K (.ref fI) = some (.type "function"))
    (F1 : FnOk X.prog X.w X.K X.mg X.base (L2.CX X.prog X.w) k fI fd ps (spIni0 C)) (hr : Room (k + 1) X.A) (hb : Binds X.K fd ps []) (hx : Passes (L2.CX X.prog X.w) X (fun _ _ _ => False)) (hg : Gl X x) (hm : X.mg x = some (.ref C))
    (hdb : (x == ("__debug__" : Str)) = false := by decide) : PMk X (.Call (.Name x p) [] [] pos) (fun _ H Q => Q (.ref C) none H) := by
  intro pins s σ H1 Q I1 h
  obtain ⟨nm, q, N, bs, bm, sn, sub, ab, col, dd, k0, k1, k2, k3, k5, hC, hbm⟩ := T.cls
  refine wpAny_Call_Name_kw (ld_glob I1 hg hm ?_ hdb)
  refine PySem.W.callWith_K0 I1.kIn T.kC ?_
  show wpAny _ _ (call (.ref C) []) _ _ _
  obtain ⟨hp, g, dr, tk, os⟩ := s
  have hsz : hp.objs.size ≤ hp.objs.size + 1 := Nat.le_succ _
  have hn : H1 (hp.objs.size + 1) = none := I1.hok.fresh hsz
  have hget : ((hp.push (PySem.W.kdv_tup [])).push (PySem.HandSPX.excO C hp.objs.size)).get? (hp.objs.size + 1) = some (PySem.HandSPX.excO C hp.objs.size) := by heap_get
  have kk : ∀ b o, hp.get? b = some o → ((hp.push (PySem.W.kdv_tup [])).push (PySem.HandSPX.excO C hp.objs.size)).get? b = some o := fun b o e => Heap.get?_push_of_some _ (Heap.get?_push_of_some _ e)
  have I2 : Inv X pins σ (upd H1 (hp.objs.size + 1) (exo (hp.objs.size + 1) C none)) ⟨(hp.push (PySem.W.kdv_tup [])).push (PySem.HandSPX.excO C hp.objs.size), g, dr, tk, os⟩ :=
    I1.laid (t' := tk) (a := hp.objs.size + 1) (o := exo (hp.objs.size + 1) C none) (h' := (hp.push (PySem.W.kdv_tup [])).push (PySem.HandSPX.excO C hp.objs.size)) kk hsz (exo_ok hget)
  have hq : spIni0 C [.ref (hp.objs.size + 1)] (upd H1 (hp.objs.size + 1) (exo (hp.objs.size + 1) C none)) (fun v H2 => v = .non ∧ H2 = upd H1 (hp.objs.size + 1) (exo (hp.objs.size + 1) C none)) (fun _ _ _ => False) := ⟨_, rfl, upd_same, rfl, rfl⟩
  have r2 : Vals [V.ref (hp.objs.size + 1)] [Value.ref (hp.objs.size + 1)] := .cons rfl .nil
  have hl : ([Value.ref (hp.objs.size + 1)] ++ []).length = ps.length := F1.len _ _ _ _ hq
  refine wpAny_call (PySem.HandSPX.call_own F.excBase_ValueError (fun Y => PySem.HandSPX.refsVE_contains Y bm hbm) (I1.kIn _ _ hC) (PySem.W.looks_findIn I1.kIn iC) (fun self => PySem.W.bind_fn I1.kIn self tI) (Nat.zero_le _)
    (codeAny_mono (F1.run _ X.stack _ _ ⟨[Value.ref (hp.objs.size + 1)], []⟩ [Value.ref (hp.objs.size + 1)] _ _ (fun _ _ _ => False) (hr.make C [] []) (I2.env0.make C [] []) (hb _ [Value.ref (hp.objs.size + 1)] I2.kIn hl) r2 hq) fun r s' hq' => ?_))
  cases r with
  | error er => exact hx pins σ _ _ er s' I2 hq'
  | ok fl =>
    cases fl with
    | ret u =>
      obtain ⟨v, H2, os2, bare2, un2, hok2, rv, ev, e2⟩ := hq'
      subst ev e2
      obtain ⟨h2, g2, d2, t2, os'⟩ := s'
      obtain ⟨t0, G, J, kG, ge, hoe⟩ := let_go (d2 := d2) (t2 := t2) I1 hsz kk un2 hok2 os2 bare2
      exact ⟨rv, ⟨hp.objs.size + 1, _, _, ⟨G, g2, d2, t2, os'⟩, _, .ref C, none, rfl, J, kG, ge, hoe, ⟨rfl, rfl⟩, rfl, rfl, hn, rfl, bare2, raises_own T.exC T.tyC, h⟩⟩
    | next => exact False.elim hq'
    | brk => exact False.elim hq'
    | cont => exact False.elim hq'
/-- raise x() -/
def sRaise0 (x : Str) : MS := fun env S => .ex ⟨x, []⟩ env S
theorem sm_raise0 {k j : Nat} {x : Str} {p pos pos' : Pos} (c : Rsb0 X.prog X.w X.K X.mg X.base k x) (hr : Room j X.A) (tk : Takes X W) (hc : X.calm = true) (hk : k + 1 ≤ j := by decide) (hg : Gl X x := by rfl) (hdb : (x == ("__debug__" : Str)) = false := by decide) :
    SM X W (.Raise (some (.Call (.Name x p) [] [] pos)) none pos') (sRaise0 x) := by
  obtain ⟨C, fI, fD, ps, T, iC, tI, F, hb, hm⟩ := c.ex
  refine ⟨ps_imp (ps_raise hc tk (pmk_own0 T iC tI F (hr.mono hk) hb (fun _ _ _ _ _ _ _ h => by obtain ⟨_, _, _, _, _, _, _, _, _, _, _, _, z⟩ := h; exact z.elim) hg hm hdb)) fun Dn σ H ⟨as, env, S, re, rel, g⟩ => ?_⟩
  exact g as H σ (.ref C) none Ex.refl rel re ⟨C, [], rfl, hm, .inl ⟨rfl, rfl⟩, rfl, .nil⟩
end
section
variable {K : PySem.W.Frag} {h : Heap} {mg : Str → Option Value} (X : K.In h) (G : h.Ns mainGlobals mg)
include X G
theorem rsb0 {P : Program} {w : World} {base : Heap} {x qual z self : Str} {j : Nat} {st : Stmt} {d : FnM} {p0 p1 p2 p3 p4 p5 : Pos} (c : excB P.main.file x [] K = true) (e : fnV K (d.adr K) = d.val ∧ d.ok K = true)
    (hd : d = ⟨iniA x, "__init__", qual, defArgs st, defBody st, defScope st, ["__class__"]⟩) (hs : freeB "super" K = true) (htop : (P.main.scope.names.lookup ("super" : Str)).isSome = false)
    (hbody : defBody st = [.Expr (supE z j p0 p1 p2 p3 p4) p5]) (hev : SupEv z j p0 p1 p2 p3 p4)
    (S : NdefX.NScope [self, "__class__"] [self] ["__class__"] (defScope st)) (hks : (defScope st).names.lookup ("super" : Str) = some .globalImplicit) (hpar : ∃ ar, ((defArgs st).posonlyargs ++ (defArgs st).args).head? = some ar ∧ ar.arg = self)
    (hbn : ∀ (cc : Addr) (kV doc pm : Value) (an : Option Addr) (cdv ct : Value) (us : List Value), us.length = [self].length → bindArgs (PySem.W.fnX "__init__" qual (defArgs st) (defBody st) (defScope st) [("__class__", cc)] .none kV doc pm an cdv ct) ⟨us, []⟩ = pure ([self].zip us)) :
    Rsb0 P w K mg base 1 x := by
  obtain ⟨c1, c⟩ := ba c
  obtain ⟨c2, c3⟩ := ba c
  subst hd
  obtain ⟨cc, F⟩ := iniB_ok e.1 e.2 rfl rfl rfl c2 htop
  obtain ⟨fd, H1, H2⟩ := ini0 (w := w) (mg := mg) (base := base) (k := 0) F hbody hev S hks hpar (free_ok X G hs) (hbn cc)
  exact ⟨ga K x, iniA x K, fd, [self], F.ox, F.init, F.tI, H1, H2, glo_ok X G c1⟩
end
end Mi

namespace Mi
open PySem PySem.Spec PyProof.Rows L2
/-! ### several except clauses, with and without a name -/
abbrev Cl := Value × Option Nat × (Addr → Value → Option Addr → TS)
/-- the ends behind a clause that has a name -/
def unName (i : Nat) (D : Ends) : Ends := { nx := fun σ H => D.nx (σ.set i none) H, rt := D.rt, bk := fun σ H => D.bk (σ.set i none) H, ct := fun σ H => D.ct (σ.set i none) H }
def clRun (D : Ends) (o : Option Nat) (t : TS) (a : Addr) : L2.St → Hp → Prop := fun σ H => match o with
  | none => t D σ H
  | some i => t (unName i D) (σ.set i (some (.ref a))) H
def wCls (K : PySem.W.Frag) (Wout : WX) (D : Ends) : List Cl → WX
  | [] => Wout
  | (c, o, ts) :: r => fun cls d σ H => ∃ b, PySem.W.exmOne K cls c = some b ∧ (b = true → ∀ a, H a = none → clRun D o (ts a cls d) a σ H) ∧ (b = false → wCls K Wout D r cls d σ H)
inductive Cls (X : Cx) : List ExceptHandler → List Cl → Prop
  | nil : Cls X [] []
  | plain {x : Str} {c : Value} {ts : Addr → Value → Option Addr → TS} {b₀ : Stmt} {suite : List Stmt} {np pos' : Pos} {hds : List ExceptHandler} {l : List Cl} (hc : Names X x c)
      (hsu : ∀ (a : Addr) (oe : Obj) (cls : Value) (d : Option Addr) (pn : List (Addr × Obj)), Zc cls d oe → (∃ vs, oe.data = .fields vs) → PSs (X.suite a ((a, oe) :: pn)) (b₀ :: suite) (ts a cls d)) (r : Cls X hds l) :
      Cls X (.ExceptHandler (some (.Name x np)) none (b₀ :: suite) pos' :: hds) ((c, none, ts) :: l)
  | named {x n : Str} {i : Nat} {c : Value} {ts : Addr → Value → Option Addr → TS} {b₀ : Stmt} {suite : List Stmt} {np pos' : Pos} {hds : List ExceptHandler} {l : List Cl} (hN : X.N.Nodup) (hi : X.N[i]? = some n) (hln : X.env.kindOf n = some .local) (hc : Names X x c)
      (hsu : ∀ (a : Addr) (oe : Obj) (cls : Value) (d : Option Addr) (pn : List (Addr × Obj)), Zc cls d oe → (∃ vs, oe.data = .fields vs) → PSs (X.suite a ((a, oe) :: pn)) (b₀ :: suite) (ts a cls d)) (r : Cls X hds l) :
      Cls X (.ExceptHandler (some (.Name x np)) (some n) (b₀ :: suite) pos' :: hds) ((c, some i, ts) :: l)
section
variable {X : Cx} {body : List Stmt} {h₀ : ExceptHandler} {hds : List ExceptHandler} {l : List Cl} {pos : Pos} {tb : WX → TS} {Wout : WX}
theorem ps_try_cls (hs : X.stack = X.env :: X.outer) (hf : X.env.frame = some X.env.locals) (tk : Takes X Wout)
    (hb : ∀ (W : WX) (pn : List (Addr × Obj)) (xe : Value → Shared → Prop), Takes (X.tr pn xe) W → PassesOwn (model X.prog X.w) X.A X.env xe → PSs (X.tr pn xe) body (tb W))
    (hh : Cls X (h₀ :: hds) l) : PS X (.Try body (h₀ :: hds) [] [] pos) (fun D σ H => tb (wCls X.K Wout D l) D σ H) := by
  refine ⟨fun pins s σ H D I h => ?_⟩
  have ok := I.ok
  have hfr : X.A.frames = some (X.env :: X.outer) := by rw [ok.frames, hs]
  refine wpAny_Try_except ?_
  refine wpAny_mono ((hb (wCls X.K Wout D l) (X.pn ++ pins) (fun e s₁ => wpAny (model X.prog X.w) X.A (noteFrame e X.env) (fun _ s₂ => wpAny (model X.prog X.w) X.A (setFlight e none) (fun _ s₃ =>
    wpAny (model X.prog X.w) X.A (handleBy e X.env (h₀ :: hds)) (SP X pins D) X.xe s₃) X.xe s₂) X.xe s₁) (fun u s' xx => ?_) PassesOwn.looking).run [] s σ H D (I.toTry _) h) (fun f s1 hsp => ?_) (fun e s1 he => he)
  · obtain ⟨a, B, sI, pins', σ', H', cls, d, rfl, J', nb, up, sky, na, os, ag, w⟩ := xx
    have J : Inv X pins σ' H' sI := J'.ofTry ok
    have sky' : Sky B (X.env :: X.outer) a (Zc cls d) X.env.locals s'.heap := by rw [← hs]; exact sky
    show wpAny (model X.prog X.w) X.A (noteFrame (.ref a) X.env) _ _ _
    refine Sky.land Zc.steady hfr hf sky' fun h3 fl3 up3 => ?_
    have J3 : Inv X pins σ' H' { s' with heap := h3 } := J.landed nb fl3.1 (up.trans up3) os ag
    obtain ⟨oe3, vs3, he3, hz3, hd3⟩ := fl3.there
    -- the exception is no frame of ours
    have nfr : a ∉ frs (X.env :: X.outer) := fun hm => by
      obtain ⟨_, o', e', hnf⟩ := fl3.2.2.1.mem hm
      rw [he3] at e'; cases e'
      exact hnf _ hd3
    have nL : a ≠ X.env.locals := fun z => nfr (List.mem_filterMap.mpr ⟨X.env, List.mem_cons_self, by rw [hf, z]⟩)
    have nF : a ∉ X.fs := fun hm => by
      obtain ⟨e, he, q⟩ := List.mem_filterMap.mp hm
      exact nfr (List.mem_filterMap.mpr ⟨e, List.mem_cons_of_mem _ he, q⟩)
    have S3 := J3.suite he3 hd3 na nL nF
    have LT : PySem.W.Looks (model X.prog X.w) h3 (typeOf (.ref a)) cls := fun A Q E s k q => wpAny_typeOf_ref (k _ _ he3) (by rw [hz3.1]; exact q)
    -- a clause's test
    have test : ∀ {x : Str} {c : Value} {np : Pos}, Names X x c →
        ∀ {Q : Value → Shared → Prop} {E : Value → Shared → Prop}, Q c { s' with heap := h3 } → wpAny (model X.prog X.w) (X.A.mark (some (.ref a))) (eval (.Name x np) X.env) Q E { s' with heap := h3 } := fun {x c np} hc {Q E} q => by
      obtain ⟨hg, hdbg, hm | ⟨hm, hv, hnn⟩⟩ := hc
      · exact ld_glob (X := X.suite a ((a, oe3) :: (X.pn ++ pins))) S3 hg hm q hdbg
      · exact ld_blt (X := X.suite a ((a, oe3) :: (X.pn ++ pins))) S3 hg hm hv q hnn hdbg
    have go : ∀ {hds' : List ExceptHandler} {l' : List Cl}, Cls X hds' l' → wCls X.K Wout D l' cls d σ' H' →
        wpAny (model X.prog X.w) X.A (handleBy (.ref a) X.env hds') (SP X pins D) X.xe { s' with heap := h3 } := by
      intro hds' l' hk
      induction hk with
      | nil =>
        intro w
        refine wpAny_handleBy_nil ?_
        obtain ⟨k1, k2, k3, oe, vs, T, oT, ts', he, hz, hd, h1, hr⟩ := id fl3
        unfold PySem.passOn
        refine wpAny_bind (wpAny_field he hd h1 ?_)
        rw [if_neg (show ¬ ((Value.ref T == Value.none) = true) from by simp)]
        have fin : wpAny (model X.prog X.w) X.A (setFlight (.ref a) X.env.frame) (fun _ s4 => wpAny (model X.prog X.w) X.A (throw (.ref a) : Sem Flow) (SP X pins D) X.xe s4) X.xe { s' with heap := h3 } := by
          rw [hf]
          refine HandSPX.setFlight_upZ fl3 fun h4 hh4 up4 => wpAny_throw (tk _ _ ?_)
          exact ⟨a, B, sI, pins, σ', H', cls, d, rfl, J, nb, (up.trans up3).trans up4, .inr (.inr (by rw [hs]; exact hh4)), na, os, ag, w⟩
        first
          | exact wpAny_bind (wpAny_pure (wpAny_bind fin))
          | exact wpAny_bind fin
      | @plain x c ts b₀ suite np pos' hds2 l2 hc hsu r ih =>
        intro w
        obtain ⟨b, hb1, hyes, hno⟩ := w
        refine wpAny_handleBy_cons (codeAny_handlers_test ?_) (by intro q; cases q)
        refine test hc ((PySem.W.exm_one (M := model X.prog X.w) J3.kIn LT hb1).here ?_)
        cases b with
        | false => exact ih (hno rfl)
        | true =>
          refine codeAny_handlers_suite ?_
          refine HandSPX.lands_againZ fl3 fun h4 fl4 up4 => ?_
          obtain ⟨oe4, vs4, he4, hz4, hd4⟩ := fl4.there
          have J4 : Inv X pins σ' H' { s' with heap := h4 } := J.landed nb fl4.1 ((up.trans up3).trans up4) os ag
          have S4 := J4.suite he4 hd4 na nL nF
          refine wpAny_mono ((hsu a oe4 cls d (X.pn ++ pins) hz4 ⟨_, hd4⟩).run [] _ _ H' _ S4 (hyes rfl a na)) (fun f s6 hsp => ?_) (fun _ _ z => False.elim z)
          cases f <;> first
            | (obtain ⟨σ6, H6, S6, q6⟩ := hsp; exact ⟨_, _, S6.unsuite ok, q6⟩)
            | (obtain ⟨v6, σ6, H6, S6, r6, q6⟩ := hsp; exact ⟨_, _, _, S6.unsuite ok, r6, q6⟩)
      | @named x n i c ts b₀ suite np pos' hds2 l2 hN hi hln hc hsu r ih =>
        intro w
        obtain ⟨b, hb1, hyes, hno⟩ := w
        refine wpAny_handleBy_cons (codeAny_handlers_test ?_) (by intro q; cases q)
        refine test hc ((PySem.W.exm_one (M := model X.prog X.w) J3.kIn LT hb1).here ?_)
        cases b with
        | false => exact ih (hno rfl)
        | true =>
          refine codeAny_handlers_suite_as ?_
          refine HandSPX.lands_againZ fl3 fun h4 fl4 up4 => ?_
          obtain ⟨oe4, vs4, he4, hz4, hd4⟩ := fl4.there
          have J4 : Inv X pins σ' H' { s' with heap := h4 } := J.landed nb fl4.1 ((up.trans up3).trans up4) os ag
          have S4 := J4.suite he4 hd4 na nL nF
          refine store_ok (X := X.suite a ((a, oe4) :: (X.pn ++ pins))) (v := .ref a) S4 hN hi (.inl hln) rfl (fun s5 S5 => ?_) (.inr hln)
          refine wpAny_mono ((hsu a oe4 cls d (X.pn ++ pins) hz4 ⟨_, hd4⟩).run [] s5 _ H' _ S5 (hyes rfl a na)) (fun f s6 hsp => ?_) (fun _ _ z => False.elim z)
          cases f <;> first
            | (obtain ⟨σ6, H6, S6, q6⟩ := hsp; exact gone_ok (S6.unsuite ok) hN hi hln fun s7 J7 => ⟨_, _, J7, q6⟩)
            | (obtain ⟨v6, σ6, H6, S6, r6, q6⟩ := hsp; exact gone_ok (S6.unsuite ok) hN hi hln fun s7 J7 => ⟨_, _, _, J7, r6, q6⟩)
    exact go hh w
  · cases f with
    | next => obtain ⟨σ', H', J', q⟩ := hsp; exact wpAny_execs_nil ⟨σ', H', J'.ofTry ok, q⟩
    | brk => obtain ⟨σ', H', J', q⟩ := hsp; exact ⟨σ', H', J'.ofTry ok, q⟩
    | cont => obtain ⟨σ', H', J', q⟩ := hsp; exact ⟨σ', H', J'.ofTry ok, q⟩
    | ret u => obtain ⟨v, σ', H', J', r, q⟩ := hsp; exact ⟨v, σ', H', J'.ofTry ok, r, q⟩
end
/-! mirrored -/
abbrev ClM := (Str → Option Bool) × Option Nat × (Xn → MS)
def noExS : RS → RS
  | .nx env S => .nx env S
  | .rt d S => .rt d S
  | .bk env S => .bk env S
  | .ct env S => .ct env S
  | _ => .no
def catchM : List ClM → Xn → Env → Sto → RS
  | [], e, env, S => .ex e env S
  | (sub, o, su) :: r, e, env, S => match sub e.cls with
    | some true => (match o with
      | some i => if i < env.length then unsetEnd i (su e (env.set i none) S) else .no
      | none => noExS (su e env S))
    | some false => catchM r e env S
    | none => .no
def sTryM (b : MS) (cl : List ClM) : MS := fun env S => match b env S with
  | .ex e env' S' => catchM cl e env' S'
  | o => o
/-- the clauses are mirrored -/
inductive ClsM (X : Cx) : List ExceptHandler → List ClM → Prop
  | nil : ClsM X [] []
  | plain {x : Str} {sub : Str → Option Bool} {b₀ : Stmt} {suite : List Stmt} {np pos' : Pos} {su : MS} {hds : List ExceptHandler} {l : List ClM} (T : Exk X.K X.mg x sub) (hg : Gl X x) (hd : (x == ("__debug__" : Str)) = false)
      (hsu : ∀ (a : Addr) (oe : Obj) (pn : List (Addr × Obj)), BM (X.suite a ((a, oe) :: pn)) W0 (b₀ :: suite) su) (r : ClsM X hds l) :
      ClsM X (.ExceptHandler (some (.Name x np)) none (b₀ :: suite) pos' :: hds) ((sub, none, fun _ => su) :: l)
  | named {x n : Str} (i : Nat) {sub : Str → Option Bool} {b₀ : Stmt} {suite : List Stmt} {np pos' : Pos} {su : Xn → MS} {hds : List ExceptHandler} {l : List ClM} (T : Exk X.K X.mg x sub) (hg : Gl X x) (hd : (x == ("__debug__" : Str)) = false) (hN : X.N.Nodup) (hi : X.N[i]? = some n) (hln : X.env.kindOf n = some .local)
      (hsu : ∀ (a : Addr) (oe : Obj) (cls : Value) (d : Option Addr) (pn : List (Addr × Obj)), Zc cls d oe → (∃ vs, oe.data = .fields vs) → BX (X.suite a ((a, oe) :: pn)) a cls d i (b₀ :: suite) su) (r : ClsM X hds l) :
      ClsM X (.ExceptHandler (some (.Name x np)) (some n) (b₀ :: suite) pos' :: hds) ((sub, some i, su) :: l)
section
variable {X : Cx} {W : WX}
theorem clsM_ok {hds : List ExceptHandler} {l : List ClM} (h : ClsM X hds l) : ∃ lc : List Cl, Cls X hds lc ∧ ∀ (Dn : Ends) (as : List Addr) (S : Sto) (H : Hp) (σ : L2.St) (env : Env) (e : Xn) (cls : Value) (d : Option Addr), Re X.K as H σ env → Rel X.K as S H → Rx X.K X.mg as H cls d e → GoS X.K X.mg W (catchM l e env S) as H Dn → wCls X.K W Dn lc cls d σ H := by
  induction h with
  | nil => exact ⟨[], .nil, fun Dn as S H σ env e cls d re rel rx g => g as H σ cls d Ex.refl rel re rx⟩
  | @plain x sub b₀ suite np pos' su hds l T hg hd hsu r ih =>
    obtain ⟨lc, c, st⟩ := ih
    obtain ⟨C, hm, hx⟩ := T.ex
    refine ⟨_, .plain (c := .ref C) (ts := fun a cls d => tS X.K X.mg W0 su) ⟨hg, hd, .inl hm⟩ (fun a oe cls d pn hz hv => (hsu a oe pn).ps) c, fun Dn as S H σ env e cls d re rel rx g => ?_⟩
    obtain ⟨C', fs, e2, e3, rr⟩ := id rx
    unfold catchM at g
    cases es : sub e.cls with
    | none => simp only [es] at g; exact g.elim
    | some bb =>
      refine ⟨bb, by rw [e2]; exact hx _ _ _ e3 es, fun hbt a na => ?_, fun hbf => ?_⟩
      · subst hbt
        simp only [es] at g
        refine ⟨as, env, S, re, rel, ?_⟩
        cases eu : su env S with
        | nx en2 S2 => rw [eu] at g; exact g
        | rt d S2 => rw [eu] at g; exact g
        | bk en2 S2 => rw [eu] at g; exact g
        | ct en2 S2 => rw [eu] at g; exact g
        | ex _ _ _ => rw [eu] at g; exact g.elim
        | no => rw [eu] at g; exact g.elim
      · subst hbf
        simp only [es] at g
        exact st Dn as S H σ env e cls d re rel rx g
  | @named x n i sub b₀ suite np pos' su hds l T hg hd hN hi hln hsu r ih =>
    obtain ⟨lc, c, st⟩ := ih
    obtain ⟨C, hm, hx⟩ := T.ex
    refine ⟨_, .named (i := i) (c := .ref C) (ts := fun a cls d => tSX (X.suite a []) a cls d i su) hN hi hln ⟨hg, hd, .inl hm⟩ (fun a oe cls d pn hz hv => (hsu a oe cls d pn hz hv).ps) c, fun Dn as S H σ env e cls d re rel rx g => ?_⟩
    obtain ⟨C', fs, e2, e3, rr⟩ := id rx
    unfold catchM at g
    cases es : sub e.cls with
    | none => simp only [es] at g; exact g.elim
    | some bb =>
      refine ⟨bb, by rw [e2]; exact hx _ _ _ e3 es, fun hbt a na => ?_, fun hbf => ?_⟩
      · subst hbt
        simp only [es] at g
        by_cases hl : i < env.length
        · rw [if_pos hl] at g
          have hls : i < σ.length := by rw [re.len]; exact hl
          have re2 : Re X.K as H (σ.set i (some (.ref a))) (env.set i none) := by
            refine ⟨by simp [re.len], fun j d hj => ?_⟩
            by_cases hij : i = j
            · subst hij
              rw [List.getElem?_set_self hl] at hj
              cases hj
            · rw [List.getElem?_set_ne hij] at hj ⊢
              exact re.at_ j d hj
          refine ⟨as, _, S, e, re2, rel, ⟨List.getElem?_set_self hls, rx⟩, ?_⟩
          cases eu : su e (env.set i none) S with
          | nx en2 S2 => rw [eu] at g; exact fun as3 H3 σ3 x3 r3 q3 => g as3 H3 _ x3 r3 q3.unset
          | rt d S2 => rw [eu] at g; exact g
          | bk en2 S2 => rw [eu] at g; exact fun as3 H3 σ3 x3 r3 q3 => g as3 H3 _ x3 r3 q3.unset
          | ct en2 S2 => rw [eu] at g; exact fun as3 H3 σ3 x3 r3 q3 => g as3 H3 _ x3 r3 q3.unset
          | ex _ _ _ => rw [eu] at g; exact g.elim
          | no => rw [eu] at g; exact g.elim
        · rw [if_neg hl] at g; exact g.elim
      · subst hbf
        simp only [es] at g
        exact st Dn as S H σ env e cls d re rel rx g
theorem sm_try {h₀ : ExceptHandler} {hds : List ExceptHandler} {l : List ClM} {body : List Stmt} {pos : Pos} {b : MS} (hc : ClsM X (h₀ :: hds) l) (tk : Takes X W)
    (hb : ∀ (W : WX) (pn : List (Addr × Obj)) (xe : Value → Shared → Prop), Takes (X.tr pn xe) W → PassesOwn (model X.prog X.w) X.A X.env xe → BM (X.tr pn xe) W body b)
    (hs : X.stack = X.env :: X.outer := by rfl) (hf : X.env.frame = some X.env.locals := by rfl) :
    SM X W (.Try body (h₀ :: hds) [] [] pos) (sTryM b l) := by
  obtain ⟨lc, c, st⟩ := clsM_ok (W := W) hc
  refine ⟨ps_imp (ps_try_cls (tb := fun W => tS X.K X.mg W b) hs hf tk (fun W' pn xe tk' po => (hb W' pn xe tk' po).ps) c) fun Dn σ H ⟨as, env, S, re, rel, g⟩ => ⟨as, env, S, re, rel, ?_⟩⟩
  unfold sTryM at g
  cases eb : b env S with
  | nx env S => rw [eb] at g; exact g
  | rt d S => rw [eb] at g; exact g
  | bk env S => rw [eb] at g; exact g
  | ct env S => rw [eb] at g; exact g
  | no => rw [eb] at g; exact g
  | ex e env' S' =>
    rw [eb] at g
    intro as' H' σ' cls dd x1 rel1 re1 rx
    exact st Dn as' S' H' σ' env' e cls dd re1 rel1 rx (GoS.later x1 g)
end
end Mi

namespace Mi
open PySem PySem.Spec PyProof.Rows L2 PySem.AutoSeq1
/-! ### l.extend(t), t a tuple -/
theorem ext_tup (l : Addr) (items : Array Value) (n : Nat) (b : Addr) (dd : Option Addr) (sl : Array (Option Value)) (items2 : Array Value) (n2 : Nat) (hs0 : ¬(!items.isEmpty && Builtin.List.listTooLong (items.size + items2.size)) = true) (hs1 : items.size ≤ sizeLine) (hs2 : items.size + items2.size ≤ sizeLine + 1) :
    Meets (Builtin.«list.extend» ⟨[.ref l, .ref b], []⟩) (fun _ R s => s.heap.get? l = some { cls := .type "list", dict := none, data := .seq items n, slots := #[] } ∧ s.heap.get? b = some { cls := .type "tuple", dict := dd, data := .seq items2 n2, slots := sl } ∧ R (.ok (.ret Value.none)) { s with heap := s.heap.update l (Obj.mapSeq fun x => x ++ items2), toks := s.toks }) :=
  .of_wp fun prog w A R s h => by
    obtain ⟨hp, g, d, tk, os⟩ := s; obtain ⟨hl, hb, h⟩ := h; have f1 := AutoSeq1.idx_int; have f2 := AutoSeq1.sub_tuple_tuple; have f3 := AutoSeq1.sub_list_list; have f4 := AutoSeq1.sub_tuple_list; have f5 := AutoSeq1.sub_list_tuple;
    have hz' : (items ++ items2).size ≤ sizeLine + 1 := by rw [Array.size_append]; exact hs2
    wp_walk using (wpAny_updateSeq hl rfl (hz := hs1) (_hz' := hz')), wpAny_loadPart' hl, wpAny_loadPart' hb; exact ⟨_, rfl, h⟩
def fExtendA : FM := fun d ds S => match d, ds with
  | .obj i, [.tup ys] => match S[i]? with
    | some (.lst xs) => if xs.length + ys.length ≤ sizeLine then some (.non, S.set i (.lst (xs ++ ys))) else none
    | _ => none
  | d, ds => fExtend d ds S
section
variable {X : Cx}
theorem mt_extT : MtR X "list.extend" (fun x vs H Q => ∃ l b xs zs, x = .ref l ∧ vs = [.ref b] ∧ H l = some (.lst xs) ∧ SqT X.K H b zs ∧ xs.length + zs.length ≤ sizeLine ∧ Q .non (upd H l (.lst (xs ++ zs)))) := by
  intro pins s σ H x vs v us Q I rx rv h
  obtain ⟨l, b, xs, zs, rfl, rfl, hH, hB, hz, q⟩ := h
  cases rx
  obtain ⟨u, rfl, ru⟩ := rv.one
  cases ru
  obtain ⟨z, its, n, r, hl, e⟩ := I.lstM hH
  obtain ⟨its2, r2, ⟨o2, e2, hc2, n2, hd2⟩, hz2⟩ := I.tuple hB
  obtain ⟨cls2, dd2, data2, sl2⟩ := o2
  simp only at hc2 hd2
  subst hc2 hd2
  have hl2 := r2.length
  have hsz : its.toArray.size + its2.toArray.size ≤ sizeLine := by rw [List.size_toArray, List.size_toArray]; omega
  have hlong : ¬ (!its.toArray.isEmpty && Builtin.List.listTooLong (its.toArray.size + its2.toArray.size)) = true := by
    rw [notLongL hsz, Bool.and_false]
    exact Bool.false_ne_true
  refine call_meets F.slot_list_extend ⟨_, e, rfl⟩ F.entry_list_extend (F.args_list_extend_2 _ _)
    (ext_tup l its.toArray n b dd2 sl2 its2.toArray n2 hlong (by rw [List.size_toArray]; omega) (by omega)) ⟨e, e2, ?_⟩
  refine ⟨.non, _, I.lset (its' := its ++ its2) hH e (by simp) (r.append r2) ?_, rfl, q⟩
  rw [List.length_append]
  omega
theorem mt_or {id : String} {r r' : V → List V → Hp → VK → Prop} (h : MtR X id r) (h' : MtR X id r') : MtR X id (fun x xs H Q => r x xs H Q ∨ r' x xs H Q) := fun pins s σ H x xs v us Q I rx rs q => q.elim (h pins s σ H x xs v us Q I rx rs) (h' pins s σ H x xs v us Q I rx rs)
theorem mt_fExtendA : MtR X "list.extend" (rFM X.K fExtendA) := by
  refine mt_imp (mt_or mt_fExtend mt_extT) fun x xs H Q ⟨as, S, d, ds, z, S', rel, rx, rs, hf, q⟩ => ?_
  unfold fExtendA at hf
  split at hf
  · rename_i i ys
    split at hf
    · rename_i es h0
      by_cases hl : es.length + ys.length ≤ sizeLine
      · rw [if_pos hl] at hf; cases hf
        obtain ⟨a, vs, rfl, ha, hH, rvs⟩ := rx.lst_ rel h0
        obtain ⟨y, rfl, ry⟩ := rs.sing
        obtain ⟨b, ws, rfl, hb, rws⟩ := ry.tup_
        refine .inr ⟨a, b, vs, ws, rfl, rfl, hH, hb, by rw [rvs.len, rws.len]; exact hl, ?_⟩
        obtain ⟨r1, x1⟩ := put_lst rel ha h0 hH (rvs.append rws)
        exact q as _ _ x1 r1 .non
      · rw [if_neg hl] at hf; cases hf
    · cases hf
  · exact .inl ⟨as, S, _, _, z, S', rel, rx, rs, hf, q⟩
end
end Mi

namespace K26
open PySem PySem.Spec PyProof.Rows L2 Mi
abbrev RW : PySem.W.OpenLaw := PySem.Challenge.rw_provedtorun_k26_whole_between_two_rows
def top (i : Nat) : Stmt := PySem.Challenge.pw_provedtorun_k26_whole_between_two_rows.main.body.getD i (.Pass ⟨0, 0, 0, 0⟩)
abbrev s_law : Stmt := top 56
abbrev s__law_pool : Stmt := top 39
abbrev s__law_number : Stmt := top 53
abbrev s__law_pick : Stmt := top 40
abbrev s__law_whole_right : Stmt := top 54
abbrev s__law_between : Stmt := top 49
abbrev s__law_nearest : Stmt := top 48
abbrev s__law_same : Stmt := top 50
abbrev s__law_int : Stmt := top 41
abbrev s_whole_between : Stmt := top 37
abbrev s_is_whole : Stmt := top 7
abbrev s_check_whole : Stmt := top 8
abbrev s_value_nearest : Stmt := top 30
abbrev s_up : Stmt := top 26
abbrev s_real_row : Stmt := top 34
abbrev s_check_pair : Stmt := top 32
abbrev s_atom_sort : Stmt := top 15
abbrev s_term_sort : Stmt := top 16
abbrev s_name_sort : Stmt := top 14
abbrev s_pair_row : Stmt := top 33
abbrev s_plus_times : Stmt := top 17
abbrev s_short_row : Stmt := top 28
abbrev s_common_divisor : Stmt := top 25
abbrev s_dark_row : Stmt := top 35
abbrev s_is_exact : Stmt := top 36
abbrev s__law_terms_right : Stmt := top 55
abbrev s__law_sum : Stmt := top 44
abbrev s__law_plus : Stmt := top 42
abbrev s__law_atom : Stmt := top 43
abbrev s__law_short : Stmt := top 47
abbrev s__law_divisor : Stmt := top 46
abbrev s__law_value : Stmt := top 45
abbrev s_shortened : Stmt := top 27
abbrev s_is_row : Stmt := top 24
abbrev s_is_fact : Stmt := top 22
abbrev s_quantified_sort : Stmt := top 19
abbrev s_fact_sort : Stmt := top 20
abbrev s_array_sort : Stmt := top 21
abbrev s__law_refusals : Stmt := top 52
abbrev s__law_asked : Stmt := top 51
def d_NONE : D := (.int 0)
def d_TEXTS : D := (.int 1)
def d_INTEGERS : D := (.int 2)
def d_BAD : D := (.int 3)
abbrev fl_BadArguments (β : Type) (z : β) : List β → List (Str × β) := fun ws => [("number", ws.getD 0 z)]
abbrev sl_BadArguments : List (Str × Bool) := [("BadArguments", true), ("BadFact", false), ("BadTerm", false)]
abbrev sub_BadArguments : Str → Option Bool := fun y => sl_BadArguments.lookup y
abbrev sl_BadFact : List (Str × Bool) := [("BadArguments", false), ("BadFact", true), ("BadTerm", false)]
abbrev sub_BadFact : Str → Option Bool := fun y => sl_BadFact.lookup y
abbrev sl_BadTerm : List (Str × Bool) := [("BadArguments", false), ("BadFact", false), ("BadTerm", true)]
abbrev sub_BadTerm : Str → Option Bool := fun y => sl_BadTerm.lookup y
def xl_number : List Str := ["BadArguments"]
structure Txt (P : Program) (w : World) (K : PySem.W.Frag) (mg : Str → Option Value) (base : Heap) : Prop where
  n_abs : mg "abs" = none
  n_bool : mg "bool" = none
  n_int : mg "int" = none
  n_isinstance : mg "isinstance" = none
  n_len : mg "len" = none
  n_min : mg "min" = none
  n_range : mg "range" = none
  n_sorted : mg "sorted" = none
  n_str : mg "str" = none
  n_tuple : mg "tuple" = none
  c_NONE : Gc K mg "NONE" d_NONE
  c_TEXTS : Gc K mg "TEXTS" d_TEXTS
  c_INTEGERS : Gc K mg "INTEGERS" d_INTEGERS
  c_BAD : Gc K mg "BAD" d_BAD
  i_gcd : mg "gcd" = some (.builtin "math.gcd")
  d_law : Fun1 K mg "law" s_law
  d__law_pool : Fun1 K mg "_law_pool" s__law_pool
  d__law_number : Fun1 K mg "_law_number" s__law_number
  d__law_pick : Fun1 K mg "_law_pick" s__law_pick
  d__law_whole_right : Fun1 K mg "_law_whole_right" s__law_whole_right
  d__law_between : Fun1 K mg "_law_between" s__law_between
  d__law_nearest : Fun1 K mg "_law_nearest" s__law_nearest
  d__law_same : Fun1 K mg "_law_same" s__law_same
  d__law_int : Fun1 K mg "_law_int" s__law_int
  d_whole_between : Fun1 K mg "whole_between" s_whole_between
  d_is_whole : Fun1 K mg "is_whole" s_is_whole
  d_check_whole : Fun1 K mg "check_whole" s_check_whole
  d_value_nearest : Fun1 K mg "value_nearest" s_value_nearest
  d_up : Fun1 K mg "up" s_up
  d_real_row : Fun1 K mg "real_row" s_real_row
  d_check_pair : Fun1 K mg "check_pair" s_check_pair
  d_atom_sort : Fun1 K mg "atom_sort" s_atom_sort
  d_term_sort : Fun1 K mg "term_sort" s_term_sort
  d_name_sort : Fun1 K mg "name_sort" s_name_sort
  d_pair_row : Fun1 K mg "pair_row" s_pair_row
  d_plus_times : Fun1 K mg "plus_times" s_plus_times
  d_short_row : Fun1 K mg "short_row" s_short_row
  d_common_divisor : Fun1 K mg "common_divisor" s_common_divisor
  d_dark_row : Fun1 K mg "dark_row" s_dark_row
  d_is_exact : Fun1 K mg "is_exact" s_is_exact
  d__law_terms_right : Fun1 K mg "_law_terms_right" s__law_terms_right
  d__law_sum : Fun1 K mg "_law_sum" s__law_sum
  d__law_plus : Fun1 K mg "_law_plus" s__law_plus
  d__law_atom : Fun1 K mg "_law_atom" s__law_atom
  d__law_short : Fun1 K mg "_law_short" s__law_short
  d__law_divisor : Fun1 K mg "_law_divisor" s__law_divisor
  d__law_value : Fun1 K mg "_law_value" s__law_value
  d_shortened : Fun1 K mg "shortened" s_shortened
  d_is_row : Fun1 K mg "is_row" s_is_row
  d_is_fact : FunK K mg "is_fact" s_is_fact [("arrays", (.bl false))]
  d_quantified_sort : Fun1 K mg "quantified_sort" s_quantified_sort
  d_fact_sort : Fun1 K mg "fact_sort" s_fact_sort
  d_array_sort : Fun1 K mg "array_sort" s_array_sort
  d__law_refusals : Fun1 K mg "_law_refusals" s__law_refusals
  d__law_asked : Fun1 K mg "_law_asked" s__law_asked
  x_BadArguments : Rsb P w K mg base 1 "BadArguments" 1 (fl_BadArguments V .non)
  x_BadFact : Rsb0 P w K mg base 1 "BadFact"
  x_BadTerm : Rsb0 P w K mg base 1 "BadTerm"
  k_BadArguments : Exk K mg "BadArguments" sub_BadArguments
  k_BadFact : Exk K mg "BadFact" sub_BadFact
  k_BadTerm : Exk K mg "BadTerm" sub_BadTerm
  f_number : Xfk K mg "number" xl_number
section
variable {P : Program} {w : World} {K : PySem.W.Frag} {mg : Str → Option Value} {base : Heap}
abbrev N__law_pool : List Str := ["script", "pool", "place", "cell", "turn", "mixed"]
def B__law_pool : MS :=
  (sSeq (sSet 1 (mLst mNil))
  (sSeq (sFor (iRng (mCons (mB1 (f2L fMin2) (mCons (mB1 (f1L fLen) (mCons (mV 0) mNil)) (mCons (mC (.int 63)) mNil))) mNil)) (gN 2)
  (sSeq (sSet 3 (mB1 (f1L fInt) (mCons (m2 fIx (mV 0) (mV 2)) mNil)))
  (sSeq (sIf (mB (m2 fLtD (mV 3) (mC (.int 0))))
  (sSet 3 (m2 fSub (mC (.int 3)) (mV 3)))
  sNil)
  (sIf (mB (m2 fGe (mV 3) (m2 fPow (mC (.int 10)) (mC (.int 18)))))
  (sFor (iRng (mCons (mC (.int 48)) mNil)) (gN 4)
  (sIf (mB (m2 fGt (mV 3) (mC (.int 0))))
  (sSeq (sExpr (mM "list" fAppend (mV 1) (mCons (m2 fMod (mB1 (f1L fInt) (mCons (mV 3) mNil)) (mC (.int 30))) mNil)))
  (sSet 3 (m2 fDiv (mV 3) (mC (.int 30)))))
  sNil))
  (sSeq (sSet 5 (m2 fMod (mB1 (f1L fInt) (mCons (m2 fAdd (m2 fAdd (m2 fMulA (mV 3) (mC (.int 50021))) (m2 fMulA (mV 2) (mC (.int 30011)))) (mC (.int 17))) mNil)) (mC (.int 1000000007))))
  (sFor (iRng (mCons (mC (.int 5)) mNil)) (gN 4)
  (sSeq (sSet 5 (m2 fMod (mB1 (f1L fInt) (mCons (m2 fAdd (m2 fAdd (m2 fAdd (m2 fMulA (mV 5) (mV 5)) (m2 fMulA (mV 4) (mC (.int 7919)))) (mV 2)) (mC (.int 11))) mNil)) (mC (.int 998244353))))
  (sExpr (mM "list" fAppend (mV 1) (mCons (m2 fDiv (mV 5) (mC (.int 13))) mNil))))))))))
  (sSeq (sExpr (mM0 "list" fReverse (mV 1)))
  (sRet (mV 1)))))
def M__law_pool : MFn := mFn 1 6 B__law_pool
theorem sc__law_pool : FnScope N__law_pool ["script"] (defScope s__law_pool) := ⟨rfl, rfl, rfl, by decide +kernel, rfl, by decide +kernel, by decide +kernel⟩
theorem b__law_pool (T : Txt P w K mg base) : BodyOk P w K mg base 0 N__law_pool "_law_pool" (defScope s__law_pool) (defBody s__law_pool) B__law_pool := by
  intro f cdv A outer s H E hr tk po
  have nd := sc__law_pool.nd
  exact (bm_cons (sm_set 1 nd (em_lst am_nil))
  (bm_cons (sm_for po rfl (im_rng1 T.n_range (em_callB (call_fMin2 rfl) rfl T.n_min PyProof.Rows.Boot.«min» (am_cons (em_callB call_fLen rfl T.n_len PyProof.Rows.Boot.«len» (am_cons (em_v 0) am_nil)) (am_cons em_int am_nil)))) (gm_n 2 nd)
  (bm_cons (sm_set 3 nd (em_callT call_fInt rfl T.n_int PyProof.Rows.Boot.«int» (am_cons (em_ix ix_fIx (em_v 0) (em_v 2)) am_nil)))
  (bm_cons (sm_if (tm_cmp (op_fLtD (uRoom hr)) (em_v 3) em_int)
  (bm_one (sm_set 3 nd (em_bin op_fSub em_int (em_v 3))))
  bm_nil)
  (bm_one (sm_if (tm_cmp op_fGe (em_v 3) (em_bin op_fPow em_int em_int))
  (bm_one (sm_for po rfl (im_rng1 T.n_range em_int) (gm_n 4 nd)
  (bm_one (sm_if (tm_cmp op_fGt (em_v 3) em_int)
  (bm_cons (sm_expr (em_bm PySem.F.plainAttrs_list PySem.F.slot_list_append PySem.F.type_list_append mt_fAppend (em_v 1) (am_cons (em_bin op_fMod (em_callT call_fInt rfl T.n_int PyProof.Rows.Boot.«int» (am_cons (em_v 3) am_nil)) em_int) am_nil)))
  (bm_one (sm_set 3 nd (em_bin op_fDiv (em_v 3) em_int))))
  bm_nil))))
  (bm_cons (sm_set 5 nd (em_bin op_fMod (em_callT call_fInt rfl T.n_int PyProof.Rows.Boot.«int» (am_cons (em_bin op_fAdd (em_bin op_fAdd (em_bin op_fMulA (em_v 3) em_int) (em_bin op_fMulA (em_v 2) em_int)) em_int) am_nil)) em_int))
  (bm_one (sm_for po rfl (im_rng1 T.n_range em_int) (gm_n 4 nd)
  (bm_cons (sm_set 5 nd (em_bin op_fMod (em_callT call_fInt rfl T.n_int PyProof.Rows.Boot.«int» (am_cons (em_bin op_fAdd (em_bin op_fAdd (em_bin op_fAdd (em_bin op_fMulA (em_v 5) (em_v 5)) (em_bin op_fMulA (em_v 4) em_int)) (em_v 2)) em_int) am_nil)) em_int))
  (bm_one (sm_expr (em_bm PySem.F.plainAttrs_list PySem.F.slot_list_append PySem.F.type_list_append mt_fAppend (em_v 1) (am_cons (em_bin op_fDiv (em_v 5) em_int) am_nil)))))))))))))
  (bm_cons (sm_expr (em_bm0 PySem.F.plainAttrs_list PySem.F.slot_list_reverse PySem.F.type_list_reverse mt_fReverse (em_v 1)))
  (bm_one (sm_ret (em_v 1))))))
theorem c__law_pool (T : Txt P w K mg base) : Cal P w K mg base 1 "_law_pool" M__law_pool := cal1 T.d__law_pool sc__law_pool (fun _ _ _ _ _ _ us hl => match us, hl with | [_], _ => rfl) (b__law_pool T)
abbrev N__law_pick : List Str := ["pool", "many"]
def B__law_pick : MS :=
  (sSeq (sIf (mB (m2 fEq (mB1 (f1L fLen) (mCons (mV 0) mNil)) (mC (.int 0))))
  (sRet (mC (.int 0)))
  sNil)
  (sRet (m2 fMod (mB1 (f1L fInt) (mCons (mM0 "list" fPop (mV 0)) mNil)) (mV 1))))
def M__law_pick : MFn := mFn 2 2 B__law_pick
theorem sc__law_pick : FnScope N__law_pick ["pool", "many"] (defScope s__law_pick) := ⟨rfl, rfl, rfl, by decide +kernel, rfl, by decide +kernel, by decide +kernel⟩
theorem b__law_pick (T : Txt P w K mg base) : BodyOk P w K mg base 0 N__law_pick "_law_pick" (defScope s__law_pick) (defBody s__law_pick) B__law_pick := by
  intro f cdv A outer s H E hr tk po
  have nd := sc__law_pick.nd
  exact (bm_cons (sm_if (tm_cmp (op_fEq (uRoom hr)) (em_callB call_fLen rfl T.n_len PyProof.Rows.Boot.«len» (am_cons (em_v 0) am_nil)) em_int)
  (bm_one (sm_ret em_int))
  bm_nil)
  (bm_one (sm_ret (em_bin op_fMod (em_callT call_fInt rfl T.n_int PyProof.Rows.Boot.«int» (am_cons (em_bm0 PySem.F.plainAttrs_list PySem.F.slot_list_pop PySem.F.type_list_pop mt_fPop (em_v 0)) am_nil)) (em_v 1)))))
theorem c__law_pick (T : Txt P w K mg base) : Cal P w K mg base 1 "_law_pick" M__law_pick := cal1 T.d__law_pick sc__law_pick (fun _ _ _ _ _ _ us hl => match us, hl with | [_, _], _ => rfl) (b__law_pick T)
abbrev N__law_number : List Str := ["pool", "number"]
def B__law_number : MS :=
  (sSeq (sSet 1 (m2 fAdd (mC (.int 1)) (mCall M__law_pick (mCons (mV 0) (mCons (mC (.int 9)) mNil)))))
  (sSeq (sIf (mB (m2 fEq (mCall M__law_pick (mCons (mV 0) (mCons (mC (.int 6)) mNil))) (mC (.int 5))))
  (sSet 1 (m2 fAdd (m2 fMulA (mV 1) (m2 fPow (mC (.int 10)) (mC (.int 12)))) (mCall M__law_pick (mCons (mV 0) (mCons (mC (.int 27)) mNil)))))
  sNil)
  (sRet (mV 1))))
def M__law_number : MFn := mFn 1 2 B__law_number
theorem sc__law_number : FnScope N__law_number ["pool"] (defScope s__law_number) := ⟨rfl, rfl, rfl, by decide +kernel, rfl, by decide +kernel, by decide +kernel⟩
theorem b__law_number (T : Txt P w K mg base) : BodyOk P w K mg base 1 N__law_number "_law_number" (defScope s__law_number) (defBody s__law_number) B__law_number := by
  intro f cdv A outer s H E hr tk po
  have nd := sc__law_number.nd
  exact (bm_cons (sm_set 1 nd (em_bin op_fAdd em_int (em_call (c__law_pick T) hr tk (am_cons (em_v 0) (am_cons em_int am_nil)))))
  (bm_cons (sm_if (tm_cmp (op_fEq (uRoom hr)) (em_call (c__law_pick T) hr tk (am_cons (em_v 0) (am_cons em_int am_nil))) em_int)
  (bm_one (sm_set 1 nd (em_bin op_fAdd (em_bin op_fMulA (em_v 1) (em_bin op_fPow em_int em_int)) (em_call (c__law_pick T) hr tk (am_cons (em_v 0) (am_cons em_int am_nil))))))
  bm_nil)
  (bm_one (sm_ret (em_v 1)))))
theorem c__law_number (T : Txt P w K mg base) : Cal P w K mg base 2 "_law_number" M__law_number := cal1 T.d__law_number sc__law_number (fun _ _ _ _ _ _ us hl => match us, hl with | [_], _ => rfl) (b__law_number T)
abbrev N__law_nearest : List Str := ["least", "greatest"]
def B__law_nearest : MS :=
  (sSeq (sIf (mAndT (mB (m2 fIsN (mV 0) (mC .non))) (mAndT (mB (m2 fIsN (mV 1) (mC .non))) (mB (m2 fGt (mV 0) (mV 1)))))
  (sRet (mC .non))
  sNil)
  (sSeq (sIf (mAndT (mB (m2 fIsN (mV 0) (mC .non))) (mB (m2 fGt (mV 0) (mC (.int 0)))))
  (sRet (mV 0))
  sNil)
  (sSeq (sIf (mAndT (mB (m2 fIsN (mV 1) (mC .non))) (mB (m2 fLtD (mV 1) (mC (.int 0)))))
  (sRet (mV 1))
  sNil)
  (sRet (mC (.int 0))))))
def M__law_nearest : MFn := mFn 2 2 B__law_nearest
theorem sc__law_nearest : FnScope N__law_nearest ["least", "greatest"] (defScope s__law_nearest) := ⟨rfl, rfl, rfl, by decide +kernel, rfl, by decide +kernel, by decide +kernel⟩
theorem b__law_nearest (T : Txt P w K mg base) : BodyOk P w K mg base 0 N__law_nearest "_law_nearest" (defScope s__law_nearest) (defBody s__law_nearest) B__law_nearest := by
  intro f cdv A outer s H E hr tk po
  have nd := sc__law_nearest.nd
  exact (bm_cons (sm_if (WM.tm (wm_and (tm_cmp op_fIsN (em_v 0) em_non) (wm_and (tm_cmp op_fIsN (em_v 1) em_non) (wm_and1 (tm_cmp op_fGt (em_v 0) (em_v 1))))))
  (bm_one (sm_ret em_non))
  bm_nil)
  (bm_cons (sm_if (WM.tm (wm_and (tm_cmp op_fIsN (em_v 0) em_non) (wm_and1 (tm_cmp op_fGt (em_v 0) em_int))))
  (bm_one (sm_ret (em_v 0)))
  bm_nil)
  (bm_cons (sm_if (WM.tm (wm_and (tm_cmp op_fIsN (em_v 1) em_non) (wm_and1 (tm_cmp (op_fLtD (uRoom hr)) (em_v 1) em_int))))
  (bm_one (sm_ret (em_v 1)))
  bm_nil)
  (bm_one (sm_ret em_int)))))
theorem c__law_nearest (T : Txt P w K mg base) : Cal P w K mg base 1 "_law_nearest" M__law_nearest := cal1 T.d__law_nearest sc__law_nearest (fun _ _ _ _ _ _ us hl => match us, hl with | [_, _], _ => rfl) (b__law_nearest T)
abbrev N__law_between : List Str := ["a", "low", "b", "high"]
def B__law_between : MS :=
  (sRet (mCall M__law_nearest (mCons (m1 fNeg (m2 fDiv (m1 fNeg (mV 1)) (mV 0))) (mCons (m2 fDiv (m1 fNeg (mV 3)) (mV 2)) mNil))))
def M__law_between : MFn := mFn 4 4 B__law_between
theorem sc__law_between : FnScope N__law_between ["a", "low", "b", "high"] (defScope s__law_between) := ⟨rfl, rfl, rfl, by decide +kernel, rfl, by decide +kernel, by decide +kernel⟩
theorem b__law_between (T : Txt P w K mg base) : BodyOk P w K mg base 1 N__law_between "_law_between" (defScope s__law_between) (defBody s__law_between) B__law_between := by
  intro f cdv A outer s H E hr tk po
  have nd := sc__law_between.nd
  exact (bm_one (sm_ret (em_call (c__law_nearest T) hr tk (am_cons (em_neg (em_bin op_fDiv (em_neg (em_v 1)) (em_v 0))) (am_cons (em_bin op_fDiv (em_neg (em_v 3)) (em_v 2)) am_nil)))))
theorem c__law_between (T : Txt P w K mg base) : Cal P w K mg base 2 "_law_between" M__law_between := cal1 T.d__law_between sc__law_between (fun _ _ _ _ _ _ us hl => match us, hl with | [_, _, _, _], _ => rfl) (b__law_between T)
abbrev N__law_int : List Str := ["thing"]
def B__law_int : MS :=
  (sRet (mAndV (m1 (fIsi ["int"]) (mV 0)) (mNotV (m1 (fIsi ["bool"]) (mV 0)))))
def M__law_int : MFn := mFn 1 1 B__law_int
theorem sc__law_int : FnScope N__law_int ["thing"] (defScope s__law_int) := ⟨rfl, rfl, rfl, by decide +kernel, rfl, by decide +kernel, by decide +kernel⟩
theorem b__law_int (T : Txt P w K mg base) : BodyOk P w K mg base 0 N__law_int "_law_int" (defScope s__law_int) (defBody s__law_int) B__law_int := by
  intro f cdv A outer s H E hr tk po
  have nd := sc__law_int.nd
  exact (bm_one (sm_ret (em_and (em_isi (em_v 0) (hm := T.n_isinstance) (hmT := T.n_int) (hvT := PyProof.Rows.Boot.«int»)) (em_one (em_not (em_isi (em_v 0) (hm := T.n_isinstance) (hmT := T.n_bool) (hvT := PyProof.Rows.Boot.«bool»)))))))
theorem c__law_int (T : Txt P w K mg base) : Cal P w K mg base 1 "_law_int" M__law_int := cal1 T.d__law_int sc__law_int (fun _ _ _ _ _ _ us hl => match us, hl with | [_], _ => rfl) (b__law_int T)
abbrev N__law_same : List Str := ["told", "due"]
def B__law_same : MS :=
  (sSeq (sIf (mB (m2 fIs (mV 1) (mC .non)))
  (sRet (m2 fIs (mV 0) (mC .non)))
  sNil)
  (sRet (mAndV (mCall M__law_int (mCons (mV 0) mNil)) (m2 fEq (mV 0) (mV 1)))))
def M__law_same : MFn := mFn 2 2 B__law_same
theorem sc__law_same : FnScope N__law_same ["told", "due"] (defScope s__law_same) := ⟨rfl, rfl, rfl, by decide +kernel, rfl, by decide +kernel, by decide +kernel⟩
theorem b__law_same (T : Txt P w K mg base) : BodyOk P w K mg base 1 N__law_same "_law_same" (defScope s__law_same) (defBody s__law_same) B__law_same := by
  intro f cdv A outer s H E hr tk po
  have nd := sc__law_same.nd
  exact (bm_cons (sm_if (tm_cmp op_fIs (em_v 1) em_non)
  (bm_one (sm_ret (em_cmp op_fIs (em_v 0) em_non)))
  bm_nil)
  (bm_one (sm_ret (em_and (em_call (c__law_int T) hr tk (am_cons (em_v 0) am_nil)) (em_one (em_cmp (op_fEq (uRoom hr)) (em_v 0) (em_v 1)))))))
theorem c__law_same (T : Txt P w K mg base) : Cal P w K mg base 2 "_law_same" M__law_same := cal1 T.d__law_same sc__law_same (fun _ _ _ _ _ _ us hl => match us, hl with | [_, _], _ => rfl) (b__law_same T)
abbrev N_is_whole : List Str := ["n"]
def B_is_whole : MS :=
  (sRet (mAndV (m1 (fIsi ["int"]) (mV 0)) (mNotV (m1 (fIsi ["bool"]) (mV 0)))))
def M_is_whole : MFn := mFn 1 1 B_is_whole
theorem sc_is_whole : FnScope N_is_whole ["n"] (defScope s_is_whole) := ⟨rfl, rfl, rfl, by decide +kernel, rfl, by decide +kernel, by decide +kernel⟩
theorem b_is_whole (T : Txt P w K mg base) : BodyOk P w K mg base 0 N_is_whole "is_whole" (defScope s_is_whole) (defBody s_is_whole) B_is_whole := by
  intro f cdv A outer s H E hr tk po
  have nd := sc_is_whole.nd
  exact (bm_one (sm_ret (em_and (em_isi (em_v 0) (hm := T.n_isinstance) (hmT := T.n_int) (hvT := PyProof.Rows.Boot.«int»)) (em_one (em_not (em_isi (em_v 0) (hm := T.n_isinstance) (hmT := T.n_bool) (hvT := PyProof.Rows.Boot.«bool»)))))))
theorem c_is_whole (T : Txt P w K mg base) : Cal P w K mg base 1 "is_whole" M_is_whole := cal1 T.d_is_whole sc_is_whole (fun _ _ _ _ _ _ us hl => match us, hl with | [_], _ => rfl) (b_is_whole T)
abbrev N_check_whole : List Str := ["n", "number"]
def B_check_whole : MS :=
  (sIf (mNotT (mB (mCall M_is_whole (mCons (mV 0) mNil))))
  (sRaise "BadArguments" 1 (fl_BadArguments D .non) (mCons (mV 1) mNil))
  sNil)
def M_check_whole : MFn := mFn 2 2 B_check_whole
theorem sc_check_whole : FnScope N_check_whole ["n", "number"] (defScope s_check_whole) := ⟨rfl, rfl, rfl, by decide +kernel, rfl, by decide +kernel, by decide +kernel⟩
theorem b_check_whole (T : Txt P w K mg base) : BodyOk P w K mg base 2 N_check_whole "check_whole" (defScope s_check_whole) (defBody s_check_whole) B_check_whole := by
  intro f cdv A outer s H E hr tk po
  have nd := sc_check_whole.nd
  exact (bm_one (sm_if (tm_not (tm_val (em_call (c_is_whole T) hr tk (am_cons (em_v 0) am_nil))))
  (bm_one (sm_raise T.x_BadArguments flds1 (by decide) hr tk rfl (am_cons (em_v 1) am_nil)))
  bm_nil))
theorem c_check_whole (T : Txt P w K mg base) : Cal P w K mg base 3 "check_whole" M_check_whole := cal1 T.d_check_whole sc_check_whole (fun _ _ _ _ _ _ us hl => match us, hl with | [_, _], _ => rfl) (b_check_whole T)
abbrev N_value_nearest : List Str := ["least", "greatest"]
def B_value_nearest : MS :=
  (sSeq (sIf (mB (m2 fIsN (mV 0) (mC .non)))
  (sExpr (mCall M_check_whole (mCons (mV 0) (mCons (mC (.int 0)) mNil))))
  sNil)
  (sSeq (sIf (mB (m2 fIsN (mV 1) (mC .non)))
  (sExpr (mCall M_check_whole (mCons (mV 1) (mCons (mC (.int 1)) mNil))))
  sNil)
  (sSeq (sIf (mAndT (mB (m2 fIsN (mV 0) (mC .non))) (mAndT (mB (m2 fIsN (mV 1) (mC .non))) (mB (m2 fGt (mV 0) (mV 1)))))
  (sRet (mC .non))
  sNil)
  (sSeq (sIf (mAndT (mB (m2 fIsN (mV 0) (mC .non))) (mB (m2 fGt (mV 0) (mC (.int 0)))))
  (sRet (mV 0))
  sNil)
  (sSeq (sIf (mAndT (mB (m2 fIsN (mV 1) (mC .non))) (mB (m2 fLtD (mV 1) (mC (.int 0)))))
  (sRet (mV 1))
  sNil)
  (sRet (mC (.int 0))))))))
def M_value_nearest : MFn := mFn 2 2 B_value_nearest
theorem sc_value_nearest : FnScope N_value_nearest ["least", "greatest"] (defScope s_value_nearest) := ⟨rfl, rfl, rfl, by decide +kernel, rfl, by decide +kernel, by decide +kernel⟩
theorem b_value_nearest (T : Txt P w K mg base) : BodyOk P w K mg base 3 N_value_nearest "value_nearest" (defScope s_value_nearest) (defBody s_value_nearest) B_value_nearest := by
  intro f cdv A outer s H E hr tk po
  have nd := sc_value_nearest.nd
  exact (bm_cons (sm_if (tm_cmp op_fIsN (em_v 0) em_non)
  (bm_one (sm_expr (em_call (c_check_whole T) hr tk (am_cons (em_v 0) (am_cons em_int am_nil)))))
  bm_nil)
  (bm_cons (sm_if (tm_cmp op_fIsN (em_v 1) em_non)
  (bm_one (sm_expr (em_call (c_check_whole T) hr tk (am_cons (em_v 1) (am_cons em_int am_nil)))))
  bm_nil)
  (bm_cons (sm_if (WM.tm (wm_and (tm_cmp op_fIsN (em_v 0) em_non) (wm_and (tm_cmp op_fIsN (em_v 1) em_non) (wm_and1 (tm_cmp op_fGt (em_v 0) (em_v 1))))))
  (bm_one (sm_ret em_non))
  bm_nil)
  (bm_cons (sm_if (WM.tm (wm_and (tm_cmp op_fIsN (em_v 0) em_non) (wm_and1 (tm_cmp op_fGt (em_v 0) em_int))))
  (bm_one (sm_ret (em_v 0)))
  bm_nil)
  (bm_cons (sm_if (WM.tm (wm_and (tm_cmp op_fIsN (em_v 1) em_non) (wm_and1 (tm_cmp (op_fLtD (uRoom hr)) (em_v 1) em_int))))
  (bm_one (sm_ret (em_v 1)))
  bm_nil)
  (bm_one (sm_ret em_int)))))))
theorem c_value_nearest (T : Txt P w K mg base) : Cal P w K mg base 4 "value_nearest" M_value_nearest := cal1 T.d_value_nearest sc_value_nearest (fun _ _ _ _ _ _ us hl => match us, hl with | [_, _], _ => rfl) (b_value_nearest T)
abbrev N_up : List Str := ["n", "d"]
def B_up : MS :=
  (sRet (m1 fNeg (m2 fDiv (m1 fNeg (mV 0)) (mV 1))))
def M_up : MFn := mFn 2 2 B_up
theorem sc_up : FnScope N_up ["n", "d"] (defScope s_up) := ⟨rfl, rfl, rfl, by decide +kernel, rfl, by decide +kernel, by decide +kernel⟩
theorem b_up (T : Txt P w K mg base) : BodyOk P w K mg base 0 N_up "up" (defScope s_up) (defBody s_up) B_up := by
  intro f cdv A outer s H E hr tk po
  have nd := sc_up.nd
  exact (bm_one (sm_ret (em_neg (em_bin op_fDiv (em_neg (em_v 0)) (em_v 1)))))
theorem c_up (T : Txt P w K mg base) : Cal P w K mg base 1 "up" M_up := cal1 T.d_up sc_up (fun _ _ _ _ _ _ us hl => match us, hl with | [_, _], _ => rfl) (b_up T)
abbrev N_whole_between : List Str := ["a", "low", "b", "high"]
def B_whole_between : MS :=
  (sSeq (sIf (mOrT (mNotT (mB (mCall M_is_whole (mCons (mV 0) mNil)))) (mB (m2 fLtD (mV 0) (mC (.int 1)))))
  (sRaise "BadArguments" 1 (fl_BadArguments D .non) (mCons (mC (.int 0)) mNil))
  sNil)
  (sSeq (sExpr (mCall M_check_whole (mCons (mV 1) (mCons (mC (.int 1)) mNil))))
  (sSeq (sIf (mOrT (mNotT (mB (mCall M_is_whole (mCons (mV 2) mNil)))) (mB (m2 fLtD (mV 2) (mC (.int 1)))))
  (sRaise "BadArguments" 1 (fl_BadArguments D .non) (mCons (mC (.int 2)) mNil))
  sNil)
  (sSeq (sExpr (mCall M_check_whole (mCons (mV 3) (mCons (mC (.int 3)) mNil))))
  (sRet (mCall M_value_nearest (mCons (mCall M_up (mCons (mV 1) (mCons (mV 0) mNil))) (mCons (m2 fDiv (m1 fNeg (mV 3)) (mV 2)) mNil))))))))
def M_whole_between : MFn := mFn 4 4 B_whole_between
theorem sc_whole_between : FnScope N_whole_between ["a", "low", "b", "high"] (defScope s_whole_between) := ⟨rfl, rfl, rfl, by decide +kernel, rfl, by decide +kernel, by decide +kernel⟩
theorem b_whole_between (T : Txt P w K mg base) : BodyOk P w K mg base 4 N_whole_between "whole_between" (defScope s_whole_between) (defBody s_whole_between) B_whole_between := by
  intro f cdv A outer s H E hr tk po
  have nd := sc_whole_between.nd
  exact (bm_cons (sm_if (WM.tm (wm_or (tm_not (tm_val (em_call (c_is_whole T) hr tk (am_cons (em_v 0) am_nil)))) (wm_or1 (tm_cmp (op_fLtD (uRoom hr)) (em_v 0) em_int))))
  (bm_one (sm_raise T.x_BadArguments flds1 (by decide) hr tk rfl (am_cons em_int am_nil)))
  bm_nil)
  (bm_cons (sm_expr (em_call (c_check_whole T) hr tk (am_cons (em_v 1) (am_cons em_int am_nil))))
  (bm_cons (sm_if (WM.tm (wm_or (tm_not (tm_val (em_call (c_is_whole T) hr tk (am_cons (em_v 2) am_nil)))) (wm_or1 (tm_cmp (op_fLtD (uRoom hr)) (em_v 2) em_int))))
  (bm_one (sm_raise T.x_BadArguments flds1 (by decide) hr tk rfl (am_cons em_int am_nil)))
  bm_nil)
  (bm_cons (sm_expr (em_call (c_check_whole T) hr tk (am_cons (em_v 3) (am_cons em_int am_nil))))
  (bm_one (sm_ret (em_call (c_value_nearest T) hr tk (am_cons (em_call (c_up T) hr tk (am_cons (em_v 1) (am_cons (em_v 0) am_nil))) (am_cons (em_bin op_fDiv (em_neg (em_v 3)) (em_v 2)) am_nil)))))))))
theorem c_whole_between (T : Txt P w K mg base) : Cal P w K mg base 5 "whole_between" M_whole_between := cal1 T.d_whole_between sc_whole_between (fun _ _ _ _ _ _ us hl => match us, hl with | [_, _, _, _], _ => rfl) (b_whole_between T)
abbrev N_name_sort : List Str := ["x"]
def B_name_sort : MS :=
  (sSeq (sIf (mB (m1 (fIsi ["str"]) (mV 0)))
  (sRet (mC d_TEXTS))
  sNil)
  (sRet (mIf (mAndT (mB (mCall M_is_whole (mCons (mV 0) mNil))) (mB (m2 fGe (mV 0) (mC (.int 0))))) (mC d_INTEGERS) (mC d_BAD))))
def M_name_sort : MFn := mFn 1 1 B_name_sort
theorem sc_name_sort : FnScope N_name_sort ["x"] (defScope s_name_sort) := ⟨rfl, rfl, rfl, by decide +kernel, rfl, by decide +kernel, by decide +kernel⟩
theorem b_name_sort (T : Txt P w K mg base) : BodyOk P w K mg base 1 N_name_sort "name_sort" (defScope s_name_sort) (defBody s_name_sort) B_name_sort := by
  intro f cdv A outer s H E hr tk po
  have nd := sc_name_sort.nd
  exact (bm_cons (sm_if (tm_val (em_isi (em_v 0) (hm := T.n_isinstance) (hmT := T.n_str) (hvT := PyProof.Rows.Boot.«str»)))
  (bm_one (sm_ret (em_gc T.c_TEXTS)))
  bm_nil)
  (bm_one (sm_ret (em_if (WM.tm (wm_and (tm_val (em_call (c_is_whole T) hr tk (am_cons (em_v 0) am_nil))) (wm_and1 (tm_cmp op_fGe (em_v 0) em_int)))) (em_gc T.c_INTEGERS) (em_gc T.c_BAD)))))
theorem c_name_sort (T : Txt P w K mg base) : Cal P w K mg base 2 "name_sort" M_name_sort := cal1 T.d_name_sort sc_name_sort (fun _ _ _ _ _ _ us hl => match us, hl with | [_], _ => rfl) (b_name_sort T)
abbrev N_atom_sort : List Str := ["atom", "cells", "word", "told"]
def B_atom_sort (R : Nat → MFn) : MS :=
  (sSeq (sIf (mOrT (mNotT (mB (m1 (fIsi ["tuple"]) (mV 0)))) (mB (m2 fNotInD (mB1 (f1L fLen) (mCons (mV 0) mNil)) (mTup (mCons (mC (.int 2)) (mCons (mC (.int 3)) mNil))))))
  (sRet (mC d_BAD))
  sNil)
  (sSeq (sSet 2 (m2 fIx (mV 0) (mC (.int 0))))
  (sSeq (sIf (mB (m2 fEq (mB1 (f1L fLen) (mCons (mV 0) mNil)) (mC (.int 2))))
  (sRet (mIf (mB (m2 fInD (mV 2) (mTup (mCons (mC (.str "name")) (mCons (mC (.str "size")) mNil))))) (mCall M_name_sort (mCons (m2 fIx (mV 0) (mC (.int 1))) mNil)) (mC d_BAD)))
  sNil)
  (sSeq (sIf (mB (m2 fEq (mV 2) (mC (.str "read"))))
  (sRet (m2 fOr (mCall M_name_sort (mCons (m2 fIx (mV 0) (mC (.int 1))) mNil)) (mCall (R 1) (mCons (m2 fIx (mV 0) (mC (.int 2))) (mCons (mC (.int 0)) mNil)))))
  sNil)
  (sSeq (sIf (mNotT (mB (mCall M_is_whole (mCons (m2 fIx (mV 0) (mC (.int 2))) mNil))))
  (sRet (mC d_BAD))
  sNil)
  (sSeq (sIf (mB (m2 fEq (mV 2) (mC (.str "div"))))
  (sSeq (sSet 3 (mCall (R 1) (mCons (m2 fIx (mV 0) (mC (.int 1))) (mCons (mV 1) mNil))))
  (sRet (mIf (mOrT (mB (m2 fEq (mV 3) (mC d_BAD))) (mOrT (mB (m2 fLtD (m2 fIx (mV 0) (mC (.int 2))) (mC (.int 2)))) (mB (m2 fEq (mB1 (f1L fLen) (mCons (m2 fIx (m2 fIx (mV 0) (mC (.int 1))) (mC (.int 1))) mNil)) (mC (.int 0)))))) (mC d_BAD) (mV 3))))
  sNil)
  (sSeq (sIf (mB (m2 fEq (mV 2) (mC (.str "cell"))))
  (sRet (mIf (mB (mCh fLe fLtD (mC (.int 0)) (m2 fIx (mV 0) (mC (.int 2))) (mV 1))) (mCall M_name_sort (mCons (m2 fIx (mV 0) (mC (.int 1))) mNil)) (mC d_BAD)))
  sNil)
  (sSeq (sIf (mAndT (mB (m2 fEq (mV 2) (mC (.str "new")))) (mAndT (mB (mCall M_is_whole (mCons (m2 fIx (mV 0) (mC (.int 1))) mNil))) (mAndT (mB (m2 fLtD (m2 fIx (mV 0) (mC (.int 1))) (mC (.int 0)))) (mB (m2 fInD (m2 fIx (mV 0) (mC (.int 2))) (mTup (mCons (mC (.int 0)) (mCons (mC (.int 1)) mNil))))))))
  (sRet (mC d_NONE))
  sNil)
  (sRet (mC d_BAD))))))))))
theorem sc_atom_sort : FnScope N_atom_sort ["atom", "cells"] (defScope s_atom_sort) := ⟨rfl, rfl, rfl, by decide +kernel, rfl, by decide +kernel, by decide +kernel⟩
theorem b_atom_sort (T : Txt P w K mg base) (j : Nat) (hj : 2 ≤ j) (R : Nat → MFn) (h0 : Cal P w K mg base j "atom_sort" (R 0)) (h1 : Cal P w K mg base j "term_sort" (R 1)) : BodyOk P w K mg base j N_atom_sort "atom_sort" (defScope s_atom_sort) (defBody s_atom_sort) (B_atom_sort R) := by
  intro f cdv A outer s H E hr tk po
  have nd := sc_atom_sort.nd
  exact (bm_cons (sm_if (WM.tm (wm_or (tm_not (tm_val (em_isi (em_v 0) (hm := T.n_isinstance) (hmT := T.n_tuple) (hvT := PyProof.Rows.Boot.«tuple»)))) (wm_or1 (tm_cmp (op_fNotInD (room65 hr)) (em_callB call_fLen rfl T.n_len PyProof.Rows.Boot.«len» (am_cons (em_v 0) am_nil)) (em_tup (am_cons em_int (am_cons em_int am_nil)))))))
  (bm_one (sm_ret (em_gc T.c_BAD)))
  bm_nil)
  (bm_cons (sm_set 2 nd (em_ix ix_fIx (em_v 0) em_int))
  (bm_cons (sm_if (tm_cmp (op_fEq (uRoom hr)) (em_callB call_fLen rfl T.n_len PyProof.Rows.Boot.«len» (am_cons (em_v 0) am_nil)) em_int)
  (bm_one (sm_ret (em_if (tm_cmp (op_fInD (room65 hr)) (em_v 2) (em_tup (am_cons em_str (am_cons em_str am_nil)))) (em_call (c_name_sort T) hr tk (am_cons (em_ix ix_fIx (em_v 0) em_int) am_nil) (hk := by omega)) (em_gc T.c_BAD))))
  bm_nil)
  (bm_cons (sm_if (tm_cmp (op_fEq (uRoom hr)) (em_v 2) em_str)
  (bm_one (sm_ret (em_bin op_fOr (em_call (c_name_sort T) hr tk (am_cons (em_ix ix_fIx (em_v 0) em_int) am_nil) (hk := by omega)) (em_call h1 hr tk (am_cons (em_ix ix_fIx (em_v 0) em_int) (am_cons em_int am_nil)) (hk := by omega)))))
  bm_nil)
  (bm_cons (sm_if (tm_not (tm_val (em_call (c_is_whole T) hr tk (am_cons (em_ix ix_fIx (em_v 0) em_int) am_nil) (hk := by omega))))
  (bm_one (sm_ret (em_gc T.c_BAD)))
  bm_nil)
  (bm_cons (sm_if (tm_cmp (op_fEq (uRoom hr)) (em_v 2) em_str)
  (bm_cons (sm_set 3 nd (em_call h1 hr tk (am_cons (em_ix ix_fIx (em_v 0) em_int) (am_cons (em_v 1) am_nil)) (hk := by omega)))
  (bm_one (sm_ret (em_if (WM.tm (wm_or (tm_cmp (op_fEq (uRoom hr)) (em_v 3) (em_gc T.c_BAD)) (wm_or (tm_cmp (op_fLtD (uRoom hr)) (em_ix ix_fIx (em_v 0) em_int) em_int) (wm_or1 (tm_cmp (op_fEq (uRoom hr)) (em_callB call_fLen rfl T.n_len PyProof.Rows.Boot.«len» (am_cons (em_ix ix_fIx (em_ix ix_fIx (em_v 0) em_int) em_int) am_nil)) em_int))))) (em_gc T.c_BAD) (em_v 3)))))
  bm_nil)
  (bm_cons (sm_if (tm_cmp (op_fEq (uRoom hr)) (em_v 2) em_str)
  (bm_one (sm_ret (em_if (tm_chain op_fLe (op_fLtD (uRoom hr)) em_int (em_ix ix_fIx (em_v 0) em_int) (em_v 1)) (em_call (c_name_sort T) hr tk (am_cons (em_ix ix_fIx (em_v 0) em_int) am_nil) (hk := by omega)) (em_gc T.c_BAD))))
  bm_nil)
  (bm_cons (sm_if (WM.tm (wm_and (tm_cmp (op_fEq (uRoom hr)) (em_v 2) em_str) (wm_and (tm_val (em_call (c_is_whole T) hr tk (am_cons (em_ix ix_fIx (em_v 0) em_int) am_nil) (hk := by omega))) (wm_and (tm_cmp (op_fLtD (uRoom hr)) (em_ix ix_fIx (em_v 0) em_int) em_int) (wm_and1 (tm_cmp (op_fInD (room65 hr)) (em_ix ix_fIx (em_v 0) em_int) (em_tup (am_cons em_int (am_cons em_int am_nil)))))))))
  (bm_one (sm_ret (em_gc T.c_NONE)))
  bm_nil)
  (bm_one (sm_ret (em_gc T.c_BAD)))))))))))
abbrev N_term_sort : List Str := ["term", "cells", "told", "pair", "at"]
def B_term_sort (R : Nat → MFn) : MS :=
  (sSeq (sIf (mOrT (mNotT (mB (m1 (fIsi ["tuple"]) (mV 0)))) (mOrT (mB (m2 fNe (mB1 (f1L fLen) (mCons (mV 0) mNil)) (mC (.int 2)))) (mOrT (mNotT (mB (mCall M_is_whole (mCons (m2 fIx (mV 0) (mC (.int 0))) mNil)))) (mNotT (mB (m1 (fIsi ["tuple"]) (m2 fIx (mV 0) (mC (.int 1)))))))))
  (sRet (mC d_BAD))
  sNil)
  (sSeq (sSet 2 (mC d_NONE))
  (sSeq (sFor (iSeq (m2 fIx (mV 0) (mC (.int 1)))) (gN 3)
  (sSeq (sIf (mOrT (mNotT (mB (m1 (fIsi ["tuple"]) (mV 3)))) (mOrT (mB (m2 fNe (mB1 (f1L fLen) (mCons (mV 3) mNil)) (mC (.int 2)))) (mOrT (mNotT (mB (mCall M_is_whole (mCons (m2 fIx (mV 3) (mC (.int 1))) mNil)))) (mB (m2 fEq (m2 fIx (mV 3) (mC (.int 1))) (mC (.int 0)))))))
  (sRet (mC d_BAD))
  sNil)
  (sSeq (sSet 2 (m2 fOr (mV 2) (mCall (R 0) (mCons (m2 fIx (mV 3) (mC (.int 0))) (mCons (mV 1) mNil)))))
  (sIf (mB (m2 fEq (mV 2) (mC d_BAD)))
  (sRet (mC d_BAD))
  sNil))))
  (sSeq (sFor (iRng (mCons (mC (.int 1)) (mCons (mB1 (f1L fLen) (mCons (m2 fIx (mV 0) (mC (.int 1))) mNil)) mNil))) (gN 4)
  (sIf (mNotT (mB (m2 fLtD (m2 fIx (m2 fIx (m2 fIx (mV 0) (mC (.int 1))) (m2 fSub (mV 4) (mC (.int 1)))) (mC (.int 0))) (m2 fIx (m2 fIx (m2 fIx (mV 0) (mC (.int 1))) (mV 4)) (mC (.int 0))))))
  (sRet (mC d_BAD))
  sNil))
  (sRet (mV 2))))))
theorem sc_term_sort : FnScope N_term_sort ["term", "cells"] (defScope s_term_sort) := ⟨rfl, rfl, rfl, by decide +kernel, rfl, by decide +kernel, by decide +kernel⟩
theorem b_term_sort (T : Txt P w K mg base) (j : Nat) (hj : 2 ≤ j) (R : Nat → MFn) (h0 : Cal P w K mg base j "atom_sort" (R 0)) (h1 : Cal P w K mg base j "term_sort" (R 1)) : BodyOk P w K mg base j N_term_sort "term_sort" (defScope s_term_sort) (defBody s_term_sort) (B_term_sort R) := by
  intro f cdv A outer s H E hr tk po
  have nd := sc_term_sort.nd
  exact (bm_cons (sm_if (WM.tm (wm_or (tm_not (tm_val (em_isi (em_v 0) (hm := T.n_isinstance) (hmT := T.n_tuple) (hvT := PyProof.Rows.Boot.«tuple»)))) (wm_or (tm_cmp (op_fNe (uRoom hr)) (em_callB call_fLen rfl T.n_len PyProof.Rows.Boot.«len» (am_cons (em_v 0) am_nil)) em_int) (wm_or (tm_not (tm_val (em_call (c_is_whole T) hr tk (am_cons (em_ix ix_fIx (em_v 0) em_int) am_nil) (hk := by omega)))) (wm_or1 (tm_not (tm_val (em_isi (em_ix ix_fIx (em_v 0) em_int) (hm := T.n_isinstance) (hmT := T.n_tuple) (hvT := PyProof.Rows.Boot.«tuple»)))))))))
  (bm_one (sm_ret (em_gc T.c_BAD)))
  bm_nil)
  (bm_cons (sm_set 2 nd (em_gc T.c_NONE))
  (bm_cons (sm_for po rfl (im_seq (em_ix ix_fIx (em_v 0) em_int)) (gm_n 3 nd)
  (bm_cons (sm_if (WM.tm (wm_or (tm_not (tm_val (em_isi (em_v 3) (hm := T.n_isinstance) (hmT := T.n_tuple) (hvT := PyProof.Rows.Boot.«tuple»)))) (wm_or (tm_cmp (op_fNe (uRoom hr)) (em_callB call_fLen rfl T.n_len PyProof.Rows.Boot.«len» (am_cons (em_v 3) am_nil)) em_int) (wm_or (tm_not (tm_val (em_call (c_is_whole T) hr tk (am_cons (em_ix ix_fIx (em_v 3) em_int) am_nil) (hk := by omega)))) (wm_or1 (tm_cmp (op_fEq (uRoom hr)) (em_ix ix_fIx (em_v 3) em_int) em_int))))))
  (bm_one (sm_ret (em_gc T.c_BAD)))
  bm_nil)
  (bm_cons (sm_set 2 nd (em_bin op_fOr (em_v 2) (em_call h0 hr tk (am_cons (em_ix ix_fIx (em_v 3) em_int) (am_cons (em_v 1) am_nil)) (hk := by omega))))
  (bm_one (sm_if (tm_cmp (op_fEq (uRoom hr)) (em_v 2) (em_gc T.c_BAD))
  (bm_one (sm_ret (em_gc T.c_BAD)))
  bm_nil)))))
  (bm_cons (sm_for po rfl (im_rng2 T.n_range em_int (em_callB call_fLen rfl T.n_len PyProof.Rows.Boot.«len» (am_cons (em_ix ix_fIx (em_v 0) em_int) am_nil))) (gm_n 4 nd)
  (bm_one (sm_if (tm_not (tm_cmp (op_fLtD (uRoom hr)) (em_ix ix_fIx (em_ix ix_fIx (em_ix ix_fIx (em_v 0) em_int) (em_bin op_fSub (em_v 4) em_int)) em_int) (em_ix ix_fIx (em_ix ix_fIx (em_ix ix_fIx (em_v 0) em_int) (em_v 4)) em_int)))
  (bm_one (sm_ret (em_gc T.c_BAD)))
  bm_nil)))
  (bm_one (sm_ret (em_v 2)))))))
def R_atom_sort : Nat → Nat → MFn
  | 0, _ => mfNo
  | n + 1, 0 => mFn 2 4 (B_atom_sort (R_atom_sort n))
  | n + 1, 1 => mFn 2 5 (B_term_sort (R_atom_sort n))
  | _ + 1, _ => mfNo
theorem c_R_atom_sort (T : Txt P w K mg base) : ∀ n : Nat, Cal P w K mg base (2 + n) "atom_sort" (R_atom_sort n 0) ∧ Cal P w K mg base (2 + n) "term_sort" (R_atom_sort n 1)
  | 0 => ⟨cal_no T.d_atom_sort sc_atom_sort (fun _ _ _ _ _ _ us hl => match us, hl with | [_, _], _ => rfl), cal_no T.d_term_sort sc_term_sort (fun _ _ _ _ _ _ us hl => match us, hl with | [_, _], _ => rfl)⟩
  | n + 1 => by
    have H := c_R_atom_sort T n
    obtain ⟨h0, h1⟩ := H
    exact ⟨cal1' T.d_atom_sort sc_atom_sort rfl rfl (fun _ _ _ _ _ _ us hl => match us, hl with | [_, _], _ => rfl) (b_atom_sort T (2 + n) (by omega) (R_atom_sort n) h0 h1),
      cal1' T.d_term_sort sc_term_sort rfl rfl (fun _ _ _ _ _ _ us hl => match us, hl with | [_, _], _ => rfl) (b_term_sort T (2 + n) (by omega) (R_atom_sort n) h0 h1)⟩
def M_atom_sort : MFn := R_atom_sort 12 0
theorem c_atom_sort (T : Txt P w K mg base) : Cal P w K mg base 14 "atom_sort" M_atom_sort := (c_R_atom_sort T 12).1
def M_term_sort : MFn := R_atom_sort 12 1
theorem c_term_sort (T : Txt P w K mg base) : Cal P w K mg base 14 "term_sort" M_term_sort := (c_R_atom_sort T 12).2
abbrev N_check_pair : List Str := ["a", "low", "b", "high"]
def B_check_pair : MS :=
  (sSeq (sIf (mOrT (mNotT (mB (mCall M_is_whole (mCons (mV 0) mNil)))) (mB (m2 fLtD (mV 0) (mC (.int 1)))))
  (sRaise "BadArguments" 1 (fl_BadArguments D .non) (mCons (mC (.int 0)) mNil))
  sNil)
  (sSeq (sIf (mB (m2 fEq (mCall M_term_sort (mCons (mV 1) (mCons (mC (.int 0)) mNil))) (mC d_BAD)))
  (sRaise0 "BadTerm")
  sNil)
  (sSeq (sIf (mOrT (mNotT (mB (mCall M_is_whole (mCons (mV 2) mNil)))) (mB (m2 fLtD (mV 2) (mC (.int 1)))))
  (sRaise "BadArguments" 1 (fl_BadArguments D .non) (mCons (mC (.int 2)) mNil))
  sNil)
  (sIf (mOrT (mB (m2 fEq (mCall M_term_sort (mCons (mV 3) (mCons (mC (.int 0)) mNil))) (mC d_BAD))) (mB (m2 fEq (m2 fOr (mCall M_term_sort (mCons (mV 1) (mCons (mC (.int 0)) mNil))) (mCall M_term_sort (mCons (mV 3) (mCons (mC (.int 0)) mNil)))) (mC d_BAD))))
  (sRaise0 "BadTerm")
  sNil))))
def M_check_pair : MFn := mFn 4 4 B_check_pair
theorem sc_check_pair : FnScope N_check_pair ["a", "low", "b", "high"] (defScope s_check_pair) := ⟨rfl, rfl, rfl, by decide +kernel, rfl, by decide +kernel, by decide +kernel⟩
theorem b_check_pair (T : Txt P w K mg base) : BodyOk P w K mg base 14 N_check_pair "check_pair" (defScope s_check_pair) (defBody s_check_pair) B_check_pair := by
  intro f cdv A outer s H E hr tk po
  have nd := sc_check_pair.nd
  exact (bm_cons (sm_if (WM.tm (wm_or (tm_not (tm_val (em_call (c_is_whole T) hr tk (am_cons (em_v 0) am_nil)))) (wm_or1 (tm_cmp (op_fLtD (uRoom hr)) (em_v 0) em_int))))
  (bm_one (sm_raise T.x_BadArguments flds1 (by decide) hr tk rfl (am_cons em_int am_nil)))
  bm_nil)
  (bm_cons (sm_if (tm_cmp (op_fEq (uRoom hr)) (em_call (c_term_sort T) hr tk (am_cons (em_v 1) (am_cons em_int am_nil))) (em_gc T.c_BAD))
  (bm_one (sm_raise0 T.x_BadTerm hr tk rfl))
  bm_nil)
  (bm_cons (sm_if (WM.tm (wm_or (tm_not (tm_val (em_call (c_is_whole T) hr tk (am_cons (em_v 2) am_nil)))) (wm_or1 (tm_cmp (op_fLtD (uRoom hr)) (em_v 2) em_int))))
  (bm_one (sm_raise T.x_BadArguments flds1 (by decide) hr tk rfl (am_cons em_int am_nil)))
  bm_nil)
  (bm_one (sm_if (WM.tm (wm_or (tm_cmp (op_fEq (uRoom hr)) (em_call (c_term_sort T) hr tk (am_cons (em_v 3) (am_cons em_int am_nil))) (em_gc T.c_BAD)) (wm_or1 (tm_cmp (op_fEq (uRoom hr)) (em_bin op_fOr (em_call (c_term_sort T) hr tk (am_cons (em_v 1) (am_cons em_int am_nil))) (em_call (c_term_sort T) hr tk (am_cons (em_v 3) (am_cons em_int am_nil)))) (em_gc T.c_BAD)))))
  (bm_one (sm_raise0 T.x_BadTerm hr tk rfl))
  bm_nil)))))
theorem c_check_pair (T : Txt P w K mg base) : Cal P w K mg base 15 "check_pair" M_check_pair := cal1 T.d_check_pair sc_check_pair (fun _ _ _ _ _ _ us hl => match us, hl with | [_, _, _, _], _ => rfl) (b_check_pair T)
abbrev N_plus_times : List Str := ["term", "other", "k", "told", "one", "two", "atom", "n", "right", "many", "left"]
def B_plus_times : MS :=
  (sSeq (sIf (mB (m2 fEq (mV 2) (mC (.int 0))))
  (sRet (mV 0))
  sNil)
  (sSeq (sSet 3 (mLst mNil))
  (sSeq (sSet 4 (mC (.int 0)))
  (sSeq (sSet 5 (mC (.int 0)))
  (sSeq (sWhile 1000000000 (mAndT (mB (m2 fLtD (mV 4) (mB1 (f1L fLen) (mCons (m2 fIx (mV 0) (mC (.int 1))) mNil)))) (mB (m2 fLtD (mV 5) (mB1 (f1L fLen) (mCons (m2 fIx (mV 1) (mC (.int 1))) mNil)))))
  (sSeq (sAsg (m2 fIx (m2 fIx (mV 0) (mC (.int 1))) (mV 4)) (gT 2 (gsCons (gN 6) (gsCons (gN 7) gsNil))))
  (sSeq (sAsg (m2 fIx (m2 fIx (mV 1) (mC (.int 1))) (mV 5)) (gT 2 (gsCons (gN 8) (gsCons (gN 9) gsNil))))
  (sSeq (sIf (mB (m2 fEq (mV 6) (mV 8)))
  (sSeq (sSet 7 (m2 fAdd (mV 7) (m2 fMulA (mV 2) (mV 9))))
  (sSeq (sAug 4 fIAdd (mC (.int 1)))
  (sAug 5 fIAdd (mC (.int 1)))))
  (sIf (mB (m2 fLtD (mV 6) (mV 8)))
  (sAug 4 fIAdd (mC (.int 1)))
  (sSeq (sSet 6 (mV 8))
  (sSeq (sSet 7 (m2 fMulA (mV 2) (mV 9)))
  (sAug 5 fIAdd (mC (.int 1)))))))
  (sIf (mB (m2 fNe (mV 7) (mC (.int 0))))
  (sExpr (mM "list" fAppend (mV 3) (mCons (mTup (mCons (mV 6) (mCons (mV 7) mNil))) mNil)))
  sNil)))))
  (sSeq (sExpr (mM "list" fExtendA (mV 3) (mCons (mSl (m2 fIx (mV 0) (mC (.int 1))) (mPart (mV 4)) mNoPart) mNil)))
  (sSeq (sExpr (mM "list" fExtendA (mV 3) (mCons (mLc (iSeq (mSl (m2 fIx (mV 1) (mC (.int 1))) (mPart (mV 5)) mNoPart)) (gT 2 (gsCons (gN 10) (gsCons (gN 9) gsNil))) tAll (mTup (mCons (mV 10) (mCons (m2 fMulA (mV 2) (mV 9)) mNil))) [10, 9]) mNil)))
  (sRet (mTup (mCons (m2 fAdd (m2 fIx (mV 0) (mC (.int 0))) (m2 fMulA (mV 2) (m2 fIx (mV 1) (mC (.int 0))))) (mCons (mB1 (f1L fTuple) (mCons (mV 3) mNil)) mNil)))))))))))
def M_plus_times : MFn := mFn 3 11 B_plus_times
theorem sc_plus_times : FnScope N_plus_times ["term", "other", "k"] (defScope s_plus_times) := ⟨rfl, rfl, rfl, by decide +kernel, rfl, by decide +kernel, by decide +kernel⟩
theorem b_plus_times (T : Txt P w K mg base) : BodyOk P w K mg base 0 N_plus_times "plus_times" (defScope s_plus_times) (defBody s_plus_times) B_plus_times := by
  intro f cdv A outer s H E hr tk po
  have nd := sc_plus_times.nd
  exact (bm_cons (sm_if (tm_cmp (op_fEq (uRoom hr)) (em_v 2) em_int)
  (bm_one (sm_ret (em_v 0)))
  bm_nil)
  (bm_cons (sm_set 3 nd (em_lst am_nil))
  (bm_cons (sm_set 4 nd em_int)
  (bm_cons (sm_set 5 nd em_int)
  (bm_cons (sm_while 1000000000 po (WM.tm (wm_and (tm_cmp (op_fLtD (uRoom hr)) (em_v 4) (em_callB call_fLen rfl T.n_len PyProof.Rows.Boot.«len» (am_cons (em_ix ix_fIx (em_v 0) em_int) am_nil))) (wm_and1 (tm_cmp (op_fLtD (uRoom hr)) (em_v 5) (em_callB call_fLen rfl T.n_len PyProof.Rows.Boot.«len» (am_cons (em_ix ix_fIx (em_v 1) em_int) am_nil))))))
  (bm_cons (sm_asg (em_ix ix_fIx (em_ix ix_fIx (em_v 0) em_int) (em_v 4)) (gm_tup rfl (gms_cons (gm_n 6 nd) (gms_cons (gm_n 7 nd) gms_nil))))
  (bm_cons (sm_asg (em_ix ix_fIx (em_ix ix_fIx (em_v 1) em_int) (em_v 5)) (gm_tup rfl (gms_cons (gm_n 8 nd) (gms_cons (gm_n 9 nd) gms_nil))))
  (bm_cons (sm_if (tm_cmp (op_fEq (uRoom hr)) (em_v 6) (em_v 8))
  (bm_cons (sm_set 7 nd (em_bin op_fAdd (em_v 7) (em_bin op_fMulA (em_v 2) (em_v 9))))
  (bm_cons (sm_aug 4 nd ip_fAdd em_int)
  (bm_one (sm_aug 5 nd ip_fAdd em_int))))
  (bm_one (sm_if (tm_cmp (op_fLtD (uRoom hr)) (em_v 6) (em_v 8))
  (bm_one (sm_aug 4 nd ip_fAdd em_int))
  (bm_cons (sm_set 6 nd (em_v 8))
  (bm_cons (sm_set 7 nd (em_bin op_fMulA (em_v 2) (em_v 9)))
  (bm_one (sm_aug 5 nd ip_fAdd em_int)))))))
  (bm_one (sm_if (tm_cmp (op_fNe (uRoom hr)) (em_v 7) em_int)
  (bm_one (sm_expr (em_bm PySem.F.plainAttrs_list PySem.F.slot_list_append PySem.F.type_list_append mt_fAppend (em_v 3) (am_cons (em_tup (am_cons (em_v 6) (am_cons (em_v 7) am_nil))) am_nil))))
  bm_nil))))))
  (bm_cons (sm_expr (em_bm PySem.F.plainAttrs_list PySem.F.slot_list_extend PySem.F.type_list_extend mt_fExtendA (em_v 3) (am_cons (em_sl (em_ix ix_fIx (em_v 0) em_int) (om_some (em_v 4)) om_none) am_nil)))
  (bm_cons (sm_expr (em_bm PySem.F.plainAttrs_list PySem.F.slot_list_extend PySem.F.type_list_extend mt_fExtendA (em_v 3) (am_cons (em_lc [10, 9] rfl nd (im_seq (em_sl (em_ix ix_fIx (em_v 1) em_int) (om_some (em_v 5)) om_none)) (blkOk_by (N := N_plus_times) (sc := defScope s_plus_times) (own := [("left", 10), ("many", 9)]) (by decide +kernel)) (fun _ _ _ _ _ => (gc_tup rfl (gcs_cons (gc_n 10 nd) (gcs_cons (gc_n 9 nd) gcs_nil)))) (fun _ _ _ _ _ => tms_nil) (fun _ _ _ _ _ => (em_tup (am_cons (em_v 10) (am_cons (em_bin op_fMulA (em_v 2) (em_v 9)) am_nil))))) am_nil)))
  (bm_one (sm_ret (em_tup (am_cons (em_bin op_fAdd (em_ix ix_fIx (em_v 0) em_int) (em_bin op_fMulA (em_v 2) (em_ix ix_fIx (em_v 1) em_int))) (am_cons (em_callT call_fTuple rfl T.n_tuple PyProof.Rows.Boot.«tuple» (am_cons (em_v 3) am_nil)) am_nil))))))))))))
theorem c_plus_times (T : Txt P w K mg base) : Cal P w K mg base 1 "plus_times" M_plus_times := cal1 T.d_plus_times sc_plus_times (fun _ _ _ _ _ _ us hl => match us, hl with | [_, _, _], _ => rfl) (b_plus_times T)
abbrev N_common_divisor : List Str := ["numbers", "told", "n"]
def B_common_divisor : MS :=
  (sSeq (sSet 1 (mC (.int 0)))
  (sSeq (sFor (iSeq (mV 0)) (gN 2)
  (sSet 1 (mB1 (f2L fGcd2) (mCons (mV 1) (mCons (mV 2) mNil)))))
  (sRet (mV 1))))
def M_common_divisor : MFn := mFn 1 3 B_common_divisor
theorem sc_common_divisor : FnScope N_common_divisor ["numbers"] (defScope s_common_divisor) := ⟨rfl, rfl, rfl, by decide +kernel, rfl, by decide +kernel, by decide +kernel⟩
theorem b_common_divisor (T : Txt P w K mg base) : BodyOk P w K mg base 0 N_common_divisor "common_divisor" (defScope s_common_divisor) (defBody s_common_divisor) B_common_divisor := by
  intro f cdv A outer s H E hr tk po
  have nd := sc_common_divisor.nd
  exact (bm_cons (sm_set 1 nd em_int)
  (bm_cons (sm_for po rfl (im_seq (em_v 0)) (gm_n 2 nd)
  (bm_one (sm_set 1 nd (em_callF call_fGcd2 T.i_gcd (am_cons (em_v 1) (am_cons (em_v 2) am_nil))))))
  (bm_one (sm_ret (em_v 1)))))
theorem c_common_divisor (T : Txt P w K mg base) : Cal P w K mg base 1 "common_divisor" M_common_divisor := cal1 T.d_common_divisor sc_common_divisor (fun _ _ _ _ _ _ us hl => match us, hl with | [_], _ => rfl) (b_common_divisor T)
abbrev N_short_row : List Str := ["fact", "word", "term", "d", "pairs", "n", "atom"]
def B_short_row : MS :=
  (sSeq (sAsg (mV 0) (gT 2 (gsCons (gN 1) (gsCons (gN 2) gsNil))))
  (sSeq (sSet 3 (mCall M_common_divisor (mCons (mLc (iSeq (m2 fIx (mV 2) (mC (.int 1)))) (gT 2 (gsCons (gN 6) (gsCons (gN 5) gsNil))) tAll (mV 5) [6, 5]) mNil)))
  (sSeq (sIf (mB (m2 fEq (mV 3) (mC (.int 0))))
  (sRet (mTup (mCons (mV 0) (mCons (mC (.int 1)) mNil))))
  sNil)
  (sSeq (sIf (mAndT (mB (m2 fEq (mV 1) (mC (.str "eq")))) (mB (m2 fNe (m2 fSub (m2 fIx (mV 2) (mC (.int 0))) (m2 fMulA (mV 3) (m2 fDiv (m2 fIx (mV 2) (mC (.int 0))) (mV 3)))) (mC (.int 0)))))
  (sRet (mTup (mCons (mTup (mCons (mC (.str "le")) (mCons (mTup (mCons (mC (.int 1)) (mCons (mTup mNil) mNil))) mNil))) (mCons (mV 3) mNil))))
  sNil)
  (sSeq (sSet 4 (mB1 (f1L fTuple) (mCons (mLc (iSeq (m2 fIx (mV 2) (mC (.int 1)))) (gT 2 (gsCons (gN 6) (gsCons (gN 5) gsNil))) tAll (mTup (mCons (mV 6) (mCons (m2 fDiv (mV 5) (mV 3)) mNil))) [6, 5]) mNil)))
  (sRet (mTup (mCons (mTup (mCons (mV 1) (mCons (mTup (mCons (mCall M_up (mCons (m2 fIx (mV 2) (mC (.int 0))) (mCons (mV 3) mNil))) (mCons (mV 4) mNil))) mNil))) (mCons (mV 3) mNil)))))))))
def M_short_row : MFn := mFn 1 7 B_short_row
theorem sc_short_row : FnScope N_short_row ["fact"] (defScope s_short_row) := ⟨rfl, rfl, rfl, by decide +kernel, rfl, by decide +kernel, by decide +kernel⟩
theorem b_short_row (T : Txt P w K mg base) : BodyOk P w K mg base 1 N_short_row "short_row" (defScope s_short_row) (defBody s_short_row) B_short_row := by
  intro f cdv A outer s H E hr tk po
  have nd := sc_short_row.nd
  exact (bm_cons (sm_asg (em_v 0) (gm_tup rfl (gms_cons (gm_n 1 nd) (gms_cons (gm_n 2 nd) gms_nil))))
  (bm_cons (sm_set 3 nd (em_call (c_common_divisor T) hr tk (am_cons (em_lc [6, 5] rfl nd (im_seq (em_ix ix_fIx (em_v 2) em_int)) (blkOk_by (N := N_short_row) (sc := defScope s_short_row) (own := [("atom", 6), ("n", 5)]) (by decide +kernel)) (fun _ _ _ _ _ => (gc_tup rfl (gcs_cons (gc_n 6 nd) (gcs_cons (gc_n 5 nd) gcs_nil)))) (fun _ _ _ _ _ => tms_nil) (fun _ _ _ _ _ => (em_v 5))) am_nil)))
  (bm_cons (sm_if (tm_cmp (op_fEq (uRoom hr)) (em_v 3) em_int)
  (bm_one (sm_ret (em_tup (am_cons (em_v 0) (am_cons em_int am_nil)))))
  bm_nil)
  (bm_cons (sm_if (WM.tm (wm_and (tm_cmp (op_fEq (uRoom hr)) (em_v 1) em_str) (wm_and1 (tm_cmp (op_fNe (uRoom hr)) (em_bin op_fSub (em_ix ix_fIx (em_v 2) em_int) (em_bin op_fMulA (em_v 3) (em_bin op_fDiv (em_ix ix_fIx (em_v 2) em_int) (em_v 3)))) em_int))))
  (bm_one (sm_ret (em_tup (am_cons (em_tup (am_cons em_str (am_cons (em_tup (am_cons em_int (am_cons (em_tup am_nil) am_nil))) am_nil))) (am_cons (em_v 3) am_nil)))))
  bm_nil)
  (bm_cons (sm_set 4 nd (em_callT call_fTuple rfl T.n_tuple PyProof.Rows.Boot.«tuple» (am_cons (em_lc [6, 5] rfl nd (im_seq (em_ix ix_fIx (em_v 2) em_int)) (blkOk_by (N := N_short_row) (sc := defScope s_short_row) (own := [("atom", 6), ("n", 5)]) (by decide +kernel)) (fun _ _ _ _ _ => (gc_tup rfl (gcs_cons (gc_n 6 nd) (gcs_cons (gc_n 5 nd) gcs_nil)))) (fun _ _ _ _ _ => tms_nil) (fun _ _ _ _ _ => (em_tup (am_cons (em_v 6) (am_cons (em_bin op_fDiv (em_v 5) (em_v 3)) am_nil))))) am_nil)))
  (bm_one (sm_ret (em_tup (am_cons (em_tup (am_cons (em_v 1) (am_cons (em_tup (am_cons (em_call (c_up T) hr tk (am_cons (em_ix ix_fIx (em_v 2) em_int) (am_cons (em_v 3) am_nil))) (am_cons (em_v 4) am_nil))) am_nil))) (am_cons (em_v 3) am_nil))))))))))
theorem c_short_row (T : Txt P w K mg base) : Cal P w K mg base 2 "short_row" M_short_row := cal1 T.d_short_row sc_short_row (fun _ _ _ _ _ _ us hl => match us, hl with | [_], _ => rfl) (b_short_row T)
abbrev N_pair_row : List Str := ["a", "low", "b", "high", "more", "total"]
def B_pair_row : MS :=
  (sSeq (sSet 5 (mCall M_plus_times (mCons (mCall M_plus_times (mCons (mTup (mCons (mV 4) (mCons (mTup mNil) mNil))) (mCons (mV 1) (mCons (mV 2) mNil)))) (mCons (mV 3) (mCons (mV 0) mNil)))))
  (sRet (m2 fIx (mCall M_short_row (mCons (mTup (mCons (mC (.str "le")) (mCons (mV 5) mNil))) mNil)) (mC (.int 0)))))
def M_pair_row : MFn := mFn 5 6 B_pair_row
theorem sc_pair_row : FnScope N_pair_row ["a", "low", "b", "high", "more"] (defScope s_pair_row) := ⟨rfl, rfl, rfl, by decide +kernel, rfl, by decide +kernel, by decide +kernel⟩
theorem b_pair_row (T : Txt P w K mg base) : BodyOk P w K mg base 2 N_pair_row "pair_row" (defScope s_pair_row) (defBody s_pair_row) B_pair_row := by
  intro f cdv A outer s H E hr tk po
  have nd := sc_pair_row.nd
  exact (bm_cons (sm_set 5 nd (em_call (c_plus_times T) hr tk (am_cons (em_call (c_plus_times T) hr tk (am_cons (em_tup (am_cons (em_v 4) (am_cons (em_tup am_nil) am_nil))) (am_cons (em_v 1) (am_cons (em_v 2) am_nil)))) (am_cons (em_v 3) (am_cons (em_v 0) am_nil)))))
  (bm_one (sm_ret (em_ix ix_fIx (em_call (c_short_row T) hr tk (am_cons (em_tup (am_cons em_str (am_cons (em_v 5) am_nil))) am_nil)) em_int))))
theorem c_pair_row (T : Txt P w K mg base) : Cal P w K mg base 3 "pair_row" M_pair_row := cal1 T.d_pair_row sc_pair_row (fun _ _ _ _ _ _ us hl => match us, hl with | [_, _, _, _, _], _ => rfl) (b_pair_row T)
abbrev N_real_row : List Str := ["a", "low", "b", "high"]
def B_real_row : MS :=
  (sSeq (sExpr (mCall M_check_pair (mCons (mV 0) (mCons (mV 1) (mCons (mV 2) (mCons (mV 3) mNil))))))
  (sRet (mCall M_pair_row (mCons (mV 0) (mCons (mV 1) (mCons (mV 2) (mCons (mV 3) (mCons (mC (.int 0)) mNil))))))))
def M_real_row : MFn := mFn 4 4 B_real_row
theorem sc_real_row : FnScope N_real_row ["a", "low", "b", "high"] (defScope s_real_row) := ⟨rfl, rfl, rfl, by decide +kernel, rfl, by decide +kernel, by decide +kernel⟩
theorem b_real_row (T : Txt P w K mg base) : BodyOk P w K mg base 15 N_real_row "real_row" (defScope s_real_row) (defBody s_real_row) B_real_row := by
  intro f cdv A outer s H E hr tk po
  have nd := sc_real_row.nd
  exact (bm_cons (sm_expr (em_call (c_check_pair T) hr tk (am_cons (em_v 0) (am_cons (em_v 1) (am_cons (em_v 2) (am_cons (em_v 3) am_nil))))))
  (bm_one (sm_ret (em_call (c_pair_row T) hr tk (am_cons (em_v 0) (am_cons (em_v 1) (am_cons (em_v 2) (am_cons (em_v 3) (am_cons em_int am_nil)))))))))
theorem c_real_row (T : Txt P w K mg base) : Cal P w K mg base 16 "real_row" M_real_row := cal1 T.d_real_row sc_real_row (fun _ _ _ _ _ _ us hl => match us, hl with | [_, _, _, _], _ => rfl) (b_real_row T)
abbrev N_dark_row : List Str := ["a", "low", "b", "high"]
def B_dark_row : MS :=
  (sSeq (sExpr (mCall M_check_pair (mCons (mV 0) (mCons (mV 1) (mCons (mV 2) (mCons (mV 3) mNil))))))
  (sRet (mCall M_pair_row (mCons (mV 0) (mCons (mV 1) (mCons (mV 2) (mCons (mV 3) (mCons (m2 fMulA (m2 fSub (mV 0) (mC (.int 1))) (m2 fSub (mV 2) (mC (.int 1)))) mNil))))))))
def M_dark_row : MFn := mFn 4 4 B_dark_row
theorem sc_dark_row : FnScope N_dark_row ["a", "low", "b", "high"] (defScope s_dark_row) := ⟨rfl, rfl, rfl, by decide +kernel, rfl, by decide +kernel, by decide +kernel⟩
theorem b_dark_row (T : Txt P w K mg base) : BodyOk P w K mg base 15 N_dark_row "dark_row" (defScope s_dark_row) (defBody s_dark_row) B_dark_row := by
  intro f cdv A outer s H E hr tk po
  have nd := sc_dark_row.nd
  exact (bm_cons (sm_expr (em_call (c_check_pair T) hr tk (am_cons (em_v 0) (am_cons (em_v 1) (am_cons (em_v 2) (am_cons (em_v 3) am_nil))))))
  (bm_one (sm_ret (em_call (c_pair_row T) hr tk (am_cons (em_v 0) (am_cons (em_v 1) (am_cons (em_v 2) (am_cons (em_v 3) (am_cons (em_bin op_fMulA (em_bin op_fSub (em_v 0) em_int) (em_bin op_fSub (em_v 2) em_int)) am_nil)))))))))
theorem c_dark_row (T : Txt P w K mg base) : Cal P w K mg base 16 "dark_row" M_dark_row := cal1 T.d_dark_row sc_dark_row (fun _ _ _ _ _ _ us hl => match us, hl with | [_, _, _, _], _ => rfl) (b_dark_row T)
abbrev N_is_exact : List Str := ["a", "low", "b", "high", "real", "dark"]
def B_is_exact : MS :=
  (sSeq (sSet 4 (mCall M_real_row (mCons (mV 0) (mCons (mV 1) (mCons (mV 2) (mCons (mV 3) mNil))))))
  (sSeq (sSet 5 (mCall M_dark_row (mCons (mV 0) (mCons (mV 1) (mCons (mV 2) (mCons (mV 3) mNil))))))
  (sSeq (sIf (mB (m2 fEq (mB1 (f1L fLen) (mCons (m2 fIx (m2 fIx (mV 4) (mC (.int 1))) (mC (.int 1))) mNil)) (mC (.int 0))))
  (sRet (m2 fEq (m2 fLe (m2 fIx (m2 fIx (mV 4) (mC (.int 1))) (mC (.int 0))) (mC (.int 0))) (m2 fLe (m2 fIx (m2 fIx (mV 5) (mC (.int 1))) (mC (.int 0))) (mC (.int 0)))))
  sNil)
  (sRet (m2 fEq (mV 4) (mV 5))))))
def M_is_exact : MFn := mFn 4 6 B_is_exact
theorem sc_is_exact : FnScope N_is_exact ["a", "low", "b", "high"] (defScope s_is_exact) := ⟨rfl, rfl, rfl, by decide +kernel, rfl, by decide +kernel, by decide +kernel⟩
theorem b_is_exact (T : Txt P w K mg base) : BodyOk P w K mg base 16 N_is_exact "is_exact" (defScope s_is_exact) (defBody s_is_exact) B_is_exact := by
  intro f cdv A outer s H E hr tk po
  have nd := sc_is_exact.nd
  exact (bm_cons (sm_set 4 nd (em_call (c_real_row T) hr tk (am_cons (em_v 0) (am_cons (em_v 1) (am_cons (em_v 2) (am_cons (em_v 3) am_nil))))))
  (bm_cons (sm_set 5 nd (em_call (c_dark_row T) hr tk (am_cons (em_v 0) (am_cons (em_v 1) (am_cons (em_v 2) (am_cons (em_v 3) am_nil))))))
  (bm_cons (sm_if (tm_cmp (op_fEq (uRoom hr)) (em_callB call_fLen rfl T.n_len PyProof.Rows.Boot.«len» (am_cons (em_ix ix_fIx (em_ix ix_fIx (em_v 4) em_int) em_int) am_nil)) em_int)
  (bm_one (sm_ret (em_cmp (op_fEq (uRoom hr)) (em_cmp op_fLe (em_ix ix_fIx (em_ix ix_fIx (em_v 4) em_int) em_int) em_int) (em_cmp op_fLe (em_ix ix_fIx (em_ix ix_fIx (em_v 5) em_int) em_int) em_int))))
  bm_nil)
  (bm_one (sm_ret (em_cmp (op_fEq (uRoom hr)) (em_v 4) (em_v 5)))))))
theorem c_is_exact (T : Txt P w K mg base) : Cal P w K mg base 17 "is_exact" M_is_exact := cal1 T.d_is_exact sc_is_exact (fun _ _ _ _ _ _ us hl => match us, hl with | [_, _, _, _], _ => rfl) (b_is_exact T)
abbrev N__law_whole_right : List Str := ["pool", "a", "b", "size", "shift", "low", "high", "due", "share", "alike", "told", "edge"]
def B__law_whole_right : MS :=
  (sSeq (sSet 3 (m2 fIx (mLst (mCons (mC (.int 1)) (mCons (mC (.int 1)) (mCons (m2 fPow (mC (.int 10)) (mC (.int 30))) mNil)))) (mCall M__law_pick (mCons (mV 0) (mCons (mC (.int 3)) mNil)))))
  (sSeq (sSet 4 (m2 fMulA (m2 fSub (mCall M__law_pick (mCons (mV 0) (mCons (mC (.int 15)) mNil))) (mC (.int 7))) (mV 3)))
  (sSeq (sSet 5 (m2 fSub (m2 fAdd (m2 fAdd (mC (.int 1)) (m2 fMulA (mV 1) (mV 4))) (mCall M__law_pick (mCons (mV 0) (mCons (mC (.int 3)) mNil)))) (mCall M__law_pick (mCons (mV 0) (mCons (mC (.int 2)) mNil)))))
  (sSeq (sSet 6 (m2 fSub (m2 fAdd (m2 fSub (m2 fSub (mC (.int 1)) (mV 2)) (m2 fMulA (mV 2) (mV 4))) (mCall M__law_pick (mCons (mV 0) (mCons (mC (.int 3)) mNil)))) (mCall M__law_pick (mCons (mV 0) (mCons (mC (.int 3)) mNil)))))
  (sSeq (sIf (mB (m2 fEq (mCall M__law_pick (mCons (mV 0) (mCons (mC (.int 3)) mNil))) (mC (.int 2))))
  (sSet 6 (m2 fAdd (m2 fSub (m1 fNeg (mV 5)) (mCall M__law_pick (mCons (mV 0) (mCons (mC (.int 27)) mNil)))) (mC (.int 5))))
  sNil)
  (sSeq (sSet 7 (mCall M__law_between (mCons (mV 1) (mCons (mV 5) (mCons (mV 2) (mCons (mV 6) mNil))))))
  (sSeq (sIf (mNotT (mB (mCall M__law_same (mCons (mCall M_whole_between (mCons (mV 1) (mCons (mV 5) (mCons (mV 2) (mCons (mV 6) mNil))))) (mCons (mV 7) mNil)))))
  (sRet (mC (.bl false)))
  sNil)
  (sSeq (sSet 8 (m2 fAdd (m2 fMulA (mV 2) (mV 5)) (m2 fMulA (mV 1) (mV 6))))
  (sSeq (sIf (mOrT (mAndT (mB (m2 fGt (mV 8) (mC (.int 0)))) (mB (m2 fIsN (mV 7) (mC .non)))) (mAndT (mB (m2 fLe (m2 fAdd (mV 8) (m2 fMulA (m2 fSub (mV 1) (mC (.int 1))) (m2 fSub (mV 2) (mC (.int 1))))) (mC (.int 0)))) (mB (m2 fIs (mV 7) (mC .non)))))
  (sRet (mC (.bl false)))
  sNil)
  (sSeq (sIf (mB (m2 fNe (mCall M_real_row (mCons (mV 1) (mCons (mTup (mCons (mV 5) (mCons (mTup mNil) mNil))) (mCons (mV 2) (mCons (mTup (mCons (mV 6) (mCons (mTup mNil) mNil))) mNil))))) (mTup (mCons (mC (.str "le")) (mCons (mTup (mCons (mV 8) (mCons (mTup mNil) mNil))) mNil)))))
  (sRet (mC (.bl false)))
  sNil)
  (sSeq (sIf (mB (m2 fNe (mCall M_dark_row (mCons (mV 1) (mCons (mTup (mCons (mV 5) (mCons (mTup mNil) mNil))) (mCons (mV 2) (mCons (mTup (mCons (mV 6) (mCons (mTup mNil) mNil))) mNil))))) (mTup (mCons (mC (.str "le")) (mCons (mTup (mCons (m2 fAdd (mV 8) (m2 fMulA (m2 fSub (mV 1) (mC (.int 1))) (m2 fSub (mV 2) (mC (.int 1))))) (mCons (mTup mNil) mNil))) mNil)))))
  (sRet (mC (.bl false)))
  sNil)
  (sSeq (sSet 9 (m2 fEq (m2 fLe (mV 8) (mC (.int 0))) (m2 fLe (m2 fAdd (mV 8) (m2 fMulA (m2 fSub (mV 1) (mC (.int 1))) (m2 fSub (mV 2) (mC (.int 1))))) (mC (.int 0)))))
  (sSeq (sSet 10 (mCall M_is_exact (mCons (mV 1) (mCons (mTup (mCons (mV 5) (mCons (mTup mNil) mNil))) (mCons (mV 2) (mCons (mTup (mCons (mV 6) (mCons (mTup mNil) mNil))) mNil))))))
  (sSeq (sSet 11 (mCall M_whole_between (mCons (mV 1) (mCons (m2 fAdd (mC (.int 1)) (m2 fMulA (mV 1) (mV 4))) (mCons (mV 2) (mCons (m2 fSub (m2 fSub (mC (.int 1)) (mV 2)) (m2 fMulA (mV 2) (mV 4))) mNil))))))
  (sSeq (sIf (mAndT (mB (m2 fGt (mV 1) (mC (.int 1)))) (mAndT (mB (m2 fGt (mV 2) (mC (.int 1)))) (mB (m2 fIsN (mV 11) (mC .non)))))
  (sRet (mC (.bl false)))
  sNil)
  (sRet (mAndV (m2 fEq (m2 fIs (mV 10) (mC (.bl true))) (mV 9)) (m2 fNe (m2 fIs (mV 10) (mC (.bl false))) (mV 9)))))))))))))))))))
def M__law_whole_right : MFn := mFn 3 12 B__law_whole_right
theorem sc__law_whole_right : FnScope N__law_whole_right ["pool", "a", "b"] (defScope s__law_whole_right) := ⟨rfl, rfl, rfl, by decide +kernel, rfl, by decide +kernel, by decide +kernel⟩
theorem b__law_whole_right (T : Txt P w K mg base) : BodyOk P w K mg base 17 N__law_whole_right "_law_whole_right" (defScope s__law_whole_right) (defBody s__law_whole_right) B__law_whole_right := by
  intro f cdv A outer s H E hr tk po
  have nd := sc__law_whole_right.nd
  exact (bm_cons (sm_set 3 nd (em_ix ix_fIx (em_lst (am_cons em_int (am_cons em_int (am_cons (em_bin op_fPow em_int em_int) am_nil)))) (em_call (c__law_pick T) hr tk (am_cons (em_v 0) (am_cons em_int am_nil)))))
  (bm_cons (sm_set 4 nd (em_bin op_fMulA (em_bin op_fSub (em_call (c__law_pick T) hr tk (am_cons (em_v 0) (am_cons em_int am_nil))) em_int) (em_v 3)))
  (bm_cons (sm_set 5 nd (em_bin op_fSub (em_bin op_fAdd (em_bin op_fAdd em_int (em_bin op_fMulA (em_v 1) (em_v 4))) (em_call (c__law_pick T) hr tk (am_cons (em_v 0) (am_cons em_int am_nil)))) (em_call (c__law_pick T) hr tk (am_cons (em_v 0) (am_cons em_int am_nil)))))
  (bm_cons (sm_set 6 nd (em_bin op_fSub (em_bin op_fAdd (em_bin op_fSub (em_bin op_fSub em_int (em_v 2)) (em_bin op_fMulA (em_v 2) (em_v 4))) (em_call (c__law_pick T) hr tk (am_cons (em_v 0) (am_cons em_int am_nil)))) (em_call (c__law_pick T) hr tk (am_cons (em_v 0) (am_cons em_int am_nil)))))
  (bm_cons (sm_if (tm_cmp (op_fEq (uRoom hr)) (em_call (c__law_pick T) hr tk (am_cons (em_v 0) (am_cons em_int am_nil))) em_int)
  (bm_one (sm_set 6 nd (em_bin op_fAdd (em_bin op_fSub (em_neg (em_v 5)) (em_call (c__law_pick T) hr tk (am_cons (em_v 0) (am_cons em_int am_nil)))) em_int)))
  bm_nil)
  (bm_cons (sm_set 7 nd (em_call (c__law_between T) hr tk (am_cons (em_v 1) (am_cons (em_v 5) (am_cons (em_v 2) (am_cons (em_v 6) am_nil))))))
  (bm_cons (sm_if (tm_not (tm_val (em_call (c__law_same T) hr tk (am_cons (em_call (c_whole_between T) hr tk (am_cons (em_v 1) (am_cons (em_v 5) (am_cons (em_v 2) (am_cons (em_v 6) am_nil))))) (am_cons (em_v 7) am_nil)))))
  (bm_one (sm_ret em_bl))
  bm_nil)
  (bm_cons (sm_set 8 nd (em_bin op_fAdd (em_bin op_fMulA (em_v 2) (em_v 5)) (em_bin op_fMulA (em_v 1) (em_v 6))))
  (bm_cons (sm_if (WM.tm (wm_or (WM.tm (wm_and (tm_cmp op_fGt (em_v 8) em_int) (wm_and1 (tm_cmp op_fIsN (em_v 7) em_non)))) (wm_or1 (WM.tm (wm_and (tm_cmp op_fLe (em_bin op_fAdd (em_v 8) (em_bin op_fMulA (em_bin op_fSub (em_v 1) em_int) (em_bin op_fSub (em_v 2) em_int))) em_int) (wm_and1 (tm_cmp op_fIs (em_v 7) em_non)))))))
  (bm_one (sm_ret em_bl))
  bm_nil)
  (bm_cons (sm_if (tm_cmp (op_fNe (uRoom hr)) (em_call (c_real_row T) hr tk (am_cons (em_v 1) (am_cons (em_tup (am_cons (em_v 5) (am_cons (em_tup am_nil) am_nil))) (am_cons (em_v 2) (am_cons (em_tup (am_cons (em_v 6) (am_cons (em_tup am_nil) am_nil))) am_nil))))) (em_tup (am_cons em_str (am_cons (em_tup (am_cons (em_v 8) (am_cons (em_tup am_nil) am_nil))) am_nil))))
  (bm_one (sm_ret em_bl))
  bm_nil)
  (bm_cons (sm_if (tm_cmp (op_fNe (uRoom hr)) (em_call (c_dark_row T) hr tk (am_cons (em_v 1) (am_cons (em_tup (am_cons (em_v 5) (am_cons (em_tup am_nil) am_nil))) (am_cons (em_v 2) (am_cons (em_tup (am_cons (em_v 6) (am_cons (em_tup am_nil) am_nil))) am_nil))))) (em_tup (am_cons em_str (am_cons (em_tup (am_cons (em_bin op_fAdd (em_v 8) (em_bin op_fMulA (em_bin op_fSub (em_v 1) em_int) (em_bin op_fSub (em_v 2) em_int))) (am_cons (em_tup am_nil) am_nil))) am_nil))))
  (bm_one (sm_ret em_bl))
  bm_nil)
  (bm_cons (sm_set 9 nd (em_cmp (op_fEq (uRoom hr)) (em_cmp op_fLe (em_v 8) em_int) (em_cmp op_fLe (em_bin op_fAdd (em_v 8) (em_bin op_fMulA (em_bin op_fSub (em_v 1) em_int) (em_bin op_fSub (em_v 2) em_int))) em_int)))
  (bm_cons (sm_set 10 nd (em_call (c_is_exact T) hr tk (am_cons (em_v 1) (am_cons (em_tup (am_cons (em_v 5) (am_cons (em_tup am_nil) am_nil))) (am_cons (em_v 2) (am_cons (em_tup (am_cons (em_v 6) (am_cons (em_tup am_nil) am_nil))) am_nil))))))
  (bm_cons (sm_set 11 nd (em_call (c_whole_between T) hr tk (am_cons (em_v 1) (am_cons (em_bin op_fAdd em_int (em_bin op_fMulA (em_v 1) (em_v 4))) (am_cons (em_v 2) (am_cons (em_bin op_fSub (em_bin op_fSub em_int (em_v 2)) (em_bin op_fMulA (em_v 2) (em_v 4))) am_nil))))))
  (bm_cons (sm_if (WM.tm (wm_and (tm_cmp op_fGt (em_v 1) em_int) (wm_and (tm_cmp op_fGt (em_v 2) em_int) (wm_and1 (tm_cmp op_fIsN (em_v 11) em_non)))))
  (bm_one (sm_ret em_bl))
  bm_nil)
  (bm_one (sm_ret (em_and (em_cmp (op_fEq (uRoom hr)) (em_cmp op_fIs (em_v 10) em_bl) (em_v 9)) (em_one (em_cmp (op_fNe (uRoom hr)) (em_cmp op_fIs (em_v 10) em_bl) (em_v 9)))))))))))))))))))))
theorem c__law_whole_right (T : Txt P w K mg base) : Cal P w K mg base 18 "_law_whole_right" M__law_whole_right := cal1 T.d__law_whole_right sc__law_whole_right (fun _ _ _ _ _ _ us hl => match us, hl with | [_, _, _], _ => rfl) (b__law_whole_right T)
abbrev N__law_plus : List Str := ["one", "two", "size", "atoms", "part", "rows", "atom", "total"]
def B__law_plus : MS :=
  (sSeq (sSet 3 (mLc (iSeq (m2 fIx (mV 0) (mC (.int 1)))) (gN 4) tAll (m2 fIx (mV 4) (mC (.int 0))) [4]))
  (sSeq (sFor (iSeq (m2 fIx (mV 1) (mC (.int 1)))) (gN 4)
  (sIf (mB (m2 fNotInD (m2 fIx (mV 4) (mC (.int 0))) (mV 3)))
  (sExpr (mM "list" fAppend (mV 3) (mCons (m2 fIx (mV 4) (mC (.int 0))) mNil)))
  sNil))
  (sSeq (sSet 5 (mLst mNil))
  (sSeq (sFor (iSeq (mB1 (f1L fSortedD) (mCons (mV 3) mNil))) (gN 6)
  (sSeq (sSet 7 (mC (.int 0)))
  (sSeq (sFor (iSeq (m2 fIx (mV 0) (mC (.int 1)))) (gN 4)
  (sIf (mB (m2 fEq (m2 fIx (mV 4) (mC (.int 0))) (mV 6)))
  (sSet 7 (m2 fAdd (mV 7) (m2 fIx (mV 4) (mC (.int 1)))))
  sNil))
  (sSeq (sFor (iSeq (m2 fIx (mV 1) (mC (.int 1)))) (gN 4)
  (sIf (mB (m2 fEq (m2 fIx (mV 4) (mC (.int 0))) (mV 6)))
  (sSet 7 (m2 fAdd (mV 7) (m2 fMulA (mV 2) (m2 fIx (mV 4) (mC (.int 1))))))
  sNil))
  (sIf (mB (m2 fNe (mV 7) (mC (.int 0))))
  (sExpr (mM "list" fAppend (mV 5) (mCons (mTup (mCons (mV 6) (mCons (mV 7) mNil))) mNil)))
  sNil)))))
  (sRet (mTup (mCons (m2 fAdd (m2 fIx (mV 0) (mC (.int 0))) (m2 fMulA (mV 2) (m2 fIx (mV 1) (mC (.int 0))))) (mCons (mB1 (f1L fTuple) (mCons (mV 5) mNil)) mNil))))))))
def M__law_plus : MFn := mFn 3 8 B__law_plus
theorem sc__law_plus : FnScope N__law_plus ["one", "two", "size"] (defScope s__law_plus) := ⟨rfl, rfl, rfl, by decide +kernel, rfl, by decide +kernel, by decide +kernel⟩
theorem b__law_plus (T : Txt P w K mg base) : BodyOk P w K mg base 0 N__law_plus "_law_plus" (defScope s__law_plus) (defBody s__law_plus) B__law_plus := by
  intro f cdv A outer s H E hr tk po
  have nd := sc__law_plus.nd
  exact (bm_cons (sm_setLc 3 [4] rfl nd (im_seq (em_ix ix_fIx (em_v 0) em_int)) (blkOk_by (N := N__law_plus) (sc := defScope s__law_plus) (own := [("part", 4)]) (by decide +kernel)) (fun _ _ _ _ _ => (gc_n 4 nd)) (fun _ _ _ _ _ => tms_nil) (fun _ _ _ _ _ => (em_ix ix_fIx (em_v 4) em_int)))
  (bm_cons (sm_for po rfl (im_seq (em_ix ix_fIx (em_v 1) em_int)) (gm_n 4 nd)
  (bm_one (sm_if (tm_cmp (op_fNotInD (room65 hr)) (em_ix ix_fIx (em_v 4) em_int) (em_v 3))
  (bm_one (sm_expr (em_bm PySem.F.plainAttrs_list PySem.F.slot_list_append PySem.F.type_list_append mt_fAppend (em_v 3) (am_cons (em_ix ix_fIx (em_v 4) em_int) am_nil))))
  bm_nil)))
  (bm_cons (sm_set 5 nd (em_lst am_nil))
  (bm_cons (sm_for po rfl (im_seq (em_callB (call_fSortedD (uRoom hr)) rfl T.n_sorted PyProof.Rows.Boot.«sorted» (am_cons (em_v 3) am_nil))) (gm_n 6 nd)
  (bm_cons (sm_set 7 nd em_int)
  (bm_cons (sm_for po rfl (im_seq (em_ix ix_fIx (em_v 0) em_int)) (gm_n 4 nd)
  (bm_one (sm_if (tm_cmp (op_fEq (uRoom hr)) (em_ix ix_fIx (em_v 4) em_int) (em_v 6))
  (bm_one (sm_set 7 nd (em_bin op_fAdd (em_v 7) (em_ix ix_fIx (em_v 4) em_int))))
  bm_nil)))
  (bm_cons (sm_for po rfl (im_seq (em_ix ix_fIx (em_v 1) em_int)) (gm_n 4 nd)
  (bm_one (sm_if (tm_cmp (op_fEq (uRoom hr)) (em_ix ix_fIx (em_v 4) em_int) (em_v 6))
  (bm_one (sm_set 7 nd (em_bin op_fAdd (em_v 7) (em_bin op_fMulA (em_v 2) (em_ix ix_fIx (em_v 4) em_int)))))
  bm_nil)))
  (bm_one (sm_if (tm_cmp (op_fNe (uRoom hr)) (em_v 7) em_int)
  (bm_one (sm_expr (em_bm PySem.F.plainAttrs_list PySem.F.slot_list_append PySem.F.type_list_append mt_fAppend (em_v 5) (am_cons (em_tup (am_cons (em_v 6) (am_cons (em_v 7) am_nil))) am_nil))))
  bm_nil))))))
  (bm_one (sm_ret (em_tup (am_cons (em_bin op_fAdd (em_ix ix_fIx (em_v 0) em_int) (em_bin op_fMulA (em_v 2) (em_ix ix_fIx (em_v 1) em_int))) (am_cons (em_callT call_fTuple rfl T.n_tuple PyProof.Rows.Boot.«tuple» (am_cons (em_v 5) am_nil)) am_nil)))))))))
theorem c__law_plus (T : Txt P w K mg base) : Cal P w K mg base 1 "_law_plus" M__law_plus := cal1 T.d__law_plus sc__law_plus (fun _ _ _ _ _ _ us hl => match us, hl with | [_, _, _], _ => rfl) (b__law_plus T)
abbrev N__law_atom : List Str := ["atom"]
def B__law_atom : MS :=
  (sRet (mTup (mCons (mC (.int 0)) (mCons (mTup (mCons (mTup (mCons (mV 0) (mCons (mC (.int 1)) mNil))) mNil)) mNil))))
def M__law_atom : MFn := mFn 1 1 B__law_atom
theorem sc__law_atom : FnScope N__law_atom ["atom"] (defScope s__law_atom) := ⟨rfl, rfl, rfl, by decide +kernel, rfl, by decide +kernel, by decide +kernel⟩
theorem b__law_atom (T : Txt P w K mg base) : BodyOk P w K mg base 0 N__law_atom "_law_atom" (defScope s__law_atom) (defBody s__law_atom) B__law_atom := by
  intro f cdv A outer s H E hr tk po
  have nd := sc__law_atom.nd
  exact (bm_one (sm_ret (em_tup (am_cons em_int (am_cons (em_tup (am_cons (em_tup (am_cons (em_v 0) (am_cons em_int am_nil))) am_nil)) am_nil)))))
theorem c__law_atom (T : Txt P w K mg base) : Cal P w K mg base 1 "_law_atom" M__law_atom := cal1 T.d__law_atom sc__law_atom (fun _ _ _ _ _ _ us hl => match us, hl with | [_], _ => rfl) (b__law_atom T)
abbrev N__law_sum : List Str := ["number", "pairs", "total", "pair"]
def B__law_sum : MS :=
  (sSeq (sSet 2 (mTup (mCons (mV 0) (mCons (mTup mNil) mNil))))
  (sSeq (sFor (iSeq (mV 1)) (gN 3)
  (sSet 2 (mCall M__law_plus (mCons (mV 2) (mCons (mCall M__law_atom (mCons (m2 fIx (mV 3) (mC (.int 1))) mNil)) (mCons (m2 fIx (mV 3) (mC (.int 0))) mNil))))))
  (sRet (mV 2))))
def M__law_sum : MFn := mFn 2 4 B__law_sum
theorem sc__law_sum : FnScope N__law_sum ["number", "pairs"] (defScope s__law_sum) := ⟨rfl, rfl, rfl, by decide +kernel, rfl, by decide +kernel, by decide +kernel⟩
theorem b__law_sum (T : Txt P w K mg base) : BodyOk P w K mg base 1 N__law_sum "_law_sum" (defScope s__law_sum) (defBody s__law_sum) B__law_sum := by
  intro f cdv A outer s H E hr tk po
  have nd := sc__law_sum.nd
  exact (bm_cons (sm_set 2 nd (em_tup (am_cons (em_v 0) (am_cons (em_tup am_nil) am_nil))))
  (bm_cons (sm_for po rfl (im_seq (em_v 1)) (gm_n 3 nd)
  (bm_one (sm_set 2 nd (em_call (c__law_plus T) hr tk (am_cons (em_v 2) (am_cons (em_call (c__law_atom T) hr tk (am_cons (em_ix ix_fIx (em_v 3) em_int) am_nil)) (am_cons (em_ix ix_fIx (em_v 3) em_int) am_nil)))))))
  (bm_one (sm_ret (em_v 2)))))
theorem c__law_sum (T : Txt P w K mg base) : Cal P w K mg base 2 "_law_sum" M__law_sum := cal1 T.d__law_sum sc__law_sum (fun _ _ _ _ _ _ us hl => match us, hl with | [_, _], _ => rfl) (b__law_sum T)
abbrev N__law_divisor : List Str := ["numbers", "told", "number", "one", "two", "turn", "rest"]
def B__law_divisor : MS :=
  (sSeq (sSet 1 (mC (.int 0)))
  (sSeq (sFor (iSeq (mV 0)) (gN 2)
  (sSeq (sSet 3 (mV 1))
  (sSeq (sSet 4 (mB1 (f1L fAbs) (mCons (mV 2) mNil)))
  (sSeq (sFor (iRng (mCons (m2 fAdd (m2 fMulA (mC (.int 2)) (m1 fBits (mV 4))) (mC (.int 10))) mNil)) (gN 5)
  (sIf (mB (m2 fGt (mV 4) (mC (.int 0))))
  (sSeq (sSet 6 (m2 fMod (mB1 (f1L fInt) (mCons (mV 3) mNil)) (mV 4)))
  (sSeq (sSet 3 (mV 4))
  (sSet 4 (mV 6))))
  sNil))
  (sSet 1 (mV 3))))))
  (sRet (mV 1))))
def M__law_divisor : MFn := mFn 1 7 B__law_divisor
theorem sc__law_divisor : FnScope N__law_divisor ["numbers"] (defScope s__law_divisor) := ⟨rfl, rfl, rfl, by decide +kernel, rfl, by decide +kernel, by decide +kernel⟩
theorem b__law_divisor (T : Txt P w K mg base) : BodyOk P w K mg base 0 N__law_divisor "_law_divisor" (defScope s__law_divisor) (defBody s__law_divisor) B__law_divisor := by
  intro f cdv A outer s H E hr tk po
  have nd := sc__law_divisor.nd
  exact (bm_cons (sm_set 1 nd em_int)
  (bm_cons (sm_for po rfl (im_seq (em_v 0)) (gm_n 2 nd)
  (bm_cons (sm_set 3 nd (em_v 1))
  (bm_cons (sm_set 4 nd (em_callB call_fAbs rfl T.n_abs PyProof.Rows.Boot.«abs» (am_cons (em_v 2) am_nil)))
  (bm_cons (sm_for po rfl (im_rng1 T.n_range (em_bin op_fAdd (em_bin op_fMulA em_int (em_bits (em_v 4))) em_int)) (gm_n 5 nd)
  (bm_one (sm_if (tm_cmp op_fGt (em_v 4) em_int)
  (bm_cons (sm_set 6 nd (em_bin op_fMod (em_callT call_fInt rfl T.n_int PyProof.Rows.Boot.«int» (am_cons (em_v 3) am_nil)) (em_v 4)))
  (bm_cons (sm_set 3 nd (em_v 4))
  (bm_one (sm_set 4 nd (em_v 6)))))
  bm_nil)))
  (bm_one (sm_set 1 nd (em_v 3)))))))
  (bm_one (sm_ret (em_v 1)))))
theorem c__law_divisor (T : Txt P w K mg base) : Cal P w K mg base 1 "_law_divisor" M__law_divisor := cal1 T.d__law_divisor sc__law_divisor (fun _ _ _ _ _ _ us hl => match us, hl with | [_], _ => rfl) (b__law_divisor T)
abbrev N__law_short : List Str := ["fact", "numbers", "divisor", "pairs", "last", "part"]
def B__law_short : MS :=
  (sSeq (sSet 1 (mLc (iSeq (m2 fIx (m2 fIx (mV 0) (mC (.int 1))) (mC (.int 1)))) (gN 5) tAll (m2 fIx (mV 5) (mC (.int 1))) [5]))
  (sSeq (sSet 2 (mCall M__law_divisor (mCons (mV 1) mNil)))
  (sSeq (sIf (mB (m2 fEq (mV 2) (mC (.int 0))))
  (sRet (mTup (mCons (mV 0) (mCons (mC (.int 1)) mNil))))
  sNil)
  (sSeq (sSet 3 (mB1 (f1L fTuple) (mCons (mLc (iSeq (m2 fIx (m2 fIx (mV 0) (mC (.int 1))) (mC (.int 1)))) (gN 5) tAll (mTup (mCons (m2 fIx (mV 5) (mC (.int 0))) (mCons (m2 fDiv (m2 fIx (mV 5) (mC (.int 1))) (mV 2)) mNil))) [5]) mNil)))
  (sSeq (sSet 4 (m2 fIx (m2 fIx (mV 0) (mC (.int 1))) (mC (.int 0))))
  (sSeq (sIf (mAndT (mB (m2 fEq (m2 fIx (mV 0) (mC (.int 0))) (mC (.str "eq")))) (mB (m2 fNe (m2 fMod (mB1 (f1L fInt) (mCons (mV 4) mNil)) (mV 2)) (mC (.int 0)))))
  (sRet (mTup (mCons (mTup (mCons (mC (.str "le")) (mCons (mTup (mCons (mC (.int 1)) (mCons (mTup mNil) mNil))) mNil))) (mCons (mV 2) mNil))))
  sNil)
  (sRet (mTup (mCons (mTup (mCons (m2 fIx (mV 0) (mC (.int 0))) (mCons (mTup (mCons (m1 fNeg (m2 fDiv (m1 fNeg (mV 4)) (mV 2))) (mCons (mV 3) mNil))) mNil))) (mCons (mV 2) mNil))))))))))
def M__law_short : MFn := mFn 1 6 B__law_short
theorem sc__law_short : FnScope N__law_short ["fact"] (defScope s__law_short) := ⟨rfl, rfl, rfl, by decide +kernel, rfl, by decide +kernel, by decide +kernel⟩
theorem b__law_short (T : Txt P w K mg base) : BodyOk P w K mg base 1 N__law_short "_law_short" (defScope s__law_short) (defBody s__law_short) B__law_short := by
  intro f cdv A outer s H E hr tk po
  have nd := sc__law_short.nd
  exact (bm_cons (sm_setLc 1 [5] rfl nd (im_seq (em_ix ix_fIx (em_ix ix_fIx (em_v 0) em_int) em_int)) (blkOk_by (N := N__law_short) (sc := defScope s__law_short) (own := [("part", 5)]) (by decide +kernel)) (fun _ _ _ _ _ => (gc_n 5 nd)) (fun _ _ _ _ _ => tms_nil) (fun _ _ _ _ _ => (em_ix ix_fIx (em_v 5) em_int)))
  (bm_cons (sm_set 2 nd (em_call (c__law_divisor T) hr tk (am_cons (em_v 1) am_nil)))
  (bm_cons (sm_if (tm_cmp (op_fEq (uRoom hr)) (em_v 2) em_int)
  (bm_one (sm_ret (em_tup (am_cons (em_v 0) (am_cons em_int am_nil)))))
  bm_nil)
  (bm_cons (sm_set 3 nd (em_callT call_fTuple rfl T.n_tuple PyProof.Rows.Boot.«tuple» (am_cons (em_lc [5] rfl nd (im_seq (em_ix ix_fIx (em_ix ix_fIx (em_v 0) em_int) em_int)) (blkOk_by (N := N__law_short) (sc := defScope s__law_short) (own := [("part", 5)]) (by decide +kernel)) (fun _ _ _ _ _ => (gc_n 5 nd)) (fun _ _ _ _ _ => tms_nil) (fun _ _ _ _ _ => (em_tup (am_cons (em_ix ix_fIx (em_v 5) em_int) (am_cons (em_bin op_fDiv (em_ix ix_fIx (em_v 5) em_int) (em_v 2)) am_nil))))) am_nil)))
  (bm_cons (sm_set 4 nd (em_ix ix_fIx (em_ix ix_fIx (em_v 0) em_int) em_int))
  (bm_cons (sm_if (WM.tm (wm_and (tm_cmp (op_fEq (uRoom hr)) (em_ix ix_fIx (em_v 0) em_int) em_str) (wm_and1 (tm_cmp (op_fNe (uRoom hr)) (em_bin op_fMod (em_callT call_fInt rfl T.n_int PyProof.Rows.Boot.«int» (am_cons (em_v 4) am_nil)) (em_v 2)) em_int))))
  (bm_one (sm_ret (em_tup (am_cons (em_tup (am_cons em_str (am_cons (em_tup (am_cons em_int (am_cons (em_tup am_nil) am_nil))) am_nil))) (am_cons (em_v 2) am_nil)))))
  bm_nil)
  (bm_one (sm_ret (em_tup (am_cons (em_tup (am_cons (em_ix ix_fIx (em_v 0) em_int) (am_cons (em_tup (am_cons (em_neg (em_bin op_fDiv (em_neg (em_v 4)) (em_v 2))) (am_cons (em_v 3) am_nil))) am_nil))) (am_cons (em_v 2) am_nil)))))))))))
theorem c__law_short (T : Txt P w K mg base) : Cal P w K mg base 2 "_law_short" M__law_short := cal1 T.d__law_short sc__law_short (fun _ _ _ _ _ _ us hl => match us, hl with | [_], _ => rfl) (b__law_short T)
abbrev N__law_value : List Str := ["term", "state", "total", "part"]
def B__law_value : MS :=
  (sSeq (sSet 2 (m2 fIx (mV 0) (mC (.int 0))))
  (sSeq (sFor (iSeq (m2 fIx (mV 0) (mC (.int 1)))) (gN 3)
  (sSet 2 (m2 fAdd (mV 2) (m2 fMulA (m2 fIx (mV 3) (mC (.int 1))) (m2 fDIx (mV 1) (m2 fIx (m2 fIx (mV 3) (mC (.int 0))) (mC (.int 1))))))))
  (sRet (mV 2))))
def M__law_value : MFn := mFn 2 4 B__law_value
theorem sc__law_value : FnScope N__law_value ["term", "state"] (defScope s__law_value) := ⟨rfl, rfl, rfl, by decide +kernel, rfl, by decide +kernel, by decide +kernel⟩
theorem b__law_value (T : Txt P w K mg base) : BodyOk P w K mg base 0 N__law_value "_law_value" (defScope s__law_value) (defBody s__law_value) B__law_value := by
  intro f cdv A outer s H E hr tk po
  have nd := sc__law_value.nd
  exact (bm_cons (sm_set 2 nd (em_ix ix_fIx (em_v 0) em_int))
  (bm_cons (sm_for po rfl (im_seq (em_ix ix_fIx (em_v 0) em_int)) (gm_n 3 nd)
  (bm_one (sm_set 2 nd (em_bin op_fAdd (em_v 2) (em_bin op_fMulA (em_ix ix_fIx (em_v 3) em_int) (em_dix (uRoom hr) (em_v 1) (em_ix ix_fIx (em_ix ix_fIx (em_v 3) em_int) em_int)))))))
  (bm_one (sm_ret (em_v 2)))))
theorem c__law_value (T : Txt P w K mg base) : Cal P w K mg base 1 "_law_value" M__law_value := cal1 T.d__law_value sc__law_value (fun _ _ _ _ _ _ us hl => match us, hl with | [_, _], _ => rfl) (b__law_value T)
abbrev N_quantified_sort : List Str := ["f"]
def B_quantified_sort (R : Nat → MFn) : MS :=
  (sSeq (sIf (mOrT (mB (m2 fNe (mB1 (f1L fLen) (mCons (mV 0) mNil)) (mC (.int 5)))) (mOrT (mNotT (mB (mCall M_is_whole (mCons (m2 fIx (mV 0) (mC (.int 1))) mNil)))) (mB (m2 fNotInD (m2 fIx (mV 0) (mC (.int 1))) (mTup (mCons (mC (.int 1)) (mCons (mC (.int 2)) mNil)))))))
  (sRet (mC d_BAD))
  sNil)
  (sRet (m2 fOr (m2 fOr (mCall M_term_sort (mCons (m2 fIx (mV 0) (mC (.int 2))) (mCons (mC (.int 0)) mNil))) (mCall M_term_sort (mCons (m2 fIx (mV 0) (mC (.int 3))) (mCons (mC (.int 0)) mNil)))) (mCall (R 1) (mCons (m2 fIx (mV 0) (mC (.int 4))) (mCons (m2 fIx (mV 0) (mC (.int 1))) mNil))))))
theorem sc_quantified_sort : FnScope N_quantified_sort ["f"] (defScope s_quantified_sort) := ⟨rfl, rfl, rfl, by decide +kernel, rfl, by decide +kernel, by decide +kernel⟩
theorem b_quantified_sort (T : Txt P w K mg base) (j : Nat) (hj : 14 ≤ j) (R : Nat → MFn) (h0 : Cal P w K mg base j "quantified_sort" (R 0)) (h1 : Cal P w K mg base j "fact_sort" (R 1)) : BodyOk P w K mg base j N_quantified_sort "quantified_sort" (defScope s_quantified_sort) (defBody s_quantified_sort) (B_quantified_sort R) := by
  intro f cdv A outer s H E hr tk po
  have nd := sc_quantified_sort.nd
  exact (bm_cons (sm_if (WM.tm (wm_or (tm_cmp (op_fNe (uRoom hr)) (em_callB call_fLen rfl T.n_len PyProof.Rows.Boot.«len» (am_cons (em_v 0) am_nil)) em_int) (wm_or (tm_not (tm_val (em_call (c_is_whole T) hr tk (am_cons (em_ix ix_fIx (em_v 0) em_int) am_nil) (hk := by omega)))) (wm_or1 (tm_cmp (op_fNotInD (room65 hr)) (em_ix ix_fIx (em_v 0) em_int) (em_tup (am_cons em_int (am_cons em_int am_nil))))))))
  (bm_one (sm_ret (em_gc T.c_BAD)))
  bm_nil)
  (bm_one (sm_ret (em_bin op_fOr (em_bin op_fOr (em_call (c_term_sort T) hr tk (am_cons (em_ix ix_fIx (em_v 0) em_int) (am_cons em_int am_nil)) (hk := by omega)) (em_call (c_term_sort T) hr tk (am_cons (em_ix ix_fIx (em_v 0) em_int) (am_cons em_int am_nil)) (hk := by omega))) (em_call h1 hr tk (am_cons (em_ix ix_fIx (em_v 0) em_int) (am_cons (em_ix ix_fIx (em_v 0) em_int) am_nil)) (hk := by omega))))))
abbrev N_fact_sort : List Str := ["f", "many", "word", "told", "part"]
def B_fact_sort (R : Nat → MFn) : MS :=
  (sSeq (sIf (mOrT (mNotT (mB (m1 (fIsi ["tuple"]) (mV 0)))) (mB (m2 fLtD (mB1 (f1L fLen) (mCons (mV 0) mNil)) (mC (.int 2)))))
  (sRet (mC d_BAD))
  sNil)
  (sSeq (sSet 2 (m2 fIx (mV 0) (mC (.int 0))))
  (sSeq (sIf (mB (m2 fInD (mV 2) (mTup (mCons (mC (.str "le")) (mCons (mC (.str "eq")) (mCons (mC (.str "ne")) mNil))))))
  (sRet (mIf (mB (m2 fEq (mB1 (f1L fLen) (mCons (mV 0) mNil)) (mC (.int 2)))) (mCall M_term_sort (mCons (m2 fIx (mV 0) (mC (.int 1))) (mCons (mV 1) mNil))) (mC d_BAD)))
  sNil)
  (sSeq (sIf (mB (m2 fInD (mV 2) (mTup (mCons (mC (.str "and")) (mCons (mC (.str "or")) mNil)))))
  (sSeq (sIf (mOrT (mB (m2 fNe (mB1 (f1L fLen) (mCons (mV 0) mNil)) (mC (.int 2)))) (mNotT (mB (m1 (fIsi ["tuple"]) (m2 fIx (mV 0) (mC (.int 1)))))))
  (sRet (mC d_BAD))
  sNil)
  (sSeq (sSet 3 (mC d_NONE))
  (sSeq (sFor (iSeq (m2 fIx (mV 0) (mC (.int 1)))) (gN 4)
  (sSeq (sSet 3 (m2 fOr (mV 3) (mCall (R 1) (mCons (mV 4) (mCons (mV 1) mNil)))))
  (sIf (mB (m2 fEq (mV 3) (mC d_BAD)))
  (sRet (mC d_BAD))
  sNil)))
  (sRet (mV 3)))))
  sNil)
  (sSeq (sIf (mB (m2 fGt (mV 1) (mC (.int 0))))
  (sRet (mC d_BAD))
  sNil)
  (sSeq (sIf (mB (m2 fInD (mV 2) (mTup (mCons (mC (.str "all")) (mCons (mC (.str "some")) mNil)))))
  (sRet (mCall (R 0) (mCons (mV 0) mNil)))
  sNil)
  (sSeq (sIf (mB (m2 fInD (mV 2) (mTup (mCons (mC (.str "same")) (mCons (mC (.str "unlike")) mNil)))))
  (sRet (mIf (mB (m2 fEq (mB1 (f1L fLen) (mCons (mV 0) mNil)) (mC (.int 3)))) (m2 fOr (mCall M_name_sort (mCons (m2 fIx (mV 0) (mC (.int 1))) mNil)) (mCall M_name_sort (mCons (m2 fIx (mV 0) (mC (.int 2))) mNil))) (mC d_BAD)))
  sNil)
  (sRet (mC d_BAD)))))))))
theorem sc_fact_sort : FnScope N_fact_sort ["f", "many"] (defScope s_fact_sort) := ⟨rfl, rfl, rfl, by decide +kernel, rfl, by decide +kernel, by decide +kernel⟩
theorem b_fact_sort (T : Txt P w K mg base) (j : Nat) (hj : 14 ≤ j) (R : Nat → MFn) (h0 : Cal P w K mg base j "quantified_sort" (R 0)) (h1 : Cal P w K mg base j "fact_sort" (R 1)) : BodyOk P w K mg base j N_fact_sort "fact_sort" (defScope s_fact_sort) (defBody s_fact_sort) (B_fact_sort R) := by
  intro f cdv A outer s H E hr tk po
  have nd := sc_fact_sort.nd
  exact (bm_cons (sm_if (WM.tm (wm_or (tm_not (tm_val (em_isi (em_v 0) (hm := T.n_isinstance) (hmT := T.n_tuple) (hvT := PyProof.Rows.Boot.«tuple»)))) (wm_or1 (tm_cmp (op_fLtD (uRoom hr)) (em_callB call_fLen rfl T.n_len PyProof.Rows.Boot.«len» (am_cons (em_v 0) am_nil)) em_int))))
  (bm_one (sm_ret (em_gc T.c_BAD)))
  bm_nil)
  (bm_cons (sm_set 2 nd (em_ix ix_fIx (em_v 0) em_int))
  (bm_cons (sm_if (tm_cmp (op_fInD (room65 hr)) (em_v 2) (em_tup (am_cons em_str (am_cons em_str (am_cons em_str am_nil)))))
  (bm_one (sm_ret (em_if (tm_cmp (op_fEq (uRoom hr)) (em_callB call_fLen rfl T.n_len PyProof.Rows.Boot.«len» (am_cons (em_v 0) am_nil)) em_int) (em_call (c_term_sort T) hr tk (am_cons (em_ix ix_fIx (em_v 0) em_int) (am_cons (em_v 1) am_nil)) (hk := by omega)) (em_gc T.c_BAD))))
  bm_nil)
  (bm_cons (sm_if (tm_cmp (op_fInD (room65 hr)) (em_v 2) (em_tup (am_cons em_str (am_cons em_str am_nil))))
  (bm_cons (sm_if (WM.tm (wm_or (tm_cmp (op_fNe (uRoom hr)) (em_callB call_fLen rfl T.n_len PyProof.Rows.Boot.«len» (am_cons (em_v 0) am_nil)) em_int) (wm_or1 (tm_not (tm_val (em_isi (em_ix ix_fIx (em_v 0) em_int) (hm := T.n_isinstance) (hmT := T.n_tuple) (hvT := PyProof.Rows.Boot.«tuple»)))))))
  (bm_one (sm_ret (em_gc T.c_BAD)))
  bm_nil)
  (bm_cons (sm_set 3 nd (em_gc T.c_NONE))
  (bm_cons (sm_for po rfl (im_seq (em_ix ix_fIx (em_v 0) em_int)) (gm_n 4 nd)
  (bm_cons (sm_set 3 nd (em_bin op_fOr (em_v 3) (em_call h1 hr tk (am_cons (em_v 4) (am_cons (em_v 1) am_nil)) (hk := by omega))))
  (bm_one (sm_if (tm_cmp (op_fEq (uRoom hr)) (em_v 3) (em_gc T.c_BAD))
  (bm_one (sm_ret (em_gc T.c_BAD)))
  bm_nil))))
  (bm_one (sm_ret (em_v 3))))))
  bm_nil)
  (bm_cons (sm_if (tm_cmp op_fGt (em_v 1) em_int)
  (bm_one (sm_ret (em_gc T.c_BAD)))
  bm_nil)
  (bm_cons (sm_if (tm_cmp (op_fInD (room65 hr)) (em_v 2) (em_tup (am_cons em_str (am_cons em_str am_nil))))
  (bm_one (sm_ret (em_call h0 hr tk (am_cons (em_v 0) am_nil) (hk := by omega))))
  bm_nil)
  (bm_cons (sm_if (tm_cmp (op_fInD (room65 hr)) (em_v 2) (em_tup (am_cons em_str (am_cons em_str am_nil))))
  (bm_one (sm_ret (em_if (tm_cmp (op_fEq (uRoom hr)) (em_callB call_fLen rfl T.n_len PyProof.Rows.Boot.«len» (am_cons (em_v 0) am_nil)) em_int) (em_bin op_fOr (em_call (c_name_sort T) hr tk (am_cons (em_ix ix_fIx (em_v 0) em_int) am_nil) (hk := by omega)) (em_call (c_name_sort T) hr tk (am_cons (em_ix ix_fIx (em_v 0) em_int) am_nil) (hk := by omega))) (em_gc T.c_BAD))))
  bm_nil)
  (bm_one (sm_ret (em_gc T.c_BAD))))))))))
def R_quantified_sort : Nat → Nat → MFn
  | 0, _ => mfNo
  | n + 1, 0 => mFn 1 1 (B_quantified_sort (R_quantified_sort n))
  | n + 1, 1 => mFn 2 5 (B_fact_sort (R_quantified_sort n))
  | _ + 1, _ => mfNo
theorem c_R_quantified_sort (T : Txt P w K mg base) : ∀ n : Nat, Cal P w K mg base (14 + n) "quantified_sort" (R_quantified_sort n 0) ∧ Cal P w K mg base (14 + n) "fact_sort" (R_quantified_sort n 1)
  | 0 => ⟨cal_no T.d_quantified_sort sc_quantified_sort (fun _ _ _ _ _ _ us hl => match us, hl with | [_], _ => rfl), cal_no T.d_fact_sort sc_fact_sort (fun _ _ _ _ _ _ us hl => match us, hl with | [_, _], _ => rfl)⟩
  | n + 1 => by
    have H := c_R_quantified_sort T n
    obtain ⟨h0, h1⟩ := H
    exact ⟨cal1' T.d_quantified_sort sc_quantified_sort rfl rfl (fun _ _ _ _ _ _ us hl => match us, hl with | [_], _ => rfl) (b_quantified_sort T (14 + n) (by omega) (R_quantified_sort n) h0 h1),
      cal1' T.d_fact_sort sc_fact_sort rfl rfl (fun _ _ _ _ _ _ us hl => match us, hl with | [_, _], _ => rfl) (b_fact_sort T (14 + n) (by omega) (R_quantified_sort n) h0 h1)⟩
def M_quantified_sort : MFn := R_quantified_sort 12 0
theorem c_quantified_sort (T : Txt P w K mg base) : Cal P w K mg base 26 "quantified_sort" M_quantified_sort := (c_R_quantified_sort T 12).1
def M_fact_sort : MFn := R_quantified_sort 12 1
theorem c_fact_sort (T : Txt P w K mg base) : Cal P w K mg base 26 "fact_sort" M_fact_sort := (c_R_quantified_sort T 12).2
abbrev N_array_sort : List Str := ["f", "word"]
def B_array_sort : MS :=
  (sSeq (sIf (mOrT (mNotT (mB (m1 (fIsi ["tuple"]) (mV 0)))) (mB (m2 fLtD (mB1 (f1L fLen) (mCons (mV 0) mNil)) (mC (.int 3)))))
  (sRet (mC d_BAD))
  sNil)
  (sSeq (sSet 1 (m2 fIx (mV 0) (mC (.int 0))))
  (sSeq (sIf (mB (m2 fEq (mV 1) (mC (.str "put"))))
  (sSeq (sIf (mB (m2 fNe (mB1 (f1L fLen) (mCons (mV 0) mNil)) (mC (.int 5))))
  (sRet (mC d_BAD))
  sNil)
  (sRet (m2 fOr (m2 fOr (m2 fOr (mCall M_name_sort (mCons (m2 fIx (mV 0) (mC (.int 1))) mNil)) (mCall M_name_sort (mCons (m2 fIx (mV 0) (mC (.int 2))) mNil))) (mCall M_term_sort (mCons (m2 fIx (mV 0) (mC (.int 3))) (mCons (mC (.int 0)) mNil)))) (mCall M_term_sort (mCons (m2 fIx (mV 0) (mC (.int 4))) (mCons (mC (.int 0)) mNil))))))
  sNil)
  (sSeq (sIf (mB (m2 fEq (mV 1) (mC (.str "copy"))))
  (sRet (mIf (mB (m2 fEq (mB1 (f1L fLen) (mCons (mV 0) mNil)) (mC (.int 3)))) (m2 fOr (mCall M_name_sort (mCons (m2 fIx (mV 0) (mC (.int 1))) mNil)) (mCall M_name_sort (mCons (m2 fIx (mV 0) (mC (.int 2))) mNil))) (mC d_BAD)))
  sNil)
  (sSeq (sIf (mB (m2 fEq (mV 1) (mC (.str "zeros"))))
  (sRet (mIf (mB (m2 fEq (mB1 (f1L fLen) (mCons (mV 0) mNil)) (mC (.int 3)))) (m2 fOr (mCall M_name_sort (mCons (m2 fIx (mV 0) (mC (.int 1))) mNil)) (mCall M_term_sort (mCons (m2 fIx (mV 0) (mC (.int 2))) (mCons (mC (.int 0)) mNil)))) (mC d_BAD)))
  sNil)
  (sRet (mC d_BAD)))))))
def M_array_sort : MFn := mFn 1 2 B_array_sort
theorem sc_array_sort : FnScope N_array_sort ["f"] (defScope s_array_sort) := ⟨rfl, rfl, rfl, by decide +kernel, rfl, by decide +kernel, by decide +kernel⟩
theorem b_array_sort (T : Txt P w K mg base) : BodyOk P w K mg base 14 N_array_sort "array_sort" (defScope s_array_sort) (defBody s_array_sort) B_array_sort := by
  intro f cdv A outer s H E hr tk po
  have nd := sc_array_sort.nd
  exact (bm_cons (sm_if (WM.tm (wm_or (tm_not (tm_val (em_isi (em_v 0) (hm := T.n_isinstance) (hmT := T.n_tuple) (hvT := PyProof.Rows.Boot.«tuple»)))) (wm_or1 (tm_cmp (op_fLtD (uRoom hr)) (em_callB call_fLen rfl T.n_len PyProof.Rows.Boot.«len» (am_cons (em_v 0) am_nil)) em_int))))
  (bm_one (sm_ret (em_gc T.c_BAD)))
  bm_nil)
  (bm_cons (sm_set 1 nd (em_ix ix_fIx (em_v 0) em_int))
  (bm_cons (sm_if (tm_cmp (op_fEq (uRoom hr)) (em_v 1) em_str)
  (bm_cons (sm_if (tm_cmp (op_fNe (uRoom hr)) (em_callB call_fLen rfl T.n_len PyProof.Rows.Boot.«len» (am_cons (em_v 0) am_nil)) em_int)
  (bm_one (sm_ret (em_gc T.c_BAD)))
  bm_nil)
  (bm_one (sm_ret (em_bin op_fOr (em_bin op_fOr (em_bin op_fOr (em_call (c_name_sort T) hr tk (am_cons (em_ix ix_fIx (em_v 0) em_int) am_nil)) (em_call (c_name_sort T) hr tk (am_cons (em_ix ix_fIx (em_v 0) em_int) am_nil))) (em_call (c_term_sort T) hr tk (am_cons (em_ix ix_fIx (em_v 0) em_int) (am_cons em_int am_nil)))) (em_call (c_term_sort T) hr tk (am_cons (em_ix ix_fIx (em_v 0) em_int) (am_cons em_int am_nil)))))))
  bm_nil)
  (bm_cons (sm_if (tm_cmp (op_fEq (uRoom hr)) (em_v 1) em_str)
  (bm_one (sm_ret (em_if (tm_cmp (op_fEq (uRoom hr)) (em_callB call_fLen rfl T.n_len PyProof.Rows.Boot.«len» (am_cons (em_v 0) am_nil)) em_int) (em_bin op_fOr (em_call (c_name_sort T) hr tk (am_cons (em_ix ix_fIx (em_v 0) em_int) am_nil)) (em_call (c_name_sort T) hr tk (am_cons (em_ix ix_fIx (em_v 0) em_int) am_nil))) (em_gc T.c_BAD))))
  bm_nil)
  (bm_cons (sm_if (tm_cmp (op_fEq (uRoom hr)) (em_v 1) em_str)
  (bm_one (sm_ret (em_if (tm_cmp (op_fEq (uRoom hr)) (em_callB call_fLen rfl T.n_len PyProof.Rows.Boot.«len» (am_cons (em_v 0) am_nil)) em_int) (em_bin op_fOr (em_call (c_name_sort T) hr tk (am_cons (em_ix ix_fIx (em_v 0) em_int) am_nil)) (em_call (c_term_sort T) hr tk (am_cons (em_ix ix_fIx (em_v 0) em_int) (am_cons em_int am_nil)))) (em_gc T.c_BAD))))
  bm_nil)
  (bm_one (sm_ret (em_gc T.c_BAD))))))))
theorem c_array_sort (T : Txt P w K mg base) : Cal P w K mg base 15 "array_sort" M_array_sort := cal1 T.d_array_sort sc_array_sort (fun _ _ _ _ _ _ us hl => match us, hl with | [_], _ => rfl) (b_array_sort T)
abbrev N_is_fact : List Str := ["f", "arrays"]
def B_is_fact : MS :=
  (sRet (mOrV (m2 fNe (mCall M_fact_sort (mCons (mV 0) (mCons (mC (.int 0)) mNil))) (mC d_BAD)) (mAndV (mV 1) (m2 fNe (mCall M_array_sort (mCons (mV 0) mNil)) (mC d_BAD)))))
def M_is_fact : MFn := fun xs S => mFn 2 2 B_is_fact (xs ++ [(.bl false)]) S
theorem sc_is_fact : FnScope N_is_fact ["f", "arrays"] (defScope s_is_fact) := ⟨rfl, rfl, rfl, by decide +kernel, rfl, by decide +kernel, by decide +kernel⟩
theorem b_is_fact (T : Txt P w K mg base) : BodyOk P w K mg base 26 N_is_fact "is_fact" (defScope s_is_fact) (defBody s_is_fact) B_is_fact := by
  intro f cdv A outer s H E hr tk po
  have nd := sc_is_fact.nd
  exact (bm_one (sm_ret (em_or (em_cmp (op_fNe (uRoom hr)) (em_call (c_fact_sort T) hr tk (am_cons (em_v 0) (am_cons em_int am_nil))) (em_gc T.c_BAD)) (em_one (em_and (em_v 1) (em_one (em_cmp (op_fNe (uRoom hr)) (em_call (c_array_sort T) hr tk (am_cons (em_v 0) am_nil)) (em_gc T.c_BAD))))))))
theorem c_is_fact (T : Txt P w K mg base) : CalK P w K mg base 27 "is_fact" M_is_fact := calk1 T.d_is_fact sc_is_fact rfl rfl (by simp) rfl (fun _ _ _ _ _ _ us ks h1 h2 => match us, h1, ks, h2 with | [_], _, [_], _ => ⟨_, _, _, _, _, _, rfl, rfl, rfl⟩) (b_is_fact T)
abbrev N_is_row : List Str := ["fact"]
def B_is_row : MS :=
  (sRet (mAndV (mCall M_is_fact (mCons (mV 0) mNil)) (m2 fInD (m2 fIx (mV 0) (mC (.int 0))) (mTup (mCons (mC (.str "le")) (mCons (mC (.str "eq")) mNil))))))
def M_is_row : MFn := mFn 1 1 B_is_row
theorem sc_is_row : FnScope N_is_row ["fact"] (defScope s_is_row) := ⟨rfl, rfl, rfl, by decide +kernel, rfl, by decide +kernel, by decide +kernel⟩
theorem b_is_row (T : Txt P w K mg base) : BodyOk P w K mg base 27 N_is_row "is_row" (defScope s_is_row) (defBody s_is_row) B_is_row := by
  intro f cdv A outer s H E hr tk po
  have nd := sc_is_row.nd
  exact (bm_one (sm_ret (em_and (em_callK (c_is_fact T) hr tk (am_cons (em_v 0) am_nil)) (em_one (em_cmp (op_fInD (room65 hr)) (em_ix ix_fIx (em_v 0) em_int) (em_tup (am_cons em_str (am_cons em_str am_nil))))))))
theorem c_is_row (T : Txt P w K mg base) : Cal P w K mg base 28 "is_row" M_is_row := cal1 T.d_is_row sc_is_row (fun _ _ _ _ _ _ us hl => match us, hl with | [_], _ => rfl) (b_is_row T)
abbrev N_shortened : List Str := ["fact"]
def B_shortened : MS :=
  (sSeq (sIf (mNotT (mB (mCall M_is_row (mCons (mV 0) mNil))))
  (sRaise0 "BadFact")
  sNil)
  (sRet (mCall M_short_row (mCons (mV 0) mNil))))
def M_shortened : MFn := mFn 1 1 B_shortened
theorem sc_shortened : FnScope N_shortened ["fact"] (defScope s_shortened) := ⟨rfl, rfl, rfl, by decide +kernel, rfl, by decide +kernel, by decide +kernel⟩
theorem b_shortened (T : Txt P w K mg base) : BodyOk P w K mg base 28 N_shortened "shortened" (defScope s_shortened) (defBody s_shortened) B_shortened := by
  intro f cdv A outer s H E hr tk po
  have nd := sc_shortened.nd
  exact (bm_cons (sm_if (tm_not (tm_val (em_call (c_is_row T) hr tk (am_cons (em_v 0) am_nil))))
  (bm_one (sm_raise0 T.x_BadFact hr tk rfl))
  bm_nil)
  (bm_one (sm_ret (em_call (c_short_row T) hr tk (am_cons (em_v 0) am_nil)))))
theorem c_shortened (T : Txt P w K mg base) : Cal P w K mg base 29 "shortened" M_shortened := cal1 T.d_shortened sc_shortened (fun _ _ _ _ _ _ us hl => match us, hl with | [_], _ => rfl) (b_shortened T)
abbrev N__law_asked : List Str := ["word", "row", "told", "error"]
def B__law_asked : MS :=
  (sSeq (sSet 2 (mC .non))
  (sSeq (sTryM
  (sIf (mB (m2 fEq (mV 0) (mC (.str "between"))))
  (sSet 2 (mCall M_whole_between (mCons (m2 fIx (mV 1) (mC (.int 0))) (mCons (m2 fIx (mV 1) (mC (.int 1))) (mCons (m2 fIx (mV 1) (mC (.int 2))) (mCons (m2 fIx (mV 1) (mC (.int 3))) mNil))))))
  (sIf (mB (m2 fEq (mV 0) (mC (.str "real"))))
  (sSet 2 (mCall M_real_row (mCons (m2 fIx (mV 1) (mC (.int 0))) (mCons (m2 fIx (mV 1) (mC (.int 1))) (mCons (m2 fIx (mV 1) (mC (.int 2))) (mCons (m2 fIx (mV 1) (mC (.int 3))) mNil))))))
  (sIf (mB (m2 fEq (mV 0) (mC (.str "dark"))))
  (sSet 2 (mCall M_dark_row (mCons (m2 fIx (mV 1) (mC (.int 0))) (mCons (m2 fIx (mV 1) (mC (.int 1))) (mCons (m2 fIx (mV 1) (mC (.int 2))) (mCons (m2 fIx (mV 1) (mC (.int 3))) mNil))))))
  (sIf (mB (m2 fEq (mV 0) (mC (.str "exact"))))
  (sSet 2 (mCall M_is_exact (mCons (m2 fIx (mV 1) (mC (.int 0))) (mCons (m2 fIx (mV 1) (mC (.int 1))) (mCons (m2 fIx (mV 1) (mC (.int 2))) (mCons (m2 fIx (mV 1) (mC (.int 3))) mNil))))))
  (sIf (mB (m2 fEq (mV 0) (mC (.str "short"))))
  (sSet 2 (mCall M_shortened (mCons (mV 1) mNil)))
  (sSet 2 (mCall M_value_nearest (mCons (m2 fIx (mV 1) (mC (.int 0))) (mCons (m2 fIx (mV 1) (mC (.int 1))) mNil))))))))) [(sub_BadArguments, some 3, (xSetL 2 (fun en => ((fun _ => some (.str "arguments")) en).bind fun d => ((fun en => ((fun en => if en.cls ∈ xl_number then en.fs.lookup ("number" : Str) else none) en).bind fun d => ((fun _ => some []) en).map fun ds => d :: ds) en).map fun ds => d :: ds))),
  (sub_BadTerm, none, fun _ => (sSet 2 (mC (.str "term")))),
  (sub_BadFact, none, fun _ => (sSet 2 (mC (.str "fact"))))])
  (sRet (mV 2))))
def M__law_asked : MFn := mFn 2 4 B__law_asked
theorem sc__law_asked : FnScope N__law_asked ["word", "row"] (defScope s__law_asked) := ⟨rfl, rfl, rfl, by decide +kernel, rfl, by decide +kernel, by decide +kernel⟩
theorem b__law_asked (T : Txt P w K mg base) : BodyOk P w K mg base 29 N__law_asked "_law_asked" (defScope s__law_asked) (defBody s__law_asked) B__law_asked := by
  intro f cdv A outer s H E hr tk po
  have nd := sc__law_asked.nd
  exact (bm_cons (sm_set 2 nd em_non)
  (bm_cons (sm_try (ClsM.named 3 T.k_BadArguments rfl (by decide) nd rfl rfl (fun a oe cls d pn hz hv => (bx_one (sx_setL 2 nd (xps_cons xp_str (xps_cons (xp_f (X := ctx P w K mg base N__law_asked "_law_asked" (defScope s__law_asked) f cdv A outer s H E) T.f_number hz hv) xps_nil))))) (ClsM.plain T.k_BadTerm rfl (by decide) (fun a oe pn => (bm_one (sm_set 2 nd em_str))) (ClsM.plain T.k_BadFact rfl (by decide) (fun a oe pn => (bm_one (sm_set 2 nd em_str))) ClsM.nil))) tk (fun W pn xe tk po => (bm_one (sm_if (tm_cmp (op_fEq (uRoom hr)) (em_v 0) em_str)
  (bm_one (sm_set 2 nd (em_call (c_whole_between T) hr tk (am_cons (em_ix ix_fIx (em_v 1) em_int) (am_cons (em_ix ix_fIx (em_v 1) em_int) (am_cons (em_ix ix_fIx (em_v 1) em_int) (am_cons (em_ix ix_fIx (em_v 1) em_int) am_nil)))))))
  (bm_one (sm_if (tm_cmp (op_fEq (uRoom hr)) (em_v 0) em_str)
  (bm_one (sm_set 2 nd (em_call (c_real_row T) hr tk (am_cons (em_ix ix_fIx (em_v 1) em_int) (am_cons (em_ix ix_fIx (em_v 1) em_int) (am_cons (em_ix ix_fIx (em_v 1) em_int) (am_cons (em_ix ix_fIx (em_v 1) em_int) am_nil)))))))
  (bm_one (sm_if (tm_cmp (op_fEq (uRoom hr)) (em_v 0) em_str)
  (bm_one (sm_set 2 nd (em_call (c_dark_row T) hr tk (am_cons (em_ix ix_fIx (em_v 1) em_int) (am_cons (em_ix ix_fIx (em_v 1) em_int) (am_cons (em_ix ix_fIx (em_v 1) em_int) (am_cons (em_ix ix_fIx (em_v 1) em_int) am_nil)))))))
  (bm_one (sm_if (tm_cmp (op_fEq (uRoom hr)) (em_v 0) em_str)
  (bm_one (sm_set 2 nd (em_call (c_is_exact T) hr tk (am_cons (em_ix ix_fIx (em_v 1) em_int) (am_cons (em_ix ix_fIx (em_v 1) em_int) (am_cons (em_ix ix_fIx (em_v 1) em_int) (am_cons (em_ix ix_fIx (em_v 1) em_int) am_nil)))))))
  (bm_one (sm_if (tm_cmp (op_fEq (uRoom hr)) (em_v 0) em_str)
  (bm_one (sm_set 2 nd (em_call (c_shortened T) hr tk (am_cons (em_v 1) am_nil))))
  (bm_one (sm_set 2 nd (em_call (c_value_nearest T) hr tk (am_cons (em_ix ix_fIx (em_v 1) em_int) (am_cons (em_ix ix_fIx (em_v 1) em_int) am_nil)))))))))))))))))
  (bm_one (sm_ret (em_v 2)))))
theorem c__law_asked (T : Txt P w K mg base) : Cal P w K mg base 30 "_law_asked" M__law_asked := cal1 T.d__law_asked sc__law_asked (fun _ _ _ _ _ _ us hl => match us, hl with | [_, _], _ => rfl) (b__law_asked T)
abbrev N__law_refusals : List Str := ["pool", "a", "low", "b", "high", "bad", "word", "odd", "wrong"]
def B__law_refusals : MS :=
  (sSeq (sSet 5 (m2 fIx (mLst (mCons (mC (.int 0)) (mCons (m1 fNeg (mC (.int 3))) (mCons (mC .non) (mCons (mC (.bl true)) (mCons (mC (.str "1")) mNil)))))) (mCall M__law_pick (mCons (mV 0) (mCons (mC (.int 5)) mNil)))))
  (sSeq (sFor (iSeq (mLst (mCons (mC (.str "real")) (mCons (mC (.str "dark")) (mCons (mC (.str "exact")) mNil))))) (gN 6)
  (sSeq (sIf (mOrT (mB (m2 fNe (mCall M__law_asked (mCons (mV 6) (mCons (mLst (mCons (mV 5) (mCons (mC (.int 7)) (mCons (mV 5) (mCons (mC (.int 7)) mNil))))) mNil))) (mLst (mCons (mC (.str "arguments")) (mCons (mC (.int 0)) mNil))))) (mB (m2 fNe (mCall M__law_asked (mCons (mV 6) (mCons (mLst (mCons (mV 1) (mCons (mC (.int 7)) (mCons (mV 5) (mCons (mV 4) mNil))))) mNil))) (mC (.str "term")))))
  (sRet (mC (.bl false)))
  sNil)
  (sIf (mOrT (mB (m2 fNe (mCall M__law_asked (mCons (mV 6) (mCons (mLst (mCons (mV 1) (mCons (mV 2) (mCons (mV 5) (mCons (mC (.int 7)) mNil))))) mNil))) (mLst (mCons (mC (.str "arguments")) (mCons (mC (.int 2)) mNil))))) (mB (m2 fNe (mCall M__law_asked (mCons (mV 6) (mCons (mLst (mCons (mV 1) (mCons (mV 2) (mCons (mV 3) (mCons (mTup (mCons (mC (.int 1)) (mCons (mC (.int 2)) mNil))) mNil))))) mNil))) (mC (.str "term")))))
  (sRet (mC (.bl false)))
  sNil)))
  (sSeq (sSet 7 (m2 fIx (mLst (mCons (mC .non) (mCons (mC (.bl true)) (mCons (mC (.str "1")) (mCons (mTup (mCons (mC (.int 1)) (mCons (mTup mNil) mNil))) mNil))))) (mCall M__law_pick (mCons (mV 0) (mCons (mC (.int 4)) mNil)))))
  (sSeq (sIf (mB (m2 fNe (mCall M__law_asked (mCons (mC (.str "between")) (mCons (mLst (mCons (mV 5) (mCons (mV 7) (mCons (mV 5) (mCons (mV 7) mNil))))) mNil))) (mLst (mCons (mC (.str "arguments")) (mCons (mC (.int 0)) mNil)))))
  (sRet (mC (.bl false)))
  sNil)
  (sSeq (sIf (mB (m2 fNe (mCall M__law_asked (mCons (mC (.str "between")) (mCons (mLst (mCons (mV 1) (mCons (mV 7) (mCons (mV 5) (mCons (mV 7) mNil))))) mNil))) (mLst (mCons (mC (.str "arguments")) (mCons (mC (.int 1)) mNil)))))
  (sRet (mC (.bl false)))
  sNil)
  (sSeq (sIf (mOrT (mB (m2 fNe (mCall M__law_asked (mCons (mC (.str "between")) (mCons (mLst (mCons (mV 1) (mCons (mC (.int 1)) (mCons (mV 5) (mCons (mV 7) mNil))))) mNil))) (mLst (mCons (mC (.str "arguments")) (mCons (mC (.int 2)) mNil))))) (mB (m2 fNe (mCall M__law_asked (mCons (mC (.str "between")) (mCons (mLst (mCons (mV 1) (mCons (mC (.int 1)) (mCons (mV 3) (mCons (mV 7) mNil))))) mNil))) (mLst (mCons (mC (.str "arguments")) (mCons (mC (.int 3)) mNil))))))
  (sRet (mC (.bl false)))
  sNil)
  (sSeq (sSet 8 (m2 fIx (mLst (mCons (mC (.bl true)) (mCons (mC (.str "1")) (mCons (mTup (mCons (mC (.int 1)) (mCons (mTup mNil) mNil))) mNil)))) (mCall M__law_pick (mCons (mV 0) (mCons (mC (.int 3)) mNil)))))
  (sSeq (sIf (mOrT (mB (m2 fNe (mCall M__law_asked (mCons (mC (.str "nearest")) (mCons (mLst (mCons (mV 8) (mCons (mV 8) mNil))) mNil))) (mLst (mCons (mC (.str "arguments")) (mCons (mC (.int 0)) mNil))))) (mB (m2 fNe (mCall M__law_asked (mCons (mC (.str "nearest")) (mCons (mLst (mCons (mC (.int 1)) (mCons (mV 8) mNil))) mNil))) (mLst (mCons (mC (.str "arguments")) (mCons (mC (.int 1)) mNil))))))
  (sRet (mC (.bl false)))
  sNil)
  (sRet (mAndV (m2 fEq (mCall M__law_asked (mCons (mC (.str "short")) (mCons (mTup (mCons (mC (.str "ne")) (mCons (mV 2) mNil))) mNil))) (mC (.str "fact"))) (mAndV (m2 fEq (mCall M__law_asked (mCons (mC (.str "short")) (mCons (mV 2) mNil))) (mC (.str "fact"))) (m2 fIs (mCall M_is_row (mCons (mTup (mCons (mC (.str "ne")) (mCons (mV 2) mNil))) mNil)) (mC (.bl false))))))))))))))
def M__law_refusals : MFn := mFn 5 9 B__law_refusals
theorem sc__law_refusals : FnScope N__law_refusals ["pool", "a", "low", "b", "high"] (defScope s__law_refusals) := ⟨rfl, rfl, rfl, by decide +kernel, rfl, by decide +kernel, by decide +kernel⟩
theorem b__law_refusals (T : Txt P w K mg base) : BodyOk P w K mg base 30 N__law_refusals "_law_refusals" (defScope s__law_refusals) (defBody s__law_refusals) B__law_refusals := by
  intro f cdv A outer s H E hr tk po
  have nd := sc__law_refusals.nd
  exact (bm_cons (sm_set 5 nd (em_ix ix_fIx (em_lst (am_cons em_int (am_cons (em_neg em_int) (am_cons em_non (am_cons em_bl (am_cons em_str am_nil)))))) (em_call (c__law_pick T) hr tk (am_cons (em_v 0) (am_cons em_int am_nil)))))
  (bm_cons (sm_for po rfl (im_seq (em_lst (am_cons em_str (am_cons em_str (am_cons em_str am_nil))))) (gm_n 6 nd)
  (bm_cons (sm_if (WM.tm (wm_or (tm_cmp (op_fNe (uRoom hr)) (em_call (c__law_asked T) hr tk (am_cons (em_v 6) (am_cons (em_lst (am_cons (em_v 5) (am_cons em_int (am_cons (em_v 5) (am_cons em_int am_nil))))) am_nil))) (em_lst (am_cons em_str (am_cons em_int am_nil)))) (wm_or1 (tm_cmp (op_fNe (uRoom hr)) (em_call (c__law_asked T) hr tk (am_cons (em_v 6) (am_cons (em_lst (am_cons (em_v 1) (am_cons em_int (am_cons (em_v 5) (am_cons (em_v 4) am_nil))))) am_nil))) em_str))))
  (bm_one (sm_ret em_bl))
  bm_nil)
  (bm_one (sm_if (WM.tm (wm_or (tm_cmp (op_fNe (uRoom hr)) (em_call (c__law_asked T) hr tk (am_cons (em_v 6) (am_cons (em_lst (am_cons (em_v 1) (am_cons (em_v 2) (am_cons (em_v 5) (am_cons em_int am_nil))))) am_nil))) (em_lst (am_cons em_str (am_cons em_int am_nil)))) (wm_or1 (tm_cmp (op_fNe (uRoom hr)) (em_call (c__law_asked T) hr tk (am_cons (em_v 6) (am_cons (em_lst (am_cons (em_v 1) (am_cons (em_v 2) (am_cons (em_v 3) (am_cons (em_tup (am_cons em_int (am_cons em_int am_nil))) am_nil))))) am_nil))) em_str))))
  (bm_one (sm_ret em_bl))
  bm_nil))))
  (bm_cons (sm_set 7 nd (em_ix ix_fIx (em_lst (am_cons em_non (am_cons em_bl (am_cons em_str (am_cons (em_tup (am_cons em_int (am_cons (em_tup am_nil) am_nil))) am_nil))))) (em_call (c__law_pick T) hr tk (am_cons (em_v 0) (am_cons em_int am_nil)))))
  (bm_cons (sm_if (tm_cmp (op_fNe (uRoom hr)) (em_call (c__law_asked T) hr tk (am_cons em_str (am_cons (em_lst (am_cons (em_v 5) (am_cons (em_v 7) (am_cons (em_v 5) (am_cons (em_v 7) am_nil))))) am_nil))) (em_lst (am_cons em_str (am_cons em_int am_nil))))
  (bm_one (sm_ret em_bl))
  bm_nil)
  (bm_cons (sm_if (tm_cmp (op_fNe (uRoom hr)) (em_call (c__law_asked T) hr tk (am_cons em_str (am_cons (em_lst (am_cons (em_v 1) (am_cons (em_v 7) (am_cons (em_v 5) (am_cons (em_v 7) am_nil))))) am_nil))) (em_lst (am_cons em_str (am_cons em_int am_nil))))
  (bm_one (sm_ret em_bl))
  bm_nil)
  (bm_cons (sm_if (WM.tm (wm_or (tm_cmp (op_fNe (uRoom hr)) (em_call (c__law_asked T) hr tk (am_cons em_str (am_cons (em_lst (am_cons (em_v 1) (am_cons em_int (am_cons (em_v 5) (am_cons (em_v 7) am_nil))))) am_nil))) (em_lst (am_cons em_str (am_cons em_int am_nil)))) (wm_or1 (tm_cmp (op_fNe (uRoom hr)) (em_call (c__law_asked T) hr tk (am_cons em_str (am_cons (em_lst (am_cons (em_v 1) (am_cons em_int (am_cons (em_v 3) (am_cons (em_v 7) am_nil))))) am_nil))) (em_lst (am_cons em_str (am_cons em_int am_nil)))))))
  (bm_one (sm_ret em_bl))
  bm_nil)
  (bm_cons (sm_set 8 nd (em_ix ix_fIx (em_lst (am_cons em_bl (am_cons em_str (am_cons (em_tup (am_cons em_int (am_cons (em_tup am_nil) am_nil))) am_nil)))) (em_call (c__law_pick T) hr tk (am_cons (em_v 0) (am_cons em_int am_nil)))))
  (bm_cons (sm_if (WM.tm (wm_or (tm_cmp (op_fNe (uRoom hr)) (em_call (c__law_asked T) hr tk (am_cons em_str (am_cons (em_lst (am_cons (em_v 8) (am_cons (em_v 8) am_nil))) am_nil))) (em_lst (am_cons em_str (am_cons em_int am_nil)))) (wm_or1 (tm_cmp (op_fNe (uRoom hr)) (em_call (c__law_asked T) hr tk (am_cons em_str (am_cons (em_lst (am_cons em_int (am_cons (em_v 8) am_nil))) am_nil))) (em_lst (am_cons em_str (am_cons em_int am_nil)))))))
  (bm_one (sm_ret em_bl))
  bm_nil)
  (bm_one (sm_ret (em_and (em_cmp (op_fEq (uRoom hr)) (em_call (c__law_asked T) hr tk (am_cons em_str (am_cons (em_tup (am_cons em_str (am_cons (em_v 2) am_nil))) am_nil))) em_str) (em_and (em_cmp (op_fEq (uRoom hr)) (em_call (c__law_asked T) hr tk (am_cons em_str (am_cons (em_v 2) am_nil))) em_str) (em_one (em_cmp op_fIs (em_call (c_is_row T) hr tk (am_cons (em_tup (am_cons em_str (am_cons (em_v 2) am_nil))) am_nil)) em_bl))))))))))))))
theorem c__law_refusals (T : Txt P w K mg base) : Cal P w K mg base 31 "_law_refusals" M__law_refusals := cal1 T.d__law_refusals sc__law_refusals (fun _ _ _ _ _ _ us hl => match us, hl with | [_, _, _, _, _], _ => rfl) (b__law_refusals T)
abbrev N__law_terms_right : List Str := ["pool", "a", "b", "x", "y", "low", "high", "share", "real", "dark", "alike", "told", "turn", "state", "between", "fact"]
def B__law_terms_right : MS :=
  (sSeq (sSet 3 (mTup (mCons (mC (.str "name")) (mCons (mC (.str "x")) mNil))))
  (sSeq (sSet 4 (mTup (mCons (mC (.str "read")) (mCons (mC (.str "a")) (mCons (mTup (mCons (mC (.int 1)) (mCons (mTup (mCons (mTup (mCons (mV 3) (mCons (mC (.int 1)) mNil))) mNil)) mNil))) mNil)))))
  (sSeq (sSet 5 (mCall M__law_sum (mCons (m2 fSub (mCall M__law_pick (mCons (mV 0) (mCons (mC (.int 19)) mNil))) (mC (.int 9))) (mCons (mLst (mCons (mLst (mCons (m2 fSub (mCall M__law_pick (mCons (mV 0) (mCons (mC (.int 9)) mNil))) (mC (.int 4))) (mCons (mV 3) mNil))) (mCons (mLst (mCons (m2 fSub (mCall M__law_pick (mCons (mV 0) (mCons (mC (.int 7)) mNil))) (mC (.int 3))) (mCons (mV 4) mNil))) mNil))) mNil))))
  (sSeq (sSet 6 (mCall M__law_sum (mCons (m2 fSub (mCall M__law_pick (mCons (mV 0) (mCons (mC (.int 19)) mNil))) (mC (.int 9))) (mCons (mLst (mCons (mLst (mCons (m2 fSub (mCall M__law_pick (mCons (mV 0) (mCons (mC (.int 9)) mNil))) (mC (.int 4))) (mCons (mV 3) mNil))) (mCons (mLst (mCons (m2 fSub (mCall M__law_pick (mCons (mV 0) (mCons (mC (.int 7)) mNil))) (mC (.int 3))) (mCons (mV 4) mNil))) mNil))) mNil))))
  (sSeq (sIf (mB (m2 fEq (mCall M__law_pick (mCons (mV 0) (mCons (mC (.int 4)) mNil))) (mC (.int 3))))
  (sSet 6 (mCall M__law_plus (mCons (mTup (mCons (mC (.int 0)) (mCons (mTup mNil) mNil))) (mCons (mV 5) (mCons (m1 fNeg (mC (.int 1))) mNil)))))
  sNil)
  (sSeq (sSet 7 (mCall M__law_plus (mCons (mCall M__law_plus (mCons (mTup (mCons (mC (.int 0)) (mCons (mTup mNil) mNil))) (mCons (mV 5) (mCons (mV 2) mNil)))) (mCons (mV 6) (mCons (mV 1) mNil)))))
  (sSeq (sSet 8 (m2 fIx (mCall M__law_short (mCons (mTup (mCons (mC (.str "le")) (mCons (mV 7) mNil))) mNil)) (mC (.int 0))))
  (sSeq (sSet 9 (m2 fIx (mCall M__law_short (mCons (mTup (mCons (mC (.str "le")) (mCons (mCall M__law_plus (mCons (mV 7) (mCons (mTup (mCons (m2 fMulA (m2 fSub (mV 1) (mC (.int 1))) (m2 fSub (mV 2) (mC (.int 1)))) (mCons (mTup mNil) mNil))) (mCons (mC (.int 1)) mNil)))) mNil))) mNil)) (mC (.int 0))))
  (sSeq (sIf (mOrT (mB (m2 fNe (mCall M_real_row (mCons (mV 1) (mCons (mV 5) (mCons (mV 2) (mCons (mV 6) mNil))))) (mV 8))) (mB (m2 fNe (mCall M_dark_row (mCons (mV 1) (mCons (mV 5) (mCons (mV 2) (mCons (mV 6) mNil))))) (mV 9))))
  (sRet (mC (.bl false)))
  sNil)
  (sSeq (sSet 10 (m2 fEq (mV 8) (mV 9)))
  (sSeq (sIf (mB (m2 fEq (m2 fIx (m2 fIx (mV 8) (mC (.int 1))) (mC (.int 1))) (mTup mNil)))
  (sSet 10 (m2 fEq (m2 fLe (m2 fIx (m2 fIx (mV 8) (mC (.int 1))) (mC (.int 0))) (mC (.int 0))) (m2 fLe (m2 fIx (m2 fIx (mV 9) (mC (.int 1))) (mC (.int 0))) (mC (.int 0)))))
  sNil)
  (sSeq (sSet 11 (mCall M_is_exact (mCons (mV 1) (mCons (mV 5) (mCons (mV 2) (mCons (mV 6) mNil))))))
  (sSeq (sIf (mOrT (mB (m2 fNe (m2 fIs (mV 11) (mC (.bl true))) (mV 10))) (mB (m2 fEq (m2 fIs (mV 11) (mC (.bl false))) (mV 10))))
  (sRet (mC (.bl false)))
  sNil)
  (sSeq (sFor (iRng (mCons (mC (.int 4)) mNil)) (gN 12)
  (sSeq (sSet 13 (mDisp ["x", "a"] (mCons (m2 fSub (mCall M__law_pick (mCons (mV 0) (mCons (mC (.int 21)) mNil))) (mC (.int 10))) (mCons (m2 fSub (mCall M__law_pick (mCons (mV 0) (mCons (mC (.int 21)) mNil))) (mC (.int 10))) mNil))))
  (sSeq (sSet 14 (mCall M_whole_between (mCons (mV 1) (mCons (mCall M__law_value (mCons (mV 5) (mCons (mV 13) mNil))) (mCons (mV 2) (mCons (mCall M__law_value (mCons (mV 6) (mCons (mV 13) mNil))) mNil))))))
  (sSeq (sIf (mAndT (mB (m2 fIsN (mV 14) (mC .non))) (mB (m2 fGt (mCall M__law_value (mCons (m2 fIx (mV 8) (mC (.int 1))) (mCons (mV 13) mNil))) (mC (.int 0)))))
  (sRet (mC (.bl false)))
  sNil)
  (sSeq (sIf (mAndT (mB (m2 fIs (mV 14) (mC .non))) (mB (m2 fLe (mCall M__law_value (mCons (m2 fIx (mV 9) (mC (.int 1))) (mCons (mV 13) mNil))) (mC (.int 0)))))
  (sRet (mC (.bl false)))
  sNil)
  (sIf (mNotT (mB (mCall M__law_same (mCons (mV 14) (mCons (mCall M__law_between (mCons (mV 1) (mCons (mCall M__law_value (mCons (mV 5) (mCons (mV 13) mNil))) (mCons (mV 2) (mCons (mCall M__law_value (mCons (mV 6) (mCons (mV 13) mNil))) mNil))))) mNil)))))
  (sRet (mC (.bl false)))
  sNil))))))
  (sSeq (sFor (iSeq (mLst (mCons (mTup (mCons (mC (.str "le")) (mCons (mV 7) mNil))) (mCons (mTup (mCons (mC (.str "eq")) (mCons (mV 7) mNil))) (mCons (mTup (mCons (mC (.str "eq")) (mCons (mV 5) mNil))) (mCons (mTup (mCons (mC (.str "le")) (mCons (mCall M__law_plus (mCons (mV 5) (mCons (mV 6) (mCons (mC (.int 3)) mNil)))) mNil))) mNil)))))) (gN 15)
  (sIf (mOrT (mB (m2 fNe (mCall M_shortened (mCons (mV 15) mNil)) (mCall M__law_short (mCons (mV 15) mNil)))) (mB (m2 fIsN (mCall M_is_row (mCons (mV 15) mNil)) (mC (.bl true)))))
  (sRet (mC (.bl false)))
  sNil))
  (sRet (mCall M__law_refusals (mCons (mV 0) (mCons (mV 1) (mCons (mV 5) (mCons (mV 2) (mCons (mV 6) mNil))))))))))))))))))))))
def M__law_terms_right : MFn := mFn 3 16 B__law_terms_right
theorem sc__law_terms_right : FnScope N__law_terms_right ["pool", "a", "b"] (defScope s__law_terms_right) := ⟨rfl, rfl, rfl, by decide +kernel, rfl, by decide +kernel, by decide +kernel⟩
theorem b__law_terms_right (T : Txt P w K mg base) : BodyOk P w K mg base 31 N__law_terms_right "_law_terms_right" (defScope s__law_terms_right) (defBody s__law_terms_right) B__law_terms_right := by
  intro f cdv A outer s H E hr tk po
  have nd := sc__law_terms_right.nd
  exact (bm_cons (sm_set 3 nd (em_tup (am_cons em_str (am_cons em_str am_nil))))
  (bm_cons (sm_set 4 nd (em_tup (am_cons em_str (am_cons em_str (am_cons (em_tup (am_cons em_int (am_cons (em_tup (am_cons (em_tup (am_cons (em_v 3) (am_cons em_int am_nil))) am_nil)) am_nil))) am_nil)))))
  (bm_cons (sm_set 5 nd (em_call (c__law_sum T) hr tk (am_cons (em_bin op_fSub (em_call (c__law_pick T) hr tk (am_cons (em_v 0) (am_cons em_int am_nil))) em_int) (am_cons (em_lst (am_cons (em_lst (am_cons (em_bin op_fSub (em_call (c__law_pick T) hr tk (am_cons (em_v 0) (am_cons em_int am_nil))) em_int) (am_cons (em_v 3) am_nil))) (am_cons (em_lst (am_cons (em_bin op_fSub (em_call (c__law_pick T) hr tk (am_cons (em_v 0) (am_cons em_int am_nil))) em_int) (am_cons (em_v 4) am_nil))) am_nil))) am_nil))))
  (bm_cons (sm_set 6 nd (em_call (c__law_sum T) hr tk (am_cons (em_bin op_fSub (em_call (c__law_pick T) hr tk (am_cons (em_v 0) (am_cons em_int am_nil))) em_int) (am_cons (em_lst (am_cons (em_lst (am_cons (em_bin op_fSub (em_call (c__law_pick T) hr tk (am_cons (em_v 0) (am_cons em_int am_nil))) em_int) (am_cons (em_v 3) am_nil))) (am_cons (em_lst (am_cons (em_bin op_fSub (em_call (c__law_pick T) hr tk (am_cons (em_v 0) (am_cons em_int am_nil))) em_int) (am_cons (em_v 4) am_nil))) am_nil))) am_nil))))
  (bm_cons (sm_if (tm_cmp (op_fEq (uRoom hr)) (em_call (c__law_pick T) hr tk (am_cons (em_v 0) (am_cons em_int am_nil))) em_int)
  (bm_one (sm_set 6 nd (em_call (c__law_plus T) hr tk (am_cons (em_tup (am_cons em_int (am_cons (em_tup am_nil) am_nil))) (am_cons (em_v 5) (am_cons (em_neg em_int) am_nil))))))
  bm_nil)
  (bm_cons (sm_set 7 nd (em_call (c__law_plus T) hr tk (am_cons (em_call (c__law_plus T) hr tk (am_cons (em_tup (am_cons em_int (am_cons (em_tup am_nil) am_nil))) (am_cons (em_v 5) (am_cons (em_v 2) am_nil)))) (am_cons (em_v 6) (am_cons (em_v 1) am_nil)))))
  (bm_cons (sm_set 8 nd (em_ix ix_fIx (em_call (c__law_short T) hr tk (am_cons (em_tup (am_cons em_str (am_cons (em_v 7) am_nil))) am_nil)) em_int))
  (bm_cons (sm_set 9 nd (em_ix ix_fIx (em_call (c__law_short T) hr tk (am_cons (em_tup (am_cons em_str (am_cons (em_call (c__law_plus T) hr tk (am_cons (em_v 7) (am_cons (em_tup (am_cons (em_bin op_fMulA (em_bin op_fSub (em_v 1) em_int) (em_bin op_fSub (em_v 2) em_int)) (am_cons (em_tup am_nil) am_nil))) (am_cons em_int am_nil)))) am_nil))) am_nil)) em_int))
  (bm_cons (sm_if (WM.tm (wm_or (tm_cmp (op_fNe (uRoom hr)) (em_call (c_real_row T) hr tk (am_cons (em_v 1) (am_cons (em_v 5) (am_cons (em_v 2) (am_cons (em_v 6) am_nil))))) (em_v 8)) (wm_or1 (tm_cmp (op_fNe (uRoom hr)) (em_call (c_dark_row T) hr tk (am_cons (em_v 1) (am_cons (em_v 5) (am_cons (em_v 2) (am_cons (em_v 6) am_nil))))) (em_v 9)))))
  (bm_one (sm_ret em_bl))
  bm_nil)
  (bm_cons (sm_set 10 nd (em_cmp (op_fEq (uRoom hr)) (em_v 8) (em_v 9)))
  (bm_cons (sm_if (tm_cmp (op_fEq (uRoom hr)) (em_ix ix_fIx (em_ix ix_fIx (em_v 8) em_int) em_int) (em_tup am_nil))
  (bm_one (sm_set 10 nd (em_cmp (op_fEq (uRoom hr)) (em_cmp op_fLe (em_ix ix_fIx (em_ix ix_fIx (em_v 8) em_int) em_int) em_int) (em_cmp op_fLe (em_ix ix_fIx (em_ix ix_fIx (em_v 9) em_int) em_int) em_int))))
  bm_nil)
  (bm_cons (sm_set 11 nd (em_call (c_is_exact T) hr tk (am_cons (em_v 1) (am_cons (em_v 5) (am_cons (em_v 2) (am_cons (em_v 6) am_nil))))))
  (bm_cons (sm_if (WM.tm (wm_or (tm_cmp (op_fNe (uRoom hr)) (em_cmp op_fIs (em_v 11) em_bl) (em_v 10)) (wm_or1 (tm_cmp (op_fEq (uRoom hr)) (em_cmp op_fIs (em_v 11) em_bl) (em_v 10)))))
  (bm_one (sm_ret em_bl))
  bm_nil)
  (bm_cons (sm_for po rfl (im_rng1 T.n_range em_int) (gm_n 12 nd)
  (bm_cons (sm_set 13 nd (em_disp (dm_cons (em_bin op_fSub (em_call (c__law_pick T) hr tk (am_cons (em_v 0) (am_cons em_int am_nil))) em_int) (dm_cons (em_bin op_fSub (em_call (c__law_pick T) hr tk (am_cons (em_v 0) (am_cons em_int am_nil))) em_int) dm_nil))))
  (bm_cons (sm_set 14 nd (em_call (c_whole_between T) hr tk (am_cons (em_v 1) (am_cons (em_call (c__law_value T) hr tk (am_cons (em_v 5) (am_cons (em_v 13) am_nil))) (am_cons (em_v 2) (am_cons (em_call (c__law_value T) hr tk (am_cons (em_v 6) (am_cons (em_v 13) am_nil))) am_nil))))))
  (bm_cons (sm_if (WM.tm (wm_and (tm_cmp op_fIsN (em_v 14) em_non) (wm_and1 (tm_cmp op_fGt (em_call (c__law_value T) hr tk (am_cons (em_ix ix_fIx (em_v 8) em_int) (am_cons (em_v 13) am_nil))) em_int))))
  (bm_one (sm_ret em_bl))
  bm_nil)
  (bm_cons (sm_if (WM.tm (wm_and (tm_cmp op_fIs (em_v 14) em_non) (wm_and1 (tm_cmp op_fLe (em_call (c__law_value T) hr tk (am_cons (em_ix ix_fIx (em_v 9) em_int) (am_cons (em_v 13) am_nil))) em_int))))
  (bm_one (sm_ret em_bl))
  bm_nil)
  (bm_one (sm_if (tm_not (tm_val (em_call (c__law_same T) hr tk (am_cons (em_v 14) (am_cons (em_call (c__law_between T) hr tk (am_cons (em_v 1) (am_cons (em_call (c__law_value T) hr tk (am_cons (em_v 5) (am_cons (em_v 13) am_nil))) (am_cons (em_v 2) (am_cons (em_call (c__law_value T) hr tk (am_cons (em_v 6) (am_cons (em_v 13) am_nil))) am_nil))))) am_nil)))))
  (bm_one (sm_ret em_bl))
  bm_nil)))))))
  (bm_cons (sm_for po rfl (im_seq (em_lst (am_cons (em_tup (am_cons em_str (am_cons (em_v 7) am_nil))) (am_cons (em_tup (am_cons em_str (am_cons (em_v 7) am_nil))) (am_cons (em_tup (am_cons em_str (am_cons (em_v 5) am_nil))) (am_cons (em_tup (am_cons em_str (am_cons (em_call (c__law_plus T) hr tk (am_cons (em_v 5) (am_cons (em_v 6) (am_cons em_int am_nil)))) am_nil))) am_nil)))))) (gm_n 15 nd)
  (bm_one (sm_if (WM.tm (wm_or (tm_cmp (op_fNe (uRoom hr)) (em_call (c_shortened T) hr tk (am_cons (em_v 15) am_nil)) (em_call (c__law_short T) hr tk (am_cons (em_v 15) am_nil))) (wm_or1 (tm_cmp op_fIsN (em_call (c_is_row T) hr tk (am_cons (em_v 15) am_nil)) em_bl))))
  (bm_one (sm_ret em_bl))
  bm_nil)))
  (bm_one (sm_ret (em_call (c__law_refusals T) hr tk (am_cons (em_v 0) (am_cons (em_v 1) (am_cons (em_v 5) (am_cons (em_v 2) (am_cons (em_v 6) am_nil)))))))))))))))))))))))
theorem c__law_terms_right (T : Txt P w K mg base) : Cal P w K mg base 32 "_law_terms_right" M__law_terms_right := cal1 T.d__law_terms_right sc__law_terms_right (fun _ _ _ _ _ _ us hl => match us, hl with | [_, _, _], _ => rfl) (b__law_terms_right T)
abbrev N_law : List Str := ["script", "pool", "a", "b", "turn", "row", "place"]
def B_law : MS :=
  (sSeq (sSet 1 (mCall M__law_pool (mCons (mV 0) mNil)))
  (sSeq (sSet 2 (mCall M__law_number (mCons (mV 1) mNil)))
  (sSeq (sSet 3 (mCall M__law_number (mCons (mV 1) mNil)))
  (sSeq (sIf (mOrT (mNotT (mB (mCall M__law_whole_right (mCons (mV 1) (mCons (mV 2) (mCons (mV 3) mNil)))))) (mNotT (mB (mCall M__law_terms_right (mCons (mV 1) (mCons (mV 2) (mCons (mV 3) mNil)))))))
  (sRet (mC (.bl false)))
  sNil)
  (sSeq (sFor (iRng (mCons (mC (.int 3)) mNil)) (gN 4)
  (sSeq (sSet 5 (mLst (mCons (mC .non) (mCons (mC .non) mNil))))
  (sSeq (sFor (iRng (mCons (mC (.int 2)) mNil)) (gN 6)
  (sIf (mB (m2 fGt (mCall M__law_pick (mCons (mV 1) (mCons (mC (.int 4)) mNil))) (mC (.int 0))))
  (sPut (mV 5) (mV 6) (m2 fMulA (m2 fSub (mCall M__law_pick (mCons (mV 1) (mCons (mC (.int 21)) mNil))) (mC (.int 10))) (m2 fIx (mLst (mCons (mC (.int 1)) (mCons (mC (.int 1)) (mCons (m2 fPow (mC (.int 10)) (mC (.int 25))) mNil)))) (mCall M__law_pick (mCons (mV 1) (mCons (mC (.int 3)) mNil))))))
  sNil))
  (sIf (mNotT (mB (mCall M__law_same (mCons (mCall M_value_nearest (mCons (m2 fIx (mV 5) (mC (.int 0))) (mCons (m2 fIx (mV 5) (mC (.int 1))) mNil))) (mCons (mCall M__law_nearest (mCons (m2 fIx (mV 5) (mC (.int 0))) (mCons (m2 fIx (mV 5) (mC (.int 1))) mNil))) mNil)))))
  (sRet (mC (.bl false)))
  sNil))))
  (sRet (mC (.bl true))))))))
def M_law : MFn := mFn 1 7 B_law
theorem sc_law : FnScope N_law ["script"] (defScope s_law) := ⟨rfl, rfl, rfl, by decide +kernel, rfl, by decide +kernel, by decide +kernel⟩
theorem b_law (T : Txt P w K mg base) : BodyOk P w K mg base 32 N_law "law" (defScope s_law) (defBody s_law) B_law := by
  intro f cdv A outer s H E hr tk po
  have nd := sc_law.nd
  exact (bm_cons (sm_set 1 nd (em_call (c__law_pool T) hr tk (am_cons (em_v 0) am_nil)))
  (bm_cons (sm_set 2 nd (em_call (c__law_number T) hr tk (am_cons (em_v 1) am_nil)))
  (bm_cons (sm_set 3 nd (em_call (c__law_number T) hr tk (am_cons (em_v 1) am_nil)))
  (bm_cons (sm_if (WM.tm (wm_or (tm_not (tm_val (em_call (c__law_whole_right T) hr tk (am_cons (em_v 1) (am_cons (em_v 2) (am_cons (em_v 3) am_nil)))))) (wm_or1 (tm_not (tm_val (em_call (c__law_terms_right T) hr tk (am_cons (em_v 1) (am_cons (em_v 2) (am_cons (em_v 3) am_nil)))))))))
  (bm_one (sm_ret em_bl))
  bm_nil)
  (bm_cons (sm_for po rfl (im_rng1 T.n_range em_int) (gm_n 4 nd)
  (bm_cons (sm_set 5 nd (em_lst (am_cons em_non (am_cons em_non am_nil))))
  (bm_cons (sm_for po rfl (im_rng1 T.n_range em_int) (gm_n 6 nd)
  (bm_one (sm_if (tm_cmp op_fGt (em_call (c__law_pick T) hr tk (am_cons (em_v 1) (am_cons em_int am_nil))) em_int)
  (bm_one (sm_put (em_v 5) (em_v 6) (em_bin op_fMulA (em_bin op_fSub (em_call (c__law_pick T) hr tk (am_cons (em_v 1) (am_cons em_int am_nil))) em_int) (em_ix ix_fIx (em_lst (am_cons em_int (am_cons em_int (am_cons (em_bin op_fPow em_int em_int) am_nil)))) (em_call (c__law_pick T) hr tk (am_cons (em_v 1) (am_cons em_int am_nil)))))))
  bm_nil)))
  (bm_one (sm_if (tm_not (tm_val (em_call (c__law_same T) hr tk (am_cons (em_call (c_value_nearest T) hr tk (am_cons (em_ix ix_fIx (em_v 5) em_int) (am_cons (em_ix ix_fIx (em_v 5) em_int) am_nil))) (am_cons (em_call (c__law_nearest T) hr tk (am_cons (em_ix ix_fIx (em_v 5) em_int) (am_cons (em_ix ix_fIx (em_v 5) em_int) am_nil))) am_nil)))))
  (bm_one (sm_ret em_bl))
  bm_nil)))))
  (bm_one (sm_ret em_bl)))))))
theorem c_law (T : Txt P w K mg base) : Cal P w K mg base 33 "law" M_law := cal1 T.d_law sc_law (fun _ _ _ _ _ _ us hl => match us, hl with | [_], _ => rfl) (b_law T)
end
end K26

namespace K26
open PySem PySem.Spec PyProof.Rows L2 Mi
abbrev s_ini_BadArguments : Stmt := inCls (top 3) 0
abbrev s_ini_BadFact : Stmt := inCls (top 5) 0
abbrev s_ini_BadTerm : Stmt := inCls (top 4) 0
def fa : List (PySem.W.Frag → Bool) := [freeB "abs",
  freeB "bool",
  freeB "int",
  freeB "isinstance",
  freeB "len",
  freeB "min",
  freeB "range",
  freeB "sorted",
  freeB "str",
  freeB "super",
  freeB "tuple",
  gcB "NONE" d_NONE,
  gcB "TEXTS" d_TEXTS,
  gcB "INTEGERS" d_INTEGERS,
  gcB "BAD" d_BAD,
  bltB "gcd" "math.gcd",
  funB "law",
  funB "_law_pool",
  funB "_law_number",
  funB "_law_pick",
  funB "_law_whole_right",
  funB "_law_between",
  funB "_law_nearest",
  funB "_law_same",
  funB "_law_int",
  funB "whole_between",
  funB "is_whole",
  funB "check_whole",
  funB "value_nearest",
  funB "up",
  funB "real_row",
  funB "check_pair",
  funB "atom_sort",
  funB "term_sort",
  funB "name_sort",
  funB "pair_row",
  funB "plus_times",
  funB "short_row",
  funB "common_divisor",
  funB "dark_row",
  funB "is_exact",
  funB "_law_terms_right",
  funB "_law_sum",
  funB "_law_plus",
  funB "_law_atom",
  funB "_law_short",
  funB "_law_divisor",
  funB "_law_value",
  funB "shortened",
  funB "is_row",
  (fun K => funB "is_fact" K && kwdB "is_fact" [("arrays", (.bl false))] K),
  funB "quantified_sort",
  funB "fact_sort",
  funB "array_sort",
  funB "_law_refusals",
  funB "_law_asked",
  excB RW.prog.main.file "BadArguments" ["number"],
  excB RW.prog.main.file "BadFact" [],
  excB RW.prog.main.file "BadTerm" [],
  (fun K => gloB "BadArguments" K && sl_BadArguments.all fun p => exmB p.1 "BadArguments" p.2 K),
  (fun K => gloB "BadFact" K && sl_BadFact.all fun p => exmB p.1 "BadFact" p.2 K),
  (fun K => gloB "BadTerm" K && sl_BadTerm.all fun p => exmB p.1 "BadTerm" p.2 K),
  (fun K => xl_number.all fun y => xfkB y "number" K)]
def fn : List FnM := [⟨fun K => ga K "law", "law", "law", defArgs s_law, defBody s_law, defScope s_law, []⟩,
  ⟨fun K => ga K "_law_pool", "_law_pool", "_law_pool", defArgs s__law_pool, defBody s__law_pool, defScope s__law_pool, []⟩,
  ⟨fun K => ga K "_law_number", "_law_number", "_law_number", defArgs s__law_number, defBody s__law_number, defScope s__law_number, []⟩,
  ⟨fun K => ga K "_law_pick", "_law_pick", "_law_pick", defArgs s__law_pick, defBody s__law_pick, defScope s__law_pick, []⟩,
  ⟨fun K => ga K "_law_whole_right", "_law_whole_right", "_law_whole_right", defArgs s__law_whole_right, defBody s__law_whole_right, defScope s__law_whole_right, []⟩,
  ⟨fun K => ga K "_law_between", "_law_between", "_law_between", defArgs s__law_between, defBody s__law_between, defScope s__law_between, []⟩,
  ⟨fun K => ga K "_law_nearest", "_law_nearest", "_law_nearest", defArgs s__law_nearest, defBody s__law_nearest, defScope s__law_nearest, []⟩,
  ⟨fun K => ga K "_law_same", "_law_same", "_law_same", defArgs s__law_same, defBody s__law_same, defScope s__law_same, []⟩,
  ⟨fun K => ga K "_law_int", "_law_int", "_law_int", defArgs s__law_int, defBody s__law_int, defScope s__law_int, []⟩,
  ⟨fun K => ga K "whole_between", "whole_between", "whole_between", defArgs s_whole_between, defBody s_whole_between, defScope s_whole_between, []⟩,
  ⟨fun K => ga K "is_whole", "is_whole", "is_whole", defArgs s_is_whole, defBody s_is_whole, defScope s_is_whole, []⟩,
  ⟨fun K => ga K "check_whole", "check_whole", "check_whole", defArgs s_check_whole, defBody s_check_whole, defScope s_check_whole, []⟩,
  ⟨fun K => ga K "value_nearest", "value_nearest", "value_nearest", defArgs s_value_nearest, defBody s_value_nearest, defScope s_value_nearest, []⟩,
  ⟨fun K => ga K "up", "up", "up", defArgs s_up, defBody s_up, defScope s_up, []⟩,
  ⟨fun K => ga K "real_row", "real_row", "real_row", defArgs s_real_row, defBody s_real_row, defScope s_real_row, []⟩,
  ⟨fun K => ga K "check_pair", "check_pair", "check_pair", defArgs s_check_pair, defBody s_check_pair, defScope s_check_pair, []⟩,
  ⟨fun K => ga K "atom_sort", "atom_sort", "atom_sort", defArgs s_atom_sort, defBody s_atom_sort, defScope s_atom_sort, []⟩,
  ⟨fun K => ga K "term_sort", "term_sort", "term_sort", defArgs s_term_sort, defBody s_term_sort, defScope s_term_sort, []⟩,
  ⟨fun K => ga K "name_sort", "name_sort", "name_sort", defArgs s_name_sort, defBody s_name_sort, defScope s_name_sort, []⟩,
  ⟨fun K => ga K "pair_row", "pair_row", "pair_row", defArgs s_pair_row, defBody s_pair_row, defScope s_pair_row, []⟩,
  ⟨fun K => ga K "plus_times", "plus_times", "plus_times", defArgs s_plus_times, defBody s_plus_times, defScope s_plus_times, []⟩,
  ⟨fun K => ga K "short_row", "short_row", "short_row", defArgs s_short_row, defBody s_short_row, defScope s_short_row, []⟩,
  ⟨fun K => ga K "common_divisor", "common_divisor", "common_divisor", defArgs s_common_divisor, defBody s_common_divisor, defScope s_common_divisor, []⟩,
  ⟨fun K => ga K "dark_row", "dark_row", "dark_row", defArgs s_dark_row, defBody s_dark_row, defScope s_dark_row, []⟩,
  ⟨fun K => ga K "is_exact", "is_exact", "is_exact", defArgs s_is_exact, defBody s_is_exact, defScope s_is_exact, []⟩,
  ⟨fun K => ga K "_law_terms_right", "_law_terms_right", "_law_terms_right", defArgs s__law_terms_right, defBody s__law_terms_right, defScope s__law_terms_right, []⟩,
  ⟨fun K => ga K "_law_sum", "_law_sum", "_law_sum", defArgs s__law_sum, defBody s__law_sum, defScope s__law_sum, []⟩,
  ⟨fun K => ga K "_law_plus", "_law_plus", "_law_plus", defArgs s__law_plus, defBody s__law_plus, defScope s__law_plus, []⟩,
  ⟨fun K => ga K "_law_atom", "_law_atom", "_law_atom", defArgs s__law_atom, defBody s__law_atom, defScope s__law_atom, []⟩,
  ⟨fun K => ga K "_law_short", "_law_short", "_law_short", defArgs s__law_short, defBody s__law_short, defScope s__law_short, []⟩,
  ⟨fun K => ga K "_law_divisor", "_law_divisor", "_law_divisor", defArgs s__law_divisor, defBody s__law_divisor, defScope s__law_divisor, []⟩,
  ⟨fun K => ga K "_law_value", "_law_value", "_law_value", defArgs s__law_value, defBody s__law_value, defScope s__law_value, []⟩,
  ⟨fun K => ga K "shortened", "shortened", "shortened", defArgs s_shortened, defBody s_shortened, defScope s_shortened, []⟩,
  ⟨fun K => ga K "is_row", "is_row", "is_row", defArgs s_is_row, defBody s_is_row, defScope s_is_row, []⟩,
  ⟨fun K => ga K "is_fact", "is_fact", "is_fact", defArgs s_is_fact, defBody s_is_fact, defScope s_is_fact, []⟩,
  ⟨fun K => ga K "quantified_sort", "quantified_sort", "quantified_sort", defArgs s_quantified_sort, defBody s_quantified_sort, defScope s_quantified_sort, []⟩,
  ⟨fun K => ga K "fact_sort", "fact_sort", "fact_sort", defArgs s_fact_sort, defBody s_fact_sort, defScope s_fact_sort, []⟩,
  ⟨fun K => ga K "array_sort", "array_sort", "array_sort", defArgs s_array_sort, defBody s_array_sort, defScope s_array_sort, []⟩,
  ⟨fun K => ga K "_law_refusals", "_law_refusals", "_law_refusals", defArgs s__law_refusals, defBody s__law_refusals, defScope s__law_refusals, []⟩,
  ⟨fun K => ga K "_law_asked", "_law_asked", "_law_asked", defArgs s__law_asked, defBody s__law_asked, defScope s__law_asked, []⟩,
  ⟨iniA "BadArguments", "__init__", "BadArguments.__init__", defArgs s_ini_BadArguments, defBody s_ini_BadArguments, defScope s_ini_BadArguments, ["__class__"]⟩,
  ⟨iniA "BadFact", "__init__", "BadFact.__init__", defArgs s_ini_BadFact, defBody s_ini_BadFact, defScope s_ini_BadFact, ["__class__"]⟩,
  ⟨iniA "BadTerm", "__init__", "BadTerm.__init__", defArgs s_ini_BadTerm, defBody s_ini_BadTerm, defScope s_ini_BadTerm, ["__class__"]⟩]
abbrev hk : PySem.W.Hook := hookM 6 fa fn
def ob (s : PySem.W.SharedT) : AlM := obsMG 6 fa fn (HandSHeadRun.getT s)
theorem ob_eq (s : PySem.W.SharedT) : ob s = hk.obs s.abs := obsMG_eq (HandSHeadRun.getT_eq s)
def names0 : List PySem.Str := ["ProvedError", "BadArguments", "BadTerm", "BadFact", "is_whole", "check_whole", "NONE", "TEXTS", "INTEGERS", "BAD", "name_sort", "atom_sort"]
def names1 : List PySem.Str := ["term_sort", "plus_times", "quantified_sort", "fact_sort", "array_sort", "is_fact", "is_row", "common_divisor", "up", "shortened", "short_row", "value_nearest"]
def names2 : List PySem.Str := ["check_pair", "pair_row", "real_row", "dark_row", "is_exact", "whole_between", "_law_pool", "_law_pick", "_law_int", "_law_plus", "_law_atom", "_law_sum"]
def names3 : List PySem.Str := ["_law_value", "_law_divisor", "_law_short", "_law_nearest", "_law_between", "_law_same", "_law_asked", "_law_refusals", "_law_number", "_law_whole_right", "_law_terms_right"]
def names : List PySem.Str := names0 ++ names1 ++ names2 ++ names3
theorem run (w : World) : HandSHeadRun.RunEqI (PySem.W.OpenLaw.row RW) (PySem.W.view (PySem.W.OpenLaw.row RW).prog [0, 56]) hk ob 6000 names w := by
  unfold HandSHeadRun.RunEqI
  kernel_rfl
theorem txt {w : World} {K : PySem.W.Frag} {h : Heap} {mg : Str → Option Value} {base : Heap} (X : K.In h) (G : h.Ns mainGlobals mg) (c : SaysM fa fn K) : Txt RW.prog w K mg base :=
  ⟨free_ok X G (c.fact 0),
   free_ok X G (c.fact 1),
   free_ok X G (c.fact 2),
   free_ok X G (c.fact 3),
   free_ok X G (c.fact 4),
   free_ok X G (c.fact 5),
   free_ok X G (c.fact 6),
   free_ok X G (c.fact 7),
   free_ok X G (c.fact 8),
   free_ok X G (c.fact 10),
   gc_ok X G (c.fact 11),
   gc_ok X G (c.fact 12),
   gc_ok X G (c.fact 13),
   gc_ok X G (c.fact 14),
   blt_ok X G (c.fact 15),
   fun_ok X G (c.fact 16) (c.fn_ 0) rfl,
   fun_ok X G (c.fact 17) (c.fn_ 1) rfl,
   fun_ok X G (c.fact 18) (c.fn_ 2) rfl,
   fun_ok X G (c.fact 19) (c.fn_ 3) rfl,
   fun_ok X G (c.fact 20) (c.fn_ 4) rfl,
   fun_ok X G (c.fact 21) (c.fn_ 5) rfl,
   fun_ok X G (c.fact 22) (c.fn_ 6) rfl,
   fun_ok X G (c.fact 23) (c.fn_ 7) rfl,
   fun_ok X G (c.fact 24) (c.fn_ 8) rfl,
   fun_ok X G (c.fact 25) (c.fn_ 9) rfl,
   fun_ok X G (c.fact 26) (c.fn_ 10) rfl,
   fun_ok X G (c.fact 27) (c.fn_ 11) rfl,
   fun_ok X G (c.fact 28) (c.fn_ 12) rfl,
   fun_ok X G (c.fact 29) (c.fn_ 13) rfl,
   fun_ok X G (c.fact 30) (c.fn_ 14) rfl,
   fun_ok X G (c.fact 31) (c.fn_ 15) rfl,
   fun_ok X G (c.fact 32) (c.fn_ 16) rfl,
   fun_ok X G (c.fact 33) (c.fn_ 17) rfl,
   fun_ok X G (c.fact 34) (c.fn_ 18) rfl,
   fun_ok X G (c.fact 35) (c.fn_ 19) rfl,
   fun_ok X G (c.fact 36) (c.fn_ 20) rfl,
   fun_ok X G (c.fact 37) (c.fn_ 21) rfl,
   fun_ok X G (c.fact 38) (c.fn_ 22) rfl,
   fun_ok X G (c.fact 39) (c.fn_ 23) rfl,
   fun_ok X G (c.fact 40) (c.fn_ 24) rfl,
   fun_ok X G (c.fact 41) (c.fn_ 25) rfl,
   fun_ok X G (c.fact 42) (c.fn_ 26) rfl,
   fun_ok X G (c.fact 43) (c.fn_ 27) rfl,
   fun_ok X G (c.fact 44) (c.fn_ 28) rfl,
   fun_ok X G (c.fact 45) (c.fn_ 29) rfl,
   fun_ok X G (c.fact 46) (c.fn_ 30) rfl,
   fun_ok X G (c.fact 47) (c.fn_ 31) rfl,
   fun_ok X G (c.fact 48) (c.fn_ 32) rfl,
   fun_ok X G (c.fact 49) (c.fn_ 33) rfl,
   funk_ok X G (c.fact 50) (c.fn_ 34) rfl,
   fun_ok X G (c.fact 51) (c.fn_ 35) rfl,
   fun_ok X G (c.fact 52) (c.fn_ 36) rfl,
   fun_ok X G (c.fact 53) (c.fn_ 37) rfl,
   fun_ok X G (c.fact 54) (c.fn_ 38) rfl,
   fun_ok X G (c.fact 55) (c.fn_ 39) rfl,
   rsb1 (self := "self") (p := "number") X G (c.fact 56) (c.fn_ 40) rfl (c.fact 9) (by kernel_rfl) rfl (fun _ => rfl) (NdefX.nscope_by (by decide +kernel)) rfl ⟨_, rfl, rfl⟩ (by decide) (by decide) (by decide) (by decide) (fun _ _ _ _ _ _ _ us hl => match us, hl with | [_, _], _ => rfl),
   rsb0 (self := "self") X G (c.fact 57) (c.fn_ 41) rfl (c.fact 9) (by kernel_rfl) rfl (fun _ => rfl) (NdefX.nscope_by (by decide +kernel)) rfl ⟨_, rfl, rfl⟩ (fun _ _ _ _ _ _ _ us hl => match us, hl with | [_], _ => rfl),
   rsb0 (self := "self") X G (c.fact 58) (c.fn_ 42) rfl (c.fact 9) (by kernel_rfl) rfl (fun _ => rfl) (NdefX.nscope_by (by decide +kernel)) rfl ⟨_, rfl, rfl⟩ (fun _ _ _ _ _ _ _ us hl => match us, hl with | [_], _ => rfl),
   exkB_ok X G (c.fact 59),
   exkB_ok X G (c.fact 60),
   exkB_ok X G (c.fact 61),
   xfkB_ok X G (c.fact 62)⟩
theorem facts {w : World} {K : PySem.W.Frag} {h : Heap} {mg : Str → Option Value} {f : Addr} (X : K.In h) (G : h.Ns mainGlobals mg) (hfa : mg ("law" : Str) = some (.ref f)) (c : SaysM fa fn K) :
    ∃ fd : FuncData, (∀ (s : Shared) (v : Value), BindsTo s fd ⟨[v], []⟩ [(("script" : Str), v)]) ∧ ∀ base : Heap, FnOk RW.prog w K mg base (L2.CX RW.prog w) 33 f fd ["script"] (spM K mg M_law) := by
  obtain ⟨f0, fd, F, hm⟩ := (txt (w := w) (base := h) X G c).d_law.ex
  rw [hfa] at hm
  cases hm
  have b := FunD.bindsA (ps := ["script"]) F fun _ _ _ _ _ _ us hl => match us, hl with | [_], _ => rfl
  exact ⟨fd, fun s v => b s [v] rfl, fun base => Mi.fn_ok F sc_law (b_law (txt X G c))⟩

end K26

namespace K26
open PySem PySem.Spec L2 Mi
theorem e_ltD {S : Sto} {a b : Int} : fLtD (.int a) (.int b) S = some (.bl (decide (a < b)), S) := (rfl)
theorem kTu0 {S : Sto} : kTup [] S = .ok (.tup []) S := kTup_ (by rw [sizeLine_eq]; simp)
end K26

namespace K26
open PySem PySem.Spec L2 Mi
theorem last0 {S : Sto} {x : MO} : (S ++ [x])[S.length]? = some x := by simp
inductive Al {α β : Type} (R : α → β → Prop) : List α → List β → Prop where
  | nil : Al R [] []
  | cons {a : α} {b : β} {as : List α} {bs : List β} : R a b → Al R as bs → Al R (a :: as) (b :: bs)
theorem get_app {T X : Sto} {q : Nat} {o : MO} (h : T[q]? = some o) : (T ++ X)[q]? = some o := by
  have : q < T.length := by
    rcases Nat.lt_or_ge q T.length with z | z
    · exact z
    · rw [List.getElem?_eq_none z] at h; cases h
  rw [List.getElem?_append_left this]; exact h
theorem e_ix0 {S : Sto} {i : Nat} {d : D} {r : List D} (h : S[i]? = some (.lst (d :: r))) : fIx (.obj i) (.int 0) S = some (d, S) := e_ixL (k := 0) h rfl
theorem e_ix1 {S : Sto} {i : Nat} {d0 d : D} {r : List D} (h : S[i]? = some (.lst (d0 :: d :: r))) : fIx (.obj i) (.int 1) S = some (d, S) := e_ixL (k := 1) h rfl
theorem e_ix2 {S : Sto} {i : Nat} {d0 d1 d : D} {r : List D} (h : S[i]? = some (.lst (d0 :: d1 :: d :: r))) : fIx (.obj i) (.int 2) S = some (d, S) := e_ixL (k := 2) h rfl
theorem e_t0 {S : Sto} {a : D} {r : List D} : fIx (.tup (a :: r)) (.int 0) S = some (a, S) := e_ixT (k := 0) rfl
theorem e_t1 {S : Sto} {a b : D} {r : List D} : fIx (.tup (a :: b :: r)) (.int 1) S = some (b, S) := e_ixT (k := 1) rfl
theorem e_t2 {S : Sto} {a b c : D} {r : List D} : fIx (.tup (a :: b :: c :: r)) (.int 2) S = some (c, S) := e_ixT (k := 2) rfl
def PoolOk (S : Sto) (j : Nat) : Prop := ∃ ps : List Int, S[j]? = some (.lst (ps.map D.int)) ∧ ∀ p ∈ ps, 0 ≤ p
/-- S' behind S: all but the pool stands -/
structure Stp (j : Nat) (S S' : Sto) : Prop where
  len : S.length ≤ S'.length
  old : ∀ i, i ≠ j → i < S.length → S'[i]? = S[i]?
  pool : PoolOk S' j
theorem Stp.trans {j : Nat} {S S1 S2 : Sto} (a : Stp j S S1) (b : Stp j S1 S2) : Stp j S S2 := ⟨Nat.le_trans a.len b.len, fun i h1 h2 => (b.old i h1 (Nat.lt_of_lt_of_le h2 a.len)).trans (a.old i h1 h2), b.pool⟩
theorem get_lt {S : Sto} {i : Nat} {o : MO} (h : S[i]? = some o) : i < S.length := by
  rcases Nat.lt_or_ge i S.length with z | z
  · exact z
  · rw [List.getElem?_eq_none z] at h; cases h
theorem PoolOk.lt {S : Sto} {j : Nat} (h : PoolOk S j) : j < S.length := by obtain ⟨ps, h1, _⟩ := h; exact get_lt h1
theorem Stp.app {j : Nat} {S X : Sto} (h : PoolOk S j) : Stp j S (S ++ X) := by
  refine ⟨by simp, fun i _ hi => List.getElem?_append_left hi, ?_⟩
  obtain ⟨ps, h1, h2⟩ := h
  exact ⟨ps, get_app h1, h2⟩
theorem Stp.get {j i : Nat} {S S' : Sto} {o : MO} (a : Stp j S S') (h : S[i]? = some o) (hi : i ≠ j) : S'[i]? = some o := by rw [a.old i hi (get_lt h)]; exact h
theorem pick {S : Sto} {j m : Nat} (h : PoolOk S j) (hm : 0 < m) : ∃ (w : Nat) (S' : Sto), M__law_pick [.obj j, .int (m : Int)] S = .ok (nD w) S' ∧ w < m ∧ Stp j S S' ∧ S'.length = S.length := by
  obtain ⟨ps, h1, h2⟩ := h
  unfold M__law_pick mFn B__law_pick
  simp only [List.length_cons, List.length_nil, Nat.reduceAdd, if_true, List.map, List.replicate, List.cons_append, List.nil_append, Nat.reduceSub]
  rcases List.eq_nil_or_concat ps with rfl | ⟨qs, p, rfl⟩
  · refine ⟨0, S, ?_, hm, ⟨Nat.le_refl _, fun _ _ _ => rfl, [], h1, h2⟩, rfl⟩
    have hl : fLen (.obj j) S = some (.int (([] : List D).length : Int), S) := e_lenL h1
    simp only [bind_ok, bind_ex, of_some, rs_ok, rs_ex, then_nx, then_rt, then_ex, then_bk, then_ct, mV0, mVs, mC_, m2_, m1_, mB_, kB_bl, mB1_, mNil_, mCons_, f1L_, f2L_, mTup_, mLst_, mCall_, mNotT_, mAndT_, mOrT_, mIf_, mAndV_, mOrV_, mNotV_, kAndV_bl, kOrV_bl, kNotV_bl, mSl_, mPart_, kPart_, mNoPart_, sSeq_, sSet_, sRet_, sIf_, sExpr_, sNil_, sBreak_, sCont_, e_lt, e_ltD, e_le, e_gt, e_ge, e_eqI, e_neI, e_eqS, e_neS, e_add, e_sub, List.set_cons_zero, List.set_cons_succ, kTu0, kTu1, kTu2, kTu3, kTu4, kTu5, kLs0, kLs1, kLs2, kLs3, kLs4, kLs5, mM_, mM0_, sAsg_, sFor_, iRng_, iSeq_, hl]
    rfl
  · rw [List.concat_eq_append] at h1 h2
    have hp : 0 ≤ p := h2 p (by simp)
    have hl : fLen (.obj j) S = some (.int (((qs ++ [p]).map D.int).length : Int), S) := e_lenL h1
    have hne : decide ((((qs ++ [p]).map D.int).length : Int) = 0) = false := decide_eq_false (by simp; omega)
    have hpop : fPop (.obj j) [] S = some (.int p, S.set j (.lst (qs.map D.int))) := by
      unfold fPop
      simp only [h1]
      simp
    have hlt := get_lt h1
    have hmod : ∀ S : Sto, fMod (.int p) (.int (m : Int)) S = some (nD (p.toNat % m), S) := fun S => by
      unfold fMod
      dsimp only
      rw [if_pos (by omega)]
      have : p % (m : Int) = ((p.toNat % m : Nat) : Int) := by
        have e : p = (p.toNat : Int) := by omega
        rw [e]; simp
      rw [this]
    have hint : ∀ S : Sto, fInt (.int p) S = some (.int p, S) := fun _ => rfl
    refine ⟨p.toNat % m, S.set j (.lst (qs.map D.int)), ?_, Nat.mod_lt _ hm, ⟨by simp, fun i hi _ => List.getElem?_set_ne (Ne.symm hi), qs, List.getElem?_set_self hlt, fun q hq => h2 q (by simp [hq])⟩, by simp⟩
    simp only [bind_ok, bind_ex, of_some, rs_ok, rs_ex, then_nx, then_rt, then_ex, then_bk, then_ct, mV0, mVs, mC_, m2_, m1_, mB_, kB_bl, mB1_, mNil_, mCons_, f1L_, f2L_, mTup_, mLst_, mCall_, mNotT_, mAndT_, mOrT_, mIf_, mAndV_, mOrV_, mNotV_, kAndV_bl, kOrV_bl, kNotV_bl, mSl_, mPart_, kPart_, mNoPart_, sSeq_, sSet_, sRet_, sIf_, sExpr_, sNil_, sBreak_, sCont_, e_lt, e_ltD, e_le, e_gt, e_ge, e_eqI, e_neI, e_eqS, e_neS, e_add, e_sub, List.set_cons_zero, List.set_cons_succ, kTu0, kTu1, kTu2, kTu3, kTu4, kTu5, kLs0, kLs1, kLs2, kLs3, kLs4, kLs5, mM_, mM0_, sAsg_, sFor_, iRng_, iSeq_, hl, hne, Bool.false_eq_true, if_false, tyL h1, if_true, hpop, hint, hmod]
    rfl
theorem lst_at {S : Sto} {j : Nat} {ds : List D} (h : S[j]? = some (.lst ds)) : lstAt S j = some ds := by unfold lstAt; rw [h]
theorem stp_refl {j : Nat} {S : Sto} (h : PoolOk S j) : Stp j S S := ⟨Nat.le_refl _, fun _ _ _ => rfl, h⟩
theorem Stp.put {p j : Nat} {S0 S : Sto} {x : MO} (h : Stp p S0 S) (hj : S0.length ≤ j) (hp : p < j) : Stp p S0 (S.set j x) := by
  refine ⟨by rw [List.length_set]; exact h.len, fun i h1 h2 => ?_, ?_⟩
  · rw [List.getElem?_set_ne (by omega)]; exact h.old i h1 h2
  · obtain ⟨ps, h1, h2⟩ := h.pool
    exact ⟨ps, by rw [List.getElem?_set_ne (by omega)]; exact h1, h2⟩
theorem fr_out {lo : Int} {n : Nat} {S : Sto} : (itRng lo n).f n S = some none := by
  show (if n < n then _ else _) = _
  rw [if_neg (by omega)]
theorem get_lt2 {α : Type} {l : List α} {i : Nat} {x : α} (h : l[i]? = some x) : i < l.length := by
  rcases Nat.lt_or_ge i l.length with z | z
  · exact z
  · rw [List.getElem?_eq_none z] at h; cases h
theorem log_small {a : Int} (h : a.natAbs < 2 ^ 100) : a.natAbs.log2 < 400 := by
  by_cases h0 : a.natAbs = 0
  · rw [h0]; decide
  · have := (Nat.log2_lt h0 (k := 100)).mpr h
    omega
theorem e_mul {S : Sto} {a b : Int} (ha : a.natAbs < 2 ^ 100) (hb : b.natAbs < 2 ^ 100) : fMulA (.int a) (.int b) S = some (.int (a * b), S) := by
  show fMul (.int a) (.int b) S = _
  unfold fMul
  dsimp only
  rw [if_pos (by have := log_small ha; have := log_small hb; omega)]
theorem e_mod {S : Sto} {a b : Int} (hb : 0 < b) : fMod (.int a) (.int b) S = some (.int (a % b), S) := by
  unfold fMod; dsimp only; rw [if_pos hb]
theorem e_div {S : Sto} {a b : Int} (hb : 0 < b ∧ b.natAbs.log2 < 9000) : fDiv (.int a) (.int b) S = some (.int (a / b), S) := by
  unfold fDiv; dsimp only; rw [if_pos hb]
theorem e_int {S : Sto} {a : Int} : fInt (.int a) S = some (.int a, S) := (rfl)
def pS (ns : List Int) (ps : List Int) : Sto := [.fix (ns.map D.int), .lst (ps.map D.int)]
theorem pS1 {ns ps : List Int} : (pS ns ps)[1]? = some (.lst (ps.map D.int)) := rfl
theorem pS_app {ns ps : List Int} {p : Int} (h : ps.length < 100000) : fAppend (.obj 1) [.int p] (pS ns ps) = some (.non, pS ns (ps ++ [p])) := by
  rw [e_append pS1 (by rw [List.length_map, sizeLine_eq]; omega)]
  simp [pS]
def B1 : MS := (sIf (mB (m2 fGt (mV 3) (mC (.int 0))))
  (sSeq (sExpr (mM "list" fAppend (mV 1) (mCons (m2 fMod (mB1 (f1L fInt) (mCons (mV 3) mNil)) (mC (.int 30))) mNil)))
  (sSet 3 (m2 fDiv (mV 3) (mC (.int 30)))))
  sNil)
theorem pl1 (ns : List Int) (x0 x2 x5 : Option D) : ∀ (k i n : Nat) (cell : Int) (ps : List Int) (z : Option D), n = i + k → 0 ≤ cell → ps.length + k ≤ 50000 → (∀ p ∈ ps, 0 ≤ p) → ∃ (ps' : List Int) (cell' : Int) (z' : Option D),
    forI (itRng 0 n) (gN 4) B1 k i [x0, some (.obj 1), x2, some (.int cell), z, x5] (pS ns ps) = .nx [x0, some (.obj 1), x2, some (.int cell'), z', x5] (pS ns ps') ∧ (∀ p ∈ ps', 0 ≤ p) ∧ ps'.length ≤ ps.length + k
  | 0, i, n, cell, ps, z, hn, hc, hl, hp => by
    have : n = i := by omega
    subst this
    exact ⟨ps, cell, z, by rw [fr_end], hp, by omega⟩
  | k + 1, i, n, cell, ps, z, hn, hc, hl, hp => by
    by_cases h : 0 < cell
    · have d : decide (0 < cell) = true := decide_eq_true h
      obtain ⟨ps', cell', z', q1, q2, q3⟩ := pl1 ns x0 x2 x5 k (i + 1) n (cell / 30) (ps ++ [cell % 30]) (some (.int (0 + (i : Int)))) (by omega) (by omega) (by simp; omega) (fun p hpm => by
        rcases List.mem_append.mp hpm with hpm | hpm
        · exact hp p hpm
        · rw [List.mem_singleton.mp hpm]; omega)
      refine ⟨ps', cell', z', ?_, q2, by simp at q3; omega⟩
      rw [fr_nx (by omega) (env2 := [x0, some (.obj 1), x2, some (.int (cell / 30)), some (.int (0 + (i : Int))), x5]) (S2 := pS ns (ps ++ [cell % 30])) ?_, q1]
      unfold B1
      simp only [bind_ok, bind_ex, of_some, rs_ok, rs_ex, then_nx, then_rt, then_ex, then_bk, then_ct, mV0, mVs, mC_, m2_, m1_, mB_, kB_bl, mB1_, mNil_, mCons_, f1L_, f2L_, mTup_, mLst_, mCall_, mNotT_, mAndT_, mOrT_, mIf_, mAndV_, mOrV_, mNotV_, kAndV_bl, kOrV_bl, kNotV_bl, mSl_, mPart_, kPart_, mNoPart_, sSeq_, sSet_, sRet_, sIf_, sExpr_, sNil_, sBreak_, sCont_, e_lt, e_ltD, e_le, e_gt, e_ge, e_eqI, e_neI, e_eqS, e_neS, e_add, e_sub, List.set_cons_zero, List.set_cons_succ, kTu0, kTu1, kTu2, kTu3, kTu4, kTu5, kLs0, kLs1, kLs2, kLs3, kLs4, kLs5, mM_, mM0_, sAsg_, sFor_, iRng_, iSeq_, d, if_true, tyL pS1, e_int, e_mod (show (0 : Int) < 30 by decide), pS_app (show ps.length < 100000 by omega), e_div (show (0 : Int) < 30 ∧ (30 : Int).natAbs.log2 < 9000 by decide)]
    · have d : decide (0 < cell) = false := decide_eq_false h
      obtain ⟨ps', cell', z', q1, q2, q3⟩ := pl1 ns x0 x2 x5 k (i + 1) n cell ps (some (.int (0 + (i : Int)))) (by omega) hc (by omega) hp
      refine ⟨ps', cell', z', ?_, q2, by omega⟩
      rw [fr_nx (by omega) (env2 := [x0, some (.obj 1), x2, some (.int cell), some (.int (0 + (i : Int))), x5]) (S2 := pS ns ps) ?_, q1]
      unfold B1
      simp only [bind_ok, bind_ex, of_some, rs_ok, rs_ex, then_nx, then_rt, then_ex, then_bk, then_ct, mV0, mVs, mC_, m2_, m1_, mB_, kB_bl, mB1_, mNil_, mCons_, f1L_, f2L_, mTup_, mLst_, mCall_, mNotT_, mAndT_, mOrT_, mIf_, mAndV_, mOrV_, mNotV_, kAndV_bl, kOrV_bl, kNotV_bl, mSl_, mPart_, kPart_, mNoPart_, sSeq_, sSet_, sRet_, sIf_, sExpr_, sNil_, sBreak_, sCont_, e_lt, e_ltD, e_le, e_gt, e_ge, e_eqI, e_neI, e_eqS, e_neS, e_add, e_sub, List.set_cons_zero, List.set_cons_succ, kTu0, kTu1, kTu2, kTu3, kTu4, kTu5, kLs0, kLs1, kLs2, kLs3, kLs4, kLs5, mM_, mM0_, sAsg_, sFor_, iRng_, iSeq_, d, Bool.false_eq_true, if_false]
def B2 : MS := (sSeq (sSet 5 (m2 fMod (mB1 (f1L fInt) (mCons (m2 fAdd (m2 fAdd (m2 fAdd (m2 fMulA (mV 5) (mV 5)) (m2 fMulA (mV 4) (mC (.int 7919)))) (mV 2)) (mC (.int 11))) mNil)) (mC (.int 998244353))))
  (sExpr (mM "list" fAppend (mV 1) (mCons (m2 fDiv (mV 5) (mC (.int 13))) mNil))))
theorem pl2 (ns : List Int) (x0 x3 : Option D) (pl : Int) (hpl : 0 ≤ pl ∧ pl < 1000) : ∀ (k i n : Nat) (mx : Int) (ps : List Int) (z : Option D), n = i + k → n ≤ 1000 → 0 ≤ mx ∧ mx < 2000000000 → ps.length + k ≤ 50000 → (∀ p ∈ ps, 0 ≤ p) → ∃ (ps' : List Int) (mx' : Int) (z' : Option D),
    forI (itRng 0 n) (gN 4) B2 k i [x0, some (.obj 1), some (.int pl), x3, z, some (.int mx)] (pS ns ps) = .nx [x0, some (.obj 1), some (.int pl), x3, z', some (.int mx')] (pS ns ps') ∧ (∀ p ∈ ps', 0 ≤ p) ∧ ps'.length ≤ ps.length + k
  | 0, i, n, mx, ps, z, hn, h1, hm, hl, hp => by
    have : n = i := by omega
    subst this
    exact ⟨ps, mx, z, by rw [fr_end], hp, by omega⟩
  | k + 1, i, n, mx, ps, z, hn, h1, hm, hl, hp => by
    generalize hM : (mx * mx + (0 + (i : Int)) * 7919 + pl + 11) % 998244353 = M
    have hM1 : 0 ≤ M ∧ M < 998244353 := by omega
    obtain ⟨ps', mx', z', q1, q2, q3⟩ := pl2 ns x0 x3 pl hpl k (i + 1) n M (ps ++ [M / 13]) (some (.int (0 + (i : Int)))) (by omega) h1 (by omega) (by simp; omega) (fun p hpm => by
      rcases List.mem_append.mp hpm with hpm | hpm
      · exact hp p hpm
      · rw [List.mem_singleton.mp hpm]; omega)
    refine ⟨ps', mx', z', ?_, q2, by simp at q3; omega⟩
    have b1 : mx.natAbs < 2 ^ 100 := by have : (2 : Nat) ^ 100 = 1267650600228229401496703205376 := by decide
                                        omega
    have b2 : (0 + (i : Int)).natAbs < 2 ^ 100 := by have : (2 : Nat) ^ 100 = 1267650600228229401496703205376 := by decide
                                                     omega
    rw [fr_nx (by omega) (env2 := [x0, some (.obj 1), some (.int pl), x3, some (.int (0 + (i : Int))), some (.int M)]) (S2 := pS ns (ps ++ [M / 13])) ?_, q1]
    unfold B2
    simp only [bind_ok, bind_ex, of_some, rs_ok, rs_ex, then_nx, then_rt, then_ex, then_bk, then_ct, mV0, mVs, mC_, m2_, m1_, mB_, kB_bl, mB1_, mNil_, mCons_, f1L_, f2L_, mTup_, mLst_, mCall_, mNotT_, mAndT_, mOrT_, mIf_, mAndV_, mOrV_, mNotV_, kAndV_bl, kOrV_bl, kNotV_bl, mSl_, mPart_, kPart_, mNoPart_, sSeq_, sSet_, sRet_, sIf_, sExpr_, sNil_, sBreak_, sCont_, e_lt, e_ltD, e_le, e_gt, e_ge, e_eqI, e_neI, e_eqS, e_neS, e_add, e_sub, List.set_cons_zero, List.set_cons_succ, kTu0, kTu1, kTu2, kTu3, kTu4, kTu5, kLs0, kLs1, kLs2, kLs3, kLs4, kLs5, mM_, mM0_, sAsg_, sFor_, iRng_, iSeq_, e_mul b1 b1, e_mul b2 (show (7919 : Int).natAbs < 2 ^ 100 by decide), e_int, e_mod (show (0 : Int) < 998244353 by decide), hM, tyL pS1, if_true, pS_app (show ps.length < 100000 by omega), e_div (show (0 : Int) < 13 ∧ (13 : Int).natAbs.log2 < 9000 by decide)]
def B0 : MS := (sSeq (sSet 3 (mB1 (f1L fInt) (mCons (m2 fIx (mV 0) (mV 2)) mNil)))
  (sSeq (sIf (mB (m2 fLtD (mV 3) (mC (.int 0))))
  (sSet 3 (m2 fSub (mC (.int 3)) (mV 3)))
  sNil)
  (sIf (mB (m2 fGe (mV 3) (m2 fPow (mC (.int 10)) (mC (.int 18)))))
  (sFor (iRng (mCons (mC (.int 48)) mNil)) (gN 4) B1)
  (sSeq (sSet 5 (m2 fMod (mB1 (f1L fInt) (mCons (m2 fAdd (m2 fAdd (m2 fMulA (mV 3) (mC (.int 50021))) (m2 fMulA (mV 2) (mC (.int 30011)))) (mC (.int 17))) mNil)) (mC (.int 1000000007))))
  (sFor (iRng (mCons (mC (.int 5)) mNil)) (gN 4) B2)))))
theorem e_pow {S : Sto} : fPow (.int 10) (.int 18) S = some (.int 1000000000000000000, S) := by
  unfold fPow
  dsimp only
  rw [if_pos (by decide)]
  rfl
theorem pool_step (ns : List Int) (i : Nat) (hi : i < ns.length) (hi2 : i < 63) (x3 x4 x5 : Option D) (ps : List Int) (hl : ps.length ≤ 40000) (hp : ∀ p ∈ ps, 0 ≤ p) : ∃ (ps' : List Int) (y3 y4 y5 : Option D),
    B0 [some (.obj 0), some (.obj 1), some (.int (0 + (i : Int))), x3, x4, x5] (pS ns ps) = .nx [some (.obj 0), some (.obj 1), some (.int (0 + (i : Int))), y3, y4, y5] (pS ns ps') ∧ (∀ p ∈ ps', 0 ≤ p) ∧ ps'.length ≤ ps.length + 48 := by
  have hix : fIx (.obj 0) (.int (0 + (i : Int))) (pS ns ps) = some (.int ns[i], pS ns ps) := by
    rw [Int.zero_add]
    unfold fIx lstAt
    show (some (ns.map D.int)).bind _ = _
    show Option.map _ (atI (ns.map D.int) (i : Int)) = _
    unfold atI
    rw [ixN_nat (by simpa using hi)]
    simp [hi]
  have en : ∀ n : Nat, (itRng 0 n).n = n := fun _ => (rfl)
  have r48 : kRngI [.int 48] (pS ns ps) = .ok (itRng 0 48) (pS ns ps) := kRng1 (by decide)
  have r5 : kRngI [.int 5] (pS ns ps) = .ok (itRng 0 5) (pS ns ps) := kRng1 (by decide)
  -- from the cell on
  have rest : ∀ cell : Int, 0 ≤ cell → ∃ (ps' : List Int) (y3 y4 y5 : Option D),
      (sIf (mB (m2 fGe (mV 3) (m2 fPow (mC (.int 10)) (mC (.int 18)))))
  (sFor (iRng (mCons (mC (.int 48)) mNil)) (gN 4) B1)
  (sSeq (sSet 5 (m2 fMod (mB1 (f1L fInt) (mCons (m2 fAdd (m2 fAdd (m2 fMulA (mV 3) (mC (.int 50021))) (m2 fMulA (mV 2) (mC (.int 30011)))) (mC (.int 17))) mNil)) (mC (.int 1000000007))))
  (sFor (iRng (mCons (mC (.int 5)) mNil)) (gN 4) B2))) [some (.obj 0), some (.obj 1), some (.int (0 + (i : Int))), some (.int cell), x4, x5] (pS ns ps) = .nx [some (.obj 0), some (.obj 1), some (.int (0 + (i : Int))), y3, y4, y5] (pS ns ps') ∧ (∀ p ∈ ps', 0 ≤ p) ∧ ps'.length ≤ ps.length + 48 := fun cell hc => by
    by_cases h : 1000000000000000000 ≤ cell
    · have d : decide ((1000000000000000000 : Int) ≤ cell) = true := decide_eq_true h
      obtain ⟨ps', cell', z', q1, q2, q3⟩ := pl1 ns (some (.obj 0)) (some (.int (0 + (i : Int)))) x5 48 0 48 cell ps x4 (by omega) hc (by omega) hp
      refine ⟨ps', some (.int cell'), z', x5, ?_, q2, q3⟩
      simp only [bind_ok, bind_ex, of_some, rs_ok, rs_ex, then_nx, then_rt, then_ex, then_bk, then_ct, mV0, mVs, mC_, m2_, m1_, mB_, kB_bl, mB1_, mNil_, mCons_, f1L_, f2L_, mTup_, mLst_, mCall_, mNotT_, mAndT_, mOrT_, mIf_, mAndV_, mOrV_, mNotV_, kAndV_bl, kOrV_bl, kNotV_bl, mSl_, mPart_, kPart_, mNoPart_, sSeq_, sSet_, sRet_, sIf_, sExpr_, sNil_, sBreak_, sCont_, e_lt, e_ltD, e_le, e_gt, e_ge, e_eqI, e_neI, e_eqS, e_neS, e_add, e_sub, List.set_cons_zero, List.set_cons_succ, kTu0, kTu1, kTu2, kTu3, kTu4, kTu5, kLs0, kLs1, kLs2, kLs3, kLs4, kLs5, mM_, mM0_, sAsg_, sFor_, iRng_, iSeq_, e_pow, d, if_true, r48, en, q1]
    · have d : decide ((1000000000000000000 : Int) ≤ cell) = false := decide_eq_false h
      have b1 : cell.natAbs < 2 ^ 100 := by have : (2 : Nat) ^ 100 = 1267650600228229401496703205376 := by decide
                                            omega
      have b2 : (0 + (i : Int)).natAbs < 2 ^ 100 := by have : (2 : Nat) ^ 100 = 1267650600228229401496703205376 := by decide
                                                       omega
      generalize hM : (cell * 50021 + (0 + (i : Int)) * 30011 + 17) % 1000000007 = M
      have hM1 : 0 ≤ M ∧ M < 2000000000 := by omega
      obtain ⟨ps', mx', z', q1, q2, q3⟩ := pl2 ns (some (.obj 0)) (some (.int cell)) (0 + (i : Int)) (by omega) 5 0 5 M ps x4 (by omega) (by omega) hM1 (by omega) hp
      refine ⟨ps', some (.int cell), z', some (.int mx'), ?_, q2, by omega⟩
      simp only [bind_ok, bind_ex, of_some, rs_ok, rs_ex, then_nx, then_rt, then_ex, then_bk, then_ct, mV0, mVs, mC_, m2_, m1_, mB_, kB_bl, mB1_, mNil_, mCons_, f1L_, f2L_, mTup_, mLst_, mCall_, mNotT_, mAndT_, mOrT_, mIf_, mAndV_, mOrV_, mNotV_, kAndV_bl, kOrV_bl, kNotV_bl, mSl_, mPart_, kPart_, mNoPart_, sSeq_, sSet_, sRet_, sIf_, sExpr_, sNil_, sBreak_, sCont_, e_lt, e_ltD, e_le, e_gt, e_ge, e_eqI, e_neI, e_eqS, e_neS, e_add, e_sub, List.set_cons_zero, List.set_cons_succ, kTu0, kTu1, kTu2, kTu3, kTu4, kTu5, kLs0, kLs1, kLs2, kLs3, kLs4, kLs5, mM_, mM0_, sAsg_, sFor_, iRng_, iSeq_, e_pow, d, Bool.false_eq_true, if_false, e_mul b1 (show (50021 : Int).natAbs < 2 ^ 100 by decide), e_mul b2 (show (30011 : Int).natAbs < 2 ^ 100 by decide), e_int, e_mod (show (0 : Int) < 1000000007 by decide), hM, r5, en, q1]
  by_cases hneg : ns[i] < 0
  · have d : decide (ns[i] < 0) = true := decide_eq_true hneg
    obtain ⟨ps', y3, y4, y5, q1, q2, q3⟩ := rest (3 - ns[i]) (by omega)
    refine ⟨ps', y3, y4, y5, ?_, q2, q3⟩
    rw [← q1]
    unfold B0
    simp only [bind_ok, bind_ex, of_some, rs_ok, rs_ex, then_nx, then_rt, then_ex, then_bk, then_ct, mV0, mVs, mC_, m2_, m1_, mB_, kB_bl, mB1_, mNil_, mCons_, f1L_, f2L_, mTup_, mLst_, mCall_, mNotT_, mAndT_, mOrT_, mIf_, mAndV_, mOrV_, mNotV_, kAndV_bl, kOrV_bl, kNotV_bl, mSl_, mPart_, kPart_, mNoPart_, sSeq_, sSet_, sRet_, sIf_, sExpr_, sNil_, sBreak_, sCont_, e_lt, e_ltD, e_le, e_gt, e_ge, e_eqI, e_neI, e_eqS, e_neS, e_add, e_sub, List.set_cons_zero, List.set_cons_succ, kTu0, kTu1, kTu2, kTu3, kTu4, kTu5, kLs0, kLs1, kLs2, kLs3, kLs4, kLs5, mM_, mM0_, sAsg_, sFor_, iRng_, iSeq_, hix, e_int, d, if_true]
  · have d : decide (ns[i] < 0) = false := decide_eq_false hneg
    obtain ⟨ps', y3, y4, y5, q1, q2, q3⟩ := rest ns[i] (by omega)
    refine ⟨ps', y3, y4, y5, ?_, q2, q3⟩
    rw [← q1]
    unfold B0
    simp only [bind_ok, bind_ex, of_some, rs_ok, rs_ex, then_nx, then_rt, then_ex, then_bk, then_ct, mV0, mVs, mC_, m2_, m1_, mB_, kB_bl, mB1_, mNil_, mCons_, f1L_, f2L_, mTup_, mLst_, mCall_, mNotT_, mAndT_, mOrT_, mIf_, mAndV_, mOrV_, mNotV_, kAndV_bl, kOrV_bl, kNotV_bl, mSl_, mPart_, kPart_, mNoPart_, sSeq_, sSet_, sRet_, sIf_, sExpr_, sNil_, sBreak_, sCont_, e_lt, e_ltD, e_le, e_gt, e_ge, e_eqI, e_neI, e_eqS, e_neS, e_add, e_sub, List.set_cons_zero, List.set_cons_succ, kTu0, kTu1, kTu2, kTu3, kTu4, kTu5, kLs0, kLs1, kLs2, kLs3, kLs4, kLs5, mM_, mM0_, sAsg_, sFor_, iRng_, iSeq_, hix, e_int, d, Bool.false_eq_true, if_false]
theorem pool_loop (ns : List Int) : ∀ (k i n : Nat) (ps : List Int) (x2 x3 x4 x5 : Option D), n = i + k → n ≤ ns.length → n ≤ 63 → ps.length ≤ 48 * i → (∀ p ∈ ps, 0 ≤ p) → ∃ (ps' : List Int) (y2 y3 y4 y5 : Option D),
    forI (itRng 0 n) (gN 2) B0 k i [some (.obj 0), some (.obj 1), x2, x3, x4, x5] (pS ns ps) = .nx [some (.obj 0), some (.obj 1), y2, y3, y4, y5] (pS ns ps') ∧ (∀ p ∈ ps', 0 ≤ p)
  | 0, i, n, ps, x2, x3, x4, x5, hn, h1, h2, hl, hp => by
    have : n = i := by omega
    subst this
    exact ⟨ps, x2, x3, x4, x5, by rw [fr_end], hp⟩
  | k + 1, i, n, ps, x2, x3, x4, x5, hn, h1, h2, hl, hp => by
    obtain ⟨ps1, y3, y4, y5, q1, q2, q3⟩ := pool_step ns i (by omega) (by omega) x3 x4 x5 ps (by omega) hp
    obtain ⟨ps', z2, z3, z4, z5, r1, r2⟩ := pool_loop ns k (i + 1) n ps1 (some (.int (0 + (i : Int)))) y3 y4 y5 (by omega) h1 h2 (by omega) q2
    refine ⟨ps', z2, z3, z4, z5, ?_, r2⟩
    rw [fr_nx (by omega) q1, r1]
theorem pool (ns : List Int) (hn : ns.length ≤ 63) : ∃ S' : Sto, M__law_pool [.obj 0] (script0 ns) = .ok (.obj 1) S' ∧ PoolOk S' 1 := by
  have en : ∀ n : Nat, (itRng 0 n).n = n := fun _ => (rfl)
  have hlen : ∀ S : Sto, fLen (.obj 0) (.fix (ns.map D.int) :: S) = some (.int (ns.length : Int), .fix (ns.map D.int) :: S) := fun S => by
    show some (D.int ((ns.map D.int).length : Int), _) = _
    rw [List.length_map]
  have hmin : ∀ S : Sto, fMin2 (.int (ns.length : Int)) (.int 63) S = some (.int (ns.length : Int), S) := fun S => by
    show some (D.int (if (63 : Int) < (ns.length : Int) then 63 else (ns.length : Int)), S) = _
    rw [if_neg (by omega)]
  have hr : ∀ S : Sto, kRngI [.int (ns.length : Int)] S = .ok (itRng 0 ns.length) S := fun S => by
    rw [kRng1 (by omega), Int.toNat_natCast]
  obtain ⟨ps, y2, y3, y4, y5, q1, q2⟩ := pool_loop ns ns.length 0 ns.length [] none none none none (by omega) (Nat.le_refl _) hn (by simp) (fun p h => by cases h)
  have e0 : pS ns [] = [.fix (ns.map D.int), .lst []] := rfl
  rw [e0] at q1
  have hrev : fReverse (.obj 1) [] (pS ns ps) = some (.non, pS ns ps.reverse) := by
    unfold fReverse
    simp only [pS1]
    simp [pS]
  refine ⟨pS ns ps.reverse, ?_, ps.reverse, rfl, fun p hp => q2 p (List.mem_reverse.mp hp)⟩
  unfold script0 M__law_pool mFn B__law_pool
  unfold B0 B1 B2 at q1
  simp only [List.length_cons, List.length_nil, Nat.reduceAdd, if_true, List.map_cons, List.map_nil, List.replicate, List.cons_append, List.nil_append, Nat.reduceSub]
  simp only [bind_ok, bind_ex, of_some, rs_ok, rs_ex, then_nx, then_rt, then_ex, then_bk, then_ct, mV0, mVs, mC_, m2_, m1_, mB_, kB_bl, mB1_, mNil_, mCons_, f1L_, f2L_, mTup_, mLst_, mCall_, mNotT_, mAndT_, mOrT_, mIf_, mAndV_, mOrV_, mNotV_, kAndV_bl, kOrV_bl, kNotV_bl, mSl_, mPart_, kPart_, mNoPart_, sSeq_, sSet_, sRet_, sIf_, sExpr_, sNil_, sBreak_, sCont_, e_lt, e_ltD, e_le, e_gt, e_ge, e_eqI, e_neI, e_eqS, e_neS, e_add, e_sub, List.set_cons_zero, List.set_cons_succ, kTu0, kTu1, kTu2, kTu3, kTu4, kTu5, kLs0, kLs1, kLs2, kLs3, kLs4, kLs5, mM_, mM0_, sAsg_, sFor_, iRng_, iSeq_, List.cons_append, List.nil_append, hlen, hmin, hr, en, q1, tyL pS1, if_true, hrev, List.length_cons, List.length_nil]
  rfl
theorem mLc_ {a : MI} {g : MG} {t : MT} {e : ME} {vs : List Nat} {env : Mi.Env} {S : Sto} : mLc a g t e vs env S = (a env S).bind (kLc g t e vs env) := (rfl)
theorem lcI_end {it : MIt} {g : MG} {t : MT} {e : ME} {j k i : Nat} {env : Mi.Env} {S : Sto} (h : it.f i S = some none) : lcI it g t e j k i env S = .ok (.obj j) S := by
  cases k <;> (unfold lcI; simp only [h])
theorem lcI_nx {it : MIt} {e : ME} {j k i v : Nat} {env : Mi.Env} {S S3 : Sto} {d y : D} {acc : List D} (h : it.f i S = some (some d)) (he : e (env.set v (some d)) S = .ok y S3) (h3 : S3[j]? = some (.lst acc)) (hl : acc.length < sizeLine) :
    lcI it (gN v) tAll e j (k + 1) i env S = lcI it (gN v) tAll e j k (i + 1) env (S3.set j (.lst (acc ++ [y]))) := by
  rw [lcI]
  simp only [h, gN, tAll, noEx, bind_ok, if_true, he, h3, if_pos hl]
section
variable {it : MIt} {e : ME} {v : Nat} {vs : List Nat} {env : Mi.Env} {S : Sto} {ds : List D} {f : D → D}
theorem lc_loop (h1 : ∀ acc i d, ds[i]? = some d → it.f i (S ++ [.lst acc]) = some (some d)) (h2 : ∀ acc, it.f ds.length (S ++ [.lst acc]) = some none)
    (hf : ∀ acc d, d ∈ ds → e (env.set v (some d)) (S ++ [.lst acc]) = .ok (f d) (S ++ [.lst acc])) (hl : ds.length ≤ sizeLine) : ∀ (suf pre : List D), ds = pre ++ suf → lcI it (gN v) tAll e S.length suf.length pre.length env (S ++ [.lst (pre.map f)]) = .ok (.obj S.length) (S ++ [.lst (ds.map f)])
  | [], pre, he => by
    rw [List.append_nil] at he
    subst he
    exact lcI_end (h2 _)
  | d :: suf, pre, he => by
    have hg : ds[pre.length]? = some d := by rw [he]; simp
    have hm : d ∈ ds := by rw [he]; simp
    have hlen : ds.length = pre.length + (suf.length + 1) := by rw [he]; simp
    rw [show (d :: suf).length = suf.length + 1 from rfl, lcI_nx (h1 _ _ _ hg) (hf _ _ hm) last0 (by rw [List.length_map]; omega)]
    have := lc_loop h1 h2 hf hl suf (pre ++ [d]) (by rw [he]; simp)
    rw [List.length_append] at this
    rw [show (S ++ [MO.lst (pre.map f)]).set S.length (.lst (pre.map f ++ [f d])) = S ++ [.lst ((pre ++ [d]).map f)] by rw [sa0]; simp]
    exact this
theorem lc_pure (h1 : ∀ acc i d, ds[i]? = some d → it.f i (S ++ [.lst acc]) = some (some d)) (h2 : ∀ acc, it.f ds.length (S ++ [.lst acc]) = some none) (hn : it.n = ds.length)
    (hf : ∀ acc d, d ∈ ds → e ((wipeE env vs).set v (some d)) (S ++ [.lst acc]) = .ok (f d) (S ++ [.lst acc])) (hl : ds.length ≤ sizeLine) : kLc (gN v) tAll e vs env it S = .ok (.obj S.length) (S ++ [.lst (ds.map f)]) := by
  unfold kLc
  rw [hn]
  have := lc_loop (env := wipeE env vs) h1 h2 hf hl ds [] rfl
  exact this
/-- over a tuple -/
theorem lc_fix (hf : ∀ acc d, d ∈ ds → e ((wipeE env vs).set v (some d)) (S ++ [.lst acc]) = .ok (f d) (S ++ [.lst acc])) (hl : ds.length ≤ sizeLine) : kLc (gN v) tAll e vs env (itFix ds) S = .ok (.obj S.length) (S ++ [.lst (ds.map f)]) :=
  lc_pure (fun acc i d h => by show some (ds[i]?) = _; rw [h]) (fun acc => by show some (ds[ds.length]?) = _; simp) rfl hf hl
/-- over a list of the store -/
theorem lc_lst {j : Nat} (hj : S[j]? = some (.lst ds)) (hf : ∀ acc d, d ∈ ds → e ((wipeE env vs).set v (some d)) (S ++ [.lst acc]) = .ok (f d) (S ++ [.lst acc])) (hl : ds.length ≤ sizeLine) : kLc (gN v) tAll e vs env (itLst ds.length j) S = .ok (.obj S.length) (S ++ [.lst (ds.map f)]) :=
  lc_pure (fun acc i d h => fl_at (get_app hj) h) (fun acc => by
    show (lstAt (S ++ [.lst acc]) j).map _ = some none
    unfold lstAt
    rw [get_app hj]; simp) rfl hf hl
end
def rng (b n : Nat) : List Nat := (List.range n).map (b + ·)
theorem rng_succ (b n : Nat) : rng b (n + 1) = rng b n ++ [b + n] := by unfold rng; rw [List.range_succ, List.map_append]; rfl
theorem rng_len (b n : Nat) : (rng b n).length = n := by unfold rng; simp
theorem rng_get {b n i : Nat} (h : i < n) : (rng b n)[i]? = some (b + i) := by
  unfold rng; rw [List.getElem?_map, List.getElem?_range h]; rfl
section
variable {it : MIt} {e : ME} {v : Nat} {vs : List Nat} {env : Mi.Env} {S : Sto} {ds : List D} {qs : List (List D)}
theorem lcr_loop (h1 : ∀ (acc : List D) (T : Sto) (i : Nat) (d : D), ds[i]? = some d → it.f i (S ++ .lst acc :: T) = some (some d)) (h2 : ∀ (acc : List D) (T : Sto), it.f ds.length (S ++ .lst acc :: T) = some none) (hq : qs.length = ds.length)
    (hf : ∀ (acc : List D) (T : Sto) (i : Nat) (d : D) (q : List D), ds[i]? = some d → qs[i]? = some q → e (env.set v (some d)) (S ++ MO.lst acc :: T) = .ok (.obj (S ++ MO.lst acc :: T).length) ((S ++ MO.lst acc :: T) ++ [.lst q])) (hl : ds.length ≤ sizeLine) : ∀ (k i : Nat), ds.length = i + k →
    lcI it (gN v) tAll e S.length k i env (S ++ .lst ((rng (S.length + 1) i).map D.obj) :: (qs.take i).map MO.lst) = .ok (.obj S.length) (S ++ .lst ((rng (S.length + 1) ds.length).map D.obj) :: qs.map MO.lst)
  | 0, i, he => by
    have : i = ds.length := by omega
    subst this
    rw [List.take_of_length_le (by omega)]
    exact lcI_end (h2 _ _)
  | k + 1, i, he => by
    have hi : i < ds.length := by omega
    obtain ⟨d, hd⟩ : ∃ d, ds[i]? = some d := ⟨_, List.getElem?_eq_getElem hi⟩
    obtain ⟨q, hqi⟩ : ∃ q, qs[i]? = some q := ⟨_, List.getElem?_eq_getElem (by omega)⟩
    have h := hf ((rng (S.length + 1) i).map D.obj) ((qs.take i).map MO.lst) i d q hd hqi
    have eS : (S ++ MO.lst ((rng (S.length + 1) i).map D.obj) :: (qs.take i).map MO.lst) ++ [.lst q] = S ++ MO.lst ((rng (S.length + 1) i).map D.obj) :: (qs.take (i + 1)).map MO.lst := by
      rw [List.take_add_one, hqi]; simp
    have eL : (S ++ MO.lst ((rng (S.length + 1) i).map D.obj) :: (qs.take i).map MO.lst).length = S.length + 1 + i := by
      simp only [List.length_append, List.length_cons, List.length_map, List.length_take]; omega
    rw [eS, eL] at h
    rw [lcI_nx (h1 _ _ _ _ hd) h ga0 (by rw [List.length_map, rng_len]; omega), sa0]
    have := lcr_loop h1 h2 hq hf hl k (i + 1) (by omega)
    rw [rng_succ, List.map_append] at this
    exact this
theorem lcr (h1 : ∀ (acc : List D) (T : Sto) (i : Nat) (d : D), ds[i]? = some d → it.f i (S ++ .lst acc :: T) = some (some d)) (h2 : ∀ (acc : List D) (T : Sto), it.f ds.length (S ++ .lst acc :: T) = some none) (hn : it.n = ds.length) (hq : qs.length = ds.length)
    (hf : ∀ (acc : List D) (T : Sto) (i : Nat) (d : D) (q : List D), ds[i]? = some d → qs[i]? = some q → e ((wipeE env vs).set v (some d)) (S ++ MO.lst acc :: T) = .ok (.obj (S ++ MO.lst acc :: T).length) ((S ++ MO.lst acc :: T) ++ [.lst q])) (hl : ds.length ≤ sizeLine) :
    kLc (gN v) tAll e vs env it S = .ok (.obj S.length) (S ++ .lst ((rng (S.length + 1) ds.length).map D.obj) :: qs.map MO.lst) := by
  unfold kLc
  rw [hn]
  exact lcr_loop (env := wipeE env vs) h1 h2 hq hf hl ds.length 0 (by omega)
theorem lcr_lst {j : Nat} (hj : S[j]? = some (.lst ds)) (hq : qs.length = ds.length)
    (hf : ∀ (acc : List D) (T : Sto) (i : Nat) (d : D) (q : List D), ds[i]? = some d → qs[i]? = some q → e ((wipeE env vs).set v (some d)) (S ++ MO.lst acc :: T) = .ok (.obj (S ++ MO.lst acc :: T).length) ((S ++ MO.lst acc :: T) ++ [.lst q])) (hl : ds.length ≤ sizeLine) :
    kLc (gN v) tAll e vs env (itLst ds.length j) S = .ok (.obj S.length) (S ++ .lst ((rng (S.length + 1) ds.length).map D.obj) :: qs.map MO.lst) :=
  lcr (fun acc T i d h => fl_at (get_app hj) h) (fun acc T => by
    show (lstAt (S ++ .lst acc :: T) j).map _ = some none
    unfold lstAt
    rw [get_app hj]; simp) rfl hq hf hl
end
/-- the rows made -/
theorem rows_get {S : Sto} {x : MO} {qs : List (List D)} {i : Nat} {q : List D} (h : qs[i]? = some q) : (S ++ x :: qs.map MO.lst)[S.length + 1 + i]? = some (.lst q) := by
  rw [List.getElem?_append_right (by omega), show S.length + 1 + i - S.length = i + 1 by omega, List.getElem?_cons_succ, List.getElem?_map, h]; rfl
end K26

namespace K26
open PySem PySem.Spec L2 Mi
/-! ### arrays as data -/
abbrev Row := List (Int × Int)
def prD (p : Int × Int) : D := .tup [.int p.1, .int p.2]
def rwD (r : Row) : D := .tup (r.map prD)
def aD (n : Int) (r : Row) : D := .tup [.int n, rwD r]
def prP (p : Int × Int) : PyData := .tuple [.int p.1, .int p.2]
theorem eqv_int (a b : Int) : PyData.eqv (.int a) (.int b) = decide (a = b) := by
  unfold PyData.eqv
  by_cases h : a = b
  · subst h; simp
  · simp [h]
theorem eqv_map {α : Type} [DecidableEq α] {f : α → PyData} (h : ∀ x y, PyData.eqv (f x) (f y) = decide (x = y)) : ∀ xs ys : List α, PyData.eqvAll (xs.map f) (ys.map f) = decide (xs = ys)
  | [], [] => by simp [PyData.eqvAll]
  | [], _ :: _ => by simp [PyData.eqvAll]
  | _ :: _, [] => by simp [PyData.eqvAll]
  | x :: xs, y :: ys => by
    show PyData.eqvAll (f x :: xs.map f) (f y :: ys.map f) = _
    unfold PyData.eqvAll
    rw [h, eqv_map h xs ys]
    by_cases h1 : x = y
    · subst h1; simp
    · simp [h1]
theorem eqv_tup (a b : List PyData) : PyData.eqv (.tuple a) (.tuple b) = PyData.eqvAll a b := by
  rw [PyData.eqv]
theorem eqv_pr (p q : Int × Int) : PyData.eqv (prP p) (prP q) = decide (p = q) := by
  obtain ⟨a, b⟩ := p
  obtain ⟨c, d⟩ := q
  show PyData.eqv (.tuple [.int a, .int b]) (.tuple [.int c, .int d]) = _
  rw [eqv_tup]
  have := eqv_map eqv_int [a, b] [c, d]
  rw [show [PyData.int a, .int b] = [a, b].map PyData.int from rfl, show [PyData.int c, .int d] = [c, d].map PyData.int from rfl, this]
  simp
theorem toPs_map {α : Type} {f : α → D} {g : α → PyData} {S : Sto} {m : Nat} (h : ∀ x n, m ≤ n → toP S n (f x) = some (g x)) : ∀ (xs : List α) (n : Nat), xs.length + m < n → toPs S n (xs.map f) = some (xs.map g)
  | _, 0, h0 => absurd h0 (Nat.not_lt_zero _)
  | [], n + 1, _ => rfl
  | x :: xs, n + 1, h0 => by
    have h' : xs.length + m < n := by simp at h0; omega
    show (match toP S n (f x), toPs S n (xs.map f) with | some p, some ps => some (p :: ps) | _, _ => none) = _
    rw [toPs_map h xs n h', h x n (by omega)]
    rfl
theorem toP_int {S : Sto} (i : Int) (n : Nat) (h : 1 ≤ n) : toP S n (.int i) = some (.int i) := by
  obtain ⟨k, rfl⟩ : ∃ k, n = k + 1 := ⟨n - 1, by omega⟩
  rfl
theorem toP_tup {S : Sto} {n : Nat} {ds : List D} {ps : List PyData} (h : toPs S n ds = some ps) : toP S (n + 1) (.tup ds) = some (.tuple ps) := by
  show (toPs S n ds).map PyData.tuple = _
  rw [h]; rfl
theorem toP_pr {S : Sto} (p : Int × Int) (n : Nat) (h : 5 ≤ n) : toP S n (prD p) = some (prP p) := by
  obtain ⟨k, rfl⟩ : ∃ k, n = k + 1 := ⟨n - 1, by omega⟩
  exact toP_tup (toPs_map (f := D.int) (g := PyData.int) (m := 1) (fun x n h => toP_int x n h) [p.1, p.2] k (by simp; omega))
theorem toP_rw {S : Sto} (r : Row) (n : Nat) (h : r.length + 10 ≤ n) : toP S n (rwD r) = some (.tuple (r.map prP)) := by
  obtain ⟨k, rfl⟩ : ∃ k, n = k + 1 := ⟨n - 1, by omega⟩
  exact toP_tup (toPs_map (m := 5) toP_pr r k (by omega))
theorem toP_a {S : Sto} (a : Int) (r : Row) (h : r.length ≤ 900000) : toP S 1000000 (aD a r) = some (.tuple [.int a, .tuple (r.map prP)]) := by
  refine toP_tup (n := 999999) ?_
  show (match toP S 999998 (.int a), (match toP S 999997 (rwD r), toPs S 999997 [] with | some p, some ps => some (p :: ps) | _, _ => none) with | some p, some ps => some (p :: ps) | _, _ => none) = _
  rw [toP_rw r 999997 (by omega)]
  rfl
/-! shapes -/
theorem canAll : ∀ {ps : List PyData}, (∀ p ∈ ps, p.canLay0 = true) → PyData.canLayAll0 ps = true
  | [], _ => by simp [PyData.canLayAll0]
  | p :: ps, h => by
    unfold PyData.canLayAll0
    rw [h p (List.mem_cons_self ..), canAll fun q hq => h q (List.mem_cons_of_mem _ hq)]; rfl
theorem depAll {k : Nat} : ∀ {ps : List PyData}, (∀ p ∈ ps, p.depth ≤ k) → PyData.depthAll ps ≤ k
  | [], _ => by simp [PyData.depthAll]
  | p :: ps, h => by
    unfold PyData.depthAll
    exact Nat.max_le.mpr ⟨h p (List.mem_cons_self ..), depAll fun q hq => h q (List.mem_cons_of_mem _ hq)⟩
def Shp (k : Nat) (p : PyData) : Prop := p.canLay0 = true ∧ p.depth ≤ k
theorem shp_int (i : Int) : Shp 0 (.int i) := ⟨by simp [PyData.canLay0], by simp [PyData.depth]⟩
theorem shp_tup {k : Nat} {ps : List PyData} (h : ∀ p ∈ ps, Shp k p) : Shp (k + 1) (.tuple ps) := by
  constructor
  · unfold PyData.canLay0; exact canAll fun p hp => (h p hp).1
  · unfold PyData.depth
    have := depAll fun p hp => (h p hp).2
    omega
theorem shp_mono {k m : Nat} {p : PyData} (h : Shp k p) (hk : k ≤ m) : Shp m p := ⟨h.1, Nat.le_trans h.2 hk⟩
theorem shp_ok {k : Nat} {p : PyData} (h : Shp k p) (hk : k ≤ 64) : SeqAt.shaped p = true := by
  unfold SeqAt.shaped
  rw [h.1, decide_eq_true (Nat.le_trans h.2 hk)]; rfl
theorem shp_ints (ns : List Int) : Shp 1 (.tuple (ns.map PyData.int)) := shp_tup fun p hp => by
  obtain ⟨n, _, rfl⟩ := List.mem_map.mp hp
  exact shp_int n
theorem shp_rw (r : Row) : Shp 2 (.tuple (r.map prP)) := shp_tup fun p hp => by
  obtain ⟨n, _, rfl⟩ := List.mem_map.mp hp
  exact shp_ints [n.1, n.2]
theorem shp_a (n : Int) (r : Row) : Shp 3 (.tuple [.int n, .tuple (r.map prP)]) := shp_tup fun p hp => by
  simp only [List.mem_cons, List.not_mem_nil, or_false] at hp
  rcases hp with rfl | rfl
  · exact shp_mono (shp_int n) (by omega)
  · exact shp_rw r
theorem eqD_of {S : Sto} {d e : D} {p q : PyData} (h1 : toP S 1000000 d = some p) (h2 : toP S 1000000 e = some q) (s1 : SeqAt.shaped p = true) (s2 : SeqAt.shaped q = true) : eqD S d e = some (PyData.eqv p q) := by
  unfold eqD
  rw [h1, h2]
  exact if_pos ⟨s1, s2⟩
theorem eq_tup {S : Sto} {as bs : List D} {b : Bool} (h : eqD S (.tup as) (.tup bs) = some b) : fEq (.tup as) (.tup bs) S = some (.bl b, S) ∧ fNe (.tup as) (.tup bs) S = some (.bl (!b), S) := by
  unfold fEq fNe
  constructor
  · show (eqD S (.tup as) (.tup bs)).map _ = _
    rw [h]; rfl
  · show (eqD S (.tup as) (.tup bs)).map _ = _
    rw [h]; rfl
theorem eqv_a (n m : Int) (r q : Row) : PyData.eqv (.tuple [.int n, .tuple (r.map prP)]) (.tuple [.int m, .tuple (q.map prP)]) = decide (n = m ∧ r = q) := by
  rw [eqv_tup]
  unfold PyData.eqvAll
  unfold PyData.eqvAll
  rw [eqv_int, eqv_tup, eqv_map eqv_pr]
  unfold PyData.eqvAll
  by_cases h1 : n = m <;> by_cases h2 : r = q <;> simp [h1, h2]
theorem eq_a {S : Sto} (n m : Int) (r q : Row) (h1 : r.length ≤ 900000) (h2 : q.length ≤ 900000) : fEq (aD n r) (aD m q) S = some (.bl (decide (n = m ∧ r = q)), S) ∧ fNe (aD n r) (aD m q) S = some (.bl (!decide (n = m ∧ r = q)), S) :=
  eq_tup (by rw [← eqv_a]; exact eqD_of (toP_a n r h1) (toP_a m q h2) (shp_ok (shp_a n r) (by omega)) (shp_ok (shp_a m q) (by omega)))
theorem eq_rw {S : Sto} (r q : Row) (h1 : r.length ≤ 900000) (h2 : q.length ≤ 900000) : fEq (rwD r) (rwD q) S = some (.bl (decide (r = q)), S) ∧ fNe (rwD r) (rwD q) S = some (.bl (!decide (r = q)), S) :=
  eq_tup (by
    rw [← eqv_map eqv_pr, ← eqv_tup]
    exact eqD_of (toP_rw r _ (by omega)) (toP_rw q _ (by omega)) (shp_ok (shp_rw r) (by omega)) (shp_ok (shp_rw q) (by omega)))
theorem eq_ints {S : Sto} (r q : List Int) (h1 : r.length ≤ 900000) (h2 : q.length ≤ 900000) : fEq (.tup (r.map D.int)) (.tup (q.map D.int)) S = some (.bl (decide (r = q)), S) ∧ fNe (.tup (r.map D.int)) (.tup (q.map D.int)) S = some (.bl (!decide (r = q)), S) :=
  eq_tup (by
    rw [← eqv_map eqv_int, ← eqv_tup]
    have t : ∀ l : List Int, l.length ≤ 900000 → toP S 1000000 (.tup (l.map D.int)) = some (.tuple (l.map PyData.int)) := fun l hl => toP_tup (n := 999999) (toPs_map (m := 1) (fun x n h => toP_int x n h) l _ (by omega))
    exact eqD_of (t r h1) (t q h2) (shp_ok (shp_ints r) (by omega)) (shp_ok (shp_ints q) (by omega)))
end K26

namespace K26
open PySem PySem.Spec L2 Mi
/-! ### whole numbers, pairs -/
def isI : D → Bool
  | .int _ => true
  | _ => false
/-- it has a type -/
def Ty (S : Sto) (d : D) : Prop := tyD S d ≠ none
theorem ty_obj {S : Sto} {i : Nat} (h : Ty S (.obj i)) : tyD S (.obj i) = some "list" ∨ tyD S (.obj i) = some "dict" := by
  unfold Ty tyD at h
  unfold tyD
  dsimp only at h ⊢
  cases e : S[i]? with
  | none => rw [e] at h; exact absurd rfl h
  | some o =>
    rw [e] at h
    cases o with
    | gap => exact absurd rfl h
    | lst _ => exact .inl rfl
    | fix _ => exact .inl rfl
    | dic _ => exact .inr rfl
theorem isi_int {S : Sto} {d : D} (h : Ty S d) : ∃ b, fIsi ["int"] d S = some (.bl b, S) ∧ (b = false → isI d = false) ∧ (b = true → fIsi ["bool"] d S = some (.bl (!isI d), S)) := by
  cases d with
  | non => exact ⟨false, rfl, fun _ => rfl, fun z => by cases z⟩
  | bl b => exact ⟨true, rfl, (fun z => by cases z), fun _ => rfl⟩
  | int i => exact ⟨true, rfl, (fun z => by cases z), fun _ => rfl⟩
  | str x => exact ⟨false, rfl, fun _ => rfl, fun z => by cases z⟩
  | tup x => exact ⟨false, rfl, fun _ => rfl, fun z => by cases z⟩
  | obj i =>
    refine ⟨false, ?_, fun _ => rfl, fun z => by cases z⟩
    unfold fIsi
    rcases ty_obj h with e | e <;> (rw [e]; rfl)
theorem is_whole {S : Sto} {d : D} (h : Ty S d) : M_is_whole [d] S = .ok (.bl (isI d)) S := by
  obtain ⟨b, h1, h2, h3⟩ := isi_int h
  unfold M_is_whole mFn B_is_whole
  simp only [List.length_cons, List.length_nil, Nat.reduceAdd, if_true, List.map_cons, List.map_nil, List.replicate, List.cons_append, List.nil_append, Nat.sub_self]
  cases b with
  | false =>
    simp only [bind_ok, bind_ex, of_some, rs_ok, rs_ex, then_nx, then_rt, then_ex, then_bk, then_ct, mV0, mVs, mC_, m2_, m1_, mB_, kB_bl, mB1_, mNil_, mCons_, f1L_, f2L_, mTup_, mLst_, mCall_, mNotT_, mAndT_, mOrT_, mIf_, mAndV_, mOrV_, mNotV_, kAndV_bl, kOrV_bl, kNotV_bl, mSl_, mPart_, kPart_, mNoPart_, sSeq_, sSet_, sRet_, sIf_, sExpr_, sNil_, sBreak_, sCont_, e_lt, e_ltD, e_le, e_gt, e_ge, e_eqI, e_neI, e_eqS, e_neS, e_add, e_sub, List.set_cons_zero, List.set_cons_succ, kTu0, kTu1, kTu2, kTu3, kTu4, kTu5, kLs0, kLs1, kLs2, kLs3, kLs4, kLs5, mM_, mM0_, sAsg_, sFor_, iRng_, iSeq_, h1, Bool.false_eq_true, if_false, h2 rfl]
    rfl
  | true =>
    simp only [bind_ok, bind_ex, of_some, rs_ok, rs_ex, then_nx, then_rt, then_ex, then_bk, then_ct, mV0, mVs, mC_, m2_, m1_, mB_, kB_bl, mB1_, mNil_, mCons_, f1L_, f2L_, mTup_, mLst_, mCall_, mNotT_, mAndT_, mOrT_, mIf_, mAndV_, mOrV_, mNotV_, kAndV_bl, kOrV_bl, kNotV_bl, mSl_, mPart_, kPart_, mNoPart_, sSeq_, sSet_, sRet_, sIf_, sExpr_, sNil_, sBreak_, sCont_, e_lt, e_ltD, e_le, e_gt, e_ge, e_eqI, e_neI, e_eqS, e_neS, e_add, e_sub, List.set_cons_zero, List.set_cons_succ, kTu0, kTu1, kTu2, kTu3, kTu4, kTu5, kLs0, kLs1, kLs2, kLs3, kLs4, kLs5, mM_, mM0_, sAsg_, sFor_, iRng_, iSeq_, h1, if_true, h3 rfl, Bool.not_not]
    rfl
theorem law_int {S : Sto} {d : D} (h : Ty S d) : M__law_int [d] S = .ok (.bl (isI d)) S := by
  obtain ⟨b, h1, h2, h3⟩ := isi_int h
  unfold M__law_int mFn B__law_int
  simp only [List.length_cons, List.length_nil, Nat.reduceAdd, if_true, List.map_cons, List.map_nil, List.replicate, List.cons_append, List.nil_append, Nat.sub_self]
  cases b with
  | false =>
    simp only [bind_ok, bind_ex, of_some, rs_ok, rs_ex, then_nx, then_rt, then_ex, then_bk, then_ct, mV0, mVs, mC_, m2_, m1_, mB_, kB_bl, mB1_, mNil_, mCons_, f1L_, f2L_, mTup_, mLst_, mCall_, mNotT_, mAndT_, mOrT_, mIf_, mAndV_, mOrV_, mNotV_, kAndV_bl, kOrV_bl, kNotV_bl, mSl_, mPart_, kPart_, mNoPart_, sSeq_, sSet_, sRet_, sIf_, sExpr_, sNil_, sBreak_, sCont_, e_lt, e_ltD, e_le, e_gt, e_ge, e_eqI, e_neI, e_eqS, e_neS, e_add, e_sub, List.set_cons_zero, List.set_cons_succ, kTu0, kTu1, kTu2, kTu3, kTu4, kTu5, kLs0, kLs1, kLs2, kLs3, kLs4, kLs5, mM_, mM0_, sAsg_, sFor_, iRng_, iSeq_, h1, Bool.false_eq_true, if_false, h2 rfl]
    rfl
  | true =>
    simp only [bind_ok, bind_ex, of_some, rs_ok, rs_ex, then_nx, then_rt, then_ex, then_bk, then_ct, mV0, mVs, mC_, m2_, m1_, mB_, kB_bl, mB1_, mNil_, mCons_, f1L_, f2L_, mTup_, mLst_, mCall_, mNotT_, mAndT_, mOrT_, mIf_, mAndV_, mOrV_, mNotV_, kAndV_bl, kOrV_bl, kNotV_bl, mSl_, mPart_, kPart_, mNoPart_, sSeq_, sSet_, sRet_, sIf_, sExpr_, sNil_, sBreak_, sCont_, e_lt, e_ltD, e_le, e_gt, e_ge, e_eqI, e_neI, e_eqS, e_neS, e_add, e_sub, List.set_cons_zero, List.set_cons_succ, kTu0, kTu1, kTu2, kTu3, kTu4, kTu5, kLs0, kLs1, kLs2, kLs3, kLs4, kLs5, mM_, mM0_, sAsg_, sFor_, iRng_, iSeq_, h1, if_true, h3 rfl, Bool.not_not]
    rfl
theorem whole_int {S : Sto} {i : Int} : M_is_whole [.int i] S = .ok (.bl true) S := is_whole (fun z => by cases z)
theorem lawint_int {S : Sto} {i : Int} : M__law_int [.int i] S = .ok (.bl true) S := law_int (fun z => by cases z)
theorem isi_tup {S : Sto} {d : D} (h : Ty S d) : (∃ es, d = .tup es) ∨ fIsi ["tuple"] d S = some (.bl false, S) := by
  cases d with
  | tup es => exact .inl ⟨es, rfl⟩
  | non => exact .inr rfl
  | bl b => exact .inr rfl
  | int i => exact .inr rfl
  | str x => exact .inr rfl
  | obj i =>
    refine .inr ?_
    unfold fIsi
    rcases ty_obj h with e | e <;> (rw [e]; rfl)
theorem isi_tt {S : Sto} {es : List D} : fIsi ["tuple"] (.tup es) S = some (.bl true, S) := (rfl)
theorem ty_int {S : Sto} {i : Int} : Ty S (.int i) := fun z => by cases z
theorem ty_tup {S : Sto} {es : List D} : Ty S (.tup es) := fun z => by cases z
theorem ty_bl {S : Sto} {b : Bool} : Ty S (.bl b) := fun z => by cases z
theorem ty_non {S : Sto} : Ty S .non := fun z => by cases z
theorem ty_str {S : Sto} {z : Str} : Ty S (.str z) := fun h => by cases h
theorem whole_no {S : Sto} {d : D} (h : Ty S d) (hb : isI d = false) : M_is_whole [d] S = .ok (.bl false) S := by
  rw [is_whole h, hb]
abbrev exBA (k : Int) : Xn := ⟨"BadArguments", [("number", .int k)]⟩
abbrev exBT : Xn := ⟨"BadTerm", []⟩
abbrev exBF : Xn := ⟨"BadFact", []⟩
theorem check_whole {S : Sto} {i k : Int} : M_check_whole [.int i, .int k] S = .ok .non S := by
  unfold M_check_whole mFn B_check_whole
  simp only [List.length_cons, List.length_nil, Nat.reduceAdd, if_true, List.map_cons, List.map_nil, List.replicate, List.cons_append, List.nil_append, Nat.reduceSub, Nat.sub_self]
  simp only [bind_ok, bind_ex, of_some, rs_ok, rs_ex, then_nx, then_rt, then_ex, then_bk, then_ct, mV0, mVs, mC_, m2_, m1_, mB_, kB_bl, mB1_, mNil_, mCons_, f1L_, f2L_, mTup_, mLst_, mCall_, mNotT_, mAndT_, mOrT_, mIf_, mAndV_, mOrV_, mNotV_, kAndV_bl, kOrV_bl, kNotV_bl, mSl_, mPart_, kPart_, mNoPart_, sSeq_, sSet_, sRet_, sIf_, sExpr_, sNil_, sBreak_, sCont_, e_lt, e_ltD, e_le, e_gt, e_ge, e_eqI, e_neI, e_eqS, e_neS, e_add, e_sub, List.set_cons_zero, List.set_cons_succ, kTu0, kTu1, kTu2, kTu3, kTu4, kTu5, kLs0, kLs1, kLs2, kLs3, kLs4, kLs5, mM_, mM0_, sAsg_, sFor_, iRng_, iSeq_, whole_int, Bool.not_true, Bool.false_eq_true, if_false]
  rfl
theorem check_whole_bad {S : Sto} {d : D} {k : Int} (h : Ty S d) (hb : isI d = false) : M_check_whole [d, .int k] S = .ex (exBA k) S := by
  have e := is_whole h
  rw [hb] at e
  unfold M_check_whole mFn B_check_whole
  simp only [List.length_cons, List.length_nil, Nat.reduceAdd, if_true, List.map_cons, List.map_nil, List.replicate, List.cons_append, List.nil_append, Nat.reduceSub, Nat.sub_self]
  simp only [bind_ok, bind_ex, of_some, rs_ok, rs_ex, then_nx, then_rt, then_ex, then_bk, then_ct, mV0, mVs, mC_, m2_, m1_, mB_, kB_bl, mB1_, mNil_, mCons_, f1L_, f2L_, mTup_, mLst_, mCall_, mNotT_, mAndT_, mOrT_, mIf_, mAndV_, mOrV_, mNotV_, kAndV_bl, kOrV_bl, kNotV_bl, mSl_, mPart_, kPart_, mNoPart_, sSeq_, sSet_, sRet_, sIf_, sExpr_, sNil_, sBreak_, sCont_, e_lt, e_ltD, e_le, e_gt, e_ge, e_eqI, e_neI, e_eqS, e_neS, e_add, e_sub, List.set_cons_zero, List.set_cons_succ, kTu0, kTu1, kTu2, kTu3, kTu4, kTu5, kLs0, kLs1, kLs2, kLs3, kLs4, kLs5, mM_, mM0_, sAsg_, sFor_, iRng_, iSeq_, e, Bool.not_false, if_true]
  rfl
theorem e_isn (b c : Bool) {S : Sto} : fIsN (.bl b) (.bl c) S = some (.bl (!decide (b = c)), S) := (rfl)
theorem e_is (b c : Bool) {S : Sto} : fIs (.bl b) (.bl c) S = some (.bl (decide (b = c)), S) := (rfl)
theorem e_neB (b c : Bool) {S : Sto} : fNe (.bl b) (.bl c) S = some (.bl (!decide (b = c)), S) := (rfl)
theorem e_eqB (b c : Bool) {S : Sto} : fEq (.bl b) (.bl c) S = some (.bl (decide (b = c)), S) := (rfl)
theorem e_neg {S : Sto} {a : Int} : fNeg (.int a) S = some (.int (-a), S) := (rfl)
theorem isn_i {S : Sto} {a : Int} : fIsN (.int a) .non S = some (.bl true, S) := (rfl)
theorem isn_n {S : Sto} : fIsN .non .non S = some (.bl false, S) := (rfl)
theorem is_i {S : Sto} {a : Int} : fIs (.int a) .non S = some (.bl false, S) := (rfl)
theorem is_n {S : Sto} : fIs .non .non S = some (.bl true, S) := (rfl)
theorem p200 : (2 : Nat) ^ 200 = 1606938044258990275541962092341162602522202993782792835301376 := by decide
theorem log_200 {a : Int} (h : a.natAbs < 2 ^ 200) : a.natAbs.log2 < 400 := by
  by_cases h0 : a.natAbs = 0
  · rw [h0]; decide
  · have := (Nat.log2_lt h0).mpr h
    omega
theorem e_mulW {S : Sto} {a b : Int} (ha : a.natAbs < 2 ^ 200) (hb : b.natAbs < 2 ^ 200) : fMulA (.int a) (.int b) S = some (.int (a * b), S) := by
  show (if a.natAbs.log2 + b.natAbs.log2 < 1000000 then some (D.int (a * b), S) else none) = _
  rw [if_pos]
  have := log_200 ha
  have := log_200 hb
  omega
theorem e_modW {S : Sto} {a b : Int} (hb : 0 < b) : fMod (.int a) (.int b) S = some (.int (a % b), S) := e_mod hb
theorem e_divW {S : Sto} {a b : Int} (hb : 0 < b) (h2 : b.natAbs < 2 ^ 200) : fDiv (.int a) (.int b) S = some (.int (a / b), S) := e_div ⟨hb, by have := log_200 h2; omega⟩
end K26

namespace K26
open PySem PySem.Spec L2 Mi
/-! ### the integer nearest to 0 between two -/
def optD : Option Int → D
  | none => .non
  | some i => .int i
def nearO : Option Int → Option Int → Option Int
  | some l, some g => if g < l then none else if 0 < l then some l else if g < 0 then some g else some 0
  | some l, none => if 0 < l then some l else some 0
  | none, some g => if g < 0 then some g else some 0
  | none, none => some 0
theorem law_nearest {S : Sto} (l g : Option Int) : M__law_nearest [optD l, optD g] S = .ok (optD (nearO l g)) S := by
  unfold M__law_nearest mFn B__law_nearest
  simp only [List.length_cons, List.length_nil, Nat.reduceAdd, if_true, List.map_cons, List.map_nil, List.replicate, List.cons_append, List.nil_append, Nat.reduceSub, Nat.sub_self]
  cases l with
  | none =>
    cases g with
    | none => simp only [optD, nearO, bind_ok, bind_ex, of_some, rs_ok, rs_ex, then_nx, then_rt, then_ex, then_bk, then_ct, mV0, mVs, mC_, m2_, m1_, mB_, kB_bl, mB1_, mNil_, mCons_, f1L_, f2L_, mTup_, mLst_, mCall_, mNotT_, mAndT_, mOrT_, mIf_, mAndV_, mOrV_, mNotV_, kAndV_bl, kOrV_bl, kNotV_bl, mSl_, mPart_, kPart_, mNoPart_, sSeq_, sSet_, sRet_, sIf_, sExpr_, sNil_, sBreak_, sCont_, e_lt, e_ltD, e_le, e_gt, e_ge, e_eqI, e_neI, e_eqS, e_neS, e_add, e_sub, List.set_cons_zero, List.set_cons_succ, kTu0, kTu1, kTu2, kTu3, kTu4, kTu5, kLs0, kLs1, kLs2, kLs3, kLs4, kLs5, mM_, mM0_, sAsg_, sFor_, iRng_, iSeq_, isn_n, isn_i, decide_true, decide_false, Bool.false_eq_true, if_false, if_true] <;> rfl
    | some g =>
      cases h1 : decide (g < 0) with
      | true => simp only [optD, nearO, bind_ok, bind_ex, of_some, rs_ok, rs_ex, then_nx, then_rt, then_ex, then_bk, then_ct, mV0, mVs, mC_, m2_, m1_, mB_, kB_bl, mB1_, mNil_, mCons_, f1L_, f2L_, mTup_, mLst_, mCall_, mNotT_, mAndT_, mOrT_, mIf_, mAndV_, mOrV_, mNotV_, kAndV_bl, kOrV_bl, kNotV_bl, mSl_, mPart_, kPart_, mNoPart_, sSeq_, sSet_, sRet_, sIf_, sExpr_, sNil_, sBreak_, sCont_, e_lt, e_ltD, e_le, e_gt, e_ge, e_eqI, e_neI, e_eqS, e_neS, e_add, e_sub, List.set_cons_zero, List.set_cons_succ, kTu0, kTu1, kTu2, kTu3, kTu4, kTu5, kLs0, kLs1, kLs2, kLs3, kLs4, kLs5, mM_, mM0_, sAsg_, sFor_, iRng_, iSeq_, isn_n, isn_i, h1, of_decide_eq_true h1, decide_true, decide_false, Bool.false_eq_true, if_false, if_true] <;> rfl
      | false => simp only [optD, nearO, bind_ok, bind_ex, of_some, rs_ok, rs_ex, then_nx, then_rt, then_ex, then_bk, then_ct, mV0, mVs, mC_, m2_, m1_, mB_, kB_bl, mB1_, mNil_, mCons_, f1L_, f2L_, mTup_, mLst_, mCall_, mNotT_, mAndT_, mOrT_, mIf_, mAndV_, mOrV_, mNotV_, kAndV_bl, kOrV_bl, kNotV_bl, mSl_, mPart_, kPart_, mNoPart_, sSeq_, sSet_, sRet_, sIf_, sExpr_, sNil_, sBreak_, sCont_, e_lt, e_ltD, e_le, e_gt, e_ge, e_eqI, e_neI, e_eqS, e_neS, e_add, e_sub, List.set_cons_zero, List.set_cons_succ, kTu0, kTu1, kTu2, kTu3, kTu4, kTu5, kLs0, kLs1, kLs2, kLs3, kLs4, kLs5, mM_, mM0_, sAsg_, sFor_, iRng_, iSeq_, isn_n, isn_i, h1, of_decide_eq_false h1, decide_true, decide_false, Bool.false_eq_true, if_false, if_true] <;> rfl
  | some l =>
    cases g with
    | none =>
      cases h1 : decide (0 < l) with
      | true => simp only [optD, nearO, bind_ok, bind_ex, of_some, rs_ok, rs_ex, then_nx, then_rt, then_ex, then_bk, then_ct, mV0, mVs, mC_, m2_, m1_, mB_, kB_bl, mB1_, mNil_, mCons_, f1L_, f2L_, mTup_, mLst_, mCall_, mNotT_, mAndT_, mOrT_, mIf_, mAndV_, mOrV_, mNotV_, kAndV_bl, kOrV_bl, kNotV_bl, mSl_, mPart_, kPart_, mNoPart_, sSeq_, sSet_, sRet_, sIf_, sExpr_, sNil_, sBreak_, sCont_, e_lt, e_ltD, e_le, e_gt, e_ge, e_eqI, e_neI, e_eqS, e_neS, e_add, e_sub, List.set_cons_zero, List.set_cons_succ, kTu0, kTu1, kTu2, kTu3, kTu4, kTu5, kLs0, kLs1, kLs2, kLs3, kLs4, kLs5, mM_, mM0_, sAsg_, sFor_, iRng_, iSeq_, isn_n, isn_i, h1, of_decide_eq_true h1, decide_true, decide_false, Bool.false_eq_true, if_false, if_true] <;> rfl
      | false => simp only [optD, nearO, bind_ok, bind_ex, of_some, rs_ok, rs_ex, then_nx, then_rt, then_ex, then_bk, then_ct, mV0, mVs, mC_, m2_, m1_, mB_, kB_bl, mB1_, mNil_, mCons_, f1L_, f2L_, mTup_, mLst_, mCall_, mNotT_, mAndT_, mOrT_, mIf_, mAndV_, mOrV_, mNotV_, kAndV_bl, kOrV_bl, kNotV_bl, mSl_, mPart_, kPart_, mNoPart_, sSeq_, sSet_, sRet_, sIf_, sExpr_, sNil_, sBreak_, sCont_, e_lt, e_ltD, e_le, e_gt, e_ge, e_eqI, e_neI, e_eqS, e_neS, e_add, e_sub, List.set_cons_zero, List.set_cons_succ, kTu0, kTu1, kTu2, kTu3, kTu4, kTu5, kLs0, kLs1, kLs2, kLs3, kLs4, kLs5, mM_, mM0_, sAsg_, sFor_, iRng_, iSeq_, isn_n, isn_i, h1, of_decide_eq_false h1, decide_true, decide_false, Bool.false_eq_true, if_false, if_true] <;> rfl
    | some g =>
      cases h0 : decide (g < l) with
      | true => simp only [optD, nearO, bind_ok, bind_ex, of_some, rs_ok, rs_ex, then_nx, then_rt, then_ex, then_bk, then_ct, mV0, mVs, mC_, m2_, m1_, mB_, kB_bl, mB1_, mNil_, mCons_, f1L_, f2L_, mTup_, mLst_, mCall_, mNotT_, mAndT_, mOrT_, mIf_, mAndV_, mOrV_, mNotV_, kAndV_bl, kOrV_bl, kNotV_bl, mSl_, mPart_, kPart_, mNoPart_, sSeq_, sSet_, sRet_, sIf_, sExpr_, sNil_, sBreak_, sCont_, e_lt, e_ltD, e_le, e_gt, e_ge, e_eqI, e_neI, e_eqS, e_neS, e_add, e_sub, List.set_cons_zero, List.set_cons_succ, kTu0, kTu1, kTu2, kTu3, kTu4, kTu5, kLs0, kLs1, kLs2, kLs3, kLs4, kLs5, mM_, mM0_, sAsg_, sFor_, iRng_, iSeq_, isn_n, isn_i, h0, of_decide_eq_true h0, decide_true, decide_false, Bool.false_eq_true, if_false, if_true] <;> rfl
      | false =>
        cases h1 : decide (0 < l) with
        | true => simp only [optD, nearO, bind_ok, bind_ex, of_some, rs_ok, rs_ex, then_nx, then_rt, then_ex, then_bk, then_ct, mV0, mVs, mC_, m2_, m1_, mB_, kB_bl, mB1_, mNil_, mCons_, f1L_, f2L_, mTup_, mLst_, mCall_, mNotT_, mAndT_, mOrT_, mIf_, mAndV_, mOrV_, mNotV_, kAndV_bl, kOrV_bl, kNotV_bl, mSl_, mPart_, kPart_, mNoPart_, sSeq_, sSet_, sRet_, sIf_, sExpr_, sNil_, sBreak_, sCont_, e_lt, e_ltD, e_le, e_gt, e_ge, e_eqI, e_neI, e_eqS, e_neS, e_add, e_sub, List.set_cons_zero, List.set_cons_succ, kTu0, kTu1, kTu2, kTu3, kTu4, kTu5, kLs0, kLs1, kLs2, kLs3, kLs4, kLs5, mM_, mM0_, sAsg_, sFor_, iRng_, iSeq_, isn_n, isn_i, h0, of_decide_eq_false h0, h1, of_decide_eq_true h1, decide_true, decide_false, Bool.false_eq_true, if_false, if_true] <;> rfl
        | false =>
          cases h2 : decide (g < 0) with
          | true => simp only [optD, nearO, bind_ok, bind_ex, of_some, rs_ok, rs_ex, then_nx, then_rt, then_ex, then_bk, then_ct, mV0, mVs, mC_, m2_, m1_, mB_, kB_bl, mB1_, mNil_, mCons_, f1L_, f2L_, mTup_, mLst_, mCall_, mNotT_, mAndT_, mOrT_, mIf_, mAndV_, mOrV_, mNotV_, kAndV_bl, kOrV_bl, kNotV_bl, mSl_, mPart_, kPart_, mNoPart_, sSeq_, sSet_, sRet_, sIf_, sExpr_, sNil_, sBreak_, sCont_, e_lt, e_ltD, e_le, e_gt, e_ge, e_eqI, e_neI, e_eqS, e_neS, e_add, e_sub, List.set_cons_zero, List.set_cons_succ, kTu0, kTu1, kTu2, kTu3, kTu4, kTu5, kLs0, kLs1, kLs2, kLs3, kLs4, kLs5, mM_, mM0_, sAsg_, sFor_, iRng_, iSeq_, isn_n, isn_i, h0, of_decide_eq_false h0, h1, of_decide_eq_false h1, h2, of_decide_eq_true h2, decide_true, decide_false, Bool.false_eq_true, if_false, if_true] <;> rfl
          | false => simp only [optD, nearO, bind_ok, bind_ex, of_some, rs_ok, rs_ex, then_nx, then_rt, then_ex, then_bk, then_ct, mV0, mVs, mC_, m2_, m1_, mB_, kB_bl, mB1_, mNil_, mCons_, f1L_, f2L_, mTup_, mLst_, mCall_, mNotT_, mAndT_, mOrT_, mIf_, mAndV_, mOrV_, mNotV_, kAndV_bl, kOrV_bl, kNotV_bl, mSl_, mPart_, kPart_, mNoPart_, sSeq_, sSet_, sRet_, sIf_, sExpr_, sNil_, sBreak_, sCont_, e_lt, e_ltD, e_le, e_gt, e_ge, e_eqI, e_neI, e_eqS, e_neS, e_add, e_sub, List.set_cons_zero, List.set_cons_succ, kTu0, kTu1, kTu2, kTu3, kTu4, kTu5, kLs0, kLs1, kLs2, kLs3, kLs4, kLs5, mM_, mM0_, sAsg_, sFor_, iRng_, iSeq_, isn_n, isn_i, h0, of_decide_eq_false h0, h1, of_decide_eq_false h1, h2, of_decide_eq_false h2, decide_true, decide_false, Bool.false_eq_true, if_false, if_true] <;> rfl
theorem value_nearest {S : Sto} (l g : Option Int) : M_value_nearest [optD l, optD g] S = .ok (optD (nearO l g)) S := by
  unfold M_value_nearest mFn B_value_nearest
  simp only [List.length_cons, List.length_nil, Nat.reduceAdd, if_true, List.map_cons, List.map_nil, List.replicate, List.cons_append, List.nil_append, Nat.reduceSub, Nat.sub_self]
  cases l with
  | none =>
    cases g with
    | none => simp only [optD, nearO, bind_ok, bind_ex, of_some, rs_ok, rs_ex, then_nx, then_rt, then_ex, then_bk, then_ct, mV0, mVs, mC_, m2_, m1_, mB_, kB_bl, mB1_, mNil_, mCons_, f1L_, f2L_, mTup_, mLst_, mCall_, mNotT_, mAndT_, mOrT_, mIf_, mAndV_, mOrV_, mNotV_, kAndV_bl, kOrV_bl, kNotV_bl, mSl_, mPart_, kPart_, mNoPart_, sSeq_, sSet_, sRet_, sIf_, sExpr_, sNil_, sBreak_, sCont_, e_lt, e_ltD, e_le, e_gt, e_ge, e_eqI, e_neI, e_eqS, e_neS, e_add, e_sub, List.set_cons_zero, List.set_cons_succ, kTu0, kTu1, kTu2, kTu3, kTu4, kTu5, kLs0, kLs1, kLs2, kLs3, kLs4, kLs5, mM_, mM0_, sAsg_, sFor_, iRng_, iSeq_, isn_n, isn_i, check_whole, decide_true, decide_false, Bool.false_eq_true, if_false, if_true] <;> rfl
    | some g =>
      cases h1 : decide (g < 0) with
      | true => simp only [optD, nearO, bind_ok, bind_ex, of_some, rs_ok, rs_ex, then_nx, then_rt, then_ex, then_bk, then_ct, mV0, mVs, mC_, m2_, m1_, mB_, kB_bl, mB1_, mNil_, mCons_, f1L_, f2L_, mTup_, mLst_, mCall_, mNotT_, mAndT_, mOrT_, mIf_, mAndV_, mOrV_, mNotV_, kAndV_bl, kOrV_bl, kNotV_bl, mSl_, mPart_, kPart_, mNoPart_, sSeq_, sSet_, sRet_, sIf_, sExpr_, sNil_, sBreak_, sCont_, e_lt, e_ltD, e_le, e_gt, e_ge, e_eqI, e_neI, e_eqS, e_neS, e_add, e_sub, List.set_cons_zero, List.set_cons_succ, kTu0, kTu1, kTu2, kTu3, kTu4, kTu5, kLs0, kLs1, kLs2, kLs3, kLs4, kLs5, mM_, mM0_, sAsg_, sFor_, iRng_, iSeq_, isn_n, isn_i, check_whole, h1, of_decide_eq_true h1, decide_true, decide_false, Bool.false_eq_true, if_false, if_true] <;> rfl
      | false => simp only [optD, nearO, bind_ok, bind_ex, of_some, rs_ok, rs_ex, then_nx, then_rt, then_ex, then_bk, then_ct, mV0, mVs, mC_, m2_, m1_, mB_, kB_bl, mB1_, mNil_, mCons_, f1L_, f2L_, mTup_, mLst_, mCall_, mNotT_, mAndT_, mOrT_, mIf_, mAndV_, mOrV_, mNotV_, kAndV_bl, kOrV_bl, kNotV_bl, mSl_, mPart_, kPart_, mNoPart_, sSeq_, sSet_, sRet_, sIf_, sExpr_, sNil_, sBreak_, sCont_, e_lt, e_ltD, e_le, e_gt, e_ge, e_eqI, e_neI, e_eqS, e_neS, e_add, e_sub, List.set_cons_zero, List.set_cons_succ, kTu0, kTu1, kTu2, kTu3, kTu4, kTu5, kLs0, kLs1, kLs2, kLs3, kLs4, kLs5, mM_, mM0_, sAsg_, sFor_, iRng_, iSeq_, isn_n, isn_i, check_whole, h1, of_decide_eq_false h1, decide_true, decide_false, Bool.false_eq_true, if_false, if_true] <;> rfl
  | some l =>
    cases g with
    | none =>
      cases h1 : decide (0 < l) with
      | true => simp only [optD, nearO, bind_ok, bind_ex, of_some, rs_ok, rs_ex, then_nx, then_rt, then_ex, then_bk, then_ct, mV0, mVs, mC_, m2_, m1_, mB_, kB_bl, mB1_, mNil_, mCons_, f1L_, f2L_, mTup_, mLst_, mCall_, mNotT_, mAndT_, mOrT_, mIf_, mAndV_, mOrV_, mNotV_, kAndV_bl, kOrV_bl, kNotV_bl, mSl_, mPart_, kPart_, mNoPart_, sSeq_, sSet_, sRet_, sIf_, sExpr_, sNil_, sBreak_, sCont_, e_lt, e_ltD, e_le, e_gt, e_ge, e_eqI, e_neI, e_eqS, e_neS, e_add, e_sub, List.set_cons_zero, List.set_cons_succ, kTu0, kTu1, kTu2, kTu3, kTu4, kTu5, kLs0, kLs1, kLs2, kLs3, kLs4, kLs5, mM_, mM0_, sAsg_, sFor_, iRng_, iSeq_, isn_n, isn_i, check_whole, h1, of_decide_eq_true h1, decide_true, decide_false, Bool.false_eq_true, if_false, if_true] <;> rfl
      | false => simp only [optD, nearO, bind_ok, bind_ex, of_some, rs_ok, rs_ex, then_nx, then_rt, then_ex, then_bk, then_ct, mV0, mVs, mC_, m2_, m1_, mB_, kB_bl, mB1_, mNil_, mCons_, f1L_, f2L_, mTup_, mLst_, mCall_, mNotT_, mAndT_, mOrT_, mIf_, mAndV_, mOrV_, mNotV_, kAndV_bl, kOrV_bl, kNotV_bl, mSl_, mPart_, kPart_, mNoPart_, sSeq_, sSet_, sRet_, sIf_, sExpr_, sNil_, sBreak_, sCont_, e_lt, e_ltD, e_le, e_gt, e_ge, e_eqI, e_neI, e_eqS, e_neS, e_add, e_sub, List.set_cons_zero, List.set_cons_succ, kTu0, kTu1, kTu2, kTu3, kTu4, kTu5, kLs0, kLs1, kLs2, kLs3, kLs4, kLs5, mM_, mM0_, sAsg_, sFor_, iRng_, iSeq_, isn_n, isn_i, check_whole, h1, of_decide_eq_false h1, decide_true, decide_false, Bool.false_eq_true, if_false, if_true] <;> rfl
    | some g =>
      cases h0 : decide (g < l) with
      | true => simp only [optD, nearO, bind_ok, bind_ex, of_some, rs_ok, rs_ex, then_nx, then_rt, then_ex, then_bk, then_ct, mV0, mVs, mC_, m2_, m1_, mB_, kB_bl, mB1_, mNil_, mCons_, f1L_, f2L_, mTup_, mLst_, mCall_, mNotT_, mAndT_, mOrT_, mIf_, mAndV_, mOrV_, mNotV_, kAndV_bl, kOrV_bl, kNotV_bl, mSl_, mPart_, kPart_, mNoPart_, sSeq_, sSet_, sRet_, sIf_, sExpr_, sNil_, sBreak_, sCont_, e_lt, e_ltD, e_le, e_gt, e_ge, e_eqI, e_neI, e_eqS, e_neS, e_add, e_sub, List.set_cons_zero, List.set_cons_succ, kTu0, kTu1, kTu2, kTu3, kTu4, kTu5, kLs0, kLs1, kLs2, kLs3, kLs4, kLs5, mM_, mM0_, sAsg_, sFor_, iRng_, iSeq_, isn_n, isn_i, check_whole, h0, of_decide_eq_true h0, decide_true, decide_false, Bool.false_eq_true, if_false, if_true] <;> rfl
      | false =>
        cases h1 : decide (0 < l) with
        | true => simp only [optD, nearO, bind_ok, bind_ex, of_some, rs_ok, rs_ex, then_nx, then_rt, then_ex, then_bk, then_ct, mV0, mVs, mC_, m2_, m1_, mB_, kB_bl, mB1_, mNil_, mCons_, f1L_, f2L_, mTup_, mLst_, mCall_, mNotT_, mAndT_, mOrT_, mIf_, mAndV_, mOrV_, mNotV_, kAndV_bl, kOrV_bl, kNotV_bl, mSl_, mPart_, kPart_, mNoPart_, sSeq_, sSet_, sRet_, sIf_, sExpr_, sNil_, sBreak_, sCont_, e_lt, e_ltD, e_le, e_gt, e_ge, e_eqI, e_neI, e_eqS, e_neS, e_add, e_sub, List.set_cons_zero, List.set_cons_succ, kTu0, kTu1, kTu2, kTu3, kTu4, kTu5, kLs0, kLs1, kLs2, kLs3, kLs4, kLs5, mM_, mM0_, sAsg_, sFor_, iRng_, iSeq_, isn_n, isn_i, check_whole, h0, of_decide_eq_false h0, h1, of_decide_eq_true h1, decide_true, decide_false, Bool.false_eq_true, if_false, if_true] <;> rfl
        | false =>
          cases h2 : decide (g < 0) with
          | true => simp only [optD, nearO, bind_ok, bind_ex, of_some, rs_ok, rs_ex, then_nx, then_rt, then_ex, then_bk, then_ct, mV0, mVs, mC_, m2_, m1_, mB_, kB_bl, mB1_, mNil_, mCons_, f1L_, f2L_, mTup_, mLst_, mCall_, mNotT_, mAndT_, mOrT_, mIf_, mAndV_, mOrV_, mNotV_, kAndV_bl, kOrV_bl, kNotV_bl, mSl_, mPart_, kPart_, mNoPart_, sSeq_, sSet_, sRet_, sIf_, sExpr_, sNil_, sBreak_, sCont_, e_lt, e_ltD, e_le, e_gt, e_ge, e_eqI, e_neI, e_eqS, e_neS, e_add, e_sub, List.set_cons_zero, List.set_cons_succ, kTu0, kTu1, kTu2, kTu3, kTu4, kTu5, kLs0, kLs1, kLs2, kLs3, kLs4, kLs5, mM_, mM0_, sAsg_, sFor_, iRng_, iSeq_, isn_n, isn_i, check_whole, h0, of_decide_eq_false h0, h1, of_decide_eq_false h1, h2, of_decide_eq_true h2, decide_true, decide_false, Bool.false_eq_true, if_false, if_true] <;> rfl
          | false => simp only [optD, nearO, bind_ok, bind_ex, of_some, rs_ok, rs_ex, then_nx, then_rt, then_ex, then_bk, then_ct, mV0, mVs, mC_, m2_, m1_, mB_, kB_bl, mB1_, mNil_, mCons_, f1L_, f2L_, mTup_, mLst_, mCall_, mNotT_, mAndT_, mOrT_, mIf_, mAndV_, mOrV_, mNotV_, kAndV_bl, kOrV_bl, kNotV_bl, mSl_, mPart_, kPart_, mNoPart_, sSeq_, sSet_, sRet_, sIf_, sExpr_, sNil_, sBreak_, sCont_, e_lt, e_ltD, e_le, e_gt, e_ge, e_eqI, e_neI, e_eqS, e_neS, e_add, e_sub, List.set_cons_zero, List.set_cons_succ, kTu0, kTu1, kTu2, kTu3, kTu4, kTu5, kLs0, kLs1, kLs2, kLs3, kLs4, kLs5, mM_, mM0_, sAsg_, sFor_, iRng_, iSeq_, isn_n, isn_i, check_whole, h0, of_decide_eq_false h0, h1, of_decide_eq_false h1, h2, of_decide_eq_false h2, decide_true, decide_false, Bool.false_eq_true, if_false, if_true] <;> rfl
theorem law_same {S : Sto} (o : Option Int) : M__law_same [optD o, optD o] S = .ok (.bl true) S := by
  unfold M__law_same mFn B__law_same
  simp only [List.length_cons, List.length_nil, Nat.reduceAdd, if_true, List.map_cons, List.map_nil, List.replicate, List.cons_append, List.nil_append, Nat.reduceSub, Nat.sub_self]
  cases o with
  | none => simp only [optD, bind_ok, bind_ex, of_some, rs_ok, rs_ex, then_nx, then_rt, then_ex, then_bk, then_ct, mV0, mVs, mC_, m2_, m1_, mB_, kB_bl, mB1_, mNil_, mCons_, f1L_, f2L_, mTup_, mLst_, mCall_, mNotT_, mAndT_, mOrT_, mIf_, mAndV_, mOrV_, mNotV_, kAndV_bl, kOrV_bl, kNotV_bl, mSl_, mPart_, kPart_, mNoPart_, sSeq_, sSet_, sRet_, sIf_, sExpr_, sNil_, sBreak_, sCont_, e_lt, e_ltD, e_le, e_gt, e_ge, e_eqI, e_neI, e_eqS, e_neS, e_add, e_sub, List.set_cons_zero, List.set_cons_succ, kTu0, kTu1, kTu2, kTu3, kTu4, kTu5, kLs0, kLs1, kLs2, kLs3, kLs4, kLs5, mM_, mM0_, sAsg_, sFor_, iRng_, iSeq_, is_n, if_true] <;> rfl
  | some i => simp only [optD, bind_ok, bind_ex, of_some, rs_ok, rs_ex, then_nx, then_rt, then_ex, then_bk, then_ct, mV0, mVs, mC_, m2_, m1_, mB_, kB_bl, mB1_, mNil_, mCons_, f1L_, f2L_, mTup_, mLst_, mCall_, mNotT_, mAndT_, mOrT_, mIf_, mAndV_, mOrV_, mNotV_, kAndV_bl, kOrV_bl, kNotV_bl, mSl_, mPart_, kPart_, mNoPart_, sSeq_, sSet_, sRet_, sIf_, sExpr_, sNil_, sBreak_, sCont_, e_lt, e_ltD, e_le, e_gt, e_ge, e_eqI, e_neI, e_eqS, e_neS, e_add, e_sub, List.set_cons_zero, List.set_cons_succ, kTu0, kTu1, kTu2, kTu3, kTu4, kTu5, kLs0, kLs1, kLs2, kLs3, kLs4, kLs5, mM_, mM0_, sAsg_, sFor_, iRng_, iSeq_, is_i, lawint_int, Bool.false_eq_true, if_false, decide_true] <;> rfl
/-- at least n / d, upwards -/
def upZ (n d : Int) : Int := -((-n) / d)
theorem up_ {S : Sto} {n d : Int} (hd : 0 < d) (h2 : d.natAbs < 2 ^ 200) : M_up [.int n, .int d] S = .ok (.int (upZ n d)) S := by
  unfold M_up mFn B_up
  simp only [List.length_cons, List.length_nil, Nat.reduceAdd, if_true, List.map_cons, List.map_nil, List.replicate, List.cons_append, List.nil_append, Nat.reduceSub, Nat.sub_self]
  simp only [bind_ok, bind_ex, of_some, rs_ok, rs_ex, then_nx, then_rt, then_ex, then_bk, then_ct, mV0, mVs, mC_, m2_, m1_, mB_, kB_bl, mB1_, mNil_, mCons_, f1L_, f2L_, mTup_, mLst_, mCall_, mNotT_, mAndT_, mOrT_, mIf_, mAndV_, mOrV_, mNotV_, kAndV_bl, kOrV_bl, kNotV_bl, mSl_, mPart_, kPart_, mNoPart_, sSeq_, sSet_, sRet_, sIf_, sExpr_, sNil_, sBreak_, sCont_, e_lt, e_ltD, e_le, e_gt, e_ge, e_eqI, e_neI, e_eqS, e_neS, e_add, e_sub, List.set_cons_zero, List.set_cons_succ, kTu0, kTu1, kTu2, kTu3, kTu4, kTu5, kLs0, kLs1, kLs2, kLs3, kLs4, kLs5, mM_, mM0_, sAsg_, sFor_, iRng_, iSeq_, e_neg, e_divW hd h2] <;> rfl
def betO (a low b high : Int) : Option Int := nearO (some (upZ low a)) (some ((-high) / b))
section
variable {S : Sto} {a b low high : Int} (ha : 1 ≤ a) (hb : 1 ≤ b) (ha2 : a.natAbs < 2 ^ 200) (hb2 : b.natAbs < 2 ^ 200)
include ha hb ha2 hb2
theorem whole_between : M_whole_between [.int a, .int low, .int b, .int high] S = .ok (optD (betO a low b high)) S := by
  have d1 : decide (a < 1) = false := decide_eq_false (by omega)
  have d2 : decide (b < 1) = false := decide_eq_false (by omega)
  have hv : M_value_nearest [.int (upZ low a), .int (-high / b)] S = .ok (optD (betO a low b high)) S := value_nearest (some (upZ low a)) (some (-high / b))
  unfold M_whole_between mFn B_whole_between
  simp only [List.length_cons, List.length_nil, Nat.reduceAdd, if_true, List.map_cons, List.map_nil, List.replicate, List.cons_append, List.nil_append, Nat.reduceSub, Nat.sub_self]
  simp only [bind_ok, bind_ex, of_some, rs_ok, rs_ex, then_nx, then_rt, then_ex, then_bk, then_ct, mV0, mVs, mC_, m2_, m1_, mB_, kB_bl, mB1_, mNil_, mCons_, f1L_, f2L_, mTup_, mLst_, mCall_, mNotT_, mAndT_, mOrT_, mIf_, mAndV_, mOrV_, mNotV_, kAndV_bl, kOrV_bl, kNotV_bl, mSl_, mPart_, kPart_, mNoPart_, sSeq_, sSet_, sRet_, sIf_, sExpr_, sNil_, sBreak_, sCont_, e_lt, e_ltD, e_le, e_gt, e_ge, e_eqI, e_neI, e_eqS, e_neS, e_add, e_sub, List.set_cons_zero, List.set_cons_succ, kTu0, kTu1, kTu2, kTu3, kTu4, kTu5, kLs0, kLs1, kLs2, kLs3, kLs4, kLs5, mM_, mM0_, sAsg_, sFor_, iRng_, iSeq_, whole_int, check_whole, d1, d2, Bool.not_true, Bool.false_eq_true, if_false, up_ (show 0 < a by omega) ha2, e_neg, e_divW (show 0 < b by omega) hb2, hv] <;> rfl
theorem law_between : M__law_between [.int a, .int low, .int b, .int high] S = .ok (optD (betO a low b high)) S := by
  have hv : M__law_nearest [.int (-(-low / a)), .int (-high / b)] S = .ok (optD (betO a low b high)) S := law_nearest (some (upZ low a)) (some (-high / b))
  unfold M__law_between mFn B__law_between
  simp only [List.length_cons, List.length_nil, Nat.reduceAdd, if_true, List.map_cons, List.map_nil, List.replicate, List.cons_append, List.nil_append, Nat.reduceSub, Nat.sub_self]
  simp only [bind_ok, bind_ex, of_some, rs_ok, rs_ex, then_nx, then_rt, then_ex, then_bk, then_ct, mV0, mVs, mC_, m2_, m1_, mB_, kB_bl, mB1_, mNil_, mCons_, f1L_, f2L_, mTup_, mLst_, mCall_, mNotT_, mAndT_, mOrT_, mIf_, mAndV_, mOrV_, mNotV_, kAndV_bl, kOrV_bl, kNotV_bl, mSl_, mPart_, kPart_, mNoPart_, sSeq_, sSet_, sRet_, sIf_, sExpr_, sNil_, sBreak_, sCont_, e_lt, e_ltD, e_le, e_gt, e_ge, e_eqI, e_neI, e_eqS, e_neS, e_add, e_sub, List.set_cons_zero, List.set_cons_succ, kTu0, kTu1, kTu2, kTu3, kTu4, kTu5, kLs0, kLs1, kLs2, kLs3, kLs4, kLs5, mM_, mM0_, sAsg_, sFor_, iRng_, iSeq_, e_neg, e_divW (show 0 < a by omega) ha2, e_divW (show 0 < b by omega) hb2, hv] <;> rfl
end
/-! what it says -/
theorem upZ_le {n d z : Int} (hd : 0 < d) : upZ n d ≤ z ↔ n ≤ d * z := by
  unfold upZ
  have h := Int.le_ediv_iff_mul_le hd (a := -z) (b := -n)
  rw [Int.neg_mul] at h
  constructor
  · intro x
    have := h.mp (by omega)
    rw [Int.mul_comm d z]; omega
  · intro x
    have : -z ≤ -n / d := h.mpr (by rw [Int.mul_comm z d]; omega)
    omega
theorem le_flr {n d z : Int} (hd : 0 < d) : z ≤ n / d ↔ d * z ≤ n := by
  have h := Int.le_ediv_iff_mul_le hd (a := z) (b := n)
  rw [Int.mul_comm d z]; exact h
theorem betO_none {a low b high : Int} : betO a low b high = none ↔ (-high) / b < upZ low a := by
  unfold betO nearO
  dsimp only
  by_cases h : -high / b < upZ low a
  · rw [if_pos h]; exact ⟨fun _ => h, fun _ => rfl⟩
  · rw [if_neg h]
    refine ⟨fun z => ?_, fun z => absurd z h⟩
    split at z
    · cases z
    · split at z <;> cases z
/-- no integer between where the shares sum above 0 -/
theorem real_dark {a low b high : Int} (ha : 1 ≤ a) (hb : 1 ≤ b) : (0 < b * low + a * high → betO a low b high = none) ∧ (b * low + a * high + (a - 1) * (b - 1) ≤ 0 → betO a low b high ≠ none) := by
  refine ⟨fun h => betO_none.mpr ?_, fun h hn => ?_⟩
  · apply Int.lt_of_not_ge
    intro hz
    have h1 := (upZ_le (n := low) (d := a) (z := -high / b) (by omega)).mp hz
    have h2 := (le_flr (n := -high) (d := b) (z := -high / b) (by omega)).mp (Int.le_refl _)
    have h3 := Int.mul_le_mul_of_nonneg_left h1 (show 0 ≤ b by omega)
    have h4 := Int.mul_le_mul_of_nonneg_left h2 (show 0 ≤ a by omega)
    have e1 : b * (a * (-high / b)) = a * (b * (-high / b)) := by rw [← Int.mul_assoc, ← Int.mul_assoc, Int.mul_comm b a]
    have e2 : a * -high = -(a * high) := Int.mul_neg ..
    omega
  · have hn' := betO_none.mp hn
    have h1 : ¬ upZ low a ≤ -high / b := by omega
    rw [upZ_le (by omega)] at h1
    have h2 : ¬ (-high / b + 1) ≤ -high / b := by omega
    rw [le_flr (by omega)] at h2
    generalize -high / b = g at h1 h2
    have h3 : a * g + 1 ≤ low := by omega
    have h4 : -high + 1 ≤ b * (g + 1) := by omega
    have h5 := Int.mul_le_mul_of_nonneg_left h3 (show 0 ≤ b by omega)
    have h6 := Int.mul_le_mul_of_nonneg_left h4 (show 0 ≤ a by omega)
    have e1 : b * (a * g + 1) = a * (b * g) + b := by rw [Int.mul_add, Int.mul_one, ← Int.mul_assoc, ← Int.mul_assoc, Int.mul_comm b a]
    have e2 : a * (-high + 1) = -(a * high) + a := by rw [Int.mul_add, Int.mul_one, Int.mul_neg]
    have e3 : a * (b * (g + 1)) = a * (b * g) + a * b := by rw [Int.mul_add, Int.mul_one, Int.mul_add]
    have e4 : (a - 1) * (b - 1) = a * b - a - b + 1 := by rw [Int.sub_mul, Int.mul_sub, Int.mul_one, Int.one_mul]; omega
    omega
/-- at the edge -/
theorem edge {a b s : Int} (ha : 1 < a) (hb : 1 < b) : betO a (1 + a * s) b (1 - b - b * s) = none := by
  refine betO_none.mpr ?_
  apply Int.lt_of_not_ge
  intro hz
  have h1 := (upZ_le (n := 1 + a * s) (d := a) (by omega)).mp hz
  have h2 := (le_flr (n := -(1 - b - b * s)) (d := b) (z := -(1 - b - b * s) / b) (by omega)).mp (Int.le_refl _)
  generalize -(1 - b - b * s) / b = g at h1 h2
  have h3 : a * s < a * g := by omega
  have h4 : s < g := Int.lt_of_mul_lt_mul_left h3 (by omega)
  have h5 : b * (s + 1) ≤ b * g := Int.mul_le_mul_of_nonneg_left (by omega) (by omega)
  rw [Int.mul_add, Int.mul_one] at h5
  omega
end K26

namespace K26
open PySem PySem.Spec L2 Mi
/-! ### two atoms, terms over them -/
def atX : D := .tup [.str "name", .str "x"]
def atY : D := .tup [.str "read", .str "a", .tup [.int 1, .tup [.tup [atX, .int 1]]]]
def paX : PyData := .tuple [.str "name", .str "x"]
def paY : PyData := .tuple [.str "read", .str "a", .tuple [.int 1, .tuple [.tuple [paX, .int 1]]]]
def atm : Nat → D
  | 0 => atX
  | _ => atY
def pat : Nat → PyData
  | 0 => paX
  | _ => paY
def pairD (z : Nat × Int) : D := .tup [atm z.1, .int z.2]
def pairP (z : Nat × Int) : PyData := .tuple [pat z.1, .int z.2]
abbrev Cf := List (Nat × Int)
def cf (p q : Int) : Cf := (if p = 0 then [] else [(0, p)]) ++ (if q = 0 then [] else [(1, q)])
def rwC (r : Cf) : D := .tup (r.map pairD)
def tmC (c : Int) (r : Cf) : D := .tup [.int c, rwC r]
abbrev tm (c p q : Int) : D := tmC c (cf p q)
def tmP (c : Int) (r : Cf) : PyData := .tuple [.int c, .tuple (r.map pairP)]
theorem toP_at {S : Sto} (i n : Nat) (h : 30 ≤ n) : toP S n (atm i) = some (pat i) := by
  obtain ⟨m, rfl⟩ : ∃ m, n = m + 30 := ⟨n - 30, by omega⟩
  match i with
  | 0 => rfl
  | i + 1 => rfl
theorem toP_pair {S : Sto} (z : Nat × Int) (n : Nat) (h : 40 ≤ n) : toP S n (pairD z) = some (pairP z) := by
  obtain ⟨m, rfl⟩ : ∃ m, n = m + 4 := ⟨n - 4, by omega⟩
  have e1 := toP_at (S := S) z.1 (m + 2) (by omega)
  show toP S (m + 3 + 1) (.tup [atm z.1, .int z.2]) = _
  refine toP_tup ?_
  unfold toPs
  rw [e1]
  rfl
theorem toP_rwC {S : Sto} (r : Cf) (n : Nat) (h : r.length + 60 ≤ n) : toP S n (rwC r) = some (.tuple (r.map pairP)) := by
  obtain ⟨m, rfl⟩ : ∃ m, n = m + 1 := ⟨n - 1, by omega⟩
  exact toP_tup (toPs_map (fun z n hn => toP_pair z n hn) r m (by omega))
theorem toP_tmC {S : Sto} (c : Int) (r : Cf) (n : Nat) (h : r.length + 70 ≤ n) : toP S n (tmC c r) = some (tmP c r) := by
  obtain ⟨m, rfl⟩ : ∃ m, n = m + 4 := ⟨n - 4, by omega⟩
  have e1 := toP_rwC (S := S) r (m + 1) (by omega)
  show toP S (m + 3 + 1) (.tup [.int c, rwC r]) = _
  refine toP_tup ?_
  show toPs S (m + 2 + 1) [.int c, rwC r] = _
  unfold toPs
  rw [show toPs S (m + 2) [rwC r] = some [.tuple (r.map pairP)] from by
    show toPs S (m + 1 + 1) [rwC r] = _
    unfold toPs
    rw [e1]; rfl]
  rfl
theorem shp_str {z : Str} (h : PyData.strOk z = true) : Shp 0 (.str z) := ⟨by simp [PyData.canLay0, h], by simp [PyData.depth]⟩
theorem shp_list {k : Nat} {ps : List PyData} (h : ∀ p ∈ ps, Shp k p) : Shp (k + 1) (.tuple ps) := shp_tup h
theorem shp_paX : Shp 1 paX := shp_tup fun p hp => by
  simp only [List.mem_cons, List.not_mem_nil, or_false] at hp
  rcases hp with rfl | rfl <;> exact shp_str (by decide +kernel)
theorem shp_paY : Shp 5 paY := shp_tup (k := 4) fun p hp => by
  simp only [List.mem_cons, List.not_mem_nil, or_false] at hp
  rcases hp with rfl | rfl | rfl
  · exact shp_mono (shp_str (by decide +kernel)) (by omega)
  · exact shp_mono (shp_str (by decide +kernel)) (by omega)
  · refine shp_tup (k := 3) fun p hp => ?_
    simp only [List.mem_cons, List.not_mem_nil, or_false] at hp
    rcases hp with rfl | rfl
    · exact shp_mono (shp_int _) (by omega)
    · refine shp_tup (k := 2) fun p hp => ?_
      simp only [List.mem_cons, List.not_mem_nil, or_false] at hp
      subst hp
      refine shp_tup (k := 1) fun p hp => ?_
      simp only [List.mem_cons, List.not_mem_nil, or_false] at hp
      rcases hp with rfl | rfl
      · exact shp_paX
      · exact shp_mono (shp_int _) (by omega)
theorem shp_at (i : Nat) : Shp 5 (pat i) := by
  match i with
  | 0 => exact shp_mono shp_paX (by omega)
  | i + 1 => exact shp_paY
theorem shp_pair (z : Nat × Int) : Shp 6 (pairP z) := shp_tup fun p hp => by
  simp only [List.mem_cons, List.not_mem_nil, or_false] at hp
  rcases hp with rfl | rfl
  · exact shp_at _
  · exact shp_mono (shp_int _) (by omega)
theorem shp_rwC (r : Cf) : Shp 7 (.tuple (r.map pairP)) := shp_tup fun p hp => by
  obtain ⟨z, _, rfl⟩ := List.mem_map.mp hp
  exact shp_pair z
theorem shp_tmC (c : Int) (r : Cf) : Shp 8 (tmP c r) := shp_tup fun p hp => by
  simp only [List.mem_cons, List.not_mem_nil, or_false] at hp
  rcases hp with rfl | rfl
  · exact shp_mono (shp_int _) (by omega)
  · exact shp_rwC r
/-! alike to itself -/
theorem eqv_refl : ∀ p : PyData, PySem.W.alike p p = true → PyData.eqv p p = true := PySem.W.eqv_refl_alike
theorem alike_at (i : Nat) : PySem.W.alike (pat i) (pat i) = true := by
  match i with
  | 0 => decide +kernel
  | i + 1 =>
    show PySem.W.alike paY paY = true
    decide +kernel
theorem alike_tup (a b : List PyData) : PySem.W.alike (.tuple a) (.tuple b) = PySem.W.alikeAll a b := by simp [PySem.W.alike]
theorem alike_int (a b : Int) : PySem.W.alike (.int a) (.int b) = true := by simp [PySem.W.alike]
theorem alike_str (a b : Str) : PySem.W.alike (.str a) (.str b) = true := by simp [PySem.W.alike]
theorem alike_cons (x y : PyData) (a b : List PyData) : PySem.W.alikeAll (x :: a) (y :: b) = (PySem.W.alike x y && PySem.W.alikeAll a b) := by simp [PySem.W.alikeAll]
theorem alike_nil : PySem.W.alikeAll [] [] = true := by simp [PySem.W.alikeAll]
theorem alike_pair (z : Nat × Int) : PySem.W.alike (pairP z) (pairP z) = true := by
  unfold pairP
  rw [alike_tup, alike_cons, alike_cons, alike_nil, alike_at, alike_int]; rfl
theorem alike_all : ∀ r : Cf, PySem.W.alikeAll (r.map pairP) (r.map pairP) = true
  | [] => alike_nil
  | z :: r => by rw [List.map_cons, alike_cons, alike_pair, alike_all r]; rfl
theorem alike_tm (c : Int) (r : Cf) : PySem.W.alike (tmP c r) (tmP c r) = true := by
  unfold tmP
  rw [alike_tup, alike_cons, alike_cons, alike_nil, alike_int, alike_tup, alike_all]; rfl
/-! == and < of atoms -/
theorem at_eq {S : Sto} (i j : Nat) (hi : i < 2) (hj : j < 2) : fEq (atm i) (atm j) S = some (.bl (decide (i = j)), S) := by
  have h := eqD_of (S := S) (toP_at i 1000000 (by omega)) (toP_at j 1000000 (by omega)) (shp_ok (shp_at i) (by omega)) (shp_ok (shp_at j) (by omega))
  match i, j, hi, hj with
  | 0, 0, _, _ => exact (eq_tup (b := true) (h.trans (congrArg some (by decide +kernel)))).1
  | 0, 1, _, _ => exact (eq_tup (b := false) (h.trans (congrArg some (by decide +kernel)))).1
  | 1, 0, _, _ => exact (eq_tup (b := false) (h.trans (congrArg some (by decide +kernel)))).1
  | 1, 1, _, _ => exact (eq_tup (b := true) (h.trans (congrArg some (by decide +kernel)))).1
  | _ + 2, _, h, _ => omega
  | _, _ + 2, _, h => omega
theorem lt_of {S : Sto} {as bs : List D} {p q : PyData} {b : Bool} (h1 : toP S 1000000 (.tup as) = some p) (h2 : toP S 1000000 (.tup bs) = some q) (h3 : PySem.W.alike p q = true) (h4 : nonP p = false) (h5 : p.depth ≤ 60) (h6 : q.depth ≤ 60) (hb : PySem.W.dataLt p q = b) :
    fLtD (.tup as) (.tup bs) S = some (.bl b, S) := by
  show (ltD S (.tup as) (.tup bs)).map _ = _
  unfold ltD
  rw [h1, h2]
  dsimp only
  rw [if_pos ⟨h3, h4, h5, h6⟩, hb]; rfl
theorem at_lt {S : Sto} (i j : Nat) (hi : i < 2) (hj : j < 2) : fLtD (atm i) (atm j) S = some (.bl (decide (i < j)), S) := by
  have h1 := toP_at (S := S) i 1000000 (by omega)
  have h2 := toP_at (S := S) j 1000000 (by omega)
  have d1 := (shp_at i).2
  have d2 := (shp_at j).2
  match i, j, hi, hj with
  | 0, 0, _, _ => exact lt_of h1 h2 (by decide +kernel) rfl (by omega) (by omega) (by decide +kernel)
  | 0, 1, _, _ => exact lt_of h1 h2 (by decide +kernel) rfl (by omega) (by omega) (by decide +kernel)
  | 1, 0, _, _ => exact lt_of h1 h2 (by decide +kernel) rfl (by omega) (by omega) (by decide +kernel)
  | 1, 1, _, _ => exact lt_of h1 h2 (by decide +kernel) rfl (by omega) (by omega) (by decide +kernel)
  | _ + 2, _, h, _ => omega
  | _, _ + 2, _, h => omega
end K26

namespace K26
open PySem PySem.Spec L2 Mi
/-! ### term_sort -/
structure Good (r : Cf) : Prop where
  nz : ∀ z ∈ r, z.2 ≠ 0 ∧ z.1 < 2
  asc : r.Pairwise fun a b => a.1 < b.1
theorem cf_good (p q : Int) : Good (cf p q) := by
  unfold cf
  by_cases hp : p = 0 <;> by_cases hq : q = 0 <;> simp only [hp, hq, if_true, if_false, List.nil_append, List.append_nil, List.cons_append]
  · exact ⟨fun z h => (by cases h), .nil⟩
  · exact ⟨fun z h => (by rw [List.mem_singleton.mp h]; exact ⟨hq, (by show 1 < 2; decide)⟩), List.pairwise_singleton _ _⟩
  · exact ⟨fun z h => (by rw [List.mem_singleton.mp h]; exact ⟨hp, (by show 0 < 2; decide)⟩), List.pairwise_singleton _ _⟩
  · refine ⟨fun z h => ?_, ?_⟩
    · simp only [List.mem_cons, List.not_mem_nil, or_false] at h
      rcases h with rfl | rfl
      · exact ⟨hp, (by show 0 < 2; decide)⟩
      · exact ⟨hq, (by show 1 < 2; decide)⟩
    · exact List.pairwise_cons.mpr ⟨fun b hb => (by rw [List.mem_singleton.mp hb]; show 0 < 1; decide), List.pairwise_singleton _ _⟩
theorem cf_len (p q : Int) : (cf p q).length ≤ 2 := by
  unfold cf
  by_cases hp : p = 0 <;> by_cases hq : q = 0 <;> simp [hp, hq]
def TB (R : Nat → MFn) : MS := (sSeq (sIf (mOrT (mNotT (mB (m1 (fIsi ["tuple"]) (mV 3)))) (mOrT (mB (m2 fNe (mB1 (f1L fLen) (mCons (mV 3) mNil)) (mC (.int 2)))) (mOrT (mNotT (mB (mCall M_is_whole (mCons (m2 fIx (mV 3) (mC (.int 1))) mNil)))) (mB (m2 fEq (m2 fIx (mV 3) (mC (.int 1))) (mC (.int 0)))))))
  (sRet (mC d_BAD))
  sNil)
  (sSeq (sSet 2 (m2 fOr (mV 2) (mCall (R 0) (mCons (m2 fIx (mV 3) (mC (.int 0))) (mCons (mV 1) mNil)))))
  (sIf (mB (m2 fEq (mV 2) (mC d_BAD)))
  (sRet (mC d_BAD))
  sNil)))
def TO : MS := (sIf (mNotT (mB (m2 fLtD (m2 fIx (m2 fIx (m2 fIx (mV 0) (mC (.int 1))) (m2 fSub (mV 4) (mC (.int 1)))) (mC (.int 0))) (m2 fIx (m2 fIx (m2 fIx (mV 0) (mC (.int 1))) (mV 4)) (mC (.int 0))))))
  (sRet (mC d_BAD))
  sNil)
theorem len_tt {S : Sto} {es : List D} : fLen (.tup es) S = some (.int (es.length : Int), S) := e_lenT
theorem isi_pair {S : Sto} {z : Nat × Int} : fIsi ["tuple"] (pairD z) S = some (.bl true, S) := (rfl)
theorem len_pair {S : Sto} {z : Nat × Int} : fLen (pairD z) S = some (.int 2, S) := (rfl)
theorem pr0 {S : Sto} {z : Nat × Int} : fIx (pairD z) (.int 0) S = some (atm z.1, S) := e_t0
theorem pr1 {S : Sto} {z : Nat × Int} : fIx (pairD z) (.int 1) S = some (.int z.2, S) := e_t1
theorem tm0 {S : Sto} {c : Int} {r : Cf} : fIx (tmC c r) (.int 0) S = some (.int c, S) := e_t0
theorem tm1 {S : Sto} {c : Int} {r : Cf} : fIx (tmC c r) (.int 1) S = some (rwC r, S) := e_t1
theorem isi_tm {S : Sto} {c : Int} {r : Cf} : fIsi ["tuple"] (tmC c r) S = some (.bl true, S) := (rfl)
theorem isi_rw {S : Sto} {r : Cf} : fIsi ["tuple"] (rwC r) S = some (.bl true, S) := (rfl)
theorem len_tm {S : Sto} {c : Int} {r : Cf} : fLen (tmC c r) S = some (.int 2, S) := (rfl)
theorem len_rw {S : Sto} {r : Cf} : fLen (rwC r) S = some (.int (r.length : Int), S) := by
  show some (D.int ((r.map pairD).length : Int), S) = _
  rw [List.length_map]
theorem rw_ix {S : Sto} {r : Cf} {i : Nat} {z : Nat × Int} (h : r[i]? = some z) : fIx (rwC r) (.int (i : Int)) S = some (pairD z, S) := e_ixT (by rw [List.getElem?_map, h]; rfl)
theorem or01 {S : Sto} {t : Int} (h : t = 0 ∨ t = 1) : fOr (.int t) (.int 1) S = some (.int 1, S) := by
  rcases h with rfl | rfl
  · show some (D.int (Builtin.bitOr 0 1), S) = _
    rw [show Builtin.bitOr 0 1 = 1 from by decide +kernel]
  · show some (D.int (Builtin.bitOr 1 1), S) = _
    rw [show Builtin.bitOr 1 1 = 1 from by decide +kernel]
theorem tb_loop {S : Sto} {R : Nat → MFn} {x0 x4 : Option D} {r : Cf} (hr : Good r) (hR : ∀ z ∈ r, R 0 [atm z.1, .int 0] S = .ok (.int 1) S) : ∀ (suf pre : Cf) (t : Int) (x3 : Option D), r = pre ++ suf → (t = 0 ∨ t = 1) → ∃ y3 : Option D,
    forI (itFix (r.map pairD)) (gN 3) (TB R) suf.length pre.length [x0, some (.int 0), some (.int t), x3, x4] S = .nx [x0, some (.int 0), some (.int (if suf = [] then t else 1)), y3, x4] S
  | [], pre, t, x3, he, ht => by
    refine ⟨x3, ?_⟩
    have : pre.length = (r.map pairD).length := by rw [he]; simp
    rw [this, fx_end, if_pos rfl]
  | z :: suf, pre, t, x3, he, ht => by
    have hm : z ∈ r := by rw [he]; simp
    have hd : (r.map pairD)[pre.length]? = some (pairD z) := by rw [he]; simp
    obtain ⟨y3, q⟩ := tb_loop (x0 := x0) (x4 := x4) hr hR suf (pre ++ [z]) 1 (some (pairD z)) (by rw [he]; simp) (.inr rfl)
    refine ⟨y3, ?_⟩
    have d1 : decide (z.2 = 0) = false := decide_eq_false (hr.nz z hm).1
    have st : TB R [x0, some (.int 0), some (.int t), some (pairD z), x4] S = .nx [x0, some (.int 0), some (.int 1), some (pairD z), x4] S := by
      have d2 : decide ((1 : Int) = 3) = false := rfl
      unfold TB
      simp only [bind_ok, bind_ex, of_some, rs_ok, rs_ex, then_nx, then_rt, then_ex, then_bk, then_ct, mV0, mVs, mC_, m2_, m1_, mB_, kB_bl, mB1_, mNil_, mCons_, f1L_, f2L_, mTup_, mLst_, mCall_, mNotT_, mAndT_, mOrT_, mIf_, mAndV_, mOrV_, mNotV_, kAndV_bl, kOrV_bl, kNotV_bl, mSl_, mPart_, kPart_, mNoPart_, sSeq_, sSet_, sRet_, sIf_, sExpr_, sNil_, sBreak_, sCont_, e_lt, e_ltD, e_le, e_gt, e_ge, e_eqI, e_neI, e_eqS, e_neS, e_add, e_sub, List.set_cons_zero, List.set_cons_succ, kTu0, kTu1, kTu2, kTu3, kTu4, kTu5, kLs0, kLs1, kLs2, kLs3, kLs4, kLs5, mM_, mM0_, sAsg_, sFor_, iRng_, iSeq_, isi_pair, len_pair, pr1, pr0, whole_int, d1, d2, d_BAD, decide_true, Bool.not_true, Bool.false_eq_true, if_false, hR z hm, or01 ht]
    rw [show (z :: suf).length = suf.length + 1 from rfl, fx_nx hd rfl st]
    rw [List.length_append, List.length_singleton] at q
    rw [q, if_neg (List.cons_ne_nil _ _)]
    by_cases hs : suf = []
    · rw [if_pos hs]
    · rw [if_neg hs]
theorem to_loop {S : Sto} {c : Int} {x1 x2 x3 : Option D} {r : Cf} (hr : Good r) : ∀ (k i : Nat) (x4 : Option D), r.length - 1 = i + k → ∃ y4 : Option D,
    forI (itRng 1 (r.length - 1)) (gN 4) TO k i [some (tmC c r), x1, x2, x3, x4] S = .nx [some (tmC c r), x1, x2, x3, y4] S
  | 0, i, x4, hk => ⟨x4, by rw [show i = r.length - 1 by omega, fr_end]⟩
  | k + 1, i, x4, hk => by
    obtain ⟨y4, q⟩ := to_loop (c := c) (x1 := x1) (x2 := x2) (x3 := x3) hr k (i + 1) (some (.int (1 + (i : Int)))) (by omega)
    refine ⟨y4, ?_⟩
    obtain ⟨a, ha⟩ : ∃ a, r[i]? = some a := ⟨_, List.getElem?_eq_getElem (by omega)⟩
    obtain ⟨b, hb⟩ : ∃ b, r[i + 1]? = some b := ⟨_, List.getElem?_eq_getElem (by omega)⟩
    have hlt : a.1 < b.1 := by
      obtain ⟨h1, e1⟩ := List.getElem?_eq_some_iff.mp ha
      obtain ⟨h2, e2⟩ := List.getElem?_eq_some_iff.mp hb
      have := List.pairwise_iff_getElem.mp hr.asc i (i + 1) h1 h2 (by omega)
      rw [e1, e2] at this; exact this
    have hb2 := (hr.nz b (List.mem_of_getElem? hb)).2
    have e1 : (1 + (i : Int)) - 1 = (i : Int) := by omega
    have e2 : (1 + (i : Int)) = ((i + 1 : Nat) : Int) := by omega
    have ia := rw_ix (S := S) ha
    have ib := rw_ix (S := S) hb
    rw [← e2] at ib
    have d1 : decide (a.1 < b.1) = true := decide_eq_true hlt
    rw [fr_nx (env2 := [some (tmC c r), x1, x2, x3, some (.int (1 + (i : Int)))]) (S2 := S) (by omega) (by
      unfold TO
      simp only [bind_ok, bind_ex, of_some, rs_ok, rs_ex, then_nx, then_rt, then_ex, then_bk, then_ct, mV0, mVs, mC_, m2_, m1_, mB_, kB_bl, mB1_, mNil_, mCons_, f1L_, f2L_, mTup_, mLst_, mCall_, mNotT_, mAndT_, mOrT_, mIf_, mAndV_, mOrV_, mNotV_, kAndV_bl, kOrV_bl, kNotV_bl, mSl_, mPart_, kPart_, mNoPart_, sSeq_, sSet_, sRet_, sIf_, sExpr_, sNil_, sBreak_, sCont_, e_lt, e_ltD, e_le, e_gt, e_ge, e_eqI, e_neI, e_eqS, e_neS, e_add, e_sub, List.set_cons_zero, List.set_cons_succ, kTu0, kTu1, kTu2, kTu3, kTu4, kTu5, kLs0, kLs1, kLs2, kLs3, kLs4, kLs5, mM_, mM0_, sAsg_, sFor_, iRng_, iSeq_, tm1, e1, ia, ib, pr0, at_lt a.1 b.1 (by omega) hb2, d1, Bool.not_true, Bool.false_eq_true, if_false]), q]
theorem term_srt {S : Sto} {n : Nat} {c : Int} {r : Cf} (hr : Good r) (hl : r.length ≤ 100) (hR : ∀ z ∈ r, R_atom_sort n 0 [atm z.1, .int 0] S = .ok (.int 1) S) : R_atom_sort (n + 1) 1 [tmC c r, .int 0] S = .ok (.int (if r = [] then 0 else 1)) S := by
  obtain ⟨y3, q1⟩ := tb_loop (x0 := some (tmC c r)) (x4 := none) hr hR r [] 0 none rfl (.inl rfl)
  obtain ⟨y4, q2⟩ := to_loop (S := S) (c := c) (x1 := some (.int 0)) (x2 := some (.int (if r = [] then 0 else 1))) (x3 := y3) hr (r.length - 1) 0 none (by omega)
  have e : R_atom_sort (n + 1) 1 = mFn 2 5 (B_term_sort (R_atom_sort n)) := rfl
  have hk : ∀ S, kRngI [.int 1, .int (r.length : Int)] S = .ok (itRng 1 (r.length - 1)) S := fun S => by
    rw [kRng2 (by omega)]
    rw [show ((r.length : Int) - 1).toNat = r.length - 1 by omega]
  have e1 : (itFix (r.map pairD)).n = r.length := by show (r.map pairD).length = _; rw [List.length_map]
  have e2 : (itRng 1 (r.length - 1)).n = r.length - 1 := rfl
  have ks : kSeqI (rwC r) S = .ok (itFix (r.map pairD)) S := rfl
  rw [e]
  unfold mFn B_term_sort
  unfold TB at q1
  unfold TO at q2
  simp only [List.length_cons, List.length_nil, Nat.reduceAdd, if_true, List.map_cons, List.map_nil, List.replicate, List.cons_append, List.nil_append, Nat.reduceSub, Nat.sub_self]
  simp only [bind_ok, bind_ex, of_some, rs_ok, rs_ex, then_nx, then_rt, then_ex, then_bk, then_ct, mV0, mVs, mC_, m2_, m1_, mB_, kB_bl, mB1_, mNil_, mCons_, f1L_, f2L_, mTup_, mLst_, mCall_, mNotT_, mAndT_, mOrT_, mIf_, mAndV_, mOrV_, mNotV_, kAndV_bl, kOrV_bl, kNotV_bl, mSl_, mPart_, kPart_, mNoPart_, sSeq_, sSet_, sRet_, sIf_, sExpr_, sNil_, sBreak_, sCont_, e_lt, e_ltD, e_le, e_gt, e_ge, e_eqI, e_neI, e_eqS, e_neS, e_add, e_sub, List.set_cons_zero, List.set_cons_succ, kTu0, kTu1, kTu2, kTu3, kTu4, kTu5, kLs0, kLs1, kLs2, kLs3, kLs4, kLs5, mM_, mM0_, sAsg_, sFor_, iRng_, iSeq_, isi_tm, len_tm, tm0, tm1, isi_rw, whole_int, decide_true, Bool.not_true, Bool.false_eq_true, if_false, ks, e1, d_NONE, len_rw, hk, e2]
  rw [show ([] : Cf).length = 0 from rfl] at q1
  rw [q1]
  simp only [bind_ok, bind_ex, of_some, rs_ok, rs_ex, then_nx, then_rt, then_ex, then_bk, then_ct, mV0, mVs, mC_, m2_, m1_, mB_, kB_bl, mB1_, mNil_, mCons_, f1L_, f2L_, mTup_, mLst_, mCall_, mNotT_, mAndT_, mOrT_, mIf_, mAndV_, mOrV_, mNotV_, kAndV_bl, kOrV_bl, kNotV_bl, mSl_, mPart_, kPart_, mNoPart_, sSeq_, sSet_, sRet_, sIf_, sExpr_, sNil_, sBreak_, sCont_, e_lt, e_ltD, e_le, e_gt, e_ge, e_eqI, e_neI, e_eqS, e_neS, e_add, e_sub, List.set_cons_zero, List.set_cons_succ, kTu0, kTu1, kTu2, kTu3, kTu4, kTu5, kLs0, kLs1, kLs2, kLs3, kLs4, kLs5, mM_, mM0_, sAsg_, sFor_, iRng_, iSeq_, tm1, len_rw, hk, e2, q2]
  rfl
theorem at_srt {S : Sto} {n : Nat} (i : Nat) : R_atom_sort (n + 4) 0 [atm i, .int 0] S = .ok (.int 1) S := by
  have nm : ∀ z : Str, M_name_sort [.str z] S = .ok (.int 1) S := fun z => by
    have hi : fIsi ["str"] (.str z) S = some (.bl true, S) := rfl
    unfold M_name_sort mFn B_name_sort
    simp only [List.length_cons, List.length_nil, Nat.reduceAdd, if_true, List.map_cons, List.map_nil, List.replicate, List.cons_append, List.nil_append, Nat.reduceSub, Nat.sub_self]
    simp only [bind_ok, bind_ex, of_some, rs_ok, rs_ex, then_nx, then_rt, then_ex, then_bk, then_ct, mV0, mVs, mC_, m2_, m1_, mB_, kB_bl, mB1_, mNil_, mCons_, f1L_, f2L_, mTup_, mLst_, mCall_, mNotT_, mAndT_, mOrT_, mIf_, mAndV_, mOrV_, mNotV_, kAndV_bl, kOrV_bl, kNotV_bl, mSl_, mPart_, kPart_, mNoPart_, sSeq_, sSet_, sRet_, sIf_, sExpr_, sNil_, sBreak_, sCont_, e_lt, e_ltD, e_le, e_gt, e_ge, e_eqI, e_neI, e_eqS, e_neS, e_add, e_sub, List.set_cons_zero, List.set_cons_succ, kTu0, kTu1, kTu2, kTu3, kTu4, kTu5, kLs0, kLs1, kLs2, kLs3, kLs4, kLs5, mM_, mM0_, sAsg_, sFor_, iRng_, iSeq_, hi, if_true]
    rfl
  have in23 : ∀ k : Int, k = 2 ∨ k = 3 → fNotInD (.int k) (.tup [.int 2, .int 3]) S = some (.bl false, S) := fun k hk => by
    rcases hk with rfl | rfl <;> rfl
  have inN : ∀ {S : Sto}, fInD (.str "name") (.tup [.str "name", .str "size"]) S = some (.bl true, S) := fun {S} => rfl
  have nX : ∀ (n : Nat), R_atom_sort (n + 1) 0 [atX, .int 0] S = .ok (.int 1) S := fun n => by
    have e : R_atom_sort (n + 1) 0 = mFn 2 4 (B_atom_sort (R_atom_sort n)) := rfl
    have x0 : fIx atX (.int 0) S = some (.str "name", S) := e_t0
    have x1 : fIx atX (.int 1) S = some (.str "x", S) := e_t1
    have hi : fIsi ["tuple"] atX S = some (.bl true, S) := rfl
    have hl : fLen atX S = some (.int 2, S) := rfl
    rw [e]
    unfold mFn B_atom_sort
    simp only [List.length_cons, List.length_nil, Nat.reduceAdd, if_true, List.map_cons, List.map_nil, List.replicate, List.cons_append, List.nil_append, Nat.reduceSub, Nat.sub_self]
    simp only [bind_ok, bind_ex, of_some, rs_ok, rs_ex, then_nx, then_rt, then_ex, then_bk, then_ct, mV0, mVs, mC_, m2_, m1_, mB_, kB_bl, mB1_, mNil_, mCons_, f1L_, f2L_, mTup_, mLst_, mCall_, mNotT_, mAndT_, mOrT_, mIf_, mAndV_, mOrV_, mNotV_, kAndV_bl, kOrV_bl, kNotV_bl, mSl_, mPart_, kPart_, mNoPart_, sSeq_, sSet_, sRet_, sIf_, sExpr_, sNil_, sBreak_, sCont_, e_lt, e_ltD, e_le, e_gt, e_ge, e_eqI, e_neI, e_eqS, e_neS, e_add, e_sub, List.set_cons_zero, List.set_cons_succ, kTu0, kTu1, kTu2, kTu3, kTu4, kTu5, kLs0, kLs1, kLs2, kLs3, kLs4, kLs5, mM_, mM0_, sAsg_, sFor_, iRng_, iSeq_, hi, hl, x0, x1, in23 2 (.inl rfl), inN, nm, Bool.not_true, Bool.false_eq_true, if_false, decide_true, if_true]
    rfl
  match i with
  | 0 => exact nX (n + 3)
  | i + 1 =>
    have e : R_atom_sort (n + 4) 0 = mFn 2 4 (B_atom_sort (R_atom_sort (n + 3))) := rfl
    have hin : R_atom_sort (n + 3) 1 [tmC 1 [(0, 1)], .int 0] S = .ok (.int 1) S := by
      have := term_srt (S := S) (n := n + 2) (c := 1) (r := [(0, 1)]) ⟨fun z h => (by rw [List.mem_singleton.mp h]; decide), List.pairwise_singleton _ _⟩ (by simp) (fun z h => by rw [List.mem_singleton.mp h]; exact nX (n + 1))
      exact this
    have x0 : fIx atY (.int 0) S = some (.str "read", S) := e_t0
    have x1 : fIx atY (.int 1) S = some (.str "a", S) := e_t1
    have x2 : fIx atY (.int 2) S = some (tmC 1 [(0, 1)], S) := e_t2
    have hi : fIsi ["tuple"] atY S = some (.bl true, S) := rfl
    have hl : fLen atY S = some (.int 3, S) := rfl
    have d32 : decide ((3 : Int) = 2) = false := rfl
    show R_atom_sort (n + 4) 0 [atY, .int 0] S = _
    rw [e]
    unfold mFn B_atom_sort
    simp only [List.length_cons, List.length_nil, Nat.reduceAdd, if_true, List.map_cons, List.map_nil, List.replicate, List.cons_append, List.nil_append, Nat.reduceSub, Nat.sub_self]
    simp only [bind_ok, bind_ex, of_some, rs_ok, rs_ex, then_nx, then_rt, then_ex, then_bk, then_ct, mV0, mVs, mC_, m2_, m1_, mB_, kB_bl, mB1_, mNil_, mCons_, f1L_, f2L_, mTup_, mLst_, mCall_, mNotT_, mAndT_, mOrT_, mIf_, mAndV_, mOrV_, mNotV_, kAndV_bl, kOrV_bl, kNotV_bl, mSl_, mPart_, kPart_, mNoPart_, sSeq_, sSet_, sRet_, sIf_, sExpr_, sNil_, sBreak_, sCont_, e_lt, e_ltD, e_le, e_gt, e_ge, e_eqI, e_neI, e_eqS, e_neS, e_add, e_sub, List.set_cons_zero, List.set_cons_succ, kTu0, kTu1, kTu2, kTu3, kTu4, kTu5, kLs0, kLs1, kLs2, kLs3, kLs4, kLs5, mM_, mM0_, sAsg_, sFor_, iRng_, iSeq_, hi, hl, x0, x1, x2, in23 3 (.inr rfl), nm, hin, d32, or01 (.inr rfl), Bool.not_true, Bool.false_eq_true, if_false, decide_true, if_true]
    rfl
theorem term_sort {S : Sto} {c : Int} {r : Cf} (hr : Good r) (hl : r.length ≤ 100) : M_term_sort [tmC c r, .int 0] S = .ok (.int (if r = [] then 0 else 1)) S :=
  term_srt (n := 11) hr hl fun z _ => at_srt (n := 7) z.1
end K26

namespace K26
open PySem PySem.Spec L2 Mi
/-! ### coefficients -/
def co : Cf → Nat → Int
  | [], _ => 0
  | z :: r, a => (if z.1 = a then z.2 else 0) + co r a
def scl (k : Int) (r : Cf) : Cf := r.map fun z => (z.1, k * z.2)
theorem co_app : ∀ (r s : Cf) (a : Nat), co (r ++ s) a = co r a + co s a
  | [], s, a => by show co s a = 0 + co s a; omega
  | z :: r, s, a => by
    show (if z.1 = a then z.2 else 0) + co (r ++ s) a = (if z.1 = a then z.2 else 0) + co r a + co s a
    rw [co_app r s a]; omega
theorem co_scl (k : Int) : ∀ (r : Cf) (a : Nat), co (scl k r) a = k * co r a
  | [], a => by show (0 : Int) = k * 0; omega
  | z :: r, a => by
    show (if z.1 = a then k * z.2 else 0) + co (scl k r) a = k * ((if z.1 = a then z.2 else 0) + co r a)
    rw [co_scl k r a, Int.mul_add]
    by_cases h : z.1 = a
    · rw [if_pos h, if_pos h]
    · rw [if_neg h, if_neg h]; omega
theorem co_none : ∀ {r : Cf} {a : Nat}, (∀ z ∈ r, z.1 ≠ a) → co r a = 0
  | [], _, _ => rfl
  | z :: r, a, h => by
    show (if z.1 = a then z.2 else 0) + co r a = 0
    rw [if_neg (h z (List.mem_cons_self ..)), co_none fun y hy => h y (List.mem_cons_of_mem _ hy)]; rfl
theorem good_cf {r : Cf} (h : Good r) : r = cf (co r 0) (co r 1) := by
  match r, h with
  | [], _ => rfl
  | [z], h =>
    obtain ⟨h1, h2⟩ := h.nz z (List.mem_singleton.mpr rfl)
    obtain ⟨a, n⟩ := z
    match a, h2 with
    | 0, _ =>
      have e0 : co [(0, n)] 0 = n := by show n + 0 = n; omega
      have e1 : co [(0, n)] 1 = 0 := rfl
      have h1' : n ≠ 0 := h1
      rw [e0, e1]; unfold cf; rw [if_neg h1', if_pos rfl]; rfl
    | 1, _ =>
      have e0 : co [(1, n)] 0 = 0 := rfl
      have e1 : co [(1, n)] 1 = n := by show n + 0 = n; omega
      have h1' : n ≠ 0 := h1
      rw [e0, e1]; unfold cf; rw [if_pos rfl, if_neg h1']; rfl
    | _ + 2, h => exact absurd (show _ + 2 < 2 from h) (by omega)
  | z :: y :: r, h =>
    obtain ⟨z1, z2⟩ := h.nz z (List.mem_cons_self ..)
    obtain ⟨y1, y2⟩ := h.nz y (List.mem_cons_of_mem _ (List.mem_cons_self ..))
    obtain ⟨p1, p2⟩ := List.pairwise_cons.mp h.asc
    obtain ⟨p3, p4⟩ := List.pairwise_cons.mp p2
    have hzy := p1 y (List.mem_cons_self ..)
    have hr : r = [] := by
      cases r with
      | nil => rfl
      | cons w r =>
        have hw := (h.nz w (List.mem_cons_of_mem _ (List.mem_cons_of_mem _ (List.mem_cons_self ..)))).2
        have := p3 w (List.mem_cons_self ..)
        omega
    subst hr
    obtain ⟨a, n⟩ := z
    obtain ⟨b, m⟩ := y
    have ea : a = 0 := by have h1 : a < b := hzy; have h2 : b < 2 := y2; omega
    have eb : b = 1 := by have h1 : a < b := hzy; have h2 : b < 2 := y2; omega
    subst ea eb
    have e0 : co [(0, n), (1, m)] 0 = n := by show n + (0 + 0) = n; omega
    have e1 : co [(0, n), (1, m)] 1 = m := by show 0 + (m + 0) = m; omega
    have h1' : n ≠ 0 := z1
    have h2' : m ≠ 0 := y1
    rw [e0, e1]; unfold cf; rw [if_neg h1', if_neg h2']; rfl
theorem co_cf (p q : Int) : co (cf p q) 0 = p ∧ co (cf p q) 1 = q := by
  unfold cf
  by_cases hp : p = 0 <;> by_cases hq : q = 0 <;> simp [hp, hq, co]
theorem scl_good {k : Int} {r : Cf} (hk : k ≠ 0) (h : Good r) : Good (scl k r) := by
  refine ⟨fun z hz => ?_, ?_⟩
  · obtain ⟨y, hy, rfl⟩ := List.mem_map.mp hz
    obtain ⟨h1, h2⟩ := h.nz y hy
    exact ⟨fun e => by rcases Int.mul_eq_zero.mp e with e | e <;> contradiction, h2⟩
  · exact List.pairwise_map.mpr (h.asc.imp fun x => x)
/-- where two rows are being added: told so far, what is left of both -/
structure MgInv (k : Int) (L M T l m : Cf) : Prop where
  lef : Good (T ++ l)
  rig : Good (T ++ scl k m)
  sum : ∀ a, co T a + co l a + k * co m a = co L a + k * co M a
theorem good_cons {T l : Cf} {z : Nat × Int} (h : Good (T ++ z :: l)) : Good (T ++ l) := by
  refine ⟨fun y hy => h.nz y ?_, ?_⟩
  · rcases List.mem_append.mp hy with hy | hy
    · exact List.mem_append_left _ hy
    · exact List.mem_append_right _ (List.mem_cons_of_mem _ hy)
  · exact h.asc.sublist (List.Sublist.append_left (List.sublist_cons_self ..) _)
theorem good_split {T l : Cf} : Good (T ++ l) ↔ Good T ∧ Good l ∧ ∀ x ∈ T, ∀ y ∈ l, x.1 < y.1 := by
  constructor
  · intro h
    obtain ⟨h1, h2, h3⟩ := List.pairwise_append.mp h.asc
    exact ⟨⟨fun z hz => h.nz z (List.mem_append_left _ hz), h1⟩, ⟨fun z hz => h.nz z (List.mem_append_right _ hz), h2⟩, h3⟩
  · rintro ⟨h1, h2, h3⟩
    refine ⟨fun z hz => ?_, List.pairwise_append.mpr ⟨h1.asc, h2.asc, h3⟩⟩
    rcases List.mem_append.mp hz with hz | hz
    · exact h1.nz z hz
    · exact h2.nz z hz
theorem good_head {z : Nat × Int} {l : Cf} (h : Good (z :: l)) : ∀ y ∈ l, z.1 < y.1 := (List.pairwise_cons.mp h.asc).1
/-- both have it -/
theorem MgInv.both {k : Int} {L M T l m : Cf} {a : Nat} {n c : Int} (hk : k ≠ 0) (h : MgInv k L M T ((a, n) :: l) ((a, c) :: m)) : MgInv k L M (T ++ if n + k * c = 0 then [] else [(a, n + k * c)]) l m := by
  obtain ⟨t1, t2, t3⟩ := good_split.mp h.lef
  obtain ⟨r1, r2, r3⟩ := good_split.mp h.rig
  have hl := good_head t2
  have hm : ∀ y ∈ scl k m, a < y.1 := good_head (z := (a, k * c)) r2
  have ha := (t2.nz (a, n) (List.mem_cons_self ..)).2
  have hs : ∀ b, (co T b + ((if a = b then n else 0) + co l b)) + k * ((if a = b then c else 0) + co m b) = co L b + k * co M b := h.sum
  by_cases h0 : n + k * c = 0
  · rw [if_pos h0, List.append_nil]
    refine ⟨good_cons h.lef, good_cons (z := (a, k * c)) h.rig, fun b => ?_⟩
    have := hs b
    rw [Int.mul_add] at this
    by_cases hb : a = b
    · rw [if_pos hb, if_pos hb] at this; omega
    · rw [if_neg hb, if_neg hb, Int.mul_zero] at this; omega
  · rw [if_neg h0]
    have gT : Good (T ++ [(a, n + k * c)]) := good_split.mpr ⟨t1, ⟨fun z hz => by rw [List.mem_singleton.mp hz]; exact ⟨h0, ha⟩, List.pairwise_singleton _ _⟩, fun x hx y hy => by rw [List.mem_singleton.mp hy]; exact t3 x hx (a, n) (List.mem_cons_self ..)⟩
    refine ⟨good_split.mpr ⟨gT, (good_split (T := [(a, n)]).mp t2).2.1, fun x hx y hy => ?_⟩, good_split.mpr ⟨gT, (good_split (T := [(a, k * c)]).mp r2).2.1, fun x hx y hy => ?_⟩, fun b => ?_⟩
    · rcases List.mem_append.mp hx with hx | hx
      · exact t3 x hx y (List.mem_cons_of_mem _ hy)
      · rw [List.mem_singleton.mp hx]; exact hl y hy
    · rcases List.mem_append.mp hx with hx | hx
      · exact r3 x hx y (List.mem_cons_of_mem _ hy)
      · rw [List.mem_singleton.mp hx]; exact hm y hy
    · have := hs b
      rw [Int.mul_add] at this
      rw [co_app]
      show co T b + ((if a = b then n + k * c else 0) + 0) + co l b + k * co m b = _
      by_cases hb : a = b
      · rw [if_pos hb] at this ⊢; rw [if_pos hb] at this; omega
      · rw [if_neg hb] at this ⊢; rw [if_neg hb, Int.mul_zero] at this; omega
/-- the left one comes first -/
theorem MgInv.left {k : Int} {L M T l m : Cf} {a b : Nat} {n c : Int} (hab : a < b) (h : MgInv k L M T ((a, n) :: l) ((b, c) :: m)) : MgInv k L M (T ++ [(a, n)]) l ((b, c) :: m) := by
  obtain ⟨t1, t2, t3⟩ := good_split.mp h.lef
  obtain ⟨r1, r2, r3⟩ := good_split.mp h.rig
  have hm : ∀ y ∈ scl k m, b < y.1 := good_head (z := (b, k * c)) r2
  refine ⟨by rw [List.append_assoc]; exact h.lef, ?_, fun x => ?_⟩
  · have gT : Good (T ++ [(a, n)]) := good_split.mpr ⟨t1, ⟨fun z hz => by rw [List.mem_singleton.mp hz]; exact t2.nz _ (List.mem_cons_self ..), List.pairwise_singleton _ _⟩, fun x hx y hy => by rw [List.mem_singleton.mp hy]; exact t3 x hx (a, n) (List.mem_cons_self ..)⟩
    refine good_split.mpr ⟨gT, r2, fun x hx y hy => ?_⟩
    rcases List.mem_append.mp hx with hx | hx
    · exact r3 x hx y hy
    · rw [List.mem_singleton.mp hx]
      rcases List.mem_cons.mp (show y ∈ (b, k * c) :: scl k m from hy) with rfl | hy
      · exact hab
      · exact Nat.lt_trans hab (hm y hy)
  · have := h.sum x
    rw [co_app]
    show co T x + ((if a = x then n else 0) + 0) + co l x + k * co ((b, c) :: m) x = _
    rw [← this]
    show _ = co T x + ((if a = x then n else 0) + co l x) + k * co ((b, c) :: m) x
    omega
/-- the right one comes first -/
theorem MgInv.right {k : Int} {L M T l m : Cf} {a b : Nat} {n c : Int} (hab : b < a) (h : MgInv k L M T ((a, n) :: l) ((b, c) :: m)) : MgInv k L M (T ++ [(b, k * c)]) ((a, n) :: l) m := by
  obtain ⟨t1, t2, t3⟩ := good_split.mp h.lef
  obtain ⟨r1, r2, r3⟩ := good_split.mp h.rig
  have hl := good_head t2
  refine ⟨?_, by rw [List.append_assoc]; exact h.rig, fun x => ?_⟩
  · have gT : Good (T ++ [(b, k * c)]) := good_split.mpr ⟨t1, ⟨fun z hz => by rw [List.mem_singleton.mp hz]; exact r2.nz _ (List.mem_cons_self ..), List.pairwise_singleton _ _⟩, fun x hx y hy => by rw [List.mem_singleton.mp hy]; exact r3 x hx (b, k * c) (List.mem_cons_self ..)⟩
    refine good_split.mpr ⟨gT, t2, fun x hx y hy => ?_⟩
    rcases List.mem_append.mp hx with hx | hx
    · exact t3 x hx y hy
    · rw [List.mem_singleton.mp hx]
      rcases List.mem_cons.mp hy with rfl | hy
      · exact hab
      · exact Nat.lt_trans hab (hl y hy)
  · have := h.sum x
    rw [co_app]
    show co T x + ((if b = x then k * c else 0) + 0) + co ((a, n) :: l) x + k * co m x = _
    rw [← this]
    show _ = co T x + co ((a, n) :: l) x + k * ((if b = x then c else 0) + co m x)
    rw [Int.mul_add]
    by_cases hb : b = x
    · rw [if_pos hb, if_pos hb]; omega
    · rw [if_neg hb, if_neg hb]; omega
/-- at the end -/
theorem MgInv.fin {k : Int} {L M T l m : Cf} (h : MgInv k L M T l m) (he : l = [] ∨ m = []) : Good (T ++ l ++ scl k m) ∧ ∀ a, co (T ++ l ++ scl k m) a = co L a + k * co M a := by
  refine ⟨?_, fun a => by rw [co_app, co_app, co_scl, h.sum]⟩
  rcases he with rfl | rfl
  · rw [List.append_nil]; exact h.rig
  · show Good (T ++ l ++ [])
    rw [List.append_nil]; exact h.lef
theorem MgInv.start {k : Int} {L M : Cf} (hk : k ≠ 0) (hL : Good L) (hM : Good M) : MgInv k L M [] L M := ⟨hL, scl_good hk hM, fun a => by show 0 + co L a + _ = _; omega⟩
end K26

namespace K26
open PySem PySem.Spec L2 Mi
/-! ### plus_times -/
def PC : MT := (mAndT (mB (m2 fLtD (mV 4) (mB1 (f1L fLen) (mCons (m2 fIx (mV 0) (mC (.int 1))) mNil)))) (mB (m2 fLtD (mV 5) (mB1 (f1L fLen) (mCons (m2 fIx (mV 1) (mC (.int 1))) mNil)))))
def PB1 : MS := (sIf (mB (m2 fEq (mV 6) (mV 8)))
  (sSeq (sSet 7 (m2 fAdd (mV 7) (m2 fMulA (mV 2) (mV 9))))
  (sSeq (sAug 4 fIAdd (mC (.int 1)))
  (sAug 5 fIAdd (mC (.int 1)))))
  (sIf (mB (m2 fLtD (mV 6) (mV 8)))
  (sAug 4 fIAdd (mC (.int 1)))
  (sSeq (sSet 6 (mV 8))
  (sSeq (sSet 7 (m2 fMulA (mV 2) (mV 9)))
  (sAug 5 fIAdd (mC (.int 1)))))))
def PB2 : MS := (sIf (mB (m2 fNe (mV 7) (mC (.int 0))))
  (sExpr (mM "list" fAppend (mV 3) (mCons (mTup (mCons (mV 6) (mCons (mV 7) mNil))) mNil)))
  sNil)
def PB : MS := (sSeq (sAsg (m2 fIx (m2 fIx (mV 0) (mC (.int 1))) (mV 4)) (gT 2 (gsCons (gN 6) (gsCons (gN 7) gsNil))))
  (sSeq (sAsg (m2 fIx (m2 fIx (mV 1) (mC (.int 1))) (mV 5)) (gT 2 (gsCons (gN 8) (gsCons (gN 9) gsNil))))
  (sSeq PB1 PB2)))
section
variable {S : Sto} {e0 e1 e2 e3 e4 e5 e6 e7 e8 e9 e10 : Option D} {i : Int}
theorem ag4 : sAug 4 fIAdd (mC (.int 1)) [e0, e1, e2, e3, some (.int i), e5, e6, e7, e8, e9, e10] S = .nx [e0, e1, e2, e3, some (.int (i + 1)), e5, e6, e7, e8, e9, e10] S := aug_int rfl
theorem ag5 : sAug 5 fIAdd (mC (.int 1)) [e0, e1, e2, e3, e4, some (.int i), e6, e7, e8, e9, e10] S = .nx [e0, e1, e2, e3, e4, some (.int (i + 1)), e6, e7, e8, e9, e10] S := aug_int rfl
theorem kas67 {z : Nat × Int} : kAsg (gT 2 (gsCons (gN 6) (gsCons (gN 7) gsNil))) [e0, e1, e2, e3, e4, e5, e6, e7, e8, e9, e10] (pairD z) S = .nx [e0, e1, e2, e3, e4, e5, some (atm z.1), some (.int z.2), e8, e9, e10] S := rfl
theorem kas89 {z : Nat × Int} : kAsg (gT 2 (gsCons (gN 8) (gsCons (gN 9) gsNil))) [e0, e1, e2, e3, e4, e5, e6, e7, e8, e9, e10] (pairD z) S = .nx [e0, e1, e2, e3, e4, e5, e6, e7, some (atm z.1), some (.int z.2), e10] S := rfl
end
theorem app_pair {S : Sto} {T : Cf} {z : Nat × Int} (h : T.length ≤ 10000) : fAppend (.obj S.length) [pairD z] (S ++ [.lst (T.map pairD)]) = some (.non, S ++ [.lst ((T ++ [z]).map pairD)]) := by
  rw [e_append last0 (by rw [sizeLine_eq, List.length_map]; omega), sa0, List.map_append]; rfl
/-- the pair put down, where it is not 0 -/
theorem pb2 {S : Sto} {T : Cf} {a : Nat} {n : Int} {e0 e1 e2 e4 e5 e8 e9 e10 : Option D} (h : T.length ≤ 10000) : PB2 [e0, e1, e2, some (.obj S.length), e4, e5, some (atm a), some (.int n), e8, e9, e10] (S ++ [.lst (T.map pairD)]) =
    .nx [e0, e1, e2, some (.obj S.length), e4, e5, some (atm a), some (.int n), e8, e9, e10] (S ++ [.lst ((T ++ if n = 0 then [] else [(a, n)]).map pairD)]) := by
  by_cases h0 : n = 0
  · have d1 : decide (n = 0) = true := decide_eq_true h0
    rw [if_pos h0, List.append_nil]
    unfold PB2
    simp only [bind_ok, bind_ex, of_some, rs_ok, rs_ex, then_nx, then_rt, then_ex, then_bk, then_ct, mV0, mVs, mC_, m2_, m1_, mB_, kB_bl, mB1_, mNil_, mCons_, f1L_, f2L_, mTup_, mLst_, mCall_, mNotT_, mAndT_, mOrT_, mIf_, mAndV_, mOrV_, mNotV_, kAndV_bl, kOrV_bl, kNotV_bl, mSl_, mPart_, kPart_, mNoPart_, sSeq_, sSet_, sRet_, sIf_, sExpr_, sNil_, sBreak_, sCont_, e_lt, e_ltD, e_le, e_gt, e_ge, e_eqI, e_neI, e_eqS, e_neS, e_add, e_sub, List.set_cons_zero, List.set_cons_succ, kTu0, kTu1, kTu2, kTu3, kTu4, kTu5, kLs0, kLs1, kLs2, kLs3, kLs4, kLs5, mM_, mM0_, sAsg_, sFor_, iRng_, iSeq_, d1, Bool.not_true, Bool.false_eq_true, if_false]
  · have d1 : decide (n = 0) = false := decide_eq_false h0
    have ap : fAppend (.obj S.length) [.tup [atm a, .int n]] (S ++ [.lst (T.map pairD)]) = some (.non, S ++ [.lst ((T ++ [(a, n)]).map pairD)]) := app_pair (z := (a, n)) h
    rw [if_neg h0]
    unfold PB2
    simp only [bind_ok, bind_ex, of_some, rs_ok, rs_ex, then_nx, then_rt, then_ex, then_bk, then_ct, mV0, mVs, mC_, m2_, m1_, mB_, kB_bl, mB1_, mNil_, mCons_, f1L_, f2L_, mTup_, mLst_, mCall_, mNotT_, mAndT_, mOrT_, mIf_, mAndV_, mOrV_, mNotV_, kAndV_bl, kOrV_bl, kNotV_bl, mSl_, mPart_, kPart_, mNoPart_, sSeq_, sSet_, sRet_, sIf_, sExpr_, sNil_, sBreak_, sCont_, e_lt, e_ltD, e_le, e_gt, e_ge, e_eqI, e_neI, e_eqS, e_neS, e_add, e_sub, List.set_cons_zero, List.set_cons_succ, kTu0, kTu1, kTu2, kTu3, kTu4, kTu5, kLs0, kLs1, kLs2, kLs3, kLs4, kLs5, mM_, mM0_, sAsg_, sFor_, iRng_, iSeq_, d1, Bool.not_false, if_true, tyL last0, ap]
section
variable {S : Sto} {L M T : Cf} {k c c' : Int} {z y : Nat × Int} {i q : Nat} {e6 e7 e8 e9 e10 : Option D} (hz : L[i]? = some z) (hy : M[q]? = some y) (z2 : z.1 < 2) (y2 : y.1 < 2) (hk : k.natAbs < 2 ^ 200) (hm : y.2.natAbs < 2 ^ 200) (hT : T.length ≤ 10000)
include hz hy z2 y2 hk hm hT
theorem pb_both (h : z.1 = y.1) : PB [some (tmC c L), some (tmC c' M), some (.int k), some (.obj S.length), some (.int (i : Int)), some (.int (q : Int)), e6, e7, e8, e9, e10] (S ++ [.lst (T.map pairD)]) =
    .nx [some (tmC c L), some (tmC c' M), some (.int k), some (.obj S.length), some (.int ((i : Int) + 1)), some (.int ((q : Int) + 1)), some (atm z.1), some (.int (z.2 + k * y.2)), some (atm y.1), some (.int y.2), e10] (S ++ [.lst ((T ++ if z.2 + k * y.2 = 0 then [] else [(z.1, z.2 + k * y.2)]).map pairD)]) := by
  have d1 : decide (z.1 = y.1) = true := decide_eq_true h
  have st : PB1 [some (tmC c L), some (tmC c' M), some (.int k), some (.obj S.length), some (.int (i : Int)), some (.int (q : Int)), some (atm z.1), some (.int z.2), some (atm y.1), some (.int y.2), e10] (S ++ [.lst (T.map pairD)]) =
      .nx [some (tmC c L), some (tmC c' M), some (.int k), some (.obj S.length), some (.int ((i : Int) + 1)), some (.int ((q : Int) + 1)), some (atm z.1), some (.int (z.2 + k * y.2)), some (atm y.1), some (.int y.2), e10] (S ++ [.lst (T.map pairD)]) := by
    unfold PB1
    simp only [bind_ok, bind_ex, of_some, rs_ok, rs_ex, then_nx, then_rt, then_ex, then_bk, then_ct, mV0, mVs, mC_, m2_, m1_, mB_, kB_bl, mB1_, mNil_, mCons_, f1L_, f2L_, mTup_, mLst_, mCall_, mNotT_, mAndT_, mOrT_, mIf_, mAndV_, mOrV_, mNotV_, kAndV_bl, kOrV_bl, kNotV_bl, mSl_, mPart_, kPart_, mNoPart_, sSeq_, sSet_, sRet_, sIf_, sExpr_, sNil_, sBreak_, sCont_, e_lt, e_ltD, e_le, e_gt, e_ge, e_eqI, e_neI, e_eqS, e_neS, e_add, e_sub, List.set_cons_zero, List.set_cons_succ, kTu0, kTu1, kTu2, kTu3, kTu4, kTu5, kLs0, kLs1, kLs2, kLs3, kLs4, kLs5, mM_, mM0_, sAsg_, sFor_, iRng_, iSeq_, at_eq z.1 y.1 z2 y2, d1, if_true, e_mulW hk hm, ag4, ag5]
  unfold PB
  simp only [bind_ok, bind_ex, of_some, rs_ok, rs_ex, then_nx, then_rt, then_ex, then_bk, then_ct, mV0, mVs, mC_, m2_, m1_, mB_, kB_bl, mB1_, mNil_, mCons_, f1L_, f2L_, mTup_, mLst_, mCall_, mNotT_, mAndT_, mOrT_, mIf_, mAndV_, mOrV_, mNotV_, kAndV_bl, kOrV_bl, kNotV_bl, mSl_, mPart_, kPart_, mNoPart_, sSeq_, sSet_, sRet_, sIf_, sExpr_, sNil_, sBreak_, sCont_, e_lt, e_ltD, e_le, e_gt, e_ge, e_eqI, e_neI, e_eqS, e_neS, e_add, e_sub, List.set_cons_zero, List.set_cons_succ, kTu0, kTu1, kTu2, kTu3, kTu4, kTu5, kLs0, kLs1, kLs2, kLs3, kLs4, kLs5, mM_, mM0_, sAsg_, sFor_, iRng_, iSeq_, tm1, rw_ix hz, rw_ix hy, kas67, kas89, st, pb2 hT]
theorem pb_left (h : z.1 < y.1) (hn : z.2 ≠ 0) : PB [some (tmC c L), some (tmC c' M), some (.int k), some (.obj S.length), some (.int (i : Int)), some (.int (q : Int)), e6, e7, e8, e9, e10] (S ++ [.lst (T.map pairD)]) =
    .nx [some (tmC c L), some (tmC c' M), some (.int k), some (.obj S.length), some (.int ((i : Int) + 1)), some (.int (q : Int)), some (atm z.1), some (.int z.2), some (atm y.1), some (.int y.2), e10] (S ++ [.lst ((T ++ [z]).map pairD)]) := by
  have d1 : decide (z.1 = y.1) = false := decide_eq_false (by omega)
  have d2 : decide (z.1 < y.1) = true := decide_eq_true h
  have st : PB1 [some (tmC c L), some (tmC c' M), some (.int k), some (.obj S.length), some (.int (i : Int)), some (.int (q : Int)), some (atm z.1), some (.int z.2), some (atm y.1), some (.int y.2), e10] (S ++ [.lst (T.map pairD)]) =
      .nx [some (tmC c L), some (tmC c' M), some (.int k), some (.obj S.length), some (.int ((i : Int) + 1)), some (.int (q : Int)), some (atm z.1), some (.int z.2), some (atm y.1), some (.int y.2), e10] (S ++ [.lst (T.map pairD)]) := by
    unfold PB1
    simp only [bind_ok, bind_ex, of_some, rs_ok, rs_ex, then_nx, then_rt, then_ex, then_bk, then_ct, mV0, mVs, mC_, m2_, m1_, mB_, kB_bl, mB1_, mNil_, mCons_, f1L_, f2L_, mTup_, mLst_, mCall_, mNotT_, mAndT_, mOrT_, mIf_, mAndV_, mOrV_, mNotV_, kAndV_bl, kOrV_bl, kNotV_bl, mSl_, mPart_, kPart_, mNoPart_, sSeq_, sSet_, sRet_, sIf_, sExpr_, sNil_, sBreak_, sCont_, e_lt, e_ltD, e_le, e_gt, e_ge, e_eqI, e_neI, e_eqS, e_neS, e_add, e_sub, List.set_cons_zero, List.set_cons_succ, kTu0, kTu1, kTu2, kTu3, kTu4, kTu5, kLs0, kLs1, kLs2, kLs3, kLs4, kLs5, mM_, mM0_, sAsg_, sFor_, iRng_, iSeq_, at_eq z.1 y.1 z2 y2, at_lt z.1 y.1 z2 y2, d1, d2, if_true, Bool.false_eq_true, if_false, ag4]
  have p2 := pb2 (S := S) (T := T) (a := z.1) (n := z.2) (e0 := some (tmC c L)) (e1 := some (tmC c' M)) (e2 := some (.int k)) (e4 := some (.int ((i : Int) + 1))) (e5 := some (.int (q : Int))) (e8 := some (atm y.1)) (e9 := some (.int y.2)) (e10 := e10) hT
  rw [if_neg hn] at p2
  unfold PB
  simp only [bind_ok, bind_ex, of_some, rs_ok, rs_ex, then_nx, then_rt, then_ex, then_bk, then_ct, mV0, mVs, mC_, m2_, m1_, mB_, kB_bl, mB1_, mNil_, mCons_, f1L_, f2L_, mTup_, mLst_, mCall_, mNotT_, mAndT_, mOrT_, mIf_, mAndV_, mOrV_, mNotV_, kAndV_bl, kOrV_bl, kNotV_bl, mSl_, mPart_, kPart_, mNoPart_, sSeq_, sSet_, sRet_, sIf_, sExpr_, sNil_, sBreak_, sCont_, e_lt, e_ltD, e_le, e_gt, e_ge, e_eqI, e_neI, e_eqS, e_neS, e_add, e_sub, List.set_cons_zero, List.set_cons_succ, kTu0, kTu1, kTu2, kTu3, kTu4, kTu5, kLs0, kLs1, kLs2, kLs3, kLs4, kLs5, mM_, mM0_, sAsg_, sFor_, iRng_, iSeq_, tm1, rw_ix hz, rw_ix hy, kas67, kas89, st, p2]
theorem pb_right (h : y.1 < z.1) (hn : k * y.2 ≠ 0) : PB [some (tmC c L), some (tmC c' M), some (.int k), some (.obj S.length), some (.int (i : Int)), some (.int (q : Int)), e6, e7, e8, e9, e10] (S ++ [.lst (T.map pairD)]) =
    .nx [some (tmC c L), some (tmC c' M), some (.int k), some (.obj S.length), some (.int (i : Int)), some (.int ((q : Int) + 1)), some (atm y.1), some (.int (k * y.2)), some (atm y.1), some (.int y.2), e10] (S ++ [.lst ((T ++ [(y.1, k * y.2)]).map pairD)]) := by
  have d1 : decide (z.1 = y.1) = false := decide_eq_false (by omega)
  have d2 : decide (z.1 < y.1) = false := decide_eq_false (by omega)
  have st : PB1 [some (tmC c L), some (tmC c' M), some (.int k), some (.obj S.length), some (.int (i : Int)), some (.int (q : Int)), some (atm z.1), some (.int z.2), some (atm y.1), some (.int y.2), e10] (S ++ [.lst (T.map pairD)]) =
      .nx [some (tmC c L), some (tmC c' M), some (.int k), some (.obj S.length), some (.int (i : Int)), some (.int ((q : Int) + 1)), some (atm y.1), some (.int (k * y.2)), some (atm y.1), some (.int y.2), e10] (S ++ [.lst (T.map pairD)]) := by
    unfold PB1
    simp only [bind_ok, bind_ex, of_some, rs_ok, rs_ex, then_nx, then_rt, then_ex, then_bk, then_ct, mV0, mVs, mC_, m2_, m1_, mB_, kB_bl, mB1_, mNil_, mCons_, f1L_, f2L_, mTup_, mLst_, mCall_, mNotT_, mAndT_, mOrT_, mIf_, mAndV_, mOrV_, mNotV_, kAndV_bl, kOrV_bl, kNotV_bl, mSl_, mPart_, kPart_, mNoPart_, sSeq_, sSet_, sRet_, sIf_, sExpr_, sNil_, sBreak_, sCont_, e_lt, e_ltD, e_le, e_gt, e_ge, e_eqI, e_neI, e_eqS, e_neS, e_add, e_sub, List.set_cons_zero, List.set_cons_succ, kTu0, kTu1, kTu2, kTu3, kTu4, kTu5, kLs0, kLs1, kLs2, kLs3, kLs4, kLs5, mM_, mM0_, sAsg_, sFor_, iRng_, iSeq_, at_eq z.1 y.1 z2 y2, at_lt z.1 y.1 z2 y2, d1, d2, Bool.false_eq_true, if_false, e_mulW hk hm, ag5]
  have p2 := pb2 (S := S) (T := T) (a := y.1) (n := k * y.2) (e0 := some (tmC c L)) (e1 := some (tmC c' M)) (e2 := some (.int k)) (e4 := some (.int (i : Int))) (e5 := some (.int ((q : Int) + 1))) (e8 := some (atm y.1)) (e9 := some (.int y.2)) (e10 := e10) hT
  rw [if_neg hn] at p2
  unfold PB
  simp only [bind_ok, bind_ex, of_some, rs_ok, rs_ex, then_nx, then_rt, then_ex, then_bk, then_ct, mV0, mVs, mC_, m2_, m1_, mB_, kB_bl, mB1_, mNil_, mCons_, f1L_, f2L_, mTup_, mLst_, mCall_, mNotT_, mAndT_, mOrT_, mIf_, mAndV_, mOrV_, mNotV_, kAndV_bl, kOrV_bl, kNotV_bl, mSl_, mPart_, kPart_, mNoPart_, sSeq_, sSet_, sRet_, sIf_, sExpr_, sNil_, sBreak_, sCont_, e_lt, e_ltD, e_le, e_gt, e_ge, e_eqI, e_neI, e_eqS, e_neS, e_add, e_sub, List.set_cons_zero, List.set_cons_succ, kTu0, kTu1, kTu2, kTu3, kTu4, kTu5, kLs0, kLs1, kLs2, kLs3, kLs4, kLs5, mM_, mM0_, sAsg_, sFor_, iRng_, iSeq_, tm1, rw_ix hz, rw_ix hy, kas67, kas89, st, p2]
end
theorem pc_ {S : Sto} {L M : Cf} {c c' : Int} {i q : Nat} {e2 e3 e6 e7 e8 e9 e10 : Option D} : PC [some (tmC c L), some (tmC c' M), e2, e3, some (.int (i : Int)), some (.int (q : Int)), e6, e7, e8, e9, e10] S = .ok (decide (i < L.length ∧ q < M.length)) S := by
  by_cases h1 : i < L.length
  · have d1 : decide ((i : Int) < (L.length : Int)) = true := decide_eq_true (by omega)
    by_cases h2 : q < M.length
    · have d2 : decide ((q : Int) < (M.length : Int)) = true := decide_eq_true (by omega)
      rw [decide_eq_true ⟨h1, h2⟩]
      unfold PC
      simp only [bind_ok, bind_ex, of_some, rs_ok, rs_ex, then_nx, then_rt, then_ex, then_bk, then_ct, mV0, mVs, mC_, m2_, m1_, mB_, kB_bl, mB1_, mNil_, mCons_, f1L_, f2L_, mTup_, mLst_, mCall_, mNotT_, mAndT_, mOrT_, mIf_, mAndV_, mOrV_, mNotV_, kAndV_bl, kOrV_bl, kNotV_bl, mSl_, mPart_, kPart_, mNoPart_, sSeq_, sSet_, sRet_, sIf_, sExpr_, sNil_, sBreak_, sCont_, e_lt, e_ltD, e_le, e_gt, e_ge, e_eqI, e_neI, e_eqS, e_neS, e_add, e_sub, List.set_cons_zero, List.set_cons_succ, kTu0, kTu1, kTu2, kTu3, kTu4, kTu5, kLs0, kLs1, kLs2, kLs3, kLs4, kLs5, mM_, mM0_, sAsg_, sFor_, iRng_, iSeq_, tm1, len_rw, d1, d2, if_true]
    · have d2 : decide ((q : Int) < (M.length : Int)) = false := decide_eq_false (by omega)
      rw [decide_eq_false fun h => h2 h.2]
      unfold PC
      simp only [bind_ok, bind_ex, of_some, rs_ok, rs_ex, then_nx, then_rt, then_ex, then_bk, then_ct, mV0, mVs, mC_, m2_, m1_, mB_, kB_bl, mB1_, mNil_, mCons_, f1L_, f2L_, mTup_, mLst_, mCall_, mNotT_, mAndT_, mOrT_, mIf_, mAndV_, mOrV_, mNotV_, kAndV_bl, kOrV_bl, kNotV_bl, mSl_, mPart_, kPart_, mNoPart_, sSeq_, sSet_, sRet_, sIf_, sExpr_, sNil_, sBreak_, sCont_, e_lt, e_ltD, e_le, e_gt, e_ge, e_eqI, e_neI, e_eqS, e_neS, e_add, e_sub, List.set_cons_zero, List.set_cons_succ, kTu0, kTu1, kTu2, kTu3, kTu4, kTu5, kLs0, kLs1, kLs2, kLs3, kLs4, kLs5, mM_, mM0_, sAsg_, sFor_, iRng_, iSeq_, tm1, len_rw, d1, d2, if_true]
  · have d1 : decide ((i : Int) < (L.length : Int)) = false := decide_eq_false (by omega)
    rw [decide_eq_false fun h => h1 h.1]
    unfold PC
    simp only [bind_ok, bind_ex, of_some, rs_ok, rs_ex, then_nx, then_rt, then_ex, then_bk, then_ct, mV0, mVs, mC_, m2_, m1_, mB_, kB_bl, mB1_, mNil_, mCons_, f1L_, f2L_, mTup_, mLst_, mCall_, mNotT_, mAndT_, mOrT_, mIf_, mAndV_, mOrV_, mNotV_, kAndV_bl, kOrV_bl, kNotV_bl, mSl_, mPart_, kPart_, mNoPart_, sSeq_, sSet_, sRet_, sIf_, sExpr_, sNil_, sBreak_, sCont_, e_lt, e_ltD, e_le, e_gt, e_ge, e_eqI, e_neI, e_eqS, e_neS, e_add, e_sub, List.set_cons_zero, List.set_cons_succ, kTu0, kTu1, kTu2, kTu3, kTu4, kTu5, kLs0, kLs1, kLs2, kLs3, kLs4, kLs5, mM_, mM0_, sAsg_, sFor_, iRng_, iSeq_, tm1, len_rw, d1, Bool.false_eq_true, if_false]
theorem pl_loop {S : Sto} {L M : Cf} {k c c' : Int} {e10 : Option D} (hL : Good L) (hM : Good M) (hk0 : k ≠ 0) (hk : k.natAbs < 2 ^ 200) (hm : ∀ y ∈ M, y.2.natAbs < 2 ^ 200) (hl : L.length + M.length ≤ 1000) : ∀ (d i q : Nat) (T : Cf) (fuel : Nat) (x6 x7 x8 x9 : Option D), (L.drop i).length + (M.drop q).length ≤ d → d < fuel → T.length + d ≤ 2000 → MgInv k L M T (L.drop i) (M.drop q) →
    ∃ (T' : Cf) (i' q' : Nat) (y6 y7 y8 y9 : Option D), whileM PC PB fuel [some (tmC c L), some (tmC c' M), some (.int k), some (.obj S.length), some (.int (i : Int)), some (.int (q : Int)), x6, x7, x8, x9, e10] (S ++ [.lst (T.map pairD)]) =
      .nx [some (tmC c L), some (tmC c' M), some (.int k), some (.obj S.length), some (.int (i' : Int)), some (.int (q' : Int)), y6, y7, y8, y9, e10] (S ++ [.lst (T'.map pairD)]) ∧ MgInv k L M T' (L.drop i') (M.drop q') ∧ (L.drop i' = [] ∨ M.drop q' = []) ∧ T'.length ≤ 2000 := by
  intro d
  induction d with
  | zero =>
    intro i q T fuel x6 x7 x8 x9 hd hf hT inv
    obtain ⟨f, rfl⟩ : ∃ f, fuel = f + 1 := ⟨fuel - 1, by omega⟩
    have h1 : L.drop i = [] := List.length_eq_zero_iff.mp (by omega)
    refine ⟨T, i, q, x6, x7, x8, x9, ?_, inv, .inl h1, by omega⟩
    rw [wh_stop]
    rw [pc_, decide_eq_false]
    rintro ⟨h, _⟩
    have := List.drop_eq_nil_iff.mp h1
    omega
  | succ d ih =>
    intro i q T fuel x6 x7 x8 x9 hd hf hT inv
    obtain ⟨f, rfl⟩ : ∃ f, fuel = f + 1 := ⟨fuel - 1, by omega⟩
    by_cases hc : i < L.length ∧ q < M.length
    · obtain ⟨h1, h2⟩ := hc
      have e1 : L.drop i = L[i] :: L.drop (i + 1) := List.drop_eq_getElem_cons h1
      have e2 : M.drop q = M[q] :: M.drop (q + 1) := List.drop_eq_getElem_cons h2
      have hz : L[i]? = some L[i] := List.getElem?_eq_getElem h1
      have hy : M[q]? = some M[q] := List.getElem?_eq_getElem h2
      have nz := hL.nz _ (List.mem_of_getElem? hz)
      have ny := hM.nz _ (List.mem_of_getElem? hy)
      have hmy := hm _ (List.mem_of_getElem? hy)
      generalize L[i] = z at *
      generalize M[q] = y at *
      obtain ⟨a, n⟩ := z
      obtain ⟨b, m⟩ := y
      have hcond : PC [some (tmC c L), some (tmC c' M), some (.int k), some (.obj S.length), some (.int (i : Int)), some (.int (q : Int)), x6, x7, x8, x9, e10] (S ++ [.lst (T.map pairD)]) = .ok true (S ++ [.lst (T.map pairD)]) := by rw [pc_, decide_eq_true ⟨h1, h2⟩]
      rw [e1, e2] at inv hd
      rw [List.length_cons, List.length_cons] at hd
      rcases Nat.lt_trichotomy a b with hab | hab | hab
      · obtain ⟨T', i', q', y6, y7, y8, y9, r1, r2⟩ := ih (i + 1) q (T ++ [(a, n)]) f (some (atm a)) (some (.int n)) (some (atm b)) (some (.int m)) (by rw [e2, List.length_cons]; omega) (by omega) (by rw [List.length_append, List.length_singleton]; omega) (by rw [e2]; exact inv.left hab)
        refine ⟨T', i', q', y6, y7, y8, y9, ?_, r2⟩
        have st := pb_left (S := S) (c := c) (c' := c') (e6 := x6) (e7 := x7) (e8 := x8) (e9 := x9) (e10 := e10) hz hy nz.2 ny.2 hk hmy (T := T) (by omega) hab nz.1
        rw [wh_next hcond st]
        exact r1
      · subst hab
        obtain ⟨T', i', q', y6, y7, y8, y9, r1, r2⟩ := ih (i + 1) (q + 1) (T ++ if n + k * m = 0 then [] else [(a, n + k * m)]) f (some (atm a)) (some (.int (n + k * m))) (some (atm a)) (some (.int m)) (by omega) (by omega) (by
          rw [List.length_append]
          split
          · simp; omega
          · simp; omega) (inv.both hk0)
        refine ⟨T', i', q', y6, y7, y8, y9, ?_, r2⟩
        have st := pb_both (S := S) (c := c) (c' := c') (e6 := x6) (e7 := x7) (e8 := x8) (e9 := x9) (e10 := e10) hz hy nz.2 ny.2 hk hmy (T := T) (by omega) rfl
        rw [wh_next hcond st]
        exact r1
      · obtain ⟨T', i', q', y6, y7, y8, y9, r1, r2⟩ := ih i (q + 1) (T ++ [(b, k * m)]) f (some (atm b)) (some (.int (k * m))) (some (atm b)) (some (.int m)) (by rw [e1, List.length_cons]; omega) (by omega) (by rw [List.length_append, List.length_singleton]; omega) (by rw [e1]; exact inv.right hab)
        refine ⟨T', i', q', y6, y7, y8, y9, ?_, r2⟩
        have st := pb_right (S := S) (c := c) (c' := c') (e6 := x6) (e7 := x7) (e8 := x8) (e9 := x9) (e10 := e10) hz hy nz.2 ny.2 hk hmy (T := T) (by omega) hab (fun e => by rcases Int.mul_eq_zero.mp e with e | e; exact hk0 e; exact ny.1 e)
        rw [wh_next hcond st]
        exact r1
    · refine ⟨T, i, q, x6, x7, x8, x9, ?_, inv, ?_, by omega⟩
      · rw [wh_stop]
        rw [pc_, decide_eq_false hc]
      · by_cases h1 : i < L.length
        · exact .inr (List.drop_eq_nil_iff.mpr (by omega))
        · exact .inl (List.drop_eq_nil_iff.mpr (by omega))
end K26

namespace K26
open PySem PySem.Spec L2 Mi
theorem cut_lo {ds : List D} {k : Nat} : cutD ds (some (k : Int)) none = ds.drop k := by
  unfold cutD
  have e : HT.sIx ds.length 0 (some (k : Int)) = min k ds.length := HT.sIx_nat _ _ k
  have e0 : HT.sIx ds.length ds.length none = ds.length := rfl
  rw [e, e0]
  by_cases h : k ≤ ds.length
  · rw [Nat.min_eq_left h]
    exact List.take_of_length_le (by rw [List.length_drop]; omega)
  · rw [Nat.min_eq_right (by omega), List.drop_of_length_le (Nat.le_refl _), List.drop_of_length_le (by omega), List.take_nil]

/-! ### comprehensions with any target -/
theorem lcG_loop {it : MIt} {g : MG} {e : ME} {env : Mi.Env} {S : Sto} {ds : List D} {f : D → D} (h1 : ∀ acc i d, ds[i]? = some d → it.f i (S ++ [.lst acc]) = some (some d)) (h2 : ∀ acc, it.f ds.length (S ++ [.lst acc]) = some none)
    (hf : ∀ acc d, d ∈ ds → ∃ env1, g d env (S ++ [.lst acc]) = some env1 ∧ e env1 (S ++ [.lst acc]) = .ok (f d) (S ++ [.lst acc])) (hl : ds.length ≤ sizeLine) : ∀ (suf pre : List D), ds = pre ++ suf → lcI it g tAll e S.length suf.length pre.length env (S ++ [.lst (pre.map f)]) = .ok (.obj S.length) (S ++ [.lst (ds.map f)])
  | [], pre, he => by
    rw [List.append_nil] at he
    subst he
    exact lcI_end (h2 _)
  | d :: suf, pre, he => by
    have hg : ds[pre.length]? = some d := by rw [he]; simp
    have hm : d ∈ ds := by rw [he]; simp
    have hlen : ds.length = pre.length + (suf.length + 1) := by rw [he]; simp
    obtain ⟨env1, g1, g2⟩ := hf (pre.map f) d hm
    have := lcG_loop h1 h2 hf hl suf (pre ++ [d]) (by rw [he]; simp)
    rw [List.length_append] at this
    have e0 : (S ++ [MO.lst (pre.map f)]).set S.length (.lst (pre.map f ++ [f d])) = S ++ [.lst ((pre ++ [d]).map f)] := by rw [sa0]; simp
    rw [show (d :: suf).length = suf.length + 1 from rfl, lcI]
    simp only [h1 _ _ _ hg, g1, tAll, noEx, bind_ok, if_true, g2, last0, if_pos (show (pre.map f).length < sizeLine by rw [List.length_map]; omega), e0]
    exact this
theorem lcG {g : MG} {e : ME} {vs : List Nat} {env : Mi.Env} {S : Sto} {ds : List D} {f : D → D} (hf : ∀ acc d, d ∈ ds → ∃ env1, g d (wipeE env vs) (S ++ [.lst acc]) = some env1 ∧ e env1 (S ++ [.lst acc]) = .ok (f d) (S ++ [.lst acc])) (hl : ds.length ≤ sizeLine) :
    kLc g tAll e vs env (itFix ds) S = .ok (.obj S.length) (S ++ [.lst (ds.map f)]) :=
  lcG_loop (env := wipeE env vs) (fun acc i d h => by show some (ds[i]?) = _; rw [h]) (fun acc => by show some (ds[ds.length]?) = _; simp) hf hl ds [] rfl
/-- told + k * other -/
structure Sum3 (k : Int) (L M r : Cf) : Prop where
  good : Good r
  sum : ∀ a, co r a = co L a + k * co M a
theorem plus_times {S : Sto} {L M : Cf} {k c c' : Int} (hL : Good L) (hM : Good M) (hk : k.natAbs < 2 ^ 200) (hm : ∀ y ∈ M, y.2.natAbs < 2 ^ 200) (hc : c'.natAbs < 2 ^ 200) (hl : L.length + M.length ≤ 1000) :
    ∃ (r : Cf) (X : Sto), M_plus_times [tmC c L, tmC c' M, .int k] S = .ok (tmC (c + k * c') r) (S ++ X) ∧ Sum3 k L M r := by
  by_cases hk0 : k = 0
  · subst hk0
    refine ⟨L, [], ?_, hL, fun a => by omega⟩
    have ez : c + 0 * c' = c := by omega
    rw [ez, List.append_nil]
    unfold M_plus_times mFn B_plus_times
    simp only [List.length_cons, List.length_nil, Nat.reduceAdd, if_true, List.map_cons, List.map_nil, List.replicate, List.cons_append, List.nil_append, Nat.reduceSub, Nat.sub_self]
    simp only [bind_ok, bind_ex, of_some, rs_ok, rs_ex, then_nx, then_rt, then_ex, then_bk, then_ct, mV0, mVs, mC_, m2_, m1_, mB_, kB_bl, mB1_, mNil_, mCons_, f1L_, f2L_, mTup_, mLst_, mCall_, mNotT_, mAndT_, mOrT_, mIf_, mAndV_, mOrV_, mNotV_, kAndV_bl, kOrV_bl, kNotV_bl, mSl_, mPart_, kPart_, mNoPart_, sSeq_, sSet_, sRet_, sIf_, sExpr_, sNil_, sBreak_, sCont_, e_lt, e_ltD, e_le, e_gt, e_ge, e_eqI, e_neI, e_eqS, e_neS, e_add, e_sub, List.set_cons_zero, List.set_cons_succ, kTu0, kTu1, kTu2, kTu3, kTu4, kTu5, kLs0, kLs1, kLs2, kLs3, kLs4, kLs5, mM_, mM0_, sAsg_, sFor_, iRng_, iSeq_, decide_true, if_true] <;> rfl
  · have d1 : decide (k = 0) = false := decide_eq_false hk0
    obtain ⟨T, i, q, y6, y7, y8, y9, w1, inv, hend, hT⟩ := pl_loop (S := S) (c := c) (c' := c') (e10 := none) hL hM hk0 hk hm hl (L.length + M.length) 0 0 [] 1000000000 none none none none (by simp) (by omega) (by simp; omega) (by simpa using MgInv.start hk0 hL hM)
    obtain ⟨f1, f2⟩ := inv.fin hend
    have hlr : (T ++ L.drop i ++ scl k (M.drop q)).length ≤ 4000 := by
      rw [List.length_append, List.length_append, List.length_drop]
      unfold scl
      rw [List.length_map, List.length_drop]
      omega
    generalize hr : T ++ L.drop i ++ scl k (M.drop q) = r at f1 f2 hlr
    have sl1 : ∀ S, fSl (rwC L) (some (i : Int)) none S = some (.tup ((L.drop i).map pairD), S) := fun S => by
      show some (D.tup (cutD (L.map pairD) (some (i : Int)) none), S) = _
      rw [cut_lo, List.map_drop]
    have sl2 : ∀ S, fSl (rwC M) (some (q : Int)) none S = some (.tup ((M.drop q).map pairD), S) := fun S => by
      show some (D.tup (cutD (M.map pairD) (some (q : Int)) none), S) = _
      rw [cut_lo, List.map_drop]
    have ex1 : fExtendA (.obj S.length) [.tup ((L.drop i).map pairD)] (S ++ [.lst (T.map pairD)]) = some (.non, S ++ [.lst ((T ++ L.drop i).map pairD)]) := by
      unfold fExtendA
      simp only [last0]
      rw [if_pos (by rw [sizeLine_eq, List.length_map, List.length_map, List.length_drop]; omega), sa0, List.map_append]
    have lc := lcG (S := S ++ [.lst ((T ++ L.drop i).map pairD)]) (g := gT 2 (gsCons (gN 10) (gsCons (gN 9) gsNil))) (e := mTup (mCons (mV 10) (mCons (m2 fMulA (mV 2) (mV 9)) mNil))) (vs := [10, 9])
      (env := [some (tmC c L), some (tmC c' M), some (.int k), some (.obj S.length), some (.int (i : Int)), some (.int (q : Int)), y6, y7, y8, y9, none]) (ds := (M.drop q).map pairD)
      (f := fun d => match d with | .tup [x, .int n] => .tup [x, .int (k * n)] | d => d) (fun acc d hd => by
        obtain ⟨z, hz, rfl⟩ := List.mem_map.mp hd
        have hzm := hm z (List.mem_of_mem_drop hz)
        refine ⟨[some (tmC c L), some (tmC c' M), some (.int k), some (.obj S.length), some (.int (i : Int)), some (.int (q : Int)), y6, y7, y8, some (.int z.2), some (atm z.1)], rfl, ?_⟩
        simp only [bind_ok, bind_ex, of_some, rs_ok, rs_ex, then_nx, then_rt, then_ex, then_bk, then_ct, mV0, mVs, mC_, m2_, m1_, mB_, kB_bl, mB1_, mNil_, mCons_, f1L_, f2L_, mTup_, mLst_, mCall_, mNotT_, mAndT_, mOrT_, mIf_, mAndV_, mOrV_, mNotV_, kAndV_bl, kOrV_bl, kNotV_bl, mSl_, mPart_, kPart_, mNoPart_, sSeq_, sSet_, sRet_, sIf_, sExpr_, sNil_, sBreak_, sCont_, e_lt, e_ltD, e_le, e_gt, e_ge, e_eqI, e_neI, e_eqS, e_neS, e_add, e_sub, List.set_cons_zero, List.set_cons_succ, kTu0, kTu1, kTu2, kTu3, kTu4, kTu5, kLs0, kLs1, kLs2, kLs3, kLs4, kLs5, mM_, mM0_, sAsg_, sFor_, iRng_, iSeq_, e_mulW hk hzm] <;> rfl) (by rw [sizeLine_eq, List.length_map, List.length_drop]; omega)
    have emap : ((M.drop q).map pairD).map (fun d => match d with | .tup [x, .int n] => .tup [x, .int (k * n)] | d => d) = (scl k (M.drop q)).map pairD := by
      unfold scl
      rw [List.map_map, List.map_map]
      rfl
    rw [emap] at lc
    have hlen : (S ++ [MO.lst ((T ++ L.drop i).map pairD)]).length = S.length + 1 := by rw [List.length_append]; rfl
    have ex2 : fExtendA (.obj S.length) [.obj (S ++ [MO.lst ((T ++ L.drop i).map pairD)]).length] (S ++ [MO.lst ((T ++ L.drop i).map pairD)] ++ [.lst ((scl k (M.drop q)).map pairD)]) = some (.non, S ++ [MO.lst (r.map pairD)] ++ [.lst ((scl k (M.drop q)).map pairD)]) := by
      unfold fExtendA fExtend
      simp only [get_app (X := [MO.lst ((scl k (M.drop q)).map pairD)]) (last0 (S := S) (x := MO.lst ((T ++ L.drop i).map pairD))), last0]
      have hb : (T ++ L.drop i).length + (scl k (M.drop q)).length = r.length := by rw [← hr, List.length_append (as := T ++ L.drop i)]
      rw [if_pos (by rw [sizeLine_eq, List.length_map, List.length_map]; omega), ← hr]
      congr 1
      rw [List.set_append_left _ _ (by rw [hlen]; omega), sa0, List.map_append (l₁ := T ++ L.drop i)]
    have htu : fTuple (.obj S.length) (S ++ [MO.lst (r.map pairD)] ++ [.lst ((scl k (M.drop q)).map pairD)]) = some (rwC r, S ++ [MO.lst (r.map pairD)] ++ [.lst ((scl k (M.drop q)).map pairD)]) := by
      show (lstAt _ _).map _ = _
      rw [lst_at (get_app last0)]; rfl
    refine ⟨r, [MO.lst (r.map pairD)] ++ [.lst ((scl k (M.drop q)).map pairD)], ?_, f1, f2⟩
    rw [← List.append_assoc]
    have ksq : kSeqI (.tup ((M.drop q).map pairD)) (S ++ [MO.lst ((T ++ L.drop i).map pairD)]) = .ok (itFix ((M.drop q).map pairD)) (S ++ [MO.lst ((T ++ L.drop i).map pairD)]) := rfl
    have w1' : (sWhile 1000000000 PC PB) [some (tmC c L), some (tmC c' M), some (.int k), some (.obj S.length), some (.int 0), some (.int 0), none, none, none, none, none] (S ++ [.lst []]) = .nx [some (tmC c L), some (tmC c' M), some (.int k), some (.obj S.length), some (.int (i : Int)), some (.int (q : Int)), y6, y7, y8, y9, none] (S ++ [.lst (T.map pairD)]) := w1
    unfold M_plus_times mFn B_plus_times
    unfold PC PB PB1 PB2 at w1'
    simp only [List.length_cons, List.length_nil, Nat.reduceAdd, if_true, List.map_cons, List.map_nil, List.replicate, List.cons_append, List.nil_append, Nat.reduceSub, Nat.sub_self]
    simp only [bind_ok, bind_ex, of_some, rs_ok, rs_ex, then_nx, then_rt, then_ex, then_bk, then_ct, mV0, mVs, mC_, m2_, m1_, mB_, kB_bl, mB1_, mNil_, mCons_, f1L_, f2L_, mTup_, mLst_, mCall_, mNotT_, mAndT_, mOrT_, mIf_, mAndV_, mOrV_, mNotV_, kAndV_bl, kOrV_bl, kNotV_bl, mSl_, mPart_, kPart_, mNoPart_, sSeq_, sSet_, sRet_, sIf_, sExpr_, sNil_, sBreak_, sCont_, e_lt, e_ltD, e_le, e_gt, e_ge, e_eqI, e_neI, e_eqS, e_neS, e_add, e_sub, List.set_cons_zero, List.set_cons_succ, kTu0, kTu1, kTu2, kTu3, kTu4, kTu5, kLs0, kLs1, kLs2, kLs3, kLs4, kLs5, mM_, mM0_, sAsg_, sFor_, iRng_, iSeq_, d1, Bool.false_eq_true, if_false, w1', tm1, tm0, sl1, sl2, tyL last0, if_true, ex1, mLc_, ksq, lc, tyL (get_app (X := [MO.lst ((scl k (M.drop q)).map pairD)]) (last0 (S := S) (x := MO.lst ((T ++ L.drop i).map pairD)))), ex2, e_mulW hk hc, htu]
    rfl
end K26

namespace K26
open PySem PySem.Spec L2 Mi
/-! ### terms by their numbers -/
abbrev Sm (i : Int) : Prop := i.natAbs < 2 ^ 200
theorem cf_mem {p q : Int} {y : Nat × Int} (h : y ∈ cf p q) : y.2 = p ∨ y.2 = q := by
  unfold cf at h
  rcases List.mem_append.mp h with h | h
  · split at h
    · cases h
    · rw [List.mem_singleton.mp h]; exact .inl rfl
  · split at h
    · cases h
    · rw [List.mem_singleton.mp h]; exact .inr rfl
theorem cf_sm {p q : Int} (hp : Sm p) (hq : Sm q) : ∀ y ∈ cf p q, Sm y.2 := fun y hy => by
  rcases cf_mem hy with e | e <;> rw [e] <;> assumption
theorem plus_times_tm {S : Sto} {c p q c' p' q' k : Int} (hk : Sm k) (hc : Sm c') (hp : Sm p') (hq : Sm q') : ∃ X : Sto, M_plus_times [tm c p q, tm c' p' q', .int k] S = .ok (tm (c + k * c') (p + k * p') (q + k * q')) (S ++ X) := by
  obtain ⟨r, X, h, s⟩ := plus_times (S := S) (c := c) (cf_good p q) (cf_good p' q') hk (cf_sm hp hq) hc (by have := cf_len p q; have := cf_len p' q'; omega)
  refine ⟨X, ?_⟩
  rw [h]
  have e := good_cf s.good
  rw [s.sum 0, s.sum 1, (co_cf p q).1, (co_cf p q).2, (co_cf p' q').1, (co_cf p' q').2] at e
  rw [e]
/-! ### the greatest common divisor -/
def gD (p q : Int) : Nat := Nat.gcd p.natAbs q.natAbs
theorem gD_fold (p q : Int) : (cf p q).foldl (fun d z => Nat.gcd d z.2.natAbs) 0 = gD p q := by
  unfold cf gD
  by_cases hp : p = 0 <;> by_cases hq : q = 0 <;> simp [hp, hq]
theorem gD_zero {p q : Int} (h : gD p q = 0) : p = 0 ∧ q = 0 := by
  unfold gD at h
  have := Nat.gcd_eq_zero_iff.mp h
  omega
theorem gD_sm {p q : Int} (hp : Sm p) (hq : Sm q) : gD p q < 2 ^ 200 := by
  unfold gD
  by_cases h : p = 0
  · subst h
    rw [show (0 : Int).natAbs = 0 from rfl, Nat.gcd_zero_left]; exact hq
  · exact Nat.lt_of_le_of_lt (Nat.gcd_le_left _ (by omega)) hp
theorem gD_dvd (p q : Int) : (gD p q : Int) ∣ p ∧ (gD p q : Int) ∣ q := by
  unfold gD
  exact ⟨Int.ofNat_dvd_left.mpr (Nat.gcd_dvd_left ..), Int.ofNat_dvd_left.mpr (Nat.gcd_dvd_right ..)⟩
theorem cf_div {p q d : Int} (hd : 0 < d) (hp : d ∣ p) (hq : d ∣ q) : (cf p q).map (fun z => (z.1, z.2 / d)) = cf (p / d) (q / d) := by
  obtain ⟨m, rfl⟩ := hp
  obtain ⟨n, rfl⟩ := hq
  rw [Int.mul_ediv_cancel_left _ (by omega), Int.mul_ediv_cancel_left _ (by omega)]
  have e : ∀ m : Int, d * m = 0 ↔ m = 0 := fun m => ⟨fun h => by rcases Int.mul_eq_zero.mp h with h | h; omega; exact h, fun h => by rw [h]; omega⟩
  unfold cf
  by_cases h1 : m = 0 <;> by_cases h2 : n = 0 <;> simp [e, h1, h2, Int.mul_ediv_cancel_left _ (show d ≠ 0 by omega)]
def numF : D → D := fun d => match d with | .tup [_, .int n] => .int n | d => d
def divF (k : Int) : D → D := fun d => match d with | .tup [x, .int n] => .tup [x, .int (n / k)] | d => d
theorem num_map (r : Cf) : (r.map pairD).map numF = r.map fun z => D.int z.2 := by rw [List.map_map]; rfl
theorem div_map {p q d : Int} (hd : 0 < d) (hp : d ∣ p) (hq : d ∣ q) : ((cf p q).map pairD).map (divF d) = (cf (p / d) (q / d)).map pairD := by
  rw [← cf_div hd hp hq, List.map_map, List.map_map]; rfl
theorem cd_loop {S : Sto} {j : Nat} {r : Cf} (hj : S[j]? = some (.lst (r.map fun z => D.int z.2))) : ∀ (suf pre : Cf) (d : Nat) (x2 : Option D), r = pre ++ suf → ∃ y2 : Option D,
    forI (itLst r.length j) (gN 2) (sSet 1 (mB1 (f2L fGcd2) (mCons (mV 1) (mCons (mV 2) mNil)))) suf.length pre.length [some (.obj j), some (.int (d : Int)), x2] S = .nx [some (.obj j), some (.int ((suf.foldl (fun d z => Nat.gcd d z.2.natAbs) d : Nat) : Int)), y2] S
  | [], pre, d, x2, he => by
    refine ⟨x2, ?_⟩
    have : pre.length = (r.map fun z => D.int z.2).length := by rw [he]; simp
    rw [this, fl_end hj]; rfl
  | z :: suf, pre, d, x2, he => by
    have hd : (r.map fun z => D.int z.2)[pre.length]? = some (.int z.2) := by rw [he]; simp
    obtain ⟨y2, q⟩ := cd_loop hj suf (pre ++ [z]) (Nat.gcd d z.2.natAbs) (some (.int z.2)) (by rw [he]; simp)
    refine ⟨y2, ?_⟩
    have g : ∀ S : Sto, fGcd2 (.int (d : Int)) (.int z.2) S = some (.int ((Nat.gcd d z.2.natAbs : Nat) : Int), S) := fun S => by
      show some (D.int ((Nat.gcd (d : Int).natAbs z.2.natAbs : Nat) : Int), S) = _
      rw [Int.natAbs_natCast]
    have st : (sSet 1 (mB1 (f2L fGcd2) (mCons (mV 1) (mCons (mV 2) mNil)))) [some (.obj j), some (.int (d : Int)), some (.int z.2)] S = .nx [some (.obj j), some (.int ((Nat.gcd d z.2.natAbs : Nat) : Int)), some (.int z.2)] S := by
      simp only [bind_ok, bind_ex, of_some, rs_ok, rs_ex, then_nx, then_rt, then_ex, then_bk, then_ct, mV0, mVs, mC_, m2_, m1_, mB_, kB_bl, mB1_, mNil_, mCons_, f1L_, f2L_, mTup_, mLst_, mCall_, mNotT_, mAndT_, mOrT_, mIf_, mAndV_, mOrV_, mNotV_, kAndV_bl, kOrV_bl, kNotV_bl, mSl_, mPart_, kPart_, mNoPart_, sSeq_, sSet_, sRet_, sIf_, sExpr_, sNil_, sBreak_, sCont_, e_lt, e_ltD, e_le, e_gt, e_ge, e_eqI, e_neI, e_eqS, e_neS, e_add, e_sub, List.set_cons_zero, List.set_cons_succ, kTu0, kTu1, kTu2, kTu3, kTu4, kTu5, kLs0, kLs1, kLs2, kLs3, kLs4, kLs5, mM_, mM0_, sAsg_, sFor_, iRng_, iSeq_, g]
    rw [show (z :: suf).length = suf.length + 1 from rfl, fl_nx hj hd rfl st]
    rw [List.length_append, List.length_singleton] at q
    rw [q]; rfl
theorem common_divisor {S : Sto} {j : Nat} {p q : Int} (hj : S[j]? = some (.lst ((cf p q).map fun z => D.int z.2))) : M_common_divisor [.obj j] S = .ok (.int (gD p q)) S := by
  obtain ⟨y2, h⟩ := cd_loop hj (cf p q) [] 0 none rfl
  have ks := kSeqL hj
  have e : ((cf p q).map fun z => D.int z.2).length = (cf p q).length := by rw [List.length_map]
  rw [e] at ks
  have en : (itLst (cf p q).length j).n = (cf p q).length := rfl
  rw [gD_fold] at h
  unfold M_common_divisor mFn B_common_divisor
  simp only [List.length_cons, List.length_nil, Nat.reduceAdd, if_true, List.map_cons, List.map_nil, List.replicate, List.cons_append, List.nil_append, Nat.reduceSub, Nat.sub_self]
  simp only [bind_ok, bind_ex, of_some, rs_ok, rs_ex, then_nx, then_rt, then_ex, then_bk, then_ct, mV0, mVs, mC_, m2_, m1_, mB_, kB_bl, mB1_, mNil_, mCons_, f1L_, f2L_, mTup_, mLst_, mCall_, mNotT_, mAndT_, mOrT_, mIf_, mAndV_, mOrV_, mNotV_, kAndV_bl, kOrV_bl, kNotV_bl, mSl_, mPart_, kPart_, mNoPart_, sSeq_, sSet_, sRet_, sIf_, sExpr_, sNil_, sBreak_, sCont_, e_lt, e_ltD, e_le, e_gt, e_ge, e_eqI, e_neI, e_eqS, e_neS, e_add, e_sub, List.set_cons_zero, List.set_cons_succ, kTu0, kTu1, kTu2, kTu3, kTu4, kTu5, kLs0, kLs1, kLs2, kLs3, kLs4, kLs5, mM_, mM0_, sAsg_, sFor_, iRng_, iSeq_, ks, en]
  rw [show ([] : Cf).length = 0 from rfl] at h
  rw [show (D.int 0) = D.int ((0 : Nat) : Int) from rfl, h]
  rfl
/-! ### Euclid's turns -/
def eu : Nat → Nat → Nat → Nat × Nat
  | 0, u, v => (u, v)
  | k + 1, u, v => if 0 < v then eu k v (u % v) else eu k u v
theorem eu_zero : ∀ (k u : Nat), eu k u 0 = (u, 0)
  | 0, _ => rfl
  | k + 1, u => by unfold eu; rw [if_neg (by omega), eu_zero k u]
theorem eu_gcd : ∀ (j k u v : Nat), v < 2 ^ j → 2 * j ≤ k → eu k u v = (Nat.gcd u v, 0)
  | 0, k, u, v, hv, hk => by
    have : v = 0 := by simpa using hv
    subst this
    rw [eu_zero, Nat.gcd_zero_right]
  | j + 1, k, u, v, hv, hk => by
    obtain ⟨k, rfl⟩ : ∃ m, k = m + 2 := ⟨k - 2, by omega⟩
    have g0 : ∀ a b : Nat, Nat.gcd a b = Nat.gcd b (a % b) := fun a b => by rw [Nat.gcd_comm a b, Nat.gcd_rec b a, Nat.gcd_comm]
    by_cases h : 0 < v
    · have g1 := g0 u v
      have hr := Nat.mod_lt u h
      rw [eu, if_pos h]
      generalize u % v = r at g1 hr
      by_cases h2 : 0 < r
      · have g2 := g0 v r
        have hr2 := Nat.mod_lt v h2
        have hdm := Nat.div_add_mod v r
        have h1 : 1 ≤ v / r := (Nat.le_div_iff_mul_le h2).mpr (by omega)
        have h3 : r ≤ r * (v / r) := Nat.le_mul_of_pos_right _ h1
        have hs : v % r < 2 ^ j := by rw [Nat.pow_succ] at hv; omega
        rw [eu, if_pos h2, eu_gcd j k r (v % r) hs (by omega), g1, g2]
      · have : r = 0 := by omega
        subst this
        rw [eu_zero, g1, Nat.gcd_zero_right]
    · have : v = 0 := by omega
      subst this
      rw [eu_zero, Nat.gcd_zero_right]
theorem bits_ok {v : Nat} (hv : v < 2 ^ 200) : v < 2 ^ (Builtin.Int.intBits (v : Int)) ∧ Builtin.Int.intBits (v : Int) ≤ 200 := by
  unfold Builtin.Int.intBits
  by_cases h : v = 0
  · subst h; exact ⟨by decide, by decide⟩
  · have e : ((v : Int) == 0) = false := by simp; omega
    rw [e, if_neg (by decide), Int.natAbs_natCast]
    exact ⟨Nat.lt_log2_self, by have := (Nat.log2_lt h).mpr hv; omega⟩
def LDB : MS := (sIf (mB (m2 fGt (mV 4) (mC (.int 0))))
  (sSeq (sSet 6 (m2 fMod (mB1 (f1L fInt) (mCons (mV 3) mNil)) (mV 4)))
  (sSeq (sSet 3 (mV 4))
  (sSet 4 (mV 6))))
  sNil)
theorem ld_in {S : Sto} {x0 x1 x2 : Option D} : ∀ (k i n u v : Nat) (x5 x6 : Option D), n = i + k → ∃ y5 y6 : Option D, forI (itRng 0 n) (gN 5) LDB k i [x0, x1, x2, some (.int (u : Int)), some (.int (v : Int)), x5, x6] S = .nx [x0, x1, x2, some (.int ((eu k u v).1 : Int)), some (.int ((eu k u v).2 : Int)), y5, y6] S
  | 0, i, n, u, v, x5, x6, hn => ⟨x5, x6, by rw [show i = n by omega, fr_end]; rfl⟩
  | k + 1, i, n, u, v, x5, x6, hn => by
    by_cases h : 0 < v
    · obtain ⟨y5, y6, q⟩ := ld_in (S := S) (x0 := x0) (x1 := x1) (x2 := x2) k (i + 1) n v (u % v) (some (.int (0 + (i : Int)))) (some (.int ((u % v : Nat) : Int))) (by omega)
      refine ⟨y5, y6, ?_⟩
      have d1 : decide ((0 : Int) < (v : Int)) = true := decide_eq_true (by omega)
      have e : (u : Int) % (v : Int) = ((u % v : Nat) : Int) := by omega
      have st : LDB [x0, x1, x2, some (.int (u : Int)), some (.int (v : Int)), some (.int (0 + (i : Int))), x6] S = .nx [x0, x1, x2, some (.int (v : Int)), some (.int ((u % v : Nat) : Int)), some (.int (0 + (i : Int))), some (.int ((u % v : Nat) : Int))] S := by
        unfold LDB
        simp only [bind_ok, bind_ex, of_some, rs_ok, rs_ex, then_nx, then_rt, then_ex, then_bk, then_ct, mV0, mVs, mC_, m2_, m1_, mB_, kB_bl, mB1_, mNil_, mCons_, f1L_, f2L_, mTup_, mLst_, mCall_, mNotT_, mAndT_, mOrT_, mIf_, mAndV_, mOrV_, mNotV_, kAndV_bl, kOrV_bl, kNotV_bl, mSl_, mPart_, kPart_, mNoPart_, sSeq_, sSet_, sRet_, sIf_, sExpr_, sNil_, sBreak_, sCont_, e_lt, e_ltD, e_le, e_gt, e_ge, e_eqI, e_neI, e_eqS, e_neS, e_add, e_sub, List.set_cons_zero, List.set_cons_succ, kTu0, kTu1, kTu2, kTu3, kTu4, kTu5, kLs0, kLs1, kLs2, kLs3, kLs4, kLs5, mM_, mM0_, sAsg_, sFor_, iRng_, iSeq_, d1, if_true, e_int, e_mod (show (0 : Int) < (v : Int) by omega), e]
      rw [fr_nx (by omega) st, q, eu, if_pos h]
    · obtain ⟨y5, y6, q⟩ := ld_in (S := S) (x0 := x0) (x1 := x1) (x2 := x2) k (i + 1) n u v (some (.int (0 + (i : Int)))) x6 (by omega)
      refine ⟨y5, y6, ?_⟩
      have d1 : decide ((0 : Int) < (v : Int)) = false := decide_eq_false (by omega)
      have st : LDB [x0, x1, x2, some (.int (u : Int)), some (.int (v : Int)), some (.int (0 + (i : Int))), x6] S = .nx [x0, x1, x2, some (.int (u : Int)), some (.int (v : Int)), some (.int (0 + (i : Int))), x6] S := by
        unfold LDB
        simp only [bind_ok, bind_ex, of_some, rs_ok, rs_ex, then_nx, then_rt, then_ex, then_bk, then_ct, mV0, mVs, mC_, m2_, m1_, mB_, kB_bl, mB1_, mNil_, mCons_, f1L_, f2L_, mTup_, mLst_, mCall_, mNotT_, mAndT_, mOrT_, mIf_, mAndV_, mOrV_, mNotV_, kAndV_bl, kOrV_bl, kNotV_bl, mSl_, mPart_, kPart_, mNoPart_, sSeq_, sSet_, sRet_, sIf_, sExpr_, sNil_, sBreak_, sCont_, e_lt, e_ltD, e_le, e_gt, e_ge, e_eqI, e_neI, e_eqS, e_neS, e_add, e_sub, List.set_cons_zero, List.set_cons_succ, kTu0, kTu1, kTu2, kTu3, kTu4, kTu5, kLs0, kLs1, kLs2, kLs3, kLs4, kLs5, mM_, mM0_, sAsg_, sFor_, iRng_, iSeq_, d1, Bool.false_eq_true, if_false]
      rw [fr_nx (by omega) st, q, eu, if_neg h]
def LDO : MS := (sSeq (sSet 3 (mV 1))
  (sSeq (sSet 4 (mB1 (f1L fAbs) (mCons (mV 2) mNil)))
  (sSeq (sFor (iRng (mCons (m2 fAdd (m2 fMulA (mC (.int 2)) (m1 fBits (mV 4))) (mC (.int 10))) mNil)) (gN 5) LDB)
  (sSet 1 (mV 3)))))
theorem ldo {S : Sto} {x0 x3 x4 x5 x6 : Option D} {d : Nat} {n : Int} (hn : Sm n) : ∃ y3 y4 y5 y6 : Option D, LDO [x0, some (.int (d : Int)), some (.int n), x3, x4, x5, x6] S = .nx [x0, some (.int ((Nat.gcd d n.natAbs : Nat) : Int)), some (.int n), y3, y4, y5, y6] S := by
  obtain ⟨b1, b2⟩ := bits_ok hn
  have ab : ∀ S : Sto, fAbs (.int n) S = some (.int (n.natAbs : Int), S) := fun S => by
    show some (D.int (if n < 0 then -n else n), S) = _
    congr 3
    split <;> omega
  have bi : ∀ S : Sto, fBits (.int (n.natAbs : Int)) S = some (.int ((Builtin.Int.intBits (n.natAbs : Int) : Nat) : Int), S) := fun _ => rfl
  generalize Builtin.Int.intBits (n.natAbs : Int) = b at b1 b2 bi
  obtain ⟨y5, y6, q⟩ := ld_in (S := S) (x0 := x0) (x1 := some (.int (d : Int))) (x2 := some (.int n)) (2 * b + 10) 0 (2 * b + 10) d n.natAbs x5 x6 (by omega)
  rw [eu_gcd b (2 * b + 10) d n.natAbs b1 (by omega)] at q
  have m2b : ∀ S : Sto, fMulA (.int 2) (.int (b : Int)) S = some (.int (2 * (b : Int)), S) := fun S => e_mulW (by decide) (Nat.lt_of_le_of_lt (show (b : Int).natAbs ≤ 200 by omega) (by decide))
  have hr : ∀ S : Sto, kRngI [.int (2 * (b : Int) + 10)] S = .ok (itRng 0 (2 * b + 10)) S := fun S => by
    rw [kRng1 (by omega)]
    rw [show (2 * (b : Int) + 10).toNat = 2 * b + 10 by omega]
  have en : (itRng 0 (2 * b + 10)).n = 2 * b + 10 := rfl
  refine ⟨some (.int ((Nat.gcd d n.natAbs : Nat) : Int)), some (.int ((0 : Nat) : Int)), y5, y6, ?_⟩
  unfold LDO
  simp only [bind_ok, bind_ex, of_some, rs_ok, rs_ex, then_nx, then_rt, then_ex, then_bk, then_ct, mV0, mVs, mC_, m2_, m1_, mB_, kB_bl, mB1_, mNil_, mCons_, f1L_, f2L_, mTup_, mLst_, mCall_, mNotT_, mAndT_, mOrT_, mIf_, mAndV_, mOrV_, mNotV_, kAndV_bl, kOrV_bl, kNotV_bl, mSl_, mPart_, kPart_, mNoPart_, sSeq_, sSet_, sRet_, sIf_, sExpr_, sNil_, sBreak_, sCont_, e_lt, e_ltD, e_le, e_gt, e_ge, e_eqI, e_neI, e_eqS, e_neS, e_add, e_sub, List.set_cons_zero, List.set_cons_succ, kTu0, kTu1, kTu2, kTu3, kTu4, kTu5, kLs0, kLs1, kLs2, kLs3, kLs4, kLs5, mM_, mM0_, sAsg_, sFor_, iRng_, iSeq_, ab, bi, m2b, hr, en, q]
theorem ld_loop {S : Sto} {j : Nat} {r : Cf} (hj : S[j]? = some (.lst (r.map fun z => D.int z.2))) (hs : ∀ z ∈ r, Sm z.2) : ∀ (suf pre : Cf) (d : Nat) (x2 x3 x4 x5 x6 : Option D), r = pre ++ suf → ∃ y2 y3 y4 y5 y6 : Option D,
    forI (itLst r.length j) (gN 2) LDO suf.length pre.length [some (.obj j), some (.int (d : Int)), x2, x3, x4, x5, x6] S = .nx [some (.obj j), some (.int ((suf.foldl (fun d z => Nat.gcd d z.2.natAbs) d : Nat) : Int)), y2, y3, y4, y5, y6] S
  | [], pre, d, x2, x3, x4, x5, x6, he => by
    refine ⟨x2, x3, x4, x5, x6, ?_⟩
    have : pre.length = (r.map fun z => D.int z.2).length := by rw [he]; simp
    rw [this, fl_end hj]; rfl
  | z :: suf, pre, d, x2, x3, x4, x5, x6, he => by
    have hd : (r.map fun z => D.int z.2)[pre.length]? = some (.int z.2) := by rw [he]; simp
    obtain ⟨u3, u4, u5, u6, st⟩ := ldo (S := S) (x0 := some (.obj j)) (x3 := x3) (x4 := x4) (x5 := x5) (x6 := x6) (d := d) (n := z.2) (hs z (by rw [he]; simp))
    obtain ⟨y2, y3, y4, y5, y6, q⟩ := ld_loop hj hs suf (pre ++ [z]) (Nat.gcd d z.2.natAbs) (some (.int z.2)) u3 u4 u5 u6 (by rw [he]; simp)
    refine ⟨y2, y3, y4, y5, y6, ?_⟩
    rw [show (z :: suf).length = suf.length + 1 from rfl, fl_nx hj hd rfl st]
    rw [List.length_append, List.length_singleton] at q
    rw [q]; rfl
theorem law_divisor {S : Sto} {j : Nat} {p q : Int} (hp : Sm p) (hq : Sm q) (hj : S[j]? = some (.lst ((cf p q).map fun z => D.int z.2))) : M__law_divisor [.obj j] S = .ok (.int (gD p q)) S := by
  obtain ⟨y2, y3, y4, y5, y6, h⟩ := ld_loop hj (cf_sm hp hq) (cf p q) [] 0 none none none none none rfl
  have ks := kSeqL hj
  have e : ((cf p q).map fun z => D.int z.2).length = (cf p q).length := by rw [List.length_map]
  rw [e] at ks
  have en : (itLst (cf p q).length j).n = (cf p q).length := rfl
  rw [gD_fold] at h
  unfold LDO LDB at h
  unfold M__law_divisor mFn B__law_divisor
  simp only [List.length_cons, List.length_nil, Nat.reduceAdd, if_true, List.map_cons, List.map_nil, List.replicate, List.cons_append, List.nil_append, Nat.reduceSub, Nat.sub_self]
  simp only [bind_ok, bind_ex, of_some, rs_ok, rs_ex, then_nx, then_rt, then_ex, then_bk, then_ct, mV0, mVs, mC_, m2_, m1_, mB_, kB_bl, mB1_, mNil_, mCons_, f1L_, f2L_, mTup_, mLst_, mCall_, mNotT_, mAndT_, mOrT_, mIf_, mAndV_, mOrV_, mNotV_, kAndV_bl, kOrV_bl, kNotV_bl, mSl_, mPart_, kPart_, mNoPart_, sSeq_, sSet_, sRet_, sIf_, sExpr_, sNil_, sBreak_, sCont_, e_lt, e_ltD, e_le, e_gt, e_ge, e_eqI, e_neI, e_eqS, e_neS, e_add, e_sub, List.set_cons_zero, List.set_cons_succ, kTu0, kTu1, kTu2, kTu3, kTu4, kTu5, kLs0, kLs1, kLs2, kLs3, kLs4, kLs5, mM_, mM0_, sAsg_, sFor_, iRng_, iSeq_, ks, en]
  rw [show ([] : Cf).length = 0 from rfl] at h
  rw [show ((0 : Nat) : Int) = (0 : Int) from rfl] at h
  rw [h]
  rfl
end K26

namespace K26
open PySem PySem.Spec L2 Mi
/-! ### shortened -/
def facD (w : Str) (c p q : Int) : D := .tup [.str w, tm c p q]
def shF (w : Str) (c p q : Int) : D :=
  if gD p q = 0 then facD w c p q
  else if w = "eq" ∧ c % (gD p q : Int) ≠ 0 then facD "le" 1 0 0
  else facD w (upZ c (gD p q)) (p / gD p q) (q / gD p q)
def shD (w : Str) (c p q : Int) : D := .tup [shF w c p q, .int (if gD p q = 0 then 1 else gD p q)]
theorem fac0 {S : Sto} {w : Str} {c p q : Int} : fIx (facD w c p q) (.int 0) S = some (.str w, S) := e_t0
theorem fac1 {S : Sto} {w : Str} {c p q : Int} : fIx (facD w c p q) (.int 1) S = some (tm c p q, S) := e_t1
theorem sh0 {S : Sto} {w : Str} {c p q : Int} : fIx (shD w c p q) (.int 0) S = some (shF w c p q, S) := e_t0
section
variable {S : Sto} {c p q : Int} (hc : Sm c) (hp : Sm p) (hq : Sm q)
include hp hq
/-- the list of the numbers, by two targets -/
theorem nums2 {vs : List Nat} {env : Mi.Env} {g : MG} {e : ME} (hf : ∀ acc (z : Nat × Int), z ∈ cf p q → ∃ env1, g (pairD z) (wipeE env vs) (S ++ [.lst acc]) = some env1 ∧ e env1 (S ++ [.lst acc]) = .ok (.int z.2) (S ++ [.lst acc])) : kLc g tAll e vs env (itFix ((cf p q).map pairD)) S = .ok (.obj S.length) (S ++ [.lst ((cf p q).map fun z => D.int z.2)]) := by
  rw [← num_map]
  refine lcG (fun acc d hd => ?_) (by rw [sizeLine_eq, List.length_map]; have := cf_len p q; omega)
  obtain ⟨z, hz, rfl⟩ := List.mem_map.mp hd
  exact hf acc z hz
theorem divs2 {vs : List Nat} {env : Mi.Env} {g : MG} {e : ME} {d : Int} (hd : 0 < d) (dp : d ∣ p) (dq : d ∣ q) (hf : ∀ acc (z : Nat × Int), z ∈ cf p q → ∃ env1, g (pairD z) (wipeE env vs) (S ++ [.lst acc]) = some env1 ∧ e env1 (S ++ [.lst acc]) = .ok (.tup [atm z.1, .int (z.2 / d)]) (S ++ [.lst acc])) : kLc g tAll e vs env (itFix ((cf p q).map pairD)) S = .ok (.obj S.length) (S ++ [.lst ((cf (p / d) (q / d)).map pairD)]) := by
  rw [← div_map hd dp dq]
  refine lcG (fun acc d hd => ?_) (by rw [sizeLine_eq, List.length_map]; have := cf_len p q; omega)
  obtain ⟨z, hz, rfl⟩ := List.mem_map.mp hd
  exact hf acc z hz
end
theorem e_tuple {S : Sto} {r : Cf} {j : Nat} (h : S[j]? = some (.lst (r.map pairD))) : fTuple (.obj j) S = some (rwC r, S) := by
  show (lstAt _ _).map _ = _
  rw [lst_at h]; rfl
theorem ksR {S : Sto} {r : Cf} : kSeqI (rwC r) S = .ok (itFix (r.map pairD)) S := (rfl)
theorem sm_div {c d : Int} (hc : Sm c) : Sm (c / d) := Nat.lt_of_le_of_lt (Int.natAbs_ediv_le_natAbs c d) hc
def TG65 : MG := gT 2 (gsCons (gN 6) (gsCons (gN 5) gsNil))
theorem short_row {S : Sto} {w : Str} {c p q : Int} (hc : Sm c) (hp : Sm p) (hq : Sm q) (hw : w = "le" ∨ w = "eq") : ∃ X : Sto, M_short_row [facD w c p q] S = .ok (shD w c p q) (S ++ X) := by
  have l1 := nums2 (S := S) hp hq (vs := [6, 5]) (env := [some (facD w c p q), some (.str w), some (tm c p q), none, none, none, none]) (g := gT 2 (gsCons (gN 6) (gsCons (gN 5) gsNil))) (e := mV 5)
    (fun acc z hz => ⟨[some (facD w c p q), some (.str w), some (tm c p q), none, none, some (.int z.2), some (atm z.1)], rfl, by simp only [bind_ok, bind_ex, of_some, rs_ok, rs_ex, then_nx, then_rt, then_ex, then_bk, then_ct, mV0, mVs, mC_, m2_, m1_, mB_, kB_bl, mB1_, mNil_, mCons_, f1L_, f2L_, mTup_, mLst_, mCall_, mNotT_, mAndT_, mOrT_, mIf_, mAndV_, mOrV_, mNotV_, kAndV_bl, kOrV_bl, kNotV_bl, mSl_, mPart_, kPart_, mNoPart_, sSeq_, sSet_, sRet_, sIf_, sExpr_, sNil_, sBreak_, sCont_, e_lt, e_ltD, e_le, e_gt, e_ge, e_eqI, e_neI, e_eqS, e_neS, e_add, e_sub, List.set_cons_zero, List.set_cons_succ, kTu0, kTu1, kTu2, kTu3, kTu4, kTu5, kLs0, kLs1, kLs2, kLs3, kLs4, kLs5, mM_, mM0_, sAsg_, sFor_, iRng_, iSeq_]⟩)
  have cd := common_divisor (S := S ++ [.lst ((cf p q).map fun z => D.int z.2)]) (p := p) (q := q) last0
  have ka : kAsg (gT 2 (gsCons (gN 1) (gsCons (gN 2) gsNil))) [some (facD w c p q), none, none, none, none, none, none] (facD w c p q) S = .nx [some (facD w c p q), some (.str w), some (tm c p q), none, none, none, none] S := rfl
  by_cases h0 : gD p q = 0
  · refine ⟨[.lst ((cf p q).map fun z => D.int z.2)], ?_⟩
    have d1 : decide (((gD p q : Nat) : Int) = 0) = true := decide_eq_true (by omega)
    unfold M_short_row mFn B_short_row
    simp only [List.length_cons, List.length_nil, Nat.reduceAdd, if_true, List.map_cons, List.map_nil, List.replicate, List.cons_append, List.nil_append, Nat.reduceSub, Nat.sub_self]
    simp only [bind_ok, bind_ex, of_some, rs_ok, rs_ex, then_nx, then_rt, then_ex, then_bk, then_ct, mV0, mVs, mC_, m2_, m1_, mB_, kB_bl, mB1_, mNil_, mCons_, f1L_, f2L_, mTup_, mLst_, mCall_, mNotT_, mAndT_, mOrT_, mIf_, mAndV_, mOrV_, mNotV_, kAndV_bl, kOrV_bl, kNotV_bl, mSl_, mPart_, kPart_, mNoPart_, sSeq_, sSet_, sRet_, sIf_, sExpr_, sNil_, sBreak_, sCont_, e_lt, e_ltD, e_le, e_gt, e_ge, e_eqI, e_neI, e_eqS, e_neS, e_add, e_sub, List.set_cons_zero, List.set_cons_succ, kTu0, kTu1, kTu2, kTu3, kTu4, kTu5, kLs0, kLs1, kLs2, kLs3, kLs4, kLs5, mM_, mM0_, sAsg_, sFor_, iRng_, iSeq_, ka, mLc_, tm1, ksR, l1, cd, d1, if_true]
    unfold shD shF
    rw [if_pos h0, if_pos h0]
    rfl
  · have d1 : decide (((gD p q : Nat) : Int) = 0) = false := decide_eq_false (by omega)
    have hd : (0 : Int) < (gD p q : Int) := by omega
    have hds : Sm (gD p q : Int) := by have := gD_sm hp hq; show ((gD p q : Nat) : Int).natAbs < _; rw [Int.natAbs_natCast]; exact this
    obtain ⟨dp, dq⟩ := gD_dvd p q
    have esub : c - (gD p q : Int) * (c / (gD p q : Int)) = c % (gD p q : Int) := (Int.emod_def ..).symm
    by_cases he : w = "eq" ∧ c % (gD p q : Int) ≠ 0
    · refine ⟨[.lst ((cf p q).map fun z => D.int z.2)], ?_⟩
      have d2 : decide (w = ("eq" : Str)) = true := decide_eq_true he.1
      have d3 : decide (c % (gD p q : Int) = 0) = false := decide_eq_false he.2
      unfold M_short_row mFn B_short_row
      simp only [List.length_cons, List.length_nil, Nat.reduceAdd, if_true, List.map_cons, List.map_nil, List.replicate, List.cons_append, List.nil_append, Nat.reduceSub, Nat.sub_self]
      simp only [bind_ok, bind_ex, of_some, rs_ok, rs_ex, then_nx, then_rt, then_ex, then_bk, then_ct, mV0, mVs, mC_, m2_, m1_, mB_, kB_bl, mB1_, mNil_, mCons_, f1L_, f2L_, mTup_, mLst_, mCall_, mNotT_, mAndT_, mOrT_, mIf_, mAndV_, mOrV_, mNotV_, kAndV_bl, kOrV_bl, kNotV_bl, mSl_, mPart_, kPart_, mNoPart_, sSeq_, sSet_, sRet_, sIf_, sExpr_, sNil_, sBreak_, sCont_, e_lt, e_ltD, e_le, e_gt, e_ge, e_eqI, e_neI, e_eqS, e_neS, e_add, e_sub, List.set_cons_zero, List.set_cons_succ, kTu0, kTu1, kTu2, kTu3, kTu4, kTu5, kLs0, kLs1, kLs2, kLs3, kLs4, kLs5, mM_, mM0_, sAsg_, sFor_, iRng_, iSeq_, ka, mLc_, tm1, tm0, ksR, l1, cd, d1, d2, Bool.false_eq_true, if_false, if_true, e_divW hd hds, e_mulW hds (sm_div hc), esub, d3, Bool.not_false]
      unfold shD shF
      rw [if_neg h0, if_neg h0, if_pos he]
      rfl
    · have l2 := divs2 (S := S ++ [.lst ((cf p q).map fun z => D.int z.2)]) hp hq hd dp dq (vs := [6, 5]) (env := [some (facD w c p q), some (.str w), some (tm c p q), some (.int (gD p q : Int)), none, none, none]) (g := gT 2 (gsCons (gN 6) (gsCons (gN 5) gsNil))) (e := (mTup (mCons (mV 6) (mCons (m2 fDiv (mV 5) (mV 3)) mNil))))
        (fun acc z hz => ⟨[some (facD w c p q), some (.str w), some (tm c p q), some (.int (gD p q : Int)), none, some (.int z.2), some (atm z.1)], rfl, by simp only [bind_ok, bind_ex, of_some, rs_ok, rs_ex, then_nx, then_rt, then_ex, then_bk, then_ct, mV0, mVs, mC_, m2_, m1_, mB_, kB_bl, mB1_, mNil_, mCons_, f1L_, f2L_, mTup_, mLst_, mCall_, mNotT_, mAndT_, mOrT_, mIf_, mAndV_, mOrV_, mNotV_, kAndV_bl, kOrV_bl, kNotV_bl, mSl_, mPart_, kPart_, mNoPart_, sSeq_, sSet_, sRet_, sIf_, sExpr_, sNil_, sBreak_, sCont_, e_lt, e_ltD, e_le, e_gt, e_ge, e_eqI, e_neI, e_eqS, e_neS, e_add, e_sub, List.set_cons_zero, List.set_cons_succ, kTu0, kTu1, kTu2, kTu3, kTu4, kTu5, kLs0, kLs1, kLs2, kLs3, kLs4, kLs5, mM_, mM0_, sAsg_, sFor_, iRng_, iSeq_, e_divW hd hds]⟩)
      refine ⟨[.lst ((cf p q).map fun z => D.int z.2)] ++ [.lst ((cf (p / gD p q) (q / gD p q)).map pairD)], ?_⟩
      rw [← List.append_assoc]
      by_cases hq' : w = "eq"
      · have d2 : decide (w = ("eq" : Str)) = true := decide_eq_true hq'
        have d3 : decide (c % (gD p q : Int) = 0) = true := decide_eq_true (Decidable.byContradiction fun x => he ⟨hq', x⟩)
        unfold M_short_row mFn B_short_row
        simp only [List.length_cons, List.length_nil, Nat.reduceAdd, if_true, List.map_cons, List.map_nil, List.replicate, List.cons_append, List.nil_append, Nat.reduceSub, Nat.sub_self]
        simp only [bind_ok, bind_ex, of_some, rs_ok, rs_ex, then_nx, then_rt, then_ex, then_bk, then_ct, mV0, mVs, mC_, m2_, m1_, mB_, kB_bl, mB1_, mNil_, mCons_, f1L_, f2L_, mTup_, mLst_, mCall_, mNotT_, mAndT_, mOrT_, mIf_, mAndV_, mOrV_, mNotV_, kAndV_bl, kOrV_bl, kNotV_bl, mSl_, mPart_, kPart_, mNoPart_, sSeq_, sSet_, sRet_, sIf_, sExpr_, sNil_, sBreak_, sCont_, e_lt, e_ltD, e_le, e_gt, e_ge, e_eqI, e_neI, e_eqS, e_neS, e_add, e_sub, List.set_cons_zero, List.set_cons_succ, kTu0, kTu1, kTu2, kTu3, kTu4, kTu5, kLs0, kLs1, kLs2, kLs3, kLs4, kLs5, mM_, mM0_, sAsg_, sFor_, iRng_, iSeq_, ka, mLc_, tm1, tm0, ksR, l1, cd, d1, d2, d3, Bool.not_true, Bool.false_eq_true, if_false, if_true, e_divW hd hds, e_mulW hds (sm_div hc), esub, l2, e_tuple last0, up_ hd hds]
        unfold shD shF
        rw [if_neg h0, if_neg h0, if_neg he]
        rfl
      · have d2 : decide (w = ("eq" : Str)) = false := decide_eq_false hq'
        unfold M_short_row mFn B_short_row
        simp only [List.length_cons, List.length_nil, Nat.reduceAdd, if_true, List.map_cons, List.map_nil, List.replicate, List.cons_append, List.nil_append, Nat.reduceSub, Nat.sub_self]
        simp only [bind_ok, bind_ex, of_some, rs_ok, rs_ex, then_nx, then_rt, then_ex, then_bk, then_ct, mV0, mVs, mC_, m2_, m1_, mB_, kB_bl, mB1_, mNil_, mCons_, f1L_, f2L_, mTup_, mLst_, mCall_, mNotT_, mAndT_, mOrT_, mIf_, mAndV_, mOrV_, mNotV_, kAndV_bl, kOrV_bl, kNotV_bl, mSl_, mPart_, kPart_, mNoPart_, sSeq_, sSet_, sRet_, sIf_, sExpr_, sNil_, sBreak_, sCont_, e_lt, e_ltD, e_le, e_gt, e_ge, e_eqI, e_neI, e_eqS, e_neS, e_add, e_sub, List.set_cons_zero, List.set_cons_succ, kTu0, kTu1, kTu2, kTu3, kTu4, kTu5, kLs0, kLs1, kLs2, kLs3, kLs4, kLs5, mM_, mM0_, sAsg_, sFor_, iRng_, iSeq_, ka, mLc_, tm1, tm0, ksR, l1, cd, d1, d2, Bool.false_eq_true, if_false, l2, e_tuple last0, up_ hd hds]
        unfold shD shF
        rw [if_neg h0, if_neg h0, if_neg he]
        rfl
end K26

namespace K26
open PySem PySem.Spec L2 Mi
theorem law_short {S : Sto} {w : Str} {c p q : Int} (hc : Sm c) (hp : Sm p) (hq : Sm q) : ∃ X : Sto, M__law_short [facD w c p q] S = .ok (shD w c p q) (S ++ X) := by
  have l1 := nums2 (S := S) hp hq (vs := [5]) (env := [some (facD w c p q), none, none, none, none, none]) (g := gN 5) (e := (m2 fIx (mV 5) (mC (.int 1))))
    (fun acc z hz => ⟨[some (facD w c p q), none, none, none, none, some (pairD z)], rfl, by simp only [bind_ok, bind_ex, of_some, rs_ok, rs_ex, then_nx, then_rt, then_ex, then_bk, then_ct, mV0, mVs, mC_, m2_, m1_, mB_, kB_bl, mB1_, mNil_, mCons_, f1L_, f2L_, mTup_, mLst_, mCall_, mNotT_, mAndT_, mOrT_, mIf_, mAndV_, mOrV_, mNotV_, kAndV_bl, kOrV_bl, kNotV_bl, mSl_, mPart_, kPart_, mNoPart_, sSeq_, sSet_, sRet_, sIf_, sExpr_, sNil_, sBreak_, sCont_, e_lt, e_ltD, e_le, e_gt, e_ge, e_eqI, e_neI, e_eqS, e_neS, e_add, e_sub, List.set_cons_zero, List.set_cons_succ, kTu0, kTu1, kTu2, kTu3, kTu4, kTu5, kLs0, kLs1, kLs2, kLs3, kLs4, kLs5, mM_, mM0_, sAsg_, sFor_, iRng_, iSeq_, pr1]⟩)
  have cd := law_divisor (S := S ++ [.lst ((cf p q).map fun z => D.int z.2)]) (p := p) (q := q) hp hq last0
  by_cases h0 : gD p q = 0
  · refine ⟨[.lst ((cf p q).map fun z => D.int z.2)], ?_⟩
    have d1 : decide (((gD p q : Nat) : Int) = 0) = true := decide_eq_true (by omega)
    unfold M__law_short mFn B__law_short
    simp only [List.length_cons, List.length_nil, Nat.reduceAdd, if_true, List.map_cons, List.map_nil, List.replicate, List.cons_append, List.nil_append, Nat.reduceSub, Nat.sub_self]
    simp only [bind_ok, bind_ex, of_some, rs_ok, rs_ex, then_nx, then_rt, then_ex, then_bk, then_ct, mV0, mVs, mC_, m2_, m1_, mB_, kB_bl, mB1_, mNil_, mCons_, f1L_, f2L_, mTup_, mLst_, mCall_, mNotT_, mAndT_, mOrT_, mIf_, mAndV_, mOrV_, mNotV_, kAndV_bl, kOrV_bl, kNotV_bl, mSl_, mPart_, kPart_, mNoPart_, sSeq_, sSet_, sRet_, sIf_, sExpr_, sNil_, sBreak_, sCont_, e_lt, e_ltD, e_le, e_gt, e_ge, e_eqI, e_neI, e_eqS, e_neS, e_add, e_sub, List.set_cons_zero, List.set_cons_succ, kTu0, kTu1, kTu2, kTu3, kTu4, kTu5, kLs0, kLs1, kLs2, kLs3, kLs4, kLs5, mM_, mM0_, sAsg_, sFor_, iRng_, iSeq_, fac1, mLc_, tm1, ksR, l1, cd, d1, if_true]
    unfold shD shF
    rw [if_pos h0, if_pos h0]
    rfl
  · have d1 : decide (((gD p q : Nat) : Int) = 0) = false := decide_eq_false (by omega)
    have hd : (0 : Int) < (gD p q : Int) := by omega
    have hds : Sm (gD p q : Int) := by have := gD_sm hp hq; show ((gD p q : Nat) : Int).natAbs < _; rw [Int.natAbs_natCast]; exact this
    obtain ⟨dp, dq⟩ := gD_dvd p q
    have l2 := divs2 (S := S ++ [.lst ((cf p q).map fun z => D.int z.2)]) hp hq hd dp dq (vs := [5]) (env := [some (facD w c p q), some (.obj S.length), some (.int (gD p q : Int)), none, none, none]) (g := gN 5) (e := (mTup (mCons (m2 fIx (mV 5) (mC (.int 0))) (mCons (m2 fDiv (m2 fIx (mV 5) (mC (.int 1))) (mV 2)) mNil))))
        (fun acc z hz => ⟨[some (facD w c p q), some (.obj S.length), some (.int (gD p q : Int)), none, none, some (pairD z)], rfl, by simp only [bind_ok, bind_ex, of_some, rs_ok, rs_ex, then_nx, then_rt, then_ex, then_bk, then_ct, mV0, mVs, mC_, m2_, m1_, mB_, kB_bl, mB1_, mNil_, mCons_, f1L_, f2L_, mTup_, mLst_, mCall_, mNotT_, mAndT_, mOrT_, mIf_, mAndV_, mOrV_, mNotV_, kAndV_bl, kOrV_bl, kNotV_bl, mSl_, mPart_, kPart_, mNoPart_, sSeq_, sSet_, sRet_, sIf_, sExpr_, sNil_, sBreak_, sCont_, e_lt, e_ltD, e_le, e_gt, e_ge, e_eqI, e_neI, e_eqS, e_neS, e_add, e_sub, List.set_cons_zero, List.set_cons_succ, kTu0, kTu1, kTu2, kTu3, kTu4, kTu5, kLs0, kLs1, kLs2, kLs3, kLs4, kLs5, mM_, mM0_, sAsg_, sFor_, iRng_, iSeq_, pr0, pr1, e_divW hd hds]⟩)
    refine ⟨[.lst ((cf p q).map fun z => D.int z.2)] ++ [.lst ((cf (p / gD p q) (q / gD p q)).map pairD)], ?_⟩
    rw [← List.append_assoc]
    by_cases hq' : w = "eq"
    · have d2 : decide (w = ("eq" : Str)) = true := decide_eq_true hq'
      by_cases hm : c % (gD p q : Int) = 0
      · have d3 : decide (c % (gD p q : Int) = 0) = true := decide_eq_true hm
        unfold M__law_short mFn B__law_short
        simp only [List.length_cons, List.length_nil, Nat.reduceAdd, if_true, List.map_cons, List.map_nil, List.replicate, List.cons_append, List.nil_append, Nat.reduceSub, Nat.sub_self]
        simp only [bind_ok, bind_ex, of_some, rs_ok, rs_ex, then_nx, then_rt, then_ex, then_bk, then_ct, mV0, mVs, mC_, m2_, m1_, mB_, kB_bl, mB1_, mNil_, mCons_, f1L_, f2L_, mTup_, mLst_, mCall_, mNotT_, mAndT_, mOrT_, mIf_, mAndV_, mOrV_, mNotV_, kAndV_bl, kOrV_bl, kNotV_bl, mSl_, mPart_, kPart_, mNoPart_, sSeq_, sSet_, sRet_, sIf_, sExpr_, sNil_, sBreak_, sCont_, e_lt, e_ltD, e_le, e_gt, e_ge, e_eqI, e_neI, e_eqS, e_neS, e_add, e_sub, List.set_cons_zero, List.set_cons_succ, kTu0, kTu1, kTu2, kTu3, kTu4, kTu5, kLs0, kLs1, kLs2, kLs3, kLs4, kLs5, mM_, mM0_, sAsg_, sFor_, iRng_, iSeq_, fac0, fac1, mLc_, tm1, tm0, ksR, l1, cd, d1, d2, d3, Bool.not_true, Bool.false_eq_true, if_false, if_true, l2, e_tuple last0, e_int, e_modW hd, e_divW hd hds, e_neg]
        unfold shD shF
        rw [if_neg h0, if_neg h0, if_neg fun h => h.2 hm]
        rfl
      · have d3 : decide (c % (gD p q : Int) = 0) = false := decide_eq_false hm
        unfold M__law_short mFn B__law_short
        simp only [List.length_cons, List.length_nil, Nat.reduceAdd, if_true, List.map_cons, List.map_nil, List.replicate, List.cons_append, List.nil_append, Nat.reduceSub, Nat.sub_self]
        simp only [bind_ok, bind_ex, of_some, rs_ok, rs_ex, then_nx, then_rt, then_ex, then_bk, then_ct, mV0, mVs, mC_, m2_, m1_, mB_, kB_bl, mB1_, mNil_, mCons_, f1L_, f2L_, mTup_, mLst_, mCall_, mNotT_, mAndT_, mOrT_, mIf_, mAndV_, mOrV_, mNotV_, kAndV_bl, kOrV_bl, kNotV_bl, mSl_, mPart_, kPart_, mNoPart_, sSeq_, sSet_, sRet_, sIf_, sExpr_, sNil_, sBreak_, sCont_, e_lt, e_ltD, e_le, e_gt, e_ge, e_eqI, e_neI, e_eqS, e_neS, e_add, e_sub, List.set_cons_zero, List.set_cons_succ, kTu0, kTu1, kTu2, kTu3, kTu4, kTu5, kLs0, kLs1, kLs2, kLs3, kLs4, kLs5, mM_, mM0_, sAsg_, sFor_, iRng_, iSeq_, fac0, fac1, mLc_, tm1, tm0, ksR, l1, cd, d1, d2, d3, Bool.not_false, Bool.false_eq_true, if_false, if_true, l2, e_tuple last0, e_int, e_modW hd, e_divW hd hds, e_neg]
        unfold shD shF
        rw [if_neg h0, if_neg h0, if_pos ⟨hq', hm⟩]
        rfl
    · have d2 : decide (w = ("eq" : Str)) = false := decide_eq_false hq'
      unfold M__law_short mFn B__law_short
      simp only [List.length_cons, List.length_nil, Nat.reduceAdd, if_true, List.map_cons, List.map_nil, List.replicate, List.cons_append, List.nil_append, Nat.reduceSub, Nat.sub_self]
      simp only [bind_ok, bind_ex, of_some, rs_ok, rs_ex, then_nx, then_rt, then_ex, then_bk, then_ct, mV0, mVs, mC_, m2_, m1_, mB_, kB_bl, mB1_, mNil_, mCons_, f1L_, f2L_, mTup_, mLst_, mCall_, mNotT_, mAndT_, mOrT_, mIf_, mAndV_, mOrV_, mNotV_, kAndV_bl, kOrV_bl, kNotV_bl, mSl_, mPart_, kPart_, mNoPart_, sSeq_, sSet_, sRet_, sIf_, sExpr_, sNil_, sBreak_, sCont_, e_lt, e_ltD, e_le, e_gt, e_ge, e_eqI, e_neI, e_eqS, e_neS, e_add, e_sub, List.set_cons_zero, List.set_cons_succ, kTu0, kTu1, kTu2, kTu3, kTu4, kTu5, kLs0, kLs1, kLs2, kLs3, kLs4, kLs5, mM_, mM0_, sAsg_, sFor_, iRng_, iSeq_, fac0, fac1, mLc_, tm1, tm0, ksR, l1, cd, d1, d2, Bool.false_eq_true, if_false, l2, e_tuple last0, e_divW hd hds, e_neg]
      unfold shD shF
      rw [if_neg h0, if_neg h0, if_neg fun h => hq' h.1]
      rfl
end K26

namespace K26
open PySem PySem.Spec L2 Mi
/-! ### real and dark rows -/
def shC (c p q : Int) : Int := if gD p q = 0 then c else upZ c (gD p q)
theorem shF_le (c p q : Int) : shF "le" c p q = facD "le" (shC c p q) (p / gD p q) (q / gD p q) := by
  unfold shF shC
  by_cases h : gD p q = 0
  · obtain ⟨rfl, rfl⟩ := gD_zero h
    rw [if_pos h, if_pos h]; rfl
  · rw [if_neg h, if_neg h, if_neg (fun x => by cases x.1)]
theorem sh_nil (p q : Int) : cf (p / gD p q) (q / gD p q) = [] ↔ gD p q = 0 := by
  by_cases h : gD p q = 0
  · obtain ⟨rfl, rfl⟩ := gD_zero h
    exact ⟨fun _ => h, fun _ => rfl⟩
  · refine ⟨fun z => ?_, fun z => absurd z h⟩
    obtain ⟨⟨m, hm⟩, ⟨n, hn⟩⟩ := gD_dvd p q
    generalize hg : gD p q = g at *
    have em : p / (g : Int) = m := by rw [hm, Int.mul_ediv_cancel_left _ (by omega)]
    have en : q / (g : Int) = n := by rw [hn, Int.mul_ediv_cancel_left _ (by omega)]
    rw [em, en] at z
    unfold cf at z
    obtain ⟨z1, z2⟩ := List.append_eq_nil_iff.mp z
    have m0 : m = 0 := by
      apply Decidable.byContradiction; intro x; rw [if_neg x] at z1; cases z1
    have n0 : n = 0 := by
      apply Decidable.byContradiction; intro x; rw [if_neg x] at z2; cases z2
    subst m0 n0
    rw [Int.mul_zero] at hm hn
    subst hm hn
    exact absurd hg.symm (by unfold gD; simpa using h)
/-- what it is worth: alike above 0 -/
theorem sh_val (c p q x y : Int) : 0 < shC c p q + p / gD p q * x + q / gD p q * y ↔ 0 < c + p * x + q * y := by
  unfold shC
  by_cases h : gD p q = 0
  · obtain ⟨rfl, rfl⟩ := gD_zero h
    rw [if_pos h, Int.zero_ediv, ]
  · rw [if_neg h]
    obtain ⟨⟨m, hm⟩, ⟨n, hn⟩⟩ := gD_dvd p q
    generalize gD p q = g at *
    have em : p / (g : Int) = m := by rw [hm, Int.mul_ediv_cancel_left _ (by omega)]
    have en : q / (g : Int) = n := by rw [hn, Int.mul_ediv_cancel_left _ (by omega)]
    rw [em, en]
    have hu := upZ_le (n := c) (d := (g : Int)) (z := -(m * x + n * y)) (by omega)
    have e : (g : Int) * -(m * x + n * y) = -(p * x + q * y) := by
      rw [Int.mul_neg, Int.mul_add, hm, hn, Int.mul_assoc, Int.mul_assoc]
    rw [e] at hu
    omega
structure Pr (a lc lp lq b hc hp hq : Int) : Prop where
  a1 : 1 ≤ a
  b1 : 1 ≤ b
  sa : Sm a
  sb : Sm b
  l0 : Sm lc
  l1 : Sm lp
  l2 : Sm lq
  h0 : Sm hc
  h1 : Sm hp
  h2 : Sm hq
  r : Sm (b * lc + a * hc)
  d : Sm (b * lc + a * hc + (a - 1) * (b - 1))
  p : Sm (b * lp + a * hp)
  q : Sm (b * lq + a * hq)
theorem or_ts {s t : Int} (hs : s = 0 ∨ s = 1) (ht : t = 0 ∨ t = 1) : ∃ u : Int, (∀ S : Sto, fOr (.int s) (.int t) S = some (.int u, S)) ∧ decide (u = 3) = false :=
  ⟨Builtin.bitOr s t, fun _ => rfl, by rcases hs with rfl | rfl <;> rcases ht with rfl | rfl <;> decide +kernel⟩
theorem ts_tm {S : Sto} (c p q : Int) : ∃ s : Int, (∀ S : Sto, M_term_sort [tm c p q, .int 0] S = .ok (.int s) S) ∧ (s = 0 ∨ s = 1) :=
  ⟨_, fun S => term_sort (cf_good p q) (by have := cf_len p q; omega), by split <;> simp⟩
theorem check_pair {S : Sto} {a lc lp lq b hc hp hq : Int} (ha : 1 ≤ a) (hb : 1 ≤ b) : M_check_pair [.int a, tm lc lp lq, .int b, tm hc hp hq] S = .ok .non S := by
  obtain ⟨s, s1, s2⟩ := ts_tm (S := S) lc lp lq
  obtain ⟨t, t1, t2⟩ := ts_tm (S := S) hc hp hq
  obtain ⟨u, u1, u2⟩ := or_ts s2 t2
  have d1 : decide (a < 1) = false := decide_eq_false (by omega)
  have d2 : decide (b < 1) = false := decide_eq_false (by omega)
  have d3 : decide (s = 3) = false := decide_eq_false (by omega)
  have d4 : decide (t = 3) = false := decide_eq_false (by omega)
  unfold M_check_pair mFn B_check_pair
  simp only [List.length_cons, List.length_nil, Nat.reduceAdd, if_true, List.map_cons, List.map_nil, List.replicate, List.cons_append, List.nil_append, Nat.reduceSub, Nat.sub_self]
  simp only [bind_ok, bind_ex, of_some, rs_ok, rs_ex, then_nx, then_rt, then_ex, then_bk, then_ct, mV0, mVs, mC_, m2_, m1_, mB_, kB_bl, mB1_, mNil_, mCons_, f1L_, f2L_, mTup_, mLst_, mCall_, mNotT_, mAndT_, mOrT_, mIf_, mAndV_, mOrV_, mNotV_, kAndV_bl, kOrV_bl, kNotV_bl, mSl_, mPart_, kPart_, mNoPart_, sSeq_, sSet_, sRet_, sIf_, sExpr_, sNil_, sBreak_, sCont_, e_lt, e_ltD, e_le, e_gt, e_ge, e_eqI, e_neI, e_eqS, e_neS, e_add, e_sub, List.set_cons_zero, List.set_cons_succ, kTu0, kTu1, kTu2, kTu3, kTu4, kTu5, kLs0, kLs1, kLs2, kLs3, kLs4, kLs5, mM_, mM0_, sAsg_, sFor_, iRng_, iSeq_, whole_int, d1, d2, s1, t1, d3, d4, u1, u2, d_BAD, Bool.not_true, Bool.false_eq_true, if_false] <;> rfl
theorem pair_row {S : Sto} {a lc lp lq b hc hp hq more : Int} (h : Pr a lc lp lq b hc hp hq) (hm : Sm (more + b * lc + a * hc)) : ∃ X : Sto, M_pair_row [.int a, tm lc lp lq, .int b, tm hc hp hq, .int more] S = .ok (shF "le" (more + b * lc + a * hc) (b * lp + a * hp) (b * lq + a * hq)) (S ++ X) := by
  obtain ⟨X, h1⟩ := plus_times_tm (S := S) (c := more) (p := 0) (q := 0) h.sb h.l0 h.l1 h.l2
  obtain ⟨Y, h2⟩ := plus_times_tm (S := S ++ X) (c := more + b * lc) (p := 0 + b * lp) (q := 0 + b * lq) h.sa h.h0 h.h1 h.h2
  rw [Int.zero_add, Int.zero_add] at h1 h2
  obtain ⟨Z, h3⟩ := short_row (S := S ++ X ++ Y) hm h.p h.q (w := "le") (.inl rfl)
  have e0 : (.tup [.int more, .tup []] : D) = tm more 0 0 := rfl
  have e1 : (.tup [.str "le", tm (more + b * lc + a * hc) (b * lp + a * hp) (b * lq + a * hq)] : D) = facD "le" (more + b * lc + a * hc) (b * lp + a * hp) (b * lq + a * hq) := rfl
  refine ⟨X ++ (Y ++ Z), ?_⟩
  rw [← List.append_assoc, ← List.append_assoc]
  unfold M_pair_row mFn B_pair_row
  simp only [List.length_cons, List.length_nil, Nat.reduceAdd, if_true, List.map_cons, List.map_nil, List.replicate, List.cons_append, List.nil_append, Nat.reduceSub, Nat.sub_self]
  simp only [bind_ok, bind_ex, of_some, rs_ok, rs_ex, then_nx, then_rt, then_ex, then_bk, then_ct, mV0, mVs, mC_, m2_, m1_, mB_, kB_bl, mB1_, mNil_, mCons_, f1L_, f2L_, mTup_, mLst_, mCall_, mNotT_, mAndT_, mOrT_, mIf_, mAndV_, mOrV_, mNotV_, kAndV_bl, kOrV_bl, kNotV_bl, mSl_, mPart_, kPart_, mNoPart_, sSeq_, sSet_, sRet_, sIf_, sExpr_, sNil_, sBreak_, sCont_, e_lt, e_ltD, e_le, e_gt, e_ge, e_eqI, e_neI, e_eqS, e_neS, e_add, e_sub, List.set_cons_zero, List.set_cons_succ, kTu0, kTu1, kTu2, kTu3, kTu4, kTu5, kLs0, kLs1, kLs2, kLs3, kLs4, kLs5, mM_, mM0_, sAsg_, sFor_, iRng_, iSeq_, e0, h1, h2, e1, h3, sh0] <;> rfl
section
variable {S : Sto} {a lc lp lq b hc hp hq : Int} (h : Pr a lc lp lq b hc hp hq)
include h
theorem real_row : ∃ X : Sto, M_real_row [.int a, tm lc lp lq, .int b, tm hc hp hq] S = .ok (shF "le" (b * lc + a * hc) (b * lp + a * hp) (b * lq + a * hq)) (S ++ X) := by
  have hm : Sm (0 + b * lc + a * hc) := by rw [Int.zero_add]; exact h.r
  obtain ⟨X, h1⟩ := pair_row (S := S) h hm
  rw [Int.zero_add] at h1
  refine ⟨X, ?_⟩
  unfold M_real_row mFn B_real_row
  simp only [List.length_cons, List.length_nil, Nat.reduceAdd, if_true, List.map_cons, List.map_nil, List.replicate, List.cons_append, List.nil_append, Nat.reduceSub, Nat.sub_self]
  simp only [bind_ok, bind_ex, of_some, rs_ok, rs_ex, then_nx, then_rt, then_ex, then_bk, then_ct, mV0, mVs, mC_, m2_, m1_, mB_, kB_bl, mB1_, mNil_, mCons_, f1L_, f2L_, mTup_, mLst_, mCall_, mNotT_, mAndT_, mOrT_, mIf_, mAndV_, mOrV_, mNotV_, kAndV_bl, kOrV_bl, kNotV_bl, mSl_, mPart_, kPart_, mNoPart_, sSeq_, sSet_, sRet_, sIf_, sExpr_, sNil_, sBreak_, sCont_, e_lt, e_ltD, e_le, e_gt, e_ge, e_eqI, e_neI, e_eqS, e_neS, e_add, e_sub, List.set_cons_zero, List.set_cons_succ, kTu0, kTu1, kTu2, kTu3, kTu4, kTu5, kLs0, kLs1, kLs2, kLs3, kLs4, kLs5, mM_, mM0_, sAsg_, sFor_, iRng_, iSeq_, check_pair h.a1 h.b1, h1] <;> rfl
theorem dark_row : ∃ X : Sto, M_dark_row [.int a, tm lc lp lq, .int b, tm hc hp hq] S = .ok (shF "le" (b * lc + a * hc + (a - 1) * (b - 1)) (b * lp + a * hp) (b * lq + a * hq)) (S ++ X) := by
  have e : (a - 1) * (b - 1) + b * lc + a * hc = b * lc + a * hc + (a - 1) * (b - 1) := by omega
  have hm : Sm ((a - 1) * (b - 1) + b * lc + a * hc) := by rw [e]; exact h.d
  obtain ⟨X, h1⟩ := pair_row (S := S) h hm
  rw [e] at h1
  have a1 := h.a1
  have b1 := h.b1
  have sa : Sm (a - 1) := Nat.lt_of_le_of_lt (show (a - 1).natAbs ≤ a.natAbs by omega) h.sa
  have sb : Sm (b - 1) := Nat.lt_of_le_of_lt (show (b - 1).natAbs ≤ b.natAbs by omega) h.sb
  refine ⟨X, ?_⟩
  unfold M_dark_row mFn B_dark_row
  simp only [List.length_cons, List.length_nil, Nat.reduceAdd, if_true, List.map_cons, List.map_nil, List.replicate, List.cons_append, List.nil_append, Nat.reduceSub, Nat.sub_self]
  simp only [bind_ok, bind_ex, of_some, rs_ok, rs_ex, then_nx, then_rt, then_ex, then_bk, then_ct, mV0, mVs, mC_, m2_, m1_, mB_, kB_bl, mB1_, mNil_, mCons_, f1L_, f2L_, mTup_, mLst_, mCall_, mNotT_, mAndT_, mOrT_, mIf_, mAndV_, mOrV_, mNotV_, kAndV_bl, kOrV_bl, kNotV_bl, mSl_, mPart_, kPart_, mNoPart_, sSeq_, sSet_, sRet_, sIf_, sExpr_, sNil_, sBreak_, sCont_, e_lt, e_ltD, e_le, e_gt, e_ge, e_eqI, e_neI, e_eqS, e_neS, e_add, e_sub, List.set_cons_zero, List.set_cons_succ, kTu0, kTu1, kTu2, kTu3, kTu4, kTu5, kLs0, kLs1, kLs2, kLs3, kLs4, kLs5, mM_, mM0_, sAsg_, sFor_, iRng_, iSeq_, check_pair h.a1 h.b1, e_mulW sa sb, h1] <;> rfl
end
/-! facts compared -/
def facP (w : Str) (c p q : Int) : PyData := .tuple [.str w, tmP c (cf p q)]
def eqF (c p q c' p' q' : Int) : Bool := PyData.eqv (facP "le" c p q) (facP "le" c' p' q')
theorem toP_fac {S : Sto} (w : Str) (c p q : Int) : toP S 1000000 (facD w c p q) = some (facP w c p q) := by
  have e1 : ∀ n, 100 ≤ n → toP S n (tm c p q) = some (tmP c (cf p q)) := fun n hn => toP_tmC c (cf p q) n (by have := cf_len p q; omega)
  show toP S (999999 + 1) (.tup [.str w, tm c p q]) = _
  refine toP_tup ?_
  show toPs S (999998 + 1) [.str w, tm c p q] = _
  unfold toPs
  rw [show toPs S 999998 [tm c p q] = some [tmP c (cf p q)] from by
    show toPs S (999997 + 1) [tm c p q] = _
    unfold toPs
    rw [e1 999997 (by decide)]; rfl]
  rfl
theorem shp_fac {w : Str} (hw : PyData.strOk w = true) (c p q : Int) : Shp 9 (facP w c p q) := shp_tup fun p hp => by
  simp only [List.mem_cons, List.not_mem_nil, or_false] at hp
  rcases hp with rfl | rfl
  · exact shp_mono (shp_str hw) (by omega)
  · exact shp_tmC c _
theorem fac_eq {S : Sto} {c p q c' p' q' : Int} : fEq (facD "le" c p q) (facD "le" c' p' q') S = some (.bl (eqF c p q c' p' q'), S) :=
  (eq_tup (eqD_of (toP_fac ..) (toP_fac ..) (shp_ok (shp_fac (by decide +kernel) ..) (by omega)) (shp_ok (shp_fac (by decide +kernel) ..) (by omega)))).1
theorem alike_fac (w : Str) (c p q : Int) : PySem.W.alike (facP w c p q) (facP w c p q) = true := by
  unfold facP
  rw [alike_tup, alike_cons, alike_cons, alike_nil, alike_str, alike_tm]; rfl
theorem fac_ne {S : Sto} {w : Str} (hw : PyData.strOk w = true) {c p q : Int} : fNe (facD w c p q) (facD w c p q) S = some (.bl false, S) := by
  have := eqD_of (toP_fac (S := S) w c p q) (toP_fac w c p q) (shp_ok (shp_fac hw ..) (by omega)) (shp_ok (shp_fac hw ..) (by omega))
  rw [eqv_refl _ (alike_fac ..)] at this
  exact (eq_tup this).2
/-- exact or not -/
def exB (r d p q : Int) : Bool := if gD p q = 0 then decide (decide (shC r p q ≤ 0) = decide (shC d p q ≤ 0)) else eqF (shC r p q) (p / gD p q) (q / gD p q) (shC d p q) (p / gD p q) (q / gD p q)
theorem is_exact {S : Sto} {a lc lp lq b hc hp hq : Int} (h : Pr a lc lp lq b hc hp hq) : ∃ X : Sto, M_is_exact [.int a, tm lc lp lq, .int b, tm hc hp hq] S = .ok (.bl (exB (b * lc + a * hc) (b * lc + a * hc + (a - 1) * (b - 1)) (b * lp + a * hp) (b * lq + a * hq))) (S ++ X) := by
  obtain ⟨X, h1⟩ := real_row (S := S) h
  obtain ⟨Y, h2⟩ := dark_row (S := S ++ X) h
  rw [shF_le] at h1 h2
  have hn := sh_nil (b * lp + a * hp) (b * lq + a * hq)
  unfold exB
  generalize b * lc + a * hc + (a - 1) * (b - 1) = d at *
  generalize b * lc + a * hc = r at *
  generalize b * lp + a * hp = p at *
  generalize b * lq + a * hq = q at *
  refine ⟨X ++ Y, ?_⟩
  rw [← List.append_assoc]
  by_cases h0 : gD p q = 0
  · have d1 : decide (((cf (p / gD p q) (q / gD p q)).length : Int) = 0) = true := by rw [hn.mpr h0]; rfl
    rw [if_pos h0]
    unfold M_is_exact mFn B_is_exact
    simp only [List.length_cons, List.length_nil, Nat.reduceAdd, if_true, List.map_cons, List.map_nil, List.replicate, List.cons_append, List.nil_append, Nat.reduceSub, Nat.sub_self]
    simp only [bind_ok, bind_ex, of_some, rs_ok, rs_ex, then_nx, then_rt, then_ex, then_bk, then_ct, mV0, mVs, mC_, m2_, m1_, mB_, kB_bl, mB1_, mNil_, mCons_, f1L_, f2L_, mTup_, mLst_, mCall_, mNotT_, mAndT_, mOrT_, mIf_, mAndV_, mOrV_, mNotV_, kAndV_bl, kOrV_bl, kNotV_bl, mSl_, mPart_, kPart_, mNoPart_, sSeq_, sSet_, sRet_, sIf_, sExpr_, sNil_, sBreak_, sCont_, e_lt, e_ltD, e_le, e_gt, e_ge, e_eqI, e_neI, e_eqS, e_neS, e_add, e_sub, List.set_cons_zero, List.set_cons_succ, kTu0, kTu1, kTu2, kTu3, kTu4, kTu5, kLs0, kLs1, kLs2, kLs3, kLs4, kLs5, mM_, mM0_, sAsg_, sFor_, iRng_, iSeq_, h1, h2, fac1, tm1, tm0, len_rw, d1, if_true, e_eqB] <;> rfl
  · have d1 : decide (((cf (p / gD p q) (q / gD p q)).length : Int) = 0) = false := decide_eq_false fun z => h0 (hn.mp (List.length_eq_zero_iff.mp (by omega)))
    rw [if_neg h0]
    unfold M_is_exact mFn B_is_exact
    simp only [List.length_cons, List.length_nil, Nat.reduceAdd, if_true, List.map_cons, List.map_nil, List.replicate, List.cons_append, List.nil_append, Nat.reduceSub, Nat.sub_self]
    simp only [bind_ok, bind_ex, of_some, rs_ok, rs_ex, then_nx, then_rt, then_ex, then_bk, then_ct, mV0, mVs, mC_, m2_, m1_, mB_, kB_bl, mB1_, mNil_, mCons_, f1L_, f2L_, mTup_, mLst_, mCall_, mNotT_, mAndT_, mOrT_, mIf_, mAndV_, mOrV_, mNotV_, kAndV_bl, kOrV_bl, kNotV_bl, mSl_, mPart_, kPart_, mNoPart_, sSeq_, sSet_, sRet_, sIf_, sExpr_, sNil_, sBreak_, sCont_, e_lt, e_ltD, e_le, e_gt, e_ge, e_eqI, e_neI, e_eqS, e_neS, e_add, e_sub, List.set_cons_zero, List.set_cons_succ, kTu0, kTu1, kTu2, kTu3, kTu4, kTu5, kLs0, kLs1, kLs2, kLs3, kLs4, kLs5, mM_, mM0_, sAsg_, sFor_, iRng_, iSeq_, h1, h2, fac1, tm1, tm0, len_rw, d1, Bool.false_eq_true, if_false, fac_eq] <;> rfl
end K26

namespace K26
open PySem PySem.Spec L2 Mi
/-! ### the law's own sum -/
def addA : List Nat → Cf → List Nat
  | A, [] => A
  | A, z :: r => addA (if z.1 ∈ A then A else A ++ [z.1]) r
def srtA : List Nat → List Nat
  | [1, 0] => [0, 1]
  | l => l
def dueA (p q p' q' : Int) : List Nat := (if p = 0 ∧ p' = 0 then [] else [0]) ++ (if q = 0 ∧ q' = 0 then [] else [1])
inductive Five : List Nat → Prop
  | a : Five []
  | b : Five [0]
  | c : Five [1]
  | d : Five [0, 1]
  | e : Five [1, 0]
theorem addA_spec (p q p' q' : Int) : Five (addA ((cf p q).map (·.1)) (cf p' q')) ∧ srtA (addA ((cf p q).map (·.1)) (cf p' q')) = dueA p q p' q' := by
  unfold cf dueA
  by_cases h1 : p = 0 <;> by_cases h2 : q = 0 <;> by_cases h3 : p' = 0 <;> by_cases h4 : q' = 0 <;> simp only [h1, h2, h3, h4, if_true, if_false, List.nil_append, List.append_nil, List.cons_append, List.map_nil, List.map_cons, true_and, false_and, and_true, and_false, and_self] <;> first | exact ⟨.a, rfl⟩ | exact ⟨.b, rfl⟩ | exact ⟨.c, rfl⟩ | exact ⟨.d, rfl⟩ | exact ⟨.e, rfl⟩
theorem toPs_at {S : Sto} (A : List Nat) (hl : A.length ≤ 10) : toPs S 1000000 (A.map atm) = some (A.map pat) := toPs_map (m := 30) (fun i n h => toP_at i n h) A 1000000 (by omega)
theorem eqv_pat {i j : Nat} (hi : i < 2) (hj : j < 2) : PyData.eqv (pat i) (pat j) = decide (i = j) := by
  match i, j, hi, hj with
  | 0, 0, _, _ => decide +kernel
  | 0, 1, _, _ => decide +kernel
  | 1, 0, _, _ => decide +kernel
  | 1, 1, _, _ => decide +kernel
  | _ + 2, _, h, _ => omega
  | _, _ + 2, _, h => omega
theorem any_pat {a : Nat} (ha : a < 2) : ∀ A : List Nat, (∀ x ∈ A, x < 2) → ((A.map pat).any fun z => PyData.eqv z (pat a)) = decide (a ∈ A)
  | [], _ => by simp
  | x :: A, h => by
    rw [List.map_cons, List.any_cons, any_pat ha A fun y hy => h y (List.mem_cons_of_mem _ hy), eqv_pat (h x (List.mem_cons_self ..)) ha]
    by_cases h1 : x = a
    · subst h1; simp
    · have h2 : ¬ a = x := fun e => h1 e.symm
      simp [h1, h2]
theorem shp_lst {k : Nat} {ps : List PyData} (h : ∀ p ∈ ps, Shp k p) : Shp (k + 1) (.list ps) := by
  constructor
  · unfold PyData.canLay0; exact canAll fun p hp => (h p hp).1
  · unfold PyData.depth
    have := depAll fun p hp => (h p hp).2
    omega
theorem flat_at (a : Nat) : flatD (atm a) = false := by
  match a with
  | 0 => rfl
  | _ + 1 => rfl
theorem not_in {S : Sto} {j : Nat} {A : List Nat} {a : Nat} (hj : S[j]? = some (.lst (A.map atm))) (hA : ∀ x ∈ A, x < 2) (ha : a < 2) (hl : A.length ≤ 10) : fNotInD (atm a) (.obj j) S = some (.bl (!decide (a ∈ A)), S) := by
  have e0 : inB S (atm a) (.obj j) = none := by
    show (lstAt S j).bind (inFlat (atm a)) = none
    rw [lst_at hj]
    show inFlat (atm a) _ = none
    unfold inFlat
    rw [flat_at, if_neg (fun h => by cases h.1)]
  have e1 : inDeep S (atm a) (.obj j) = some (decide (a ∈ A)) := by
    unfold inDeep
    simp only [lst_at hj, toP_at a 1000000 (by decide), toPs_at A hl]
    rw [if_pos ⟨shp_ok (shp_at a) (by omega), shp_ok (shp_lst (k := 5) fun p hp => by
      obtain ⟨i, _, rfl⟩ := List.mem_map.mp hp
      exact shp_at i) (by omega)⟩, any_pat ha A hA]
  unfold fNotInD inB2
  rw [e0, e1]; rfl
theorem sort2 {α : Type} {le : α → α → Bool} {x y : α} : [x, y].mergeSort le = if le x y then [x, y] else [y, x] := by
  rw [List.mergeSort]
  simp [List.merge, List.MergeSort.Internal.splitInTwo]
theorem sorted_at {S : Sto} {j : Nat} {A : List Nat} (hj : S[j]? = some (.lst (A.map atm))) (h : Five A) : fSortedD (.obj j) S = some (.obj S.length, S ++ [.lst ((srtA A).map atm)]) := by
  have hl : A.length ≤ 2 := by cases h <;> decide
  have e1 : sortable (A.map pat) = true := by cases h <;> decide +kernel
  have e2 : sortD (A.map atm) (A.map pat) = (srtA A).map atm := by
    cases h with
    | a => simp [sortD, srtA]
    | b => simp [sortD, srtA]
    | c => simp [sortD, srtA]
    | d =>
      show ([(atX, paX), (atY, paY)].mergeSort (PySem.W.dataLe false Prod.snd)).map Prod.fst = [atX, atY]
      rw [sort2, show PySem.W.dataLe false Prod.snd (atX, paX) (atY, paY) = true from by decide +kernel]; rfl
    | e =>
      show ([(atY, paY), (atX, paX)].mergeSort (PySem.W.dataLe false Prod.snd)).map Prod.fst = [atX, atY]
      rw [sort2, show PySem.W.dataLe false Prod.snd (atY, paY) (atX, paX) = false from by decide +kernel]; rfl
  unfold fSortedD
  simp only [lst_at hj, toPs_at A (by omega)]
  rw [if_pos ⟨e1, by rw [sizeLine_eq, List.length_map]; omega⟩, e2]
/-! the loops -/
def LP1 : MS := (sIf (mB (m2 fNotInD (m2 fIx (mV 4) (mC (.int 0))) (mV 3)))
  (sExpr (mM "list" fAppend (mV 3) (mCons (m2 fIx (mV 4) (mC (.int 0))) mNil)))
  sNil)
theorem lp1 {S : Sto} {x0 x1 x2 x5 x6 x7 : Option D} {r : Cf} (hr : ∀ z ∈ r, z.1 < 2) : ∀ (suf pre : Cf) (A : List Nat) (x4 : Option D), r = pre ++ suf → (∀ x ∈ A, x < 2) → A.length + suf.length ≤ 10 → ∃ y4 : Option D,
    forI (itFix (r.map pairD)) (gN 4) LP1 suf.length pre.length [x0, x1, x2, some (.obj S.length), x4, x5, x6, x7] (S ++ [.lst (A.map atm)]) = .nx [x0, x1, x2, some (.obj S.length), y4, x5, x6, x7] (S ++ [.lst ((addA A suf).map atm)])
  | [], pre, A, x4, he, hA, hl => by
    refine ⟨x4, ?_⟩
    have : pre.length = (r.map pairD).length := by rw [he]; simp
    rw [this, fx_end]; rfl
  | z :: suf, pre, A, x4, he, hA, hl => by
    have hm : z ∈ r := by rw [he]; simp
    have hd : (r.map pairD)[pre.length]? = some (pairD z) := by rw [he]; simp
    have hz := hr z hm
    rw [List.length_cons] at hl
    have ni := not_in (S := S ++ [.lst (A.map atm)]) (j := S.length) (a := z.1) last0 hA hz (by omega)
    have ap : fAppend (.obj S.length) [atm z.1] (S ++ [.lst (A.map atm)]) = some (.non, S ++ [.lst ((A ++ [z.1]).map atm)]) := by
      rw [e_append last0 (by rw [sizeLine_eq, List.length_map]; omega), sa0, List.map_append]; rfl
    obtain ⟨y4, q⟩ := lp1 (S := S) (x0 := x0) (x1 := x1) (x2 := x2) (x5 := x5) (x6 := x6) (x7 := x7) hr suf (pre ++ [z]) (if z.1 ∈ A then A else A ++ [z.1]) (some (pairD z)) (by rw [he]; simp) (fun x hx => by
      split at hx
      · exact hA x hx
      · rcases List.mem_append.mp hx with hx | hx
        · exact hA x hx
        · rw [List.mem_singleton.mp hx]; exact hz) (by
      split
      · omega
      · rw [List.length_append, List.length_singleton]; omega)
    refine ⟨y4, ?_⟩
    have st : LP1 [x0, x1, x2, some (.obj S.length), some (pairD z), x5, x6, x7] (S ++ [.lst (A.map atm)]) = .nx [x0, x1, x2, some (.obj S.length), some (pairD z), x5, x6, x7] (S ++ [.lst ((if z.1 ∈ A then A else A ++ [z.1]).map atm)]) := by
      by_cases h : z.1 ∈ A
      · rw [decide_eq_true h] at ni
        rw [if_pos h]
        unfold LP1
        simp only [bind_ok, bind_ex, of_some, rs_ok, rs_ex, then_nx, then_rt, then_ex, then_bk, then_ct, mV0, mVs, mC_, m2_, m1_, mB_, kB_bl, mB1_, mNil_, mCons_, f1L_, f2L_, mTup_, mLst_, mCall_, mNotT_, mAndT_, mOrT_, mIf_, mAndV_, mOrV_, mNotV_, kAndV_bl, kOrV_bl, kNotV_bl, mSl_, mPart_, kPart_, mNoPart_, sSeq_, sSet_, sRet_, sIf_, sExpr_, sNil_, sBreak_, sCont_, e_lt, e_ltD, e_le, e_gt, e_ge, e_eqI, e_neI, e_eqS, e_neS, e_add, e_sub, List.set_cons_zero, List.set_cons_succ, kTu0, kTu1, kTu2, kTu3, kTu4, kTu5, kLs0, kLs1, kLs2, kLs3, kLs4, kLs5, mM_, mM0_, sAsg_, sFor_, iRng_, iSeq_, pr0, ni, Bool.not_true, Bool.false_eq_true, if_false]
      · rw [decide_eq_false h] at ni
        rw [if_neg h]
        unfold LP1
        simp only [bind_ok, bind_ex, of_some, rs_ok, rs_ex, then_nx, then_rt, then_ex, then_bk, then_ct, mV0, mVs, mC_, m2_, m1_, mB_, kB_bl, mB1_, mNil_, mCons_, f1L_, f2L_, mTup_, mLst_, mCall_, mNotT_, mAndT_, mOrT_, mIf_, mAndV_, mOrV_, mNotV_, kAndV_bl, kOrV_bl, kNotV_bl, mSl_, mPart_, kPart_, mNoPart_, sSeq_, sSet_, sRet_, sIf_, sExpr_, sNil_, sBreak_, sCont_, e_lt, e_ltD, e_le, e_gt, e_ge, e_eqI, e_neI, e_eqS, e_neS, e_add, e_sub, List.set_cons_zero, List.set_cons_succ, kTu0, kTu1, kTu2, kTu3, kTu4, kTu5, kLs0, kLs1, kLs2, kLs3, kLs4, kLs5, mM_, mM0_, sAsg_, sFor_, iRng_, iSeq_, pr0, ni, Bool.not_false, if_true, tyL last0, ap]
    rw [show (z :: suf).length = suf.length + 1 from rfl, fx_nx hd rfl st]
    rw [List.length_append, List.length_singleton] at q
    rw [q]; rfl
def LP2 : MS := (sIf (mB (m2 fEq (m2 fIx (mV 4) (mC (.int 0))) (mV 6)))
  (sSet 7 (m2 fAdd (mV 7) (m2 fIx (mV 4) (mC (.int 1)))))
  sNil)
def LP3 : MS := (sIf (mB (m2 fEq (m2 fIx (mV 4) (mC (.int 0))) (mV 6)))
  (sSet 7 (m2 fAdd (mV 7) (m2 fMulA (mV 2) (m2 fIx (mV 4) (mC (.int 1))))))
  sNil)
theorem lp2 {S : Sto} {x0 x1 x2 x3 x5 : Option D} {r : Cf} {a : Nat} (ha : a < 2) (hr : ∀ z ∈ r, z.1 < 2) : ∀ (suf pre : Cf) (t : Int) (x4 : Option D), r = pre ++ suf → ∃ y4 : Option D,
    forI (itFix (r.map pairD)) (gN 4) LP2 suf.length pre.length [x0, x1, x2, x3, x4, x5, some (atm a), some (.int t)] S = .nx [x0, x1, x2, x3, y4, x5, some (atm a), some (.int (t + co suf a))] S
  | [], pre, t, x4, he => by
    refine ⟨x4, ?_⟩
    have : pre.length = (r.map pairD).length := by rw [he]; simp
    rw [this, fx_end, show co [] a = 0 from rfl, Int.add_zero]
  | z :: suf, pre, t, x4, he => by
    have hm : z ∈ r := by rw [he]; simp
    have hd : (r.map pairD)[pre.length]? = some (pairD z) := by rw [he]; simp
    obtain ⟨y4, q⟩ := lp2 (S := S) (x0 := x0) (x1 := x1) (x2 := x2) (x3 := x3) (x5 := x5) ha hr suf (pre ++ [z]) (t + if z.1 = a then z.2 else 0) (some (pairD z)) (by rw [he]; simp)
    refine ⟨y4, ?_⟩
    have st : LP2 [x0, x1, x2, x3, some (pairD z), x5, some (atm a), some (.int t)] S = .nx [x0, x1, x2, x3, some (pairD z), x5, some (atm a), some (.int (t + if z.1 = a then z.2 else 0))] S := by
      by_cases h : z.1 = a
      · have d1 : decide (z.1 = a) = true := decide_eq_true h
        rw [if_pos h]
        unfold LP2
        simp only [bind_ok, bind_ex, of_some, rs_ok, rs_ex, then_nx, then_rt, then_ex, then_bk, then_ct, mV0, mVs, mC_, m2_, m1_, mB_, kB_bl, mB1_, mNil_, mCons_, f1L_, f2L_, mTup_, mLst_, mCall_, mNotT_, mAndT_, mOrT_, mIf_, mAndV_, mOrV_, mNotV_, kAndV_bl, kOrV_bl, kNotV_bl, mSl_, mPart_, kPart_, mNoPart_, sSeq_, sSet_, sRet_, sIf_, sExpr_, sNil_, sBreak_, sCont_, e_lt, e_ltD, e_le, e_gt, e_ge, e_eqI, e_neI, e_eqS, e_neS, e_add, e_sub, List.set_cons_zero, List.set_cons_succ, kTu0, kTu1, kTu2, kTu3, kTu4, kTu5, kLs0, kLs1, kLs2, kLs3, kLs4, kLs5, mM_, mM0_, sAsg_, sFor_, iRng_, iSeq_, pr0, pr1, at_eq z.1 a (hr z hm) ha, d1, if_true]
      · have d1 : decide (z.1 = a) = false := decide_eq_false h
        rw [if_neg h, Int.add_zero]
        unfold LP2
        simp only [bind_ok, bind_ex, of_some, rs_ok, rs_ex, then_nx, then_rt, then_ex, then_bk, then_ct, mV0, mVs, mC_, m2_, m1_, mB_, kB_bl, mB1_, mNil_, mCons_, f1L_, f2L_, mTup_, mLst_, mCall_, mNotT_, mAndT_, mOrT_, mIf_, mAndV_, mOrV_, mNotV_, kAndV_bl, kOrV_bl, kNotV_bl, mSl_, mPart_, kPart_, mNoPart_, sSeq_, sSet_, sRet_, sIf_, sExpr_, sNil_, sBreak_, sCont_, e_lt, e_ltD, e_le, e_gt, e_ge, e_eqI, e_neI, e_eqS, e_neS, e_add, e_sub, List.set_cons_zero, List.set_cons_succ, kTu0, kTu1, kTu2, kTu3, kTu4, kTu5, kLs0, kLs1, kLs2, kLs3, kLs4, kLs5, mM_, mM0_, sAsg_, sFor_, iRng_, iSeq_, pr0, pr1, at_eq z.1 a (hr z hm) ha, d1, Bool.false_eq_true, if_false]
    rw [show (z :: suf).length = suf.length + 1 from rfl, fx_nx hd rfl st]
    rw [List.length_append, List.length_singleton] at q
    rw [q, Int.add_assoc]; rfl
theorem lp3 {S : Sto} {x0 x1 x3 x5 : Option D} {r : Cf} {a : Nat} {k : Int} (hk : Sm k) (hs : ∀ z ∈ r, Sm z.2) (ha : a < 2) (hr : ∀ z ∈ r, z.1 < 2) : ∀ (suf pre : Cf) (t : Int) (x4 : Option D), r = pre ++ suf → ∃ y4 : Option D,
    forI (itFix (r.map pairD)) (gN 4) LP3 suf.length pre.length [x0, x1, some (.int k), x3, x4, x5, some (atm a), some (.int t)] S = .nx [x0, x1, some (.int k), x3, y4, x5, some (atm a), some (.int (t + k * co suf a))] S
  | [], pre, t, x4, he => by
    refine ⟨x4, ?_⟩
    have : pre.length = (r.map pairD).length := by rw [he]; simp
    rw [this, fx_end, show co [] a = 0 from rfl, Int.mul_zero, Int.add_zero]
  | z :: suf, pre, t, x4, he => by
    have hm : z ∈ r := by rw [he]; simp
    have hd : (r.map pairD)[pre.length]? = some (pairD z) := by rw [he]; simp
    obtain ⟨y4, q⟩ := lp3 (S := S) (x0 := x0) (x1 := x1) (x3 := x3) (x5 := x5) hk hs ha hr suf (pre ++ [z]) (t + k * if z.1 = a then z.2 else 0) (some (pairD z)) (by rw [he]; simp)
    refine ⟨y4, ?_⟩
    have st : LP3 [x0, x1, some (.int k), x3, some (pairD z), x5, some (atm a), some (.int t)] S = .nx [x0, x1, some (.int k), x3, some (pairD z), x5, some (atm a), some (.int (t + k * if z.1 = a then z.2 else 0))] S := by
      by_cases h : z.1 = a
      · have d1 : decide (z.1 = a) = true := decide_eq_true h
        rw [if_pos h]
        unfold LP3
        simp only [bind_ok, bind_ex, of_some, rs_ok, rs_ex, then_nx, then_rt, then_ex, then_bk, then_ct, mV0, mVs, mC_, m2_, m1_, mB_, kB_bl, mB1_, mNil_, mCons_, f1L_, f2L_, mTup_, mLst_, mCall_, mNotT_, mAndT_, mOrT_, mIf_, mAndV_, mOrV_, mNotV_, kAndV_bl, kOrV_bl, kNotV_bl, mSl_, mPart_, kPart_, mNoPart_, sSeq_, sSet_, sRet_, sIf_, sExpr_, sNil_, sBreak_, sCont_, e_lt, e_ltD, e_le, e_gt, e_ge, e_eqI, e_neI, e_eqS, e_neS, e_add, e_sub, List.set_cons_zero, List.set_cons_succ, kTu0, kTu1, kTu2, kTu3, kTu4, kTu5, kLs0, kLs1, kLs2, kLs3, kLs4, kLs5, mM_, mM0_, sAsg_, sFor_, iRng_, iSeq_, pr0, pr1, at_eq z.1 a (hr z hm) ha, d1, if_true, e_mulW hk (hs z hm)]
      · have d1 : decide (z.1 = a) = false := decide_eq_false h
        rw [if_neg h, Int.mul_zero, Int.add_zero]
        unfold LP3
        simp only [bind_ok, bind_ex, of_some, rs_ok, rs_ex, then_nx, then_rt, then_ex, then_bk, then_ct, mV0, mVs, mC_, m2_, m1_, mB_, kB_bl, mB1_, mNil_, mCons_, f1L_, f2L_, mTup_, mLst_, mCall_, mNotT_, mAndT_, mOrT_, mIf_, mAndV_, mOrV_, mNotV_, kAndV_bl, kOrV_bl, kNotV_bl, mSl_, mPart_, kPart_, mNoPart_, sSeq_, sSet_, sRet_, sIf_, sExpr_, sNil_, sBreak_, sCont_, e_lt, e_ltD, e_le, e_gt, e_ge, e_eqI, e_neI, e_eqS, e_neS, e_add, e_sub, List.set_cons_zero, List.set_cons_succ, kTu0, kTu1, kTu2, kTu3, kTu4, kTu5, kLs0, kLs1, kLs2, kLs3, kLs4, kLs5, mM_, mM0_, sAsg_, sFor_, iRng_, iSeq_, pr0, pr1, at_eq z.1 a (hr z hm) ha, d1, Bool.false_eq_true, if_false]
    rw [show (z :: suf).length = suf.length + 1 from rfl, fx_nx hd rfl st]
    rw [List.length_append, List.length_singleton] at q
    rw [q, Int.add_assoc, ← Int.mul_add]; rfl
end K26

namespace K26
open PySem PySem.Spec L2 Mi
def rowsF (t : Nat → Int) : Cf → List Nat → Cf
  | R, [] => R
  | R, a :: B => rowsF t (R ++ if t a = 0 then [] else [(a, t a)]) B
theorem rowsF_due {p q p' q' k : Int} {t : Nat → Int} (h0 : t 0 = p + k * p') (h1 : t 1 = q + k * q') : rowsF t [] (dueA p q p' q') = cf (p + k * p') (q + k * q') := by
  unfold dueA cf
  by_cases a : p = 0 ∧ p' = 0
  · obtain ⟨rfl, rfl⟩ := a
    by_cases b : q = 0 ∧ q' = 0
    · obtain ⟨rfl, rfl⟩ := b
      simp [rowsF]
    · rw [if_neg b]
      simp [rowsF, h1]
  · rw [if_neg a]
    by_cases b : q = 0 ∧ q' = 0
    · obtain ⟨rfl, rfl⟩ := b
      simp [rowsF, h0]
    · rw [if_neg b]
      simp [rowsF, h0, h1]
def LP4 : MS := (sIf (mB (m2 fNe (mV 7) (mC (.int 0))))
  (sExpr (mM "list" fAppend (mV 5) (mCons (mTup (mCons (mV 6) (mCons (mV 7) mNil))) mNil)))
  sNil)
def LPO : MS := (sSeq (sSet 7 (mC (.int 0)))
  (sSeq (sFor (iSeq (m2 fIx (mV 0) (mC (.int 1)))) (gN 4) LP2)
  (sSeq (sFor (iSeq (m2 fIx (mV 1) (mC (.int 1)))) (gN 4) LP3) LP4)))
theorem at1 {S : Sto} {x y z : MO} : (S ++ [x, y, z])[S.length + 1]? = some y := by simp
theorem at2 {S : Sto} {x y z : MO} : (S ++ [x, y, z])[S.length + 2]? = some z := by simp
theorem set1 {S : Sto} {x y z w : MO} : (S ++ [x, y, z]).set (S.length + 1) w = S ++ [x, w, z] := by simp
section
variable {S : Sto} {c p q c' p' q' k : Int} (hk : Sm k) (hp : Sm p') (hq : Sm q')
include hk hp hq
theorem lpo {a : Nat} (ha : a < 2) {oA oB : MO} {R : Cf} {x3 x4 x7 : Option D} (hl : R.length ≤ 10) : ∃ y4 y7 : Option D,
    LPO [some (tm c p q), some (tm c' p' q'), some (.int k), x3, x4, some (.obj (S.length + 1)), some (atm a), x7] (S ++ [oA, .lst (R.map pairD), oB]) =
      .nx [some (tm c p q), some (tm c' p' q'), some (.int k), x3, y4, some (.obj (S.length + 1)), some (atm a), y7] (S ++ [oA, .lst ((R ++ if co (cf p q) a + k * co (cf p' q') a = 0 then [] else [(a, co (cf p q) a + k * co (cf p' q') a)]).map pairD), oB]) := by
  obtain ⟨y4, q2⟩ := lp2 (S := S ++ [oA, .lst (R.map pairD), oB]) (x0 := some (tm c p q)) (x1 := some (tm c' p' q')) (x2 := some (.int k)) (x3 := x3) (x5 := some (.obj (S.length + 1))) ha (fun z hz => ((cf_good p q).nz z hz).2) (cf p q) [] 0 x4 rfl
  obtain ⟨z4, q3⟩ := lp3 (S := S ++ [oA, .lst (R.map pairD), oB]) (x0 := some (tm c p q)) (x1 := some (tm c' p' q')) (x3 := x3) (x5 := some (.obj (S.length + 1))) hk (cf_sm hp hq) ha (fun z hz => ((cf_good p' q').nz z hz).2) (cf p' q') [] (0 + co (cf p q) a) y4 rfl
  rw [Int.zero_add] at q2 q3
  rw [show ([] : Cf).length = 0 from rfl] at q2 q3
  have e1 : (itFix ((cf p q).map pairD)).n = (cf p q).length := by show ((cf p q).map pairD).length = _; rw [List.length_map]
  have e2 : (itFix ((cf p' q').map pairD)).n = (cf p' q').length := by show ((cf p' q').map pairD).length = _; rw [List.length_map]
  generalize co (cf p q) a + k * co (cf p' q') a = t at *
  have st4 : LP4 [some (tm c p q), some (tm c' p' q'), some (.int k), x3, z4, some (.obj (S.length + 1)), some (atm a), some (.int t)] (S ++ [oA, .lst (R.map pairD), oB]) =
      .nx [some (tm c p q), some (tm c' p' q'), some (.int k), x3, z4, some (.obj (S.length + 1)), some (atm a), some (.int t)] (S ++ [oA, .lst ((R ++ if t = 0 then [] else [(a, t)]).map pairD), oB]) := by
    by_cases h : t = 0
    · have d1 : decide (t = 0) = true := decide_eq_true h
      rw [if_pos h, List.append_nil]
      unfold LP4
      simp only [bind_ok, bind_ex, of_some, rs_ok, rs_ex, then_nx, then_rt, then_ex, then_bk, then_ct, mV0, mVs, mC_, m2_, m1_, mB_, kB_bl, mB1_, mNil_, mCons_, f1L_, f2L_, mTup_, mLst_, mCall_, mNotT_, mAndT_, mOrT_, mIf_, mAndV_, mOrV_, mNotV_, kAndV_bl, kOrV_bl, kNotV_bl, mSl_, mPart_, kPart_, mNoPart_, sSeq_, sSet_, sRet_, sIf_, sExpr_, sNil_, sBreak_, sCont_, e_lt, e_ltD, e_le, e_gt, e_ge, e_eqI, e_neI, e_eqS, e_neS, e_add, e_sub, List.set_cons_zero, List.set_cons_succ, kTu0, kTu1, kTu2, kTu3, kTu4, kTu5, kLs0, kLs1, kLs2, kLs3, kLs4, kLs5, mM_, mM0_, sAsg_, sFor_, iRng_, iSeq_, d1, Bool.not_true, Bool.false_eq_true, if_false]
    · have d1 : decide (t = 0) = false := decide_eq_false h
      have ap : fAppend (.obj (S.length + 1)) [.tup [atm a, .int t]] (S ++ [oA, .lst (R.map pairD), oB]) = some (.non, S ++ [oA, .lst ((R ++ [(a, t)]).map pairD), oB]) := by
        rw [e_append at1 (by rw [sizeLine_eq, List.length_map]; omega), set1, List.map_append]; rfl
      rw [if_neg h]
      unfold LP4
      simp only [bind_ok, bind_ex, of_some, rs_ok, rs_ex, then_nx, then_rt, then_ex, then_bk, then_ct, mV0, mVs, mC_, m2_, m1_, mB_, kB_bl, mB1_, mNil_, mCons_, f1L_, f2L_, mTup_, mLst_, mCall_, mNotT_, mAndT_, mOrT_, mIf_, mAndV_, mOrV_, mNotV_, kAndV_bl, kOrV_bl, kNotV_bl, mSl_, mPart_, kPart_, mNoPart_, sSeq_, sSet_, sRet_, sIf_, sExpr_, sNil_, sBreak_, sCont_, e_lt, e_ltD, e_le, e_gt, e_ge, e_eqI, e_neI, e_eqS, e_neS, e_add, e_sub, List.set_cons_zero, List.set_cons_succ, kTu0, kTu1, kTu2, kTu3, kTu4, kTu5, kLs0, kLs1, kLs2, kLs3, kLs4, kLs5, mM_, mM0_, sAsg_, sFor_, iRng_, iSeq_, d1, Bool.not_false, if_true, tyL at1, ap]
  refine ⟨z4, some (.int t), ?_⟩
  unfold LPO
  simp only [bind_ok, bind_ex, of_some, rs_ok, rs_ex, then_nx, then_rt, then_ex, then_bk, then_ct, mV0, mVs, mC_, m2_, m1_, mB_, kB_bl, mB1_, mNil_, mCons_, f1L_, f2L_, mTup_, mLst_, mCall_, mNotT_, mAndT_, mOrT_, mIf_, mAndV_, mOrV_, mNotV_, kAndV_bl, kOrV_bl, kNotV_bl, mSl_, mPart_, kPart_, mNoPart_, sSeq_, sSet_, sRet_, sIf_, sExpr_, sNil_, sBreak_, sCont_, e_lt, e_ltD, e_le, e_gt, e_ge, e_eqI, e_neI, e_eqS, e_neS, e_add, e_sub, List.set_cons_zero, List.set_cons_succ, kTu0, kTu1, kTu2, kTu3, kTu4, kTu5, kLs0, kLs1, kLs2, kLs3, kLs4, kLs5, mM_, mM0_, sAsg_, sFor_, iRng_, iSeq_, tm1, ksR, e1, e2, q2, q3, st4]
theorem lpo_loop {oA : MO} {B : List Nat} {t : Nat → Int} (ht : t = fun a => co (cf p q) a + k * co (cf p' q') a) : ∀ (suf pre : List Nat) (R : Cf) (x3 x4 x6 x7 : Option D), B = pre ++ suf → (∀ a ∈ B, a < 2) → R.length + suf.length ≤ 10 → ∃ y4 y6 y7 : Option D,
    forI (itLst B.length (S.length + 2)) (gN 6) LPO suf.length pre.length [some (tm c p q), some (tm c' p' q'), some (.int k), x3, x4, some (.obj (S.length + 1)), x6, x7] (S ++ [oA, .lst (R.map pairD), .lst (B.map atm)]) =
      .nx [some (tm c p q), some (tm c' p' q'), some (.int k), x3, y4, some (.obj (S.length + 1)), y6, y7] (S ++ [oA, .lst ((rowsF t R suf).map pairD), .lst (B.map atm)])
  | [], pre, R, x3, x4, x6, x7, he, hB, hl => by
    refine ⟨x4, x6, x7, ?_⟩
    have : pre.length = (B.map atm).length := by rw [he]; simp
    rw [this, fl_end at2]; rfl
  | a :: suf, pre, R, x3, x4, x6, x7, he, hB, hl => by
    have hd : (B.map atm)[pre.length]? = some (atm a) := by rw [he]; simp
    rw [List.length_cons] at hl
    obtain ⟨u4, u7, st⟩ := lpo (S := S) (c := c) (p := p) (q := q) (c' := c') hk hp hq (hB a (by rw [he]; simp)) (oA := oA) (oB := .lst (B.map atm)) (R := R) (x3 := x3) (x4 := x4) (x7 := x7) (by omega)
    obtain ⟨y4, y6, y7, r⟩ := lpo_loop (oA := oA) (B := B) ht suf (pre ++ [a]) (R ++ if t a = 0 then [] else [(a, t a)]) x3 u4 (some (atm a)) u7 (by rw [he]; simp) hB (by
      rw [List.length_append]
      split
      · simp; omega
      · simp; omega)
    refine ⟨y4, y6, y7, ?_⟩
    rw [show (a :: suf).length = suf.length + 1 from rfl, fl_nx at2 hd rfl st]
    rw [List.length_append, List.length_singleton] at r
    subst ht
    rw [r]; rfl
theorem law_plus (hc : Sm c') : ∃ X : Sto, M__law_plus [tm c p q, tm c' p' q', .int k] S = .ok (tm (c + k * c') (p + k * p') (q + k * q')) (S ++ X) := by
  obtain ⟨hf, hs⟩ := addA_spec p q p' q'
  have l1 : kLc (gN 4) tAll (m2 fIx (mV 4) (mC (.int 0))) [4] [some (tm c p q), some (tm c' p' q'), some (.int k), none, none, none, none, none] (itFix ((cf p q).map pairD)) S = .ok (.obj S.length) (S ++ [.lst (((cf p q).map (·.1)).map atm)]) := by
    have := lcG (S := S) (g := gN 4) (e := m2 fIx (mV 4) (mC (.int 0))) (vs := [4]) (env := [some (tm c p q), some (tm c' p' q'), some (.int k), none, none, none, none, none]) (ds := (cf p q).map pairD) (f := fun d => match d with | .tup [x, .int n] => x | d => d) (fun acc d hd => by
      obtain ⟨z, hz, rfl⟩ := List.mem_map.mp hd
      exact ⟨[some (tm c p q), some (tm c' p' q'), some (.int k), none, some (pairD z), none, none, none], rfl, by simp only [bind_ok, bind_ex, of_some, rs_ok, rs_ex, then_nx, then_rt, then_ex, then_bk, then_ct, mV0, mVs, mC_, m2_, m1_, mB_, kB_bl, mB1_, mNil_, mCons_, f1L_, f2L_, mTup_, mLst_, mCall_, mNotT_, mAndT_, mOrT_, mIf_, mAndV_, mOrV_, mNotV_, kAndV_bl, kOrV_bl, kNotV_bl, mSl_, mPart_, kPart_, mNoPart_, sSeq_, sSet_, sRet_, sIf_, sExpr_, sNil_, sBreak_, sCont_, e_lt, e_ltD, e_le, e_gt, e_ge, e_eqI, e_neI, e_eqS, e_neS, e_add, e_sub, List.set_cons_zero, List.set_cons_succ, kTu0, kTu1, kTu2, kTu3, kTu4, kTu5, kLs0, kLs1, kLs2, kLs3, kLs4, kLs5, mM_, mM0_, sAsg_, sFor_, iRng_, iSeq_, pr0] <;> rfl⟩) (by rw [sizeLine_eq, List.length_map]; have := cf_len p q; omega)
    rw [this, List.map_map, List.map_map]; rfl
  generalize hA0 : (cf p q).map (·.1) = A0 at *
  have hA0l : A0.length ≤ 2 := by rw [← hA0, List.length_map]; exact cf_len p q
  obtain ⟨y4, q1⟩ := lp1 (S := S) (x0 := some (tm c p q)) (x1 := some (tm c' p' q')) (x2 := some (.int k)) (x5 := none) (x6 := none) (x7 := none) (r := cf p' q') (fun z hz => ((cf_good p' q').nz z hz).2) (cf p' q') [] A0 none rfl (fun x hx => by
    rw [← hA0] at hx
    obtain ⟨z, hz, rfl⟩ := List.mem_map.mp hx
    exact ((cf_good p q).nz z hz).2) (by have := cf_len p' q'; omega)
  generalize addA A0 (cf p' q') = A at *
  have app1 : ∀ {x y : MO}, S ++ [x] ++ [y] = S ++ [x, y] := by intros; simp
  have app2 : ∀ {x y z : MO}, S ++ [x, y] ++ [z] = S ++ [x, y, z] := by intros; simp
  have len1 : ∀ {x : MO}, (S ++ [x]).length = S.length + 1 := by intros; simp
  have len2 : ∀ {x y : MO}, (S ++ [x, y]).length = S.length + 2 := by intros; simp
  have so := sorted_at (S := S ++ [.lst (A.map atm), .lst []]) (j := S.length) (A := A) ga0 hf
  rw [hs, app2, len2] at so
  have hB : ∀ a ∈ dueA p q p' q', a < 2 := fun a h => by
    unfold dueA at h
    rcases List.mem_append.mp h with h | h
    · split at h
      · cases h
      · rw [List.mem_singleton.mp h]; decide
    · split at h
      · cases h
      · rw [List.mem_singleton.mp h]; decide
  have hBl : (dueA p q p' q').length ≤ 2 := by unfold dueA; split <;> split <;> simp
  obtain ⟨z4, z6, z7, q2⟩ := lpo_loop (S := S) (c := c) (p := p) (q := q) (c' := c') hk hp hq (oA := .lst (A.map atm)) (B := dueA p q p' q') rfl (dueA p q p' q') [] [] (some (.obj S.length)) y4 none none rfl hB (by simp; omega)
  rw [rowsF_due (p := p) (q := q) (p' := p') (q' := q') (k := k) (by show co (cf p q) 0 + k * co (cf p' q') 0 = _; rw [(co_cf p q).1, (co_cf p' q').1]) (by show co (cf p q) 1 + k * co (cf p' q') 1 = _; rw [(co_cf p q).2, (co_cf p' q').2])] at q2
  rw [show ([] : List Nat).length = 0 from rfl] at q2
  rw [show ([] : Cf).length = 0 from rfl] at q1
  have e2 : (itFix ((cf p' q').map pairD)).n = (cf p' q').length := by show ((cf p' q').map pairD).length = _; rw [List.length_map]
  have ks3 := kSeqL (S := S ++ [.lst (A.map atm), .lst [], .lst ((dueA p q p' q').map atm)]) (j := S.length + 2) at2
  rw [List.length_map] at ks3
  have e3 : (itLst (dueA p q p' q').length (S.length + 2)).n = (dueA p q p' q').length := rfl
  have tu := e_tuple (S := S ++ [.lst (A.map atm), .lst ((cf (p + k * p') (q + k * q')).map pairD), .lst ((dueA p q p' q').map atm)]) (j := S.length + 1) (r := cf (p + k * p') (q + k * q')) at1
  refine ⟨[.lst (A.map atm), .lst ((cf (p + k * p') (q + k * q')).map pairD), .lst ((dueA p q p' q').map atm)], ?_⟩
  unfold LPO LP2 LP3 LP4 at q2
  unfold LP1 at q1
  unfold M__law_plus mFn B__law_plus
  simp only [List.length_cons, List.length_nil, Nat.reduceAdd, if_true, List.map_cons, List.map_nil, List.replicate, List.cons_append, List.nil_append, Nat.reduceSub, Nat.sub_self]
  simp only [bind_ok, bind_ex, of_some, rs_ok, rs_ex, then_nx, then_rt, then_ex, then_bk, then_ct, mV0, mVs, mC_, m2_, m1_, mB_, kB_bl, mB1_, mNil_, mCons_, f1L_, f2L_, mTup_, mLst_, mCall_, mNotT_, mAndT_, mOrT_, mIf_, mAndV_, mOrV_, mNotV_, kAndV_bl, kOrV_bl, kNotV_bl, mSl_, mPart_, kPart_, mNoPart_, sSeq_, sSet_, sRet_, sIf_, sExpr_, sNil_, sBreak_, sCont_, e_lt, e_ltD, e_le, e_gt, e_ge, e_eqI, e_neI, e_eqS, e_neS, e_add, e_sub, List.set_cons_zero, List.set_cons_succ, kTu0, kTu1, kTu2, kTu3, kTu4, kTu5, kLs0, kLs1, kLs2, kLs3, kLs4, kLs5, mM_, mM0_, sAsg_, sFor_, iRng_, iSeq_, mLc_, tm1, tm0, ksR, l1, e2, q1, app1, len1, so, ks3, e3]
  rw [show ([] : List D) = ([] : Cf).map pairD from rfl]
  simp only [bind_ok, bind_ex, of_some, rs_ok, rs_ex, then_nx, then_rt, then_ex, then_bk, then_ct, mV0, mVs, mC_, m2_, m1_, mB_, kB_bl, mB1_, mNil_, mCons_, f1L_, f2L_, mTup_, mLst_, mCall_, mNotT_, mAndT_, mOrT_, mIf_, mAndV_, mOrV_, mNotV_, kAndV_bl, kOrV_bl, kNotV_bl, mSl_, mPart_, kPart_, mNoPart_, sSeq_, sSet_, sRet_, sIf_, sExpr_, sNil_, sBreak_, sCont_, e_lt, e_ltD, e_le, e_gt, e_ge, e_eqI, e_neI, e_eqS, e_neS, e_add, e_sub, List.set_cons_zero, List.set_cons_succ, kTu0, kTu1, kTu2, kTu3, kTu4, kTu5, kLs0, kLs1, kLs2, kLs3, kLs4, kLs5, mM_, mM0_, sAsg_, sFor_, iRng_, iSeq_, q2, tu, tm0, e_mulW hk hc] <;> rfl
end
end K26

namespace K26
open PySem PySem.Spec L2 Mi
/-! ### the law's terms and values -/
theorem law_atom {S : Sto} : M__law_atom [atX] S = .ok (tm 0 1 0) S ∧ M__law_atom [atY] S = .ok (tm 0 0 1) S := by
  constructor <;> (unfold M__law_atom mFn B__law_atom; simp only [List.length_cons, List.length_nil, Nat.reduceAdd, if_true, List.map_cons, List.map_nil, List.replicate, List.cons_append, List.nil_append, Nat.reduceSub, Nat.sub_self]; simp only [bind_ok, bind_ex, of_some, rs_ok, rs_ex, then_nx, then_rt, then_ex, then_bk, then_ct, mV0, mVs, mC_, m2_, m1_, mB_, kB_bl, mB1_, mNil_, mCons_, f1L_, f2L_, mTup_, mLst_, mCall_, mNotT_, mAndT_, mOrT_, mIf_, mAndV_, mOrV_, mNotV_, kAndV_bl, kOrV_bl, kNotV_bl, mSl_, mPart_, kPart_, mNoPart_, sSeq_, sSet_, sRet_, sIf_, sExpr_, sNil_, sBreak_, sCont_, e_lt, e_ltD, e_le, e_gt, e_ge, e_eqI, e_neI, e_eqS, e_neS, e_add, e_sub, List.set_cons_zero, List.set_cons_succ, kTu0, kTu1, kTu2, kTu3, kTu4, kTu5, kLs0, kLs1, kLs2, kLs3, kLs4, kLs5, mM_, mM0_, sAsg_, sFor_, iRng_, iSeq_] <;> rfl)
def LSB : MS := (sSet 2 (mCall M__law_plus (mCons (mV 2) (mCons (mCall M__law_atom (mCons (m2 fIx (mV 3) (mC (.int 1))) mNil)) (mCons (m2 fIx (mV 3) (mC (.int 0))) mNil)))))
theorem sm1 : Sm 1 := by decide
theorem sm0 : Sm 0 := by decide
theorem law_sum {S : Sto} {j j0 j1 : Nat} {n u v : Int} (hj : S[j]? = some (.lst [.obj j0, .obj j1])) (h0 : S[j0]? = some (.lst [.int u, atX])) (h1 : S[j1]? = some (.lst [.int v, atY])) (hu : Sm u) (hv : Sm v) : ∃ X : Sto, M__law_sum [.int n, .obj j] S = .ok (tm n u v) (S ++ X) := by
  obtain ⟨X, p1⟩ := law_plus (S := S) (c := n) (p := 0) (q := 0) (c' := 0) (p' := 1) (q' := 0) hu sm1 sm0 sm0
  obtain ⟨Y, p2⟩ := law_plus (S := S ++ X) (c := n) (p := u) (q := 0) (c' := 0) (p' := 0) (q' := 1) hv sm0 sm1 sm0
  rw [show n + u * 0 = n by omega, show 0 + u * 1 = u by omega, show 0 + u * 0 = 0 by omega] at p1
  rw [show n + v * 0 = n by omega, show u + v * 0 = u by omega, show 0 + v * 1 = v by omega] at p2
  have ks := kSeqL hj
  have en : (itLst 2 j).n = 2 := rfl
  have s1 : LSB [some (.int n), some (.obj j), some (tm n 0 0), some (.obj j0)] S = .nx [some (.int n), some (.obj j), some (tm n u 0), some (.obj j0)] (S ++ X) := by
    unfold LSB
    simp only [bind_ok, bind_ex, of_some, rs_ok, rs_ex, then_nx, then_rt, then_ex, then_bk, then_ct, mV0, mVs, mC_, m2_, m1_, mB_, kB_bl, mB1_, mNil_, mCons_, f1L_, f2L_, mTup_, mLst_, mCall_, mNotT_, mAndT_, mOrT_, mIf_, mAndV_, mOrV_, mNotV_, kAndV_bl, kOrV_bl, kNotV_bl, mSl_, mPart_, kPart_, mNoPart_, sSeq_, sSet_, sRet_, sIf_, sExpr_, sNil_, sBreak_, sCont_, e_lt, e_ltD, e_le, e_gt, e_ge, e_eqI, e_neI, e_eqS, e_neS, e_add, e_sub, List.set_cons_zero, List.set_cons_succ, kTu0, kTu1, kTu2, kTu3, kTu4, kTu5, kLs0, kLs1, kLs2, kLs3, kLs4, kLs5, mM_, mM0_, sAsg_, sFor_, iRng_, iSeq_, e_ix0 h0, e_ix1 h0, law_atom.1, p1]
  have s2 : LSB [some (.int n), some (.obj j), some (tm n u 0), some (.obj j1)] (S ++ X) = .nx [some (.int n), some (.obj j), some (tm n u v), some (.obj j1)] (S ++ X ++ Y) := by
    unfold LSB
    simp only [bind_ok, bind_ex, of_some, rs_ok, rs_ex, then_nx, then_rt, then_ex, then_bk, then_ct, mV0, mVs, mC_, m2_, m1_, mB_, kB_bl, mB1_, mNil_, mCons_, f1L_, f2L_, mTup_, mLst_, mCall_, mNotT_, mAndT_, mOrT_, mIf_, mAndV_, mOrV_, mNotV_, kAndV_bl, kOrV_bl, kNotV_bl, mSl_, mPart_, kPart_, mNoPart_, sSeq_, sSet_, sRet_, sIf_, sExpr_, sNil_, sBreak_, sCont_, e_lt, e_ltD, e_le, e_gt, e_ge, e_eqI, e_neI, e_eqS, e_neS, e_add, e_sub, List.set_cons_zero, List.set_cons_succ, kTu0, kTu1, kTu2, kTu3, kTu4, kTu5, kLs0, kLs1, kLs2, kLs3, kLs4, kLs5, mM_, mM0_, sAsg_, sFor_, iRng_, iSeq_, e_ix0 (get_app h1), e_ix1 (get_app h1), law_atom.2, p2]
  have lo : forI (itLst 2 j) (gN 3) LSB 2 0 [some (.int n), some (.obj j), some (tm n 0 0), none] S = .nx [some (.int n), some (.obj j), some (tm n u v), some (.obj j1)] (S ++ X ++ Y) := by
    rw [fl_nx hj (d := .obj j0) rfl rfl s1, fl_nx (get_app hj) (d := .obj j1) rfl rfl s2]
    exact fl_end (get_app (get_app hj))
  refine ⟨X ++ Y, ?_⟩
  rw [← List.append_assoc]
  unfold LSB at lo
  unfold M__law_sum mFn B__law_sum
  simp only [List.length_cons, List.length_nil, Nat.reduceAdd, if_true, List.map_cons, List.map_nil, List.replicate, List.cons_append, List.nil_append, Nat.reduceSub, Nat.sub_self]
  simp only [bind_ok, bind_ex, of_some, rs_ok, rs_ex, then_nx, then_rt, then_ex, then_bk, then_ct, mV0, mVs, mC_, m2_, m1_, mB_, kB_bl, mB1_, mNil_, mCons_, f1L_, f2L_, mTup_, mLst_, mCall_, mNotT_, mAndT_, mOrT_, mIf_, mAndV_, mOrV_, mNotV_, kAndV_bl, kOrV_bl, kNotV_bl, mSl_, mPart_, kPart_, mNoPart_, sSeq_, sSet_, sRet_, sIf_, sExpr_, sNil_, sBreak_, sCont_, e_lt, e_ltD, e_le, e_gt, e_ge, e_eqI, e_neI, e_eqS, e_neS, e_add, e_sub, List.set_cons_zero, List.set_cons_succ, kTu0, kTu1, kTu2, kTu3, kTu4, kTu5, kLs0, kLs1, kLs2, kLs3, kLs4, kLs5, mM_, mM0_, sAsg_, sFor_, iRng_, iSeq_]
  rw [show (D.tup [.int n, .tup []]) = tm n 0 0 from rfl, ks]
  simp only [bind_ok, bind_ex, of_some, rs_ok, rs_ex, then_nx, then_rt, then_ex, then_bk, then_ct, mV0, mVs, mC_, m2_, m1_, mB_, kB_bl, mB1_, mNil_, mCons_, f1L_, f2L_, mTup_, mLst_, mCall_, mNotT_, mAndT_, mOrT_, mIf_, mAndV_, mOrV_, mNotV_, kAndV_bl, kOrV_bl, kNotV_bl, mSl_, mPart_, kPart_, mNoPart_, sSeq_, sSet_, sRet_, sIf_, sExpr_, sNil_, sBreak_, sCont_, e_lt, e_ltD, e_le, e_gt, e_ge, e_eqI, e_neI, e_eqS, e_neS, e_add, e_sub, List.set_cons_zero, List.set_cons_succ, kTu0, kTu1, kTu2, kTu3, kTu4, kTu5, kLs0, kLs1, kLs2, kLs3, kLs4, kLs5, mM_, mM0_, sAsg_, sFor_, iRng_, iSeq_, en, lo, List.length_cons, List.length_nil] <;> rfl
/-! what a term is worth -/
def nm : Nat → Str
  | 0 => "x"
  | _ => "a"
theorem at_nm {S : Sto} (a : Nat) : fIx (atm a) (.int 1) S = some (.str (nm a), S) := by
  match a with
  | 0 => exact e_t1
  | _ + 1 => exact e_t1
def vsum (v : Nat → Int) : Cf → Int
  | [] => 0
  | z :: r => z.2 * v z.1 + vsum v r
theorem vsum_cf (v : Nat → Int) (p q : Int) : vsum v (cf p q) = p * v 0 + q * v 1 := by
  unfold cf
  by_cases hp : p = 0 <;> by_cases hq : q = 0 <;> simp [hp, hq, vsum]
def stD (x y : Int) : MO := .dic (mergeD [] (((["x", "a"] : List Str).map Sum.inr).zip [D.int x, D.int y]))
def vXY (x y : Int) : Nat → Int
  | 0 => x
  | _ => y
theorem dix {S : Sto} {j : Nat} {x y : Int} (h : S[j]? = some (stD x y)) (a : Nat) : fDIx (.obj j) (.str (nm a)) S = some (.int (vXY x y a), S) := by
  unfold fDIx
  unfold stD at h
  simp only [h]
  match a with
  | 0 => rfl
  | _ + 1 => rfl
def LVB : MS := (sSet 2 (m2 fAdd (mV 2) (m2 fMulA (m2 fIx (mV 3) (mC (.int 1))) (m2 fDIx (mV 1) (m2 fIx (m2 fIx (mV 3) (mC (.int 0))) (mC (.int 1)))))))
theorem lv_loop {S : Sto} {j : Nat} {x y : Int} {x0 : Option D} {r : Cf} (hj : S[j]? = some (stD x y)) (hx : Sm x) (hy : Sm y) (hs : ∀ z ∈ r, Sm z.2) : ∀ (suf pre : Cf) (t : Int) (x3 : Option D), r = pre ++ suf → ∃ y3 : Option D,
    forI (itFix (r.map pairD)) (gN 3) LVB suf.length pre.length [x0, some (.obj j), some (.int t), x3] S = .nx [x0, some (.obj j), some (.int (t + vsum (vXY x y) suf)), y3] S
  | [], pre, t, x3, he => by
    refine ⟨x3, ?_⟩
    have : pre.length = (r.map pairD).length := by rw [he]; simp
    rw [this, fx_end, show vsum (vXY x y) [] = 0 from rfl, Int.add_zero]
  | z :: suf, pre, t, x3, he => by
    have hm : z ∈ r := by rw [he]; simp
    have hd : (r.map pairD)[pre.length]? = some (pairD z) := by rw [he]; simp
    have hv : Sm (vXY x y z.1) := by unfold vXY; split <;> assumption
    obtain ⟨y3, q⟩ := lv_loop (x0 := x0) hj hx hy hs suf (pre ++ [z]) (t + z.2 * vXY x y z.1) (some (pairD z)) (by rw [he]; simp)
    refine ⟨y3, ?_⟩
    have st : LVB [x0, some (.obj j), some (.int t), some (pairD z)] S = .nx [x0, some (.obj j), some (.int (t + z.2 * vXY x y z.1)), some (pairD z)] S := by
      unfold LVB
      simp only [bind_ok, bind_ex, of_some, rs_ok, rs_ex, then_nx, then_rt, then_ex, then_bk, then_ct, mV0, mVs, mC_, m2_, m1_, mB_, kB_bl, mB1_, mNil_, mCons_, f1L_, f2L_, mTup_, mLst_, mCall_, mNotT_, mAndT_, mOrT_, mIf_, mAndV_, mOrV_, mNotV_, kAndV_bl, kOrV_bl, kNotV_bl, mSl_, mPart_, kPart_, mNoPart_, sSeq_, sSet_, sRet_, sIf_, sExpr_, sNil_, sBreak_, sCont_, e_lt, e_ltD, e_le, e_gt, e_ge, e_eqI, e_neI, e_eqS, e_neS, e_add, e_sub, List.set_cons_zero, List.set_cons_succ, kTu0, kTu1, kTu2, kTu3, kTu4, kTu5, kLs0, kLs1, kLs2, kLs3, kLs4, kLs5, mM_, mM0_, sAsg_, sFor_, iRng_, iSeq_, pr0, pr1, at_nm, dix hj, e_mulW (hs z hm) hv]
    rw [show (z :: suf).length = suf.length + 1 from rfl, fx_nx hd rfl st]
    rw [List.length_append, List.length_singleton] at q
    rw [q, Int.add_assoc]; rfl
theorem law_value {S : Sto} {j : Nat} {x y c p q : Int} (hj : S[j]? = some (stD x y)) (hx : Sm x) (hy : Sm y) (hp : Sm p) (hq : Sm q) : M__law_value [tm c p q, .obj j] S = .ok (.int (c + p * x + q * y)) S := by
  obtain ⟨y3, h⟩ := lv_loop (x0 := some (tm c p q)) hj hx hy (cf_sm hp hq) (cf p q) [] c none rfl
  rw [vsum_cf, ← Int.add_assoc] at h
  rw [show ([] : Cf).length = 0 from rfl] at h
  have e2 : (itFix ((cf p q).map pairD)).n = (cf p q).length := by show ((cf p q).map pairD).length = _; rw [List.length_map]
  unfold LVB at h
  unfold M__law_value mFn B__law_value
  simp only [List.length_cons, List.length_nil, Nat.reduceAdd, if_true, List.map_cons, List.map_nil, List.replicate, List.cons_append, List.nil_append, Nat.reduceSub, Nat.sub_self]
  simp only [bind_ok, bind_ex, of_some, rs_ok, rs_ex, then_nx, then_rt, then_ex, then_bk, then_ct, mV0, mVs, mC_, m2_, m1_, mB_, kB_bl, mB1_, mNil_, mCons_, f1L_, f2L_, mTup_, mLst_, mCall_, mNotT_, mAndT_, mOrT_, mIf_, mAndV_, mOrV_, mNotV_, kAndV_bl, kOrV_bl, kNotV_bl, mSl_, mPart_, kPart_, mNoPart_, sSeq_, sSet_, sRet_, sIf_, sExpr_, sNil_, sBreak_, sCont_, e_lt, e_ltD, e_le, e_gt, e_ge, e_eqI, e_neI, e_eqS, e_neS, e_add, e_sub, List.set_cons_zero, List.set_cons_succ, kTu0, kTu1, kTu2, kTu3, kTu4, kTu5, kLs0, kLs1, kLs2, kLs3, kLs4, kLs5, mM_, mM0_, sAsg_, sFor_, iRng_, iSeq_, tm0, tm1, ksR, e2, h] <;> rfl
/-! ### numbers of the pool -/
theorem pk {S : Sto} {j : Nat} (h : PoolOk S j) (m : Nat) (n : Int) (hn : n = (m : Int)) (hm : 0 < m) : ∃ (w : Nat) (S' : Sto), M__law_pick [.obj j, .int n] S = .ok (.int (w : Int)) S' ∧ w < m ∧ Stp j S S' ∧ S'.length = S.length := by
  subst hn
  exact pick h hm
theorem pow_ {S : Sto} (k : Nat) (n : Int) (hn : n = (k : Int)) (hk : k ≤ 40) : fPow (.int 10) (.int n) S = some (.int (10 ^ k), S) := by
  subst hn
  unfold fPow
  dsimp only
  rw [if_pos (by omega)]
  rfl
theorem law_number {S : Sto} {j : Nat} (h : PoolOk S j) : ∃ (n : Int) (S' : Sto), M__law_number [.obj j] S = .ok (.int n) S' ∧ 1 ≤ n ∧ n < 10000000000000 ∧ Stp j S S' ∧ S'.length = S.length := by
  obtain ⟨w1, S1, p1, q1, s1, l1⟩ := pk h 9 9 rfl (by decide)
  obtain ⟨w2, S2, p2, q2, s2, l2⟩ := pk s1.pool 6 6 rfl (by decide)
  have pw : ∀ S : Sto, fPow (.int 10) (.int 12) S = some (.int 1000000000000, S) := fun S => pow_ 12 12 rfl (by decide)
  by_cases hw : w2 = 5
  · obtain ⟨w3, S3, p3, q3, s3, l3⟩ := pk s2.pool 27 27 rfl (by decide)
    have d1 : decide ((w2 : Int) = 5) = true := decide_eq_true (by omega)
    refine ⟨(1 + (w1 : Int)) * 1000000000000 + w3, S3, ?_, by omega, by omega, (s1.trans s2).trans s3, by omega⟩
    unfold M__law_number mFn B__law_number
    simp only [List.length_cons, List.length_nil, Nat.reduceAdd, if_true, List.map_cons, List.map_nil, List.replicate, List.cons_append, List.nil_append, Nat.reduceSub, Nat.sub_self]
    simp only [bind_ok, bind_ex, of_some, rs_ok, rs_ex, then_nx, then_rt, then_ex, then_bk, then_ct, mV0, mVs, mC_, m2_, m1_, mB_, kB_bl, mB1_, mNil_, mCons_, f1L_, f2L_, mTup_, mLst_, mCall_, mNotT_, mAndT_, mOrT_, mIf_, mAndV_, mOrV_, mNotV_, kAndV_bl, kOrV_bl, kNotV_bl, mSl_, mPart_, kPart_, mNoPart_, sSeq_, sSet_, sRet_, sIf_, sExpr_, sNil_, sBreak_, sCont_, e_lt, e_ltD, e_le, e_gt, e_ge, e_eqI, e_neI, e_eqS, e_neS, e_add, e_sub, List.set_cons_zero, List.set_cons_succ, kTu0, kTu1, kTu2, kTu3, kTu4, kTu5, kLs0, kLs1, kLs2, kLs3, kLs4, kLs5, mM_, mM0_, sAsg_, sFor_, iRng_, iSeq_, p1, p2, d1, if_true, pw, e_mulW (show Sm (1 + (w1 : Int)) from Nat.lt_of_le_of_lt (show (1 + (w1 : Int)).natAbs ≤ 10 by omega) (by decide)) (show Sm 1000000000000 by decide), p3] <;> rfl
  · have d1 : decide ((w2 : Int) = 5) = false := decide_eq_false (by omega)
    refine ⟨1 + (w1 : Int), S2, ?_, by omega, by omega, s1.trans s2, by omega⟩
    unfold M__law_number mFn B__law_number
    simp only [List.length_cons, List.length_nil, Nat.reduceAdd, if_true, List.map_cons, List.map_nil, List.replicate, List.cons_append, List.nil_append, Nat.reduceSub, Nat.sub_self]
    simp only [bind_ok, bind_ex, of_some, rs_ok, rs_ex, then_nx, then_rt, then_ex, then_bk, then_ct, mV0, mVs, mC_, m2_, m1_, mB_, kB_bl, mB1_, mNil_, mCons_, f1L_, f2L_, mTup_, mLst_, mCall_, mNotT_, mAndT_, mOrT_, mIf_, mAndV_, mOrV_, mNotV_, kAndV_bl, kOrV_bl, kNotV_bl, mSl_, mPart_, kPart_, mNoPart_, sSeq_, sSet_, sRet_, sIf_, sExpr_, sNil_, sBreak_, sCont_, e_lt, e_ltD, e_le, e_gt, e_ge, e_eqI, e_neI, e_eqS, e_neS, e_add, e_sub, List.set_cons_zero, List.set_cons_succ, kTu0, kTu1, kTu2, kTu3, kTu4, kTu5, kLs0, kLs1, kLs2, kLs3, kLs4, kLs5, mM_, mM0_, sAsg_, sFor_, iRng_, iSeq_, p1, p2, d1, Bool.false_eq_true, if_false] <;> rfl
end K26

namespace K26
open PySem PySem.Spec L2 Mi
/-! ### one pair of whole numbers -/
def WR1 : MS := (sSet 3 (m2 fIx (mLst (mCons (mC (.int 1)) (mCons (mC (.int 1)) (mCons (m2 fPow (mC (.int 10)) (mC (.int 30))) mNil)))) (mCall M__law_pick (mCons (mV 0) (mCons (mC (.int 3)) mNil)))))
def WR2 : MS := (sSet 4 (m2 fMulA (m2 fSub (mCall M__law_pick (mCons (mV 0) (mCons (mC (.int 15)) mNil))) (mC (.int 7))) (mV 3)))
def WR3 : MS := (sSet 5 (m2 fSub (m2 fAdd (m2 fAdd (mC (.int 1)) (m2 fMulA (mV 1) (mV 4))) (mCall M__law_pick (mCons (mV 0) (mCons (mC (.int 3)) mNil)))) (mCall M__law_pick (mCons (mV 0) (mCons (mC (.int 2)) mNil)))))
def WR4 : MS := (sSet 6 (m2 fSub (m2 fAdd (m2 fSub (m2 fSub (mC (.int 1)) (mV 2)) (m2 fMulA (mV 2) (mV 4))) (mCall M__law_pick (mCons (mV 0) (mCons (mC (.int 3)) mNil)))) (mCall M__law_pick (mCons (mV 0) (mCons (mC (.int 3)) mNil)))))
def WR5 : MS := (sIf (mB (m2 fEq (mCall M__law_pick (mCons (mV 0) (mCons (mC (.int 3)) mNil))) (mC (.int 2))))
  (sSet 6 (m2 fAdd (m2 fSub (m1 fNeg (mV 5)) (mCall M__law_pick (mCons (mV 0) (mCons (mC (.int 27)) mNil)))) (mC (.int 5))))
  sNil)
def WR6 : MS := (sSet 7 (mCall M__law_between (mCons (mV 1) (mCons (mV 5) (mCons (mV 2) (mCons (mV 6) mNil))))))
def WR7 : MS := (sIf (mNotT (mB (mCall M__law_same (mCons (mCall M_whole_between (mCons (mV 1) (mCons (mV 5) (mCons (mV 2) (mCons (mV 6) mNil))))) (mCons (mV 7) mNil)))))
  (sRet (mC (.bl false)))
  sNil)
def WR8 : MS := (sSet 8 (m2 fAdd (m2 fMulA (mV 2) (mV 5)) (m2 fMulA (mV 1) (mV 6))))
def WR9 : MS := (sIf (mOrT (mAndT (mB (m2 fGt (mV 8) (mC (.int 0)))) (mB (m2 fIsN (mV 7) (mC .non)))) (mAndT (mB (m2 fLe (m2 fAdd (mV 8) (m2 fMulA (m2 fSub (mV 1) (mC (.int 1))) (m2 fSub (mV 2) (mC (.int 1))))) (mC (.int 0)))) (mB (m2 fIs (mV 7) (mC .non)))))
  (sRet (mC (.bl false)))
  sNil)
def WR10 : MS := (sIf (mB (m2 fNe (mCall M_real_row (mCons (mV 1) (mCons (mTup (mCons (mV 5) (mCons (mTup mNil) mNil))) (mCons (mV 2) (mCons (mTup (mCons (mV 6) (mCons (mTup mNil) mNil))) mNil))))) (mTup (mCons (mC (.str "le")) (mCons (mTup (mCons (mV 8) (mCons (mTup mNil) mNil))) mNil)))))
  (sRet (mC (.bl false)))
  sNil)
def WR11 : MS := (sIf (mB (m2 fNe (mCall M_dark_row (mCons (mV 1) (mCons (mTup (mCons (mV 5) (mCons (mTup mNil) mNil))) (mCons (mV 2) (mCons (mTup (mCons (mV 6) (mCons (mTup mNil) mNil))) mNil))))) (mTup (mCons (mC (.str "le")) (mCons (mTup (mCons (m2 fAdd (mV 8) (m2 fMulA (m2 fSub (mV 1) (mC (.int 1))) (m2 fSub (mV 2) (mC (.int 1))))) (mCons (mTup mNil) mNil))) mNil)))))
  (sRet (mC (.bl false)))
  sNil)
def WR12 : MS := (sSet 9 (m2 fEq (m2 fLe (mV 8) (mC (.int 0))) (m2 fLe (m2 fAdd (mV 8) (m2 fMulA (m2 fSub (mV 1) (mC (.int 1))) (m2 fSub (mV 2) (mC (.int 1))))) (mC (.int 0)))))
def WR13 : MS := (sSet 10 (mCall M_is_exact (mCons (mV 1) (mCons (mTup (mCons (mV 5) (mCons (mTup mNil) mNil))) (mCons (mV 2) (mCons (mTup (mCons (mV 6) (mCons (mTup mNil) mNil))) mNil))))))
def WR14 : MS := (sSet 11 (mCall M_whole_between (mCons (mV 1) (mCons (m2 fAdd (mC (.int 1)) (m2 fMulA (mV 1) (mV 4))) (mCons (mV 2) (mCons (m2 fSub (m2 fSub (mC (.int 1)) (mV 2)) (m2 fMulA (mV 2) (mV 4))) mNil))))))
def WR15 : MS := (sIf (mAndT (mB (m2 fGt (mV 1) (mC (.int 1)))) (mAndT (mB (m2 fGt (mV 2) (mC (.int 1)))) (mB (m2 fIsN (mV 11) (mC .non)))))
  (sRet (mC (.bl false)))
  sNil)
def WR16 : MS := (sRet (mAndV (m2 fEq (m2 fIs (mV 10) (mC (.bl true))) (mV 9)) (m2 fNe (m2 fIs (mV 10) (mC (.bl false))) (mV 9))))
theorem law_whole_right_eq : B__law_whole_right = sSeq WR1 (sSeq WR2 (sSeq WR3 (sSeq WR4 (sSeq WR5 (sSeq WR6 (sSeq WR7 (sSeq WR8 (sSeq WR9 (sSeq WR10 (sSeq WR11 (sSeq WR12 (sSeq WR13 (sSeq WR14 (sSeq WR15 WR16)))))))))))))) := (rfl)

theorem mul_bd {x y : Int} {X Y Z : Nat} (hx : x.natAbs ≤ X) (hy : y.natAbs ≤ Y) (h : X * Y ≤ Z) : (x * y).natAbs ≤ Z := by
  rw [Int.natAbs_mul]; exact Nat.le_trans (Nat.mul_le_mul hx hy) h
theorem sm_of {x : Int} {X : Nat} (hx : x.natAbs ≤ X) (h : X < 2 ^ 200) : Sm x := Nat.lt_of_le_of_lt hx h
theorem tmz (c : Int) : D.tup [.int c, .tup []] = tm c 0 0 := rfl
theorem facz (w : Str) (c p q : Int) : D.tup [.str w, tm c p q] = facD w c p q := rfl
theorem Stp.list {S S' : Sto} {j : Nat} {ds : List D} (hj : j < S.length) (h : Stp j (S ++ [.lst ds]) S') : S'[S.length]? = some (.lst ds) := h.get last0 (by omega)
theorem pool_app {S X : Sto} {j : Nat} (h : PoolOk S j) : PoolOk (S ++ X) j := (Stp.app h).pool
section
variable {S : Sto} {j : Nat} {a b : Int} {e3 e4 e5 e6 e7 e8 e9 e10 e11 : Option D}
theorem wr1 (h : PoolOk S j) : ∃ (z : Int) (S' : Sto), WR1 [some (.obj j), some (.int a), some (.int b), e3, e4, e5, e6, e7, e8, e9, e10, e11] S = .nx [some (.obj j), some (.int a), some (.int b), some (.int z), e4, e5, e6, e7, e8, e9, e10, e11] S' ∧ z.natAbs ≤ 1000000000000000000000000000000 ∧ Stp j S S' := by
  obtain ⟨w, S1, p1, q1, s1, l1⟩ := pk (S := S ++ [.lst [.int 1, .int 1, .int 1000000000000000000000000000000]]) (pool_app h) 3 3 rfl (by decide)
  have pw : ∀ S : Sto, fPow (.int 10) (.int 30) S = some (.int 1000000000000000000000000000000, S) := fun S => pow_ 30 30 rfl (by decide)
  have g := Stp.list h.lt s1
  have hst : Stp j S S1 := (Stp.app h).trans s1
  obtain ⟨z, hz, hix⟩ : ∃ z : Int, z.natAbs ≤ 1000000000000000000000000000000 ∧ fIx (.obj S.length) (.int (w : Int)) S1 = some (.int z, S1) := by
    match w, q1 with
    | 0, _ => exact ⟨1, by decide, e_ix0 g⟩
    | 1, _ => exact ⟨1, by decide, e_ix1 g⟩
    | 2, _ => exact ⟨1000000000000000000000000000000, by decide, e_ix2 g⟩
    | _ + 3, h => omega
  refine ⟨z, S1, ?_, hz, hst⟩
  unfold WR1
  simp only [bind_ok, bind_ex, of_some, rs_ok, rs_ex, then_nx, then_rt, then_ex, then_bk, then_ct, mV0, mVs, mC_, m2_, m1_, mB_, kB_bl, mB1_, mNil_, mCons_, f1L_, f2L_, mTup_, mLst_, mCall_, mNotT_, mAndT_, mOrT_, mIf_, mAndV_, mOrV_, mNotV_, kAndV_bl, kOrV_bl, kNotV_bl, mSl_, mPart_, kPart_, mNoPart_, sSeq_, sSet_, sRet_, sIf_, sExpr_, sNil_, sBreak_, sCont_, e_lt, e_ltD, e_le, e_gt, e_ge, e_eqI, e_neI, e_eqS, e_neS, e_add, e_sub, List.set_cons_zero, List.set_cons_succ, kTu0, kTu1, kTu2, kTu3, kTu4, kTu5, kLs0, kLs1, kLs2, kLs3, kLs4, kLs5, mM_, mM0_, sAsg_, sFor_, iRng_, iSeq_, pw, p1, hix]
theorem wr2 {z : Int} (h : PoolOk S j) (hz : z.natAbs ≤ 1000000000000000000000000000000) : ∃ (s : Int) (S' : Sto), WR2 [some (.obj j), some (.int a), some (.int b), some (.int z), e4, e5, e6, e7, e8, e9, e10, e11] S = .nx [some (.obj j), some (.int a), some (.int b), some (.int z), some (.int s), e5, e6, e7, e8, e9, e10, e11] S' ∧ s.natAbs ≤ 7000000000000000000000000000000 ∧ Stp j S S' := by
  obtain ⟨w, S1, p1, q1, s1, l1⟩ := pk h 15 15 rfl (by decide)
  have hw : ((w : Int) - 7).natAbs ≤ 7 := by omega
  refine ⟨((w : Int) - 7) * z, S1, ?_, mul_bd hw hz (by decide), s1⟩
  unfold WR2
  simp only [bind_ok, bind_ex, of_some, rs_ok, rs_ex, then_nx, then_rt, then_ex, then_bk, then_ct, mV0, mVs, mC_, m2_, m1_, mB_, kB_bl, mB1_, mNil_, mCons_, f1L_, f2L_, mTup_, mLst_, mCall_, mNotT_, mAndT_, mOrT_, mIf_, mAndV_, mOrV_, mNotV_, kAndV_bl, kOrV_bl, kNotV_bl, mSl_, mPart_, kPart_, mNoPart_, sSeq_, sSet_, sRet_, sIf_, sExpr_, sNil_, sBreak_, sCont_, e_lt, e_ltD, e_le, e_gt, e_ge, e_eqI, e_neI, e_eqS, e_neS, e_add, e_sub, List.set_cons_zero, List.set_cons_succ, kTu0, kTu1, kTu2, kTu3, kTu4, kTu5, kLs0, kLs1, kLs2, kLs3, kLs4, kLs5, mM_, mM0_, sAsg_, sFor_, iRng_, iSeq_, p1, e_mulW (sm_of hw (by decide)) (sm_of hz (by decide))]
variable {s : Int} (ha : 1 ≤ a ∧ a < 10000000000000) (hb : 1 ≤ b ∧ b < 10000000000000) (hs : s.natAbs ≤ 7000000000000000000000000000000)
include ha hs
theorem wr3 (h : PoolOk S j) : ∃ (lo : Int) (S' : Sto), WR3 [some (.obj j), some (.int a), some (.int b), e3, some (.int s), e5, e6, e7, e8, e9, e10, e11] S = .nx [some (.obj j), some (.int a), some (.int b), e3, some (.int s), some (.int lo), e6, e7, e8, e9, e10, e11] S' ∧ lo.natAbs ≤ 70000000000000000000000000000000000000000010 ∧ Stp j S S' := by
  obtain ⟨w, S1, p1, q1, s1, l1⟩ := pk h 3 3 rfl (by decide)
  obtain ⟨v, S2, p2, q2, s2, l2⟩ := pk s1.pool 2 2 rfl (by decide)
  have ha' : a.natAbs ≤ 10000000000000 := by omega
  have hm : (a * s).natAbs ≤ 70000000000000000000000000000000000000000000 := mul_bd ha' hs (by decide)
  refine ⟨1 + a * s + w - v, S2, ?_, by omega, s1.trans s2⟩
  unfold WR3
  simp only [bind_ok, bind_ex, of_some, rs_ok, rs_ex, then_nx, then_rt, then_ex, then_bk, then_ct, mV0, mVs, mC_, m2_, m1_, mB_, kB_bl, mB1_, mNil_, mCons_, f1L_, f2L_, mTup_, mLst_, mCall_, mNotT_, mAndT_, mOrT_, mIf_, mAndV_, mOrV_, mNotV_, kAndV_bl, kOrV_bl, kNotV_bl, mSl_, mPart_, kPart_, mNoPart_, sSeq_, sSet_, sRet_, sIf_, sExpr_, sNil_, sBreak_, sCont_, e_lt, e_ltD, e_le, e_gt, e_ge, e_eqI, e_neI, e_eqS, e_neS, e_add, e_sub, List.set_cons_zero, List.set_cons_succ, kTu0, kTu1, kTu2, kTu3, kTu4, kTu5, kLs0, kLs1, kLs2, kLs3, kLs4, kLs5, mM_, mM0_, sAsg_, sFor_, iRng_, iSeq_, p1, p2, e_mulW (sm_of ha' (by decide)) (sm_of hs (by decide))]
include hb
theorem wr4 (h : PoolOk S j) : ∃ (hi : Int) (S' : Sto), WR4 [some (.obj j), some (.int a), some (.int b), e3, some (.int s), e5, e6, e7, e8, e9, e10, e11] S = .nx [some (.obj j), some (.int a), some (.int b), e3, some (.int s), e5, some (.int hi), e7, e8, e9, e10, e11] S' ∧ hi.natAbs ≤ 80000000000000000000000000000000000000000000 ∧ Stp j S S' := by
  obtain ⟨w, S1, p1, q1, s1, l1⟩ := pk h 3 3 rfl (by decide)
  obtain ⟨v, S2, p2, q2, s2, l2⟩ := pk s1.pool 3 3 rfl (by decide)
  have hb' : b.natAbs ≤ 10000000000000 := by omega
  have hm : (b * s).natAbs ≤ 70000000000000000000000000000000000000000000 := mul_bd hb' hs (by decide)
  refine ⟨1 - b - b * s + w - v, S2, ?_, by omega, s1.trans s2⟩
  unfold WR4
  simp only [bind_ok, bind_ex, of_some, rs_ok, rs_ex, then_nx, then_rt, then_ex, then_bk, then_ct, mV0, mVs, mC_, m2_, m1_, mB_, kB_bl, mB1_, mNil_, mCons_, f1L_, f2L_, mTup_, mLst_, mCall_, mNotT_, mAndT_, mOrT_, mIf_, mAndV_, mOrV_, mNotV_, kAndV_bl, kOrV_bl, kNotV_bl, mSl_, mPart_, kPart_, mNoPart_, sSeq_, sSet_, sRet_, sIf_, sExpr_, sNil_, sBreak_, sCont_, e_lt, e_ltD, e_le, e_gt, e_ge, e_eqI, e_neI, e_eqS, e_neS, e_add, e_sub, List.set_cons_zero, List.set_cons_succ, kTu0, kTu1, kTu2, kTu3, kTu4, kTu5, kLs0, kLs1, kLs2, kLs3, kLs4, kLs5, mM_, mM0_, sAsg_, sFor_, iRng_, iSeq_, p1, p2, e_mulW (sm_of hb' (by decide)) (sm_of hs (by decide))]
omit ha hb hs
theorem wr5 {lo hi : Int} (h : PoolOk S j) (hl : lo.natAbs ≤ 70000000000000000000000000000000000000000010) (hh : hi.natAbs ≤ 80000000000000000000000000000000000000000000) : ∃ (hi' : Int) (S' : Sto), WR5 [some (.obj j), some (.int a), some (.int b), e3, e4, some (.int lo), some (.int hi), e7, e8, e9, e10, e11] S = .nx [some (.obj j), some (.int a), some (.int b), e3, e4, some (.int lo), some (.int hi'), e7, e8, e9, e10, e11] S' ∧ hi'.natAbs ≤ 80000000000000000000000000000000000000000000 ∧ Stp j S S' := by
  obtain ⟨w, S1, p1, q1, s1, l1⟩ := pk h 3 3 rfl (by decide)
  by_cases hw : w = 2
  · obtain ⟨v, S2, p2, q2, s2, l2⟩ := pk s1.pool 27 27 rfl (by decide)
    have d1 : decide ((w : Int) = 2) = true := decide_eq_true (by omega)
    refine ⟨-lo - v + 5, S2, ?_, by omega, s1.trans s2⟩
    unfold WR5
    simp only [bind_ok, bind_ex, of_some, rs_ok, rs_ex, then_nx, then_rt, then_ex, then_bk, then_ct, mV0, mVs, mC_, m2_, m1_, mB_, kB_bl, mB1_, mNil_, mCons_, f1L_, f2L_, mTup_, mLst_, mCall_, mNotT_, mAndT_, mOrT_, mIf_, mAndV_, mOrV_, mNotV_, kAndV_bl, kOrV_bl, kNotV_bl, mSl_, mPart_, kPart_, mNoPart_, sSeq_, sSet_, sRet_, sIf_, sExpr_, sNil_, sBreak_, sCont_, e_lt, e_ltD, e_le, e_gt, e_ge, e_eqI, e_neI, e_eqS, e_neS, e_add, e_sub, List.set_cons_zero, List.set_cons_succ, kTu0, kTu1, kTu2, kTu3, kTu4, kTu5, kLs0, kLs1, kLs2, kLs3, kLs4, kLs5, mM_, mM0_, sAsg_, sFor_, iRng_, iSeq_, p1, d1, if_true, e_neg, p2]
  · have d1 : decide ((w : Int) = 2) = false := decide_eq_false (by omega)
    refine ⟨hi, S1, ?_, hh, s1⟩
    unfold WR5
    simp only [bind_ok, bind_ex, of_some, rs_ok, rs_ex, then_nx, then_rt, then_ex, then_bk, then_ct, mV0, mVs, mC_, m2_, m1_, mB_, kB_bl, mB1_, mNil_, mCons_, f1L_, f2L_, mTup_, mLst_, mCall_, mNotT_, mAndT_, mOrT_, mIf_, mAndV_, mOrV_, mNotV_, kAndV_bl, kOrV_bl, kNotV_bl, mSl_, mPart_, kPart_, mNoPart_, sSeq_, sSet_, sRet_, sIf_, sExpr_, sNil_, sBreak_, sCont_, e_lt, e_ltD, e_le, e_gt, e_ge, e_eqI, e_neI, e_eqS, e_neS, e_add, e_sub, List.set_cons_zero, List.set_cons_succ, kTu0, kTu1, kTu2, kTu3, kTu4, kTu5, kLs0, kLs1, kLs2, kLs3, kLs4, kLs5, mM_, mM0_, sAsg_, sFor_, iRng_, iSeq_, p1, d1, Bool.false_eq_true, if_false]
end
end K26

namespace K26
open PySem PySem.Spec L2 Mi
theorem tru1 {e : Bool} : decide (decide (e = true) = e) = true := by cases e <;> rfl
theorem tru2 {e : Bool} : (!decide (decide (e = false) = e)) = true := by cases e <;> rfl
/-- the two rows of whole numbers alone -/
theorem gD00 : gD 0 0 = 0 := by decide
theorem shF00 (c : Int) : shF "le" c 0 0 = facD "le" c 0 0 := by unfold shF; rw [if_pos gD00]
theorem exB00 (r d : Int) : exB r d 0 0 = decide (decide (r ≤ 0) = decide (d ≤ 0)) := by
  unfold exB shC
  rw [if_pos gD00, if_pos gD00, if_pos gD00]
theorem z00 (a b : Int) : b * 0 + a * 0 = 0 := by omega
theorem okLe : PyData.strOk ("le" : Str) = true := by decide +kernel
theorem okEq : PyData.strOk ("eq" : Str) = true := by decide +kernel
section
variable {S : Sto} {a b lo hi s : Int} {x0 e3 e4 e5 e6 e7 e8 e9 e10 e11 : Option D} (ha : 1 ≤ a ∧ a < 10000000000000) (hb : 1 ≤ b ∧ b < 10000000000000) (hs : s.natAbs ≤ 7000000000000000000000000000000)
  (hl : lo.natAbs ≤ 70000000000000000000000000000000000000000010) (hh : hi.natAbs ≤ 80000000000000000000000000000000000000000000)
include ha hb
theorem dd_bd : ((a - 1) * (b - 1)).natAbs ≤ 100000000000000000000000000 := mul_bd (X := 10000000000000) (Y := 10000000000000) (by omega) (by omega) (by decide)
theorem dd_e {S : Sto} : fMulA (.int (a - 1)) (.int (b - 1)) S = some (.int ((a - 1) * (b - 1)), S) := e_mulW (sm_of (X := 10000000000000) (by omega) (by decide)) (sm_of (X := 10000000000000) (by omega) (by decide))
theorem sab : Sm a ∧ Sm b := ⟨sm_of (X := 10000000000000) (by omega) (by decide), sm_of (X := 10000000000000) (by omega) (by decide)⟩
include hl hh
theorem share_bd : (b * lo + a * hi).natAbs ≤ 2000000000000000000000000000000000000000000000000000000000 := by
  have h1 : (b * lo).natAbs ≤ 1000000000000000000000000000000000000000000000000000000000 := mul_bd (X := 10000000000000) (by omega) hl (by decide)
  have h2 : (a * hi).natAbs ≤ 1000000000000000000000000000000000000000000000000000000000 := mul_bd (X := 10000000000000) (by omega) hh (by decide)
  omega
theorem pr_w : Pr a lo 0 0 b hi 0 0 := by
  have h1 := share_bd ha hb hl hh
  have h2 := dd_bd ha hb
  obtain ⟨sa, sb⟩ := sab ha hb
  have h3 : (b * lo + a * hi + (a - 1) * (b - 1)).natAbs ≤ 3000000000000000000000000000000000000000000000000000000000 := by omega
  exact ⟨ha.1, hb.1, sa, sb, sm_of hl (by decide), sm0, sm0, sm_of hh (by decide), sm0, sm0, sm_of h1 (by decide), sm_of h3 (by decide), by rw [z00]; exact sm0, by rw [z00]; exact sm0⟩
theorem wr6 : WR6 [x0, some (.int a), some (.int b), e3, e4, some (.int lo), some (.int hi), e7, e8, e9, e10, e11] S = .nx [x0, some (.int a), some (.int b), e3, e4, some (.int lo), some (.int hi), some (optD (betO a lo b hi)), e8, e9, e10, e11] S := by
  obtain ⟨sa, sb⟩ := sab ha hb
  unfold WR6
  simp only [bind_ok, bind_ex, of_some, rs_ok, rs_ex, then_nx, then_rt, then_ex, then_bk, then_ct, mV0, mVs, mC_, m2_, m1_, mB_, kB_bl, mB1_, mNil_, mCons_, f1L_, f2L_, mTup_, mLst_, mCall_, mNotT_, mAndT_, mOrT_, mIf_, mAndV_, mOrV_, mNotV_, kAndV_bl, kOrV_bl, kNotV_bl, mSl_, mPart_, kPart_, mNoPart_, sSeq_, sSet_, sRet_, sIf_, sExpr_, sNil_, sBreak_, sCont_, e_lt, e_ltD, e_le, e_gt, e_ge, e_eqI, e_neI, e_eqS, e_neS, e_add, e_sub, List.set_cons_zero, List.set_cons_succ, kTu0, kTu1, kTu2, kTu3, kTu4, kTu5, kLs0, kLs1, kLs2, kLs3, kLs4, kLs5, mM_, mM0_, sAsg_, sFor_, iRng_, iSeq_, law_between ha.1 hb.1 sa sb] <;> rfl
theorem wr7 : WR7 [x0, some (.int a), some (.int b), e3, e4, some (.int lo), some (.int hi), some (optD (betO a lo b hi)), e8, e9, e10, e11] S = .nx [x0, some (.int a), some (.int b), e3, e4, some (.int lo), some (.int hi), some (optD (betO a lo b hi)), e8, e9, e10, e11] S := by
  obtain ⟨sa, sb⟩ := sab ha hb
  unfold WR7
  simp only [bind_ok, bind_ex, of_some, rs_ok, rs_ex, then_nx, then_rt, then_ex, then_bk, then_ct, mV0, mVs, mC_, m2_, m1_, mB_, kB_bl, mB1_, mNil_, mCons_, f1L_, f2L_, mTup_, mLst_, mCall_, mNotT_, mAndT_, mOrT_, mIf_, mAndV_, mOrV_, mNotV_, kAndV_bl, kOrV_bl, kNotV_bl, mSl_, mPart_, kPart_, mNoPart_, sSeq_, sSet_, sRet_, sIf_, sExpr_, sNil_, sBreak_, sCont_, e_lt, e_ltD, e_le, e_gt, e_ge, e_eqI, e_neI, e_eqS, e_neS, e_add, e_sub, List.set_cons_zero, List.set_cons_succ, kTu0, kTu1, kTu2, kTu3, kTu4, kTu5, kLs0, kLs1, kLs2, kLs3, kLs4, kLs5, mM_, mM0_, sAsg_, sFor_, iRng_, iSeq_, whole_between ha.1 hb.1 sa sb, law_same, Bool.not_true, Bool.false_eq_true, if_false] <;> rfl
theorem wr8 : WR8 [x0, some (.int a), some (.int b), e3, e4, some (.int lo), some (.int hi), e7, e8, e9, e10, e11] S = .nx [x0, some (.int a), some (.int b), e3, e4, some (.int lo), some (.int hi), e7, some (.int (b * lo + a * hi)), e9, e10, e11] S := by
  obtain ⟨sa, sb⟩ := sab ha hb
  unfold WR8
  simp only [bind_ok, bind_ex, of_some, rs_ok, rs_ex, then_nx, then_rt, then_ex, then_bk, then_ct, mV0, mVs, mC_, m2_, m1_, mB_, kB_bl, mB1_, mNil_, mCons_, f1L_, f2L_, mTup_, mLst_, mCall_, mNotT_, mAndT_, mOrT_, mIf_, mAndV_, mOrV_, mNotV_, kAndV_bl, kOrV_bl, kNotV_bl, mSl_, mPart_, kPart_, mNoPart_, sSeq_, sSet_, sRet_, sIf_, sExpr_, sNil_, sBreak_, sCont_, e_lt, e_ltD, e_le, e_gt, e_ge, e_eqI, e_neI, e_eqS, e_neS, e_add, e_sub, List.set_cons_zero, List.set_cons_succ, kTu0, kTu1, kTu2, kTu3, kTu4, kTu5, kLs0, kLs1, kLs2, kLs3, kLs4, kLs5, mM_, mM0_, sAsg_, sFor_, iRng_, iSeq_, e_mulW sb (sm_of hl (by decide)), e_mulW sa (sm_of hh (by decide))] <;> rfl
theorem wr9 : WR9 [x0, some (.int a), some (.int b), e3, e4, some (.int lo), some (.int hi), some (optD (betO a lo b hi)), some (.int (b * lo + a * hi)), e9, e10, e11] S = .nx [x0, some (.int a), some (.int b), e3, e4, some (.int lo), some (.int hi), some (optD (betO a lo b hi)), some (.int (b * lo + a * hi)), e9, e10, e11] S := by
  obtain ⟨r1, r2⟩ := real_dark (low := lo) (high := hi) ha.1 hb.1
  have de := dd_e (S := S) ha hb
  generalize hd : (a - 1) * (b - 1) = d at *
  generalize b * lo + a * hi = r at *
  cases ho : betO a lo b hi with
  | none =>
    have d1 : decide (r + d ≤ 0) = false := decide_eq_false fun z => r2 z ho
    cases h0 : decide (0 < r) <;> (unfold WR9; simp only [bind_ok, bind_ex, of_some, rs_ok, rs_ex, then_nx, then_rt, then_ex, then_bk, then_ct, mV0, mVs, mC_, m2_, m1_, mB_, kB_bl, mB1_, mNil_, mCons_, f1L_, f2L_, mTup_, mLst_, mCall_, mNotT_, mAndT_, mOrT_, mIf_, mAndV_, mOrV_, mNotV_, kAndV_bl, kOrV_bl, kNotV_bl, mSl_, mPart_, kPart_, mNoPart_, sSeq_, sSet_, sRet_, sIf_, sExpr_, sNil_, sBreak_, sCont_, e_lt, e_ltD, e_le, e_gt, e_ge, e_eqI, e_neI, e_eqS, e_neS, e_add, e_sub, List.set_cons_zero, List.set_cons_succ, kTu0, kTu1, kTu2, kTu3, kTu4, kTu5, kLs0, kLs1, kLs2, kLs3, kLs4, kLs5, mM_, mM0_, sAsg_, sFor_, iRng_, iSeq_, optD, isn_n, is_n, h0, d1, de, Bool.false_eq_true, if_false, if_true] <;> rfl)
  | some i =>
    have d1 : decide (0 < r) = false := decide_eq_false fun z => by rw [r1 z] at ho; cases ho
    cases h0 : decide (r + d ≤ 0) <;> (unfold WR9; simp only [bind_ok, bind_ex, of_some, rs_ok, rs_ex, then_nx, then_rt, then_ex, then_bk, then_ct, mV0, mVs, mC_, m2_, m1_, mB_, kB_bl, mB1_, mNil_, mCons_, f1L_, f2L_, mTup_, mLst_, mCall_, mNotT_, mAndT_, mOrT_, mIf_, mAndV_, mOrV_, mNotV_, kAndV_bl, kOrV_bl, kNotV_bl, mSl_, mPart_, kPart_, mNoPart_, sSeq_, sSet_, sRet_, sIf_, sExpr_, sNil_, sBreak_, sCont_, e_lt, e_ltD, e_le, e_gt, e_ge, e_eqI, e_neI, e_eqS, e_neS, e_add, e_sub, List.set_cons_zero, List.set_cons_succ, kTu0, kTu1, kTu2, kTu3, kTu4, kTu5, kLs0, kLs1, kLs2, kLs3, kLs4, kLs5, mM_, mM0_, sAsg_, sFor_, iRng_, iSeq_, optD, isn_i, is_i, h0, d1, de, Bool.false_eq_true, if_false, if_true] <;> rfl)
theorem wr10 : ∃ X : Sto, WR10 [x0, some (.int a), some (.int b), e3, e4, some (.int lo), some (.int hi), e7, some (.int (b * lo + a * hi)), e9, e10, e11] S = .nx [x0, some (.int a), some (.int b), e3, e4, some (.int lo), some (.int hi), e7, some (.int (b * lo + a * hi)), e9, e10, e11] (S ++ X) := by
  obtain ⟨X, h1⟩ := real_row (S := S) (pr_w ha hb hl hh)
  rw [z00, shF00] at h1
  refine ⟨X, ?_⟩
  unfold WR10
  simp only [bind_ok, bind_ex, of_some, rs_ok, rs_ex, then_nx, then_rt, then_ex, then_bk, then_ct, mV0, mVs, mC_, m2_, m1_, mB_, kB_bl, mB1_, mNil_, mCons_, f1L_, f2L_, mTup_, mLst_, mCall_, mNotT_, mAndT_, mOrT_, mIf_, mAndV_, mOrV_, mNotV_, kAndV_bl, kOrV_bl, kNotV_bl, mSl_, mPart_, kPart_, mNoPart_, sSeq_, sSet_, sRet_, sIf_, sExpr_, sNil_, sBreak_, sCont_, e_lt, e_ltD, e_le, e_gt, e_ge, e_eqI, e_neI, e_eqS, e_neS, e_add, e_sub, List.set_cons_zero, List.set_cons_succ, kTu0, kTu1, kTu2, kTu3, kTu4, kTu5, kLs0, kLs1, kLs2, kLs3, kLs4, kLs5, mM_, mM0_, sAsg_, sFor_, iRng_, iSeq_, tmz, facz, h1, fac_ne okLe, Bool.false_eq_true, if_false] <;> rfl
theorem wr11 : ∃ X : Sto, WR11 [x0, some (.int a), some (.int b), e3, e4, some (.int lo), some (.int hi), e7, some (.int (b * lo + a * hi)), e9, e10, e11] S = .nx [x0, some (.int a), some (.int b), e3, e4, some (.int lo), some (.int hi), e7, some (.int (b * lo + a * hi)), e9, e10, e11] (S ++ X) := by
  obtain ⟨X, h1⟩ := dark_row (S := S) (pr_w ha hb hl hh)
  rw [z00, shF00] at h1
  have de : ∀ S : Sto, _ := fun S => dd_e (S := S) ha hb
  refine ⟨X, ?_⟩
  unfold WR11
  simp only [bind_ok, bind_ex, of_some, rs_ok, rs_ex, then_nx, then_rt, then_ex, then_bk, then_ct, mV0, mVs, mC_, m2_, m1_, mB_, kB_bl, mB1_, mNil_, mCons_, f1L_, f2L_, mTup_, mLst_, mCall_, mNotT_, mAndT_, mOrT_, mIf_, mAndV_, mOrV_, mNotV_, kAndV_bl, kOrV_bl, kNotV_bl, mSl_, mPart_, kPart_, mNoPart_, sSeq_, sSet_, sRet_, sIf_, sExpr_, sNil_, sBreak_, sCont_, e_lt, e_ltD, e_le, e_gt, e_ge, e_eqI, e_neI, e_eqS, e_neS, e_add, e_sub, List.set_cons_zero, List.set_cons_succ, kTu0, kTu1, kTu2, kTu3, kTu4, kTu5, kLs0, kLs1, kLs2, kLs3, kLs4, kLs5, mM_, mM0_, sAsg_, sFor_, iRng_, iSeq_, tmz, facz, h1, de, fac_ne okLe, Bool.false_eq_true, if_false] <;> rfl
omit hl hh
theorem wr12 {r : Int} : WR12 [x0, some (.int a), some (.int b), e3, e4, e5, e6, e7, some (.int r), e9, e10, e11] S = .nx [x0, some (.int a), some (.int b), e3, e4, e5, e6, e7, some (.int r), some (.bl (decide (decide (r ≤ 0) = decide (r + (a - 1) * (b - 1) ≤ 0)))), e10, e11] S := by
  have de : ∀ S : Sto, _ := fun S => dd_e (S := S) ha hb
  unfold WR12
  simp only [bind_ok, bind_ex, of_some, rs_ok, rs_ex, then_nx, then_rt, then_ex, then_bk, then_ct, mV0, mVs, mC_, m2_, m1_, mB_, kB_bl, mB1_, mNil_, mCons_, f1L_, f2L_, mTup_, mLst_, mCall_, mNotT_, mAndT_, mOrT_, mIf_, mAndV_, mOrV_, mNotV_, kAndV_bl, kOrV_bl, kNotV_bl, mSl_, mPart_, kPart_, mNoPart_, sSeq_, sSet_, sRet_, sIf_, sExpr_, sNil_, sBreak_, sCont_, e_lt, e_ltD, e_le, e_gt, e_ge, e_eqI, e_neI, e_eqS, e_neS, e_add, e_sub, List.set_cons_zero, List.set_cons_succ, kTu0, kTu1, kTu2, kTu3, kTu4, kTu5, kLs0, kLs1, kLs2, kLs3, kLs4, kLs5, mM_, mM0_, sAsg_, sFor_, iRng_, iSeq_, de, e_eqB] <;> rfl
include hl hh
theorem wr13 : ∃ X : Sto, WR13 [x0, some (.int a), some (.int b), e3, e4, some (.int lo), some (.int hi), e7, e8, e9, e10, e11] S = .nx [x0, some (.int a), some (.int b), e3, e4, some (.int lo), some (.int hi), e7, e8, e9, some (.bl (decide (decide (b * lo + a * hi ≤ 0) = decide (b * lo + a * hi + (a - 1) * (b - 1) ≤ 0)))), e11] (S ++ X) := by
  obtain ⟨X, h1⟩ := is_exact (S := S) (pr_w ha hb hl hh)
  rw [z00, exB00] at h1
  refine ⟨X, ?_⟩
  unfold WR13
  simp only [bind_ok, bind_ex, of_some, rs_ok, rs_ex, then_nx, then_rt, then_ex, then_bk, then_ct, mV0, mVs, mC_, m2_, m1_, mB_, kB_bl, mB1_, mNil_, mCons_, f1L_, f2L_, mTup_, mLst_, mCall_, mNotT_, mAndT_, mOrT_, mIf_, mAndV_, mOrV_, mNotV_, kAndV_bl, kOrV_bl, kNotV_bl, mSl_, mPart_, kPart_, mNoPart_, sSeq_, sSet_, sRet_, sIf_, sExpr_, sNil_, sBreak_, sCont_, e_lt, e_ltD, e_le, e_gt, e_ge, e_eqI, e_neI, e_eqS, e_neS, e_add, e_sub, List.set_cons_zero, List.set_cons_succ, kTu0, kTu1, kTu2, kTu3, kTu4, kTu5, kLs0, kLs1, kLs2, kLs3, kLs4, kLs5, mM_, mM0_, sAsg_, sFor_, iRng_, iSeq_, tmz, h1] <;> rfl
omit hl hh
include hs
theorem wr14 : WR14 [x0, some (.int a), some (.int b), e3, some (.int s), e5, e6, e7, e8, e9, e10, e11] S = .nx [x0, some (.int a), some (.int b), e3, some (.int s), e5, e6, e7, e8, e9, e10, some (optD (betO a (1 + a * s) b (1 - b - b * s)))] S := by
  obtain ⟨sa, sb⟩ := sab ha hb
  have ss : Sm s := sm_of hs (by decide)
  unfold WR14
  simp only [bind_ok, bind_ex, of_some, rs_ok, rs_ex, then_nx, then_rt, then_ex, then_bk, then_ct, mV0, mVs, mC_, m2_, m1_, mB_, kB_bl, mB1_, mNil_, mCons_, f1L_, f2L_, mTup_, mLst_, mCall_, mNotT_, mAndT_, mOrT_, mIf_, mAndV_, mOrV_, mNotV_, kAndV_bl, kOrV_bl, kNotV_bl, mSl_, mPart_, kPart_, mNoPart_, sSeq_, sSet_, sRet_, sIf_, sExpr_, sNil_, sBreak_, sCont_, e_lt, e_ltD, e_le, e_gt, e_ge, e_eqI, e_neI, e_eqS, e_neS, e_add, e_sub, List.set_cons_zero, List.set_cons_succ, kTu0, kTu1, kTu2, kTu3, kTu4, kTu5, kLs0, kLs1, kLs2, kLs3, kLs4, kLs5, mM_, mM0_, sAsg_, sFor_, iRng_, iSeq_, e_mulW sa ss, e_mulW sb ss, whole_between ha.1 hb.1 sa sb] <;> rfl
theorem wr15 : WR15 [x0, some (.int a), some (.int b), e3, some (.int s), e5, e6, e7, e8, e9, e10, some (optD (betO a (1 + a * s) b (1 - b - b * s)))] S = .nx [x0, some (.int a), some (.int b), e3, some (.int s), e5, e6, e7, e8, e9, e10, some (optD (betO a (1 + a * s) b (1 - b - b * s)))] S := by
  cases h1 : decide (1 < a) with
  | false => unfold WR15; simp only [bind_ok, bind_ex, of_some, rs_ok, rs_ex, then_nx, then_rt, then_ex, then_bk, then_ct, mV0, mVs, mC_, m2_, m1_, mB_, kB_bl, mB1_, mNil_, mCons_, f1L_, f2L_, mTup_, mLst_, mCall_, mNotT_, mAndT_, mOrT_, mIf_, mAndV_, mOrV_, mNotV_, kAndV_bl, kOrV_bl, kNotV_bl, mSl_, mPart_, kPart_, mNoPart_, sSeq_, sSet_, sRet_, sIf_, sExpr_, sNil_, sBreak_, sCont_, e_lt, e_ltD, e_le, e_gt, e_ge, e_eqI, e_neI, e_eqS, e_neS, e_add, e_sub, List.set_cons_zero, List.set_cons_succ, kTu0, kTu1, kTu2, kTu3, kTu4, kTu5, kLs0, kLs1, kLs2, kLs3, kLs4, kLs5, mM_, mM0_, sAsg_, sFor_, iRng_, iSeq_, h1, Bool.false_eq_true, if_false] <;> rfl
  | true =>
    cases h2 : decide (1 < b) with
    | false => unfold WR15; simp only [bind_ok, bind_ex, of_some, rs_ok, rs_ex, then_nx, then_rt, then_ex, then_bk, then_ct, mV0, mVs, mC_, m2_, m1_, mB_, kB_bl, mB1_, mNil_, mCons_, f1L_, f2L_, mTup_, mLst_, mCall_, mNotT_, mAndT_, mOrT_, mIf_, mAndV_, mOrV_, mNotV_, kAndV_bl, kOrV_bl, kNotV_bl, mSl_, mPart_, kPart_, mNoPart_, sSeq_, sSet_, sRet_, sIf_, sExpr_, sNil_, sBreak_, sCont_, e_lt, e_ltD, e_le, e_gt, e_ge, e_eqI, e_neI, e_eqS, e_neS, e_add, e_sub, List.set_cons_zero, List.set_cons_succ, kTu0, kTu1, kTu2, kTu3, kTu4, kTu5, kLs0, kLs1, kLs2, kLs3, kLs4, kLs5, mM_, mM0_, sAsg_, sFor_, iRng_, iSeq_, h1, h2, Bool.false_eq_true, if_false, if_true] <;> rfl
    | true =>
      rw [edge (of_decide_eq_true h1) (of_decide_eq_true h2)]
      unfold WR15; simp only [bind_ok, bind_ex, of_some, rs_ok, rs_ex, then_nx, then_rt, then_ex, then_bk, then_ct, mV0, mVs, mC_, m2_, m1_, mB_, kB_bl, mB1_, mNil_, mCons_, f1L_, f2L_, mTup_, mLst_, mCall_, mNotT_, mAndT_, mOrT_, mIf_, mAndV_, mOrV_, mNotV_, kAndV_bl, kOrV_bl, kNotV_bl, mSl_, mPart_, kPart_, mNoPart_, sSeq_, sSet_, sRet_, sIf_, sExpr_, sNil_, sBreak_, sCont_, e_lt, e_ltD, e_le, e_gt, e_ge, e_eqI, e_neI, e_eqS, e_neS, e_add, e_sub, List.set_cons_zero, List.set_cons_succ, kTu0, kTu1, kTu2, kTu3, kTu4, kTu5, kLs0, kLs1, kLs2, kLs3, kLs4, kLs5, mM_, mM0_, sAsg_, sFor_, iRng_, iSeq_, h1, h2, optD, isn_n, Bool.false_eq_true, if_false, if_true] <;> rfl
omit ha hb hs
theorem wr16 {e : Bool} : WR16 [x0, some (.int a), some (.int b), e3, e4, e5, e6, e7, e8, some (.bl e), some (.bl e), e11] S = .rt (.bl true) S := by
  unfold WR16
  simp only [bind_ok, bind_ex, of_some, rs_ok, rs_ex, then_nx, then_rt, then_ex, then_bk, then_ct, mV0, mVs, mC_, m2_, m1_, mB_, kB_bl, mB1_, mNil_, mCons_, f1L_, f2L_, mTup_, mLst_, mCall_, mNotT_, mAndT_, mOrT_, mIf_, mAndV_, mOrV_, mNotV_, kAndV_bl, kOrV_bl, kNotV_bl, mSl_, mPart_, kPart_, mNoPart_, sSeq_, sSet_, sRet_, sIf_, sExpr_, sNil_, sBreak_, sCont_, e_lt, e_ltD, e_le, e_gt, e_ge, e_eqI, e_neI, e_eqS, e_neS, e_add, e_sub, List.set_cons_zero, List.set_cons_succ, kTu0, kTu1, kTu2, kTu3, kTu4, kTu5, kLs0, kLs1, kLs2, kLs3, kLs4, kLs5, mM_, mM0_, sAsg_, sFor_, iRng_, iSeq_, e_is, e_eqB, e_neB, tru1, tru2, if_true] <;> rfl
end
theorem law_whole_right {S : Sto} {j : Nat} {a b : Int} (h : PoolOk S j) (ha : 1 ≤ a ∧ a < 10000000000000) (hb : 1 ≤ b ∧ b < 10000000000000) : ∃ S' : Sto, M__law_whole_right [.obj j, .int a, .int b] S = .ok (.bl true) S' ∧ Stp j S S' := by
  obtain ⟨z, S1, r1, hz, t1⟩ := wr1 (a := a) (b := b) (e3 := none) (e4 := none) (e5 := none) (e6 := none) (e7 := none) (e8 := none) (e9 := none) (e10 := none) (e11 := none) h
  obtain ⟨s, S2, r2, hs, t2⟩ := wr2 (a := a) (b := b) (e4 := none) (e5 := none) (e6 := none) (e7 := none) (e8 := none) (e9 := none) (e10 := none) (e11 := none) t1.pool hz
  obtain ⟨lo, S3, r3, hl, t3⟩ := wr3 (b := b) (e3 := some (.int z)) (e5 := none) (e6 := none) (e7 := none) (e8 := none) (e9 := none) (e10 := none) (e11 := none) ha hs t2.pool
  obtain ⟨hi0, S4, r4, hh0, t4⟩ := wr4 (e3 := some (.int z)) (e5 := some (.int lo)) (e6 := none) (e7 := none) (e8 := none) (e9 := none) (e10 := none) (e11 := none) ha hb hs t3.pool
  obtain ⟨hi, S5, r5, hh, t5⟩ := wr5 (a := a) (b := b) (e3 := some (.int z)) (e4 := some (.int s)) (e7 := none) (e8 := none) (e9 := none) (e10 := none) (e11 := none) t4.pool hl hh0
  obtain ⟨X, r10⟩ := wr10 (S := S5) (x0 := some (.obj j)) (e3 := some (.int z)) (e4 := some (.int s)) (e7 := some (optD (betO a lo b hi))) (e9 := none) (e10 := none) (e11 := none) ha hb hl hh
  obtain ⟨Y, r11⟩ := wr11 (S := S5 ++ X) (x0 := some (.obj j)) (e3 := some (.int z)) (e4 := some (.int s)) (e7 := some (optD (betO a lo b hi))) (e9 := none) (e10 := none) (e11 := none) ha hb hl hh
  obtain ⟨Z, r13⟩ := wr13 (S := S5 ++ X ++ Y) (x0 := some (.obj j)) (e3 := some (.int z)) (e4 := some (.int s)) (e7 := some (optD (betO a lo b hi))) (e8 := some (.int (b * lo + a * hi))) (e9 := some (.bl (decide (decide (b * lo + a * hi ≤ 0) = decide (b * lo + a * hi + (a - 1) * (b - 1) ≤ 0))))) (e10 := none) (e11 := none) ha hb hl hh
  have st : Stp j S (S5 ++ X ++ Y ++ Z) := ((((t1.trans t2).trans t3).trans t4).trans t5).trans (by rw [List.append_assoc, List.append_assoc]; exact Stp.app t5.pool)
  refine ⟨S5 ++ X ++ Y ++ Z, ?_, st⟩
  unfold M__law_whole_right mFn
  rw [law_whole_right_eq]
  simp only [List.length_cons, List.length_nil, Nat.reduceAdd, if_true, List.map_cons, List.map_nil, List.replicate, List.cons_append, List.nil_append, Nat.reduceSub, Nat.sub_self]
  rw [sSeq_, r1, then_nx, sSeq_, r2, then_nx, sSeq_, r3, then_nx, sSeq_, r4, then_nx, sSeq_, r5, then_nx, sSeq_, wr6 ha hb hl hh, then_nx, sSeq_, wr7 ha hb hl hh, then_nx, sSeq_, wr8 ha hb hl hh, then_nx, sSeq_, wr9 ha hb hl hh, then_nx,
    sSeq_, r10, then_nx, sSeq_, r11, then_nx, sSeq_, wr12 ha hb, then_nx, sSeq_, r13, then_nx, sSeq_, wr14 ha hb hs, then_nx, sSeq_, wr15 ha hb hs, then_nx, wr16] <;> rfl
end K26

namespace K26
open PySem PySem.Spec L2 Mi
/-! ### one pair of terms -/
def WT1 : MS := (sSet 3 (mTup (mCons (mC (.str "name")) (mCons (mC (.str "x")) mNil))))
def WT2 : MS := (sSet 4 (mTup (mCons (mC (.str "read")) (mCons (mC (.str "a")) (mCons (mTup (mCons (mC (.int 1)) (mCons (mTup (mCons (mTup (mCons (mV 3) (mCons (mC (.int 1)) mNil))) mNil)) mNil))) mNil)))))
def WT3 : MS := (sSet 5 (mCall M__law_sum (mCons (m2 fSub (mCall M__law_pick (mCons (mV 0) (mCons (mC (.int 19)) mNil))) (mC (.int 9))) (mCons (mLst (mCons (mLst (mCons (m2 fSub (mCall M__law_pick (mCons (mV 0) (mCons (mC (.int 9)) mNil))) (mC (.int 4))) (mCons (mV 3) mNil))) (mCons (mLst (mCons (m2 fSub (mCall M__law_pick (mCons (mV 0) (mCons (mC (.int 7)) mNil))) (mC (.int 3))) (mCons (mV 4) mNil))) mNil))) mNil))))
def WT4 : MS := (sSet 6 (mCall M__law_sum (mCons (m2 fSub (mCall M__law_pick (mCons (mV 0) (mCons (mC (.int 19)) mNil))) (mC (.int 9))) (mCons (mLst (mCons (mLst (mCons (m2 fSub (mCall M__law_pick (mCons (mV 0) (mCons (mC (.int 9)) mNil))) (mC (.int 4))) (mCons (mV 3) mNil))) (mCons (mLst (mCons (m2 fSub (mCall M__law_pick (mCons (mV 0) (mCons (mC (.int 7)) mNil))) (mC (.int 3))) (mCons (mV 4) mNil))) mNil))) mNil))))
def WT5 : MS := (sIf (mB (m2 fEq (mCall M__law_pick (mCons (mV 0) (mCons (mC (.int 4)) mNil))) (mC (.int 3))))
  (sSet 6 (mCall M__law_plus (mCons (mTup (mCons (mC (.int 0)) (mCons (mTup mNil) mNil))) (mCons (mV 5) (mCons (m1 fNeg (mC (.int 1))) mNil)))))
  sNil)
def WT6 : MS := (sSet 7 (mCall M__law_plus (mCons (mCall M__law_plus (mCons (mTup (mCons (mC (.int 0)) (mCons (mTup mNil) mNil))) (mCons (mV 5) (mCons (mV 2) mNil)))) (mCons (mV 6) (mCons (mV 1) mNil)))))
def WT7 : MS := (sSet 8 (m2 fIx (mCall M__law_short (mCons (mTup (mCons (mC (.str "le")) (mCons (mV 7) mNil))) mNil)) (mC (.int 0))))
def WT8 : MS := (sSet 9 (m2 fIx (mCall M__law_short (mCons (mTup (mCons (mC (.str "le")) (mCons (mCall M__law_plus (mCons (mV 7) (mCons (mTup (mCons (m2 fMulA (m2 fSub (mV 1) (mC (.int 1))) (m2 fSub (mV 2) (mC (.int 1)))) (mCons (mTup mNil) mNil))) (mCons (mC (.int 1)) mNil)))) mNil))) mNil)) (mC (.int 0))))
def WT9 : MS := (sIf (mOrT (mB (m2 fNe (mCall M_real_row (mCons (mV 1) (mCons (mV 5) (mCons (mV 2) (mCons (mV 6) mNil))))) (mV 8))) (mB (m2 fNe (mCall M_dark_row (mCons (mV 1) (mCons (mV 5) (mCons (mV 2) (mCons (mV 6) mNil))))) (mV 9))))
  (sRet (mC (.bl false)))
  sNil)
def WT10 : MS := (sSet 10 (m2 fEq (mV 8) (mV 9)))
def WT11 : MS := (sIf (mB (m2 fEq (m2 fIx (m2 fIx (mV 8) (mC (.int 1))) (mC (.int 1))) (mTup mNil)))
  (sSet 10 (m2 fEq (m2 fLe (m2 fIx (m2 fIx (mV 8) (mC (.int 1))) (mC (.int 0))) (mC (.int 0))) (m2 fLe (m2 fIx (m2 fIx (mV 9) (mC (.int 1))) (mC (.int 0))) (mC (.int 0)))))
  sNil)
def WT12 : MS := (sSet 11 (mCall M_is_exact (mCons (mV 1) (mCons (mV 5) (mCons (mV 2) (mCons (mV 6) mNil))))))
def WT13 : MS := (sIf (mOrT (mB (m2 fNe (m2 fIs (mV 11) (mC (.bl true))) (mV 10))) (mB (m2 fEq (m2 fIs (mV 11) (mC (.bl false))) (mV 10))))
  (sRet (mC (.bl false)))
  sNil)
def WT14 : MS := (sFor (iRng (mCons (mC (.int 4)) mNil)) (gN 12)
  (sSeq (sSet 13 (mDisp ["x", "a"] (mCons (m2 fSub (mCall M__law_pick (mCons (mV 0) (mCons (mC (.int 21)) mNil))) (mC (.int 10))) (mCons (m2 fSub (mCall M__law_pick (mCons (mV 0) (mCons (mC (.int 21)) mNil))) (mC (.int 10))) mNil))))
  (sSeq (sSet 14 (mCall M_whole_between (mCons (mV 1) (mCons (mCall M__law_value (mCons (mV 5) (mCons (mV 13) mNil))) (mCons (mV 2) (mCons (mCall M__law_value (mCons (mV 6) (mCons (mV 13) mNil))) mNil))))))
  (sSeq (sIf (mAndT (mB (m2 fIsN (mV 14) (mC .non))) (mB (m2 fGt (mCall M__law_value (mCons (m2 fIx (mV 8) (mC (.int 1))) (mCons (mV 13) mNil))) (mC (.int 0)))))
  (sRet (mC (.bl false)))
  sNil)
  (sSeq (sIf (mAndT (mB (m2 fIs (mV 14) (mC .non))) (mB (m2 fLe (mCall M__law_value (mCons (m2 fIx (mV 9) (mC (.int 1))) (mCons (mV 13) mNil))) (mC (.int 0)))))
  (sRet (mC (.bl false)))
  sNil)
  (sIf (mNotT (mB (mCall M__law_same (mCons (mV 14) (mCons (mCall M__law_between (mCons (mV 1) (mCons (mCall M__law_value (mCons (mV 5) (mCons (mV 13) mNil))) (mCons (mV 2) (mCons (mCall M__law_value (mCons (mV 6) (mCons (mV 13) mNil))) mNil))))) mNil)))))
  (sRet (mC (.bl false)))
  sNil))))))
def WT15 : MS := (sFor (iSeq (mLst (mCons (mTup (mCons (mC (.str "le")) (mCons (mV 7) mNil))) (mCons (mTup (mCons (mC (.str "eq")) (mCons (mV 7) mNil))) (mCons (mTup (mCons (mC (.str "eq")) (mCons (mV 5) mNil))) (mCons (mTup (mCons (mC (.str "le")) (mCons (mCall M__law_plus (mCons (mV 5) (mCons (mV 6) (mCons (mC (.int 3)) mNil)))) mNil))) mNil)))))) (gN 15)
  (sIf (mOrT (mB (m2 fNe (mCall M_shortened (mCons (mV 15) mNil)) (mCall M__law_short (mCons (mV 15) mNil)))) (mB (m2 fIsN (mCall M_is_row (mCons (mV 15) mNil)) (mC (.bl true)))))
  (sRet (mC (.bl false)))
  sNil))
def WT16 : MS := (sRet (mCall M__law_refusals (mCons (mV 0) (mCons (mV 1) (mCons (mV 5) (mCons (mV 2) (mCons (mV 6) mNil)))))))
theorem law_terms_right_eq : B__law_terms_right = sSeq WT1 (sSeq WT2 (sSeq WT3 (sSeq WT4 (sSeq WT5 (sSeq WT6 (sSeq WT7 (sSeq WT8 (sSeq WT9 (sSeq WT10 (sSeq WT11 (sSeq WT12 (sSeq WT13 (sSeq WT14 (sSeq WT15 WT16)))))))))))))) := (rfl)

structure Sl (c p q : Int) : Prop where
  c : c.natAbs ≤ 9
  p : p.natAbs ≤ 9
  q : q.natAbs ≤ 9
theorem Sl.sm {c p q : Int} (h : Sl c p q) : Sm c ∧ Sm p ∧ Sm q := ⟨sm_of h.c (by decide), sm_of h.p (by decide), sm_of h.q (by decide)⟩
section
variable {S : Sto} {j : Nat} {x1 x2 e3 e4 e5 e6 e7 e8 e9 e10 e11 e12 e13 e14 e15 : Option D}
theorem wt1 : WT1 [some (.obj j), x1, x2, e3, e4, e5, e6, e7, e8, e9, e10, e11, e12, e13, e14, e15] S = .nx [some (.obj j), x1, x2, some atX, e4, e5, e6, e7, e8, e9, e10, e11, e12, e13, e14, e15] S := by
  unfold WT1
  simp only [bind_ok, bind_ex, of_some, rs_ok, rs_ex, then_nx, then_rt, then_ex, then_bk, then_ct, mV0, mVs, mC_, m2_, m1_, mB_, kB_bl, mB1_, mNil_, mCons_, f1L_, f2L_, mTup_, mLst_, mCall_, mNotT_, mAndT_, mOrT_, mIf_, mAndV_, mOrV_, mNotV_, kAndV_bl, kOrV_bl, kNotV_bl, mSl_, mPart_, kPart_, mNoPart_, sSeq_, sSet_, sRet_, sIf_, sExpr_, sNil_, sBreak_, sCont_, e_lt, e_ltD, e_le, e_gt, e_ge, e_eqI, e_neI, e_eqS, e_neS, e_add, e_sub, List.set_cons_zero, List.set_cons_succ, kTu0, kTu1, kTu2, kTu3, kTu4, kTu5, kLs0, kLs1, kLs2, kLs3, kLs4, kLs5, mM_, mM0_, sAsg_, sFor_, iRng_, iSeq_] <;> rfl
theorem wt2 : WT2 [some (.obj j), x1, x2, some atX, e4, e5, e6, e7, e8, e9, e10, e11, e12, e13, e14, e15] S = .nx [some (.obj j), x1, x2, some atX, some atY, e5, e6, e7, e8, e9, e10, e11, e12, e13, e14, e15] S := by
  unfold WT2
  simp only [bind_ok, bind_ex, of_some, rs_ok, rs_ex, then_nx, then_rt, then_ex, then_bk, then_ct, mV0, mVs, mC_, m2_, m1_, mB_, kB_bl, mB1_, mNil_, mCons_, f1L_, f2L_, mTup_, mLst_, mCall_, mNotT_, mAndT_, mOrT_, mIf_, mAndV_, mOrV_, mNotV_, kAndV_bl, kOrV_bl, kNotV_bl, mSl_, mPart_, kPart_, mNoPart_, sSeq_, sSet_, sRet_, sIf_, sExpr_, sNil_, sBreak_, sCont_, e_lt, e_ltD, e_le, e_gt, e_ge, e_eqI, e_neI, e_eqS, e_neS, e_add, e_sub, List.set_cons_zero, List.set_cons_succ, kTu0, kTu1, kTu2, kTu3, kTu4, kTu5, kLs0, kLs1, kLs2, kLs3, kLs4, kLs5, mM_, mM0_, sAsg_, sFor_, iRng_, iSeq_] <;> rfl
theorem wt_draw (h : PoolOk S j) : ∃ (c p q : Int) (S1 S2 S3 X : Sto) (w u v : Nat), M__law_pick [.obj j, .int 19] S = .ok (.int (w : Int)) S1 ∧ M__law_pick [.obj j, .int 9] S1 = .ok (.int (u : Int)) S2 ∧
    M__law_pick [.obj j, .int 7] (S2 ++ [.lst [.int p, atX]]) = .ok (.int (v : Int)) S3 ∧ M__law_sum [.int c, .obj (S3 ++ [MO.lst [.int q, atY]]).length] (S3 ++ [MO.lst [.int q, atY]] ++ [.lst [.obj S2.length, .obj S3.length]]) = .ok (tm c p q) (S3 ++ [MO.lst [.int q, atY]] ++ [.lst [.obj S2.length, .obj S3.length]] ++ X) ∧
    (w : Int) - 9 = c ∧ (u : Int) - 4 = p ∧ (v : Int) - 3 = q ∧ Sl c p q ∧ Stp j S (S3 ++ [MO.lst [.int q, atY]] ++ [.lst [.obj S2.length, .obj S3.length]] ++ X) := by
  obtain ⟨w, S1, p1, q1, s1, l1⟩ := pk h 19 19 rfl (by decide)
  obtain ⟨u, S2, p2, q2, s2, l2⟩ := pk s1.pool 9 9 rfl (by decide)
  obtain ⟨v, S3, p3, q3, s3, l3⟩ := pk (S := S2 ++ [.lst [.int ((u : Int) - 4), atX]]) (pool_app s2.pool) 7 7 rfl (by decide)
  have hsl : Sl ((w : Int) - 9) ((u : Int) - 4) ((v : Int) - 3) := ⟨by omega, by omega, by omega⟩
  have g0 := Stp.list s2.pool.lt s3
  obtain ⟨X, hx⟩ := law_sum (S := S3 ++ [.lst [.int ((v : Int) - 3), atY]] ++ [.lst [.obj S2.length, .obj S3.length]]) (j := (S3 ++ [MO.lst [.int ((v : Int) - 3), atY]]).length) (j0 := S2.length) (j1 := S3.length) (n := (w : Int) - 9) last0 (get_app (get_app g0)) (get_app last0) hsl.sm.2.1 hsl.sm.2.2
  refine ⟨_, _, _, S1, S2, S3, X, w, u, v, p1, p2, p3, hx, rfl, rfl, rfl, hsl, ?_⟩
  have t : Stp j S S3 := ((s1.trans s2).trans (Stp.app s2.pool)).trans s3
  refine t.trans ?_
  rw [List.append_assoc, List.append_assoc]
  exact Stp.app t.pool
theorem wt3 (h : PoolOk S j) : ∃ (c p q : Int) (S' : Sto), WT3 [some (.obj j), x1, x2, some atX, some atY, e5, e6, e7, e8, e9, e10, e11, e12, e13, e14, e15] S = .nx [some (.obj j), x1, x2, some atX, some atY, some (tm c p q), e6, e7, e8, e9, e10, e11, e12, e13, e14, e15] S' ∧ Sl c p q ∧ Stp j S S' := by
  obtain ⟨c, p, q, S1, S2, S3, X, w, u, v, p1, p2, p3, hx, h1, h2, h3, hsl, t⟩ := wt_draw h
  refine ⟨c, p, q, _, ?_, hsl, t⟩
  unfold WT3
  simp only [bind_ok, bind_ex, of_some, rs_ok, rs_ex, then_nx, then_rt, then_ex, then_bk, then_ct, mV0, mVs, mC_, m2_, m1_, mB_, kB_bl, mB1_, mNil_, mCons_, f1L_, f2L_, mTup_, mLst_, mCall_, mNotT_, mAndT_, mOrT_, mIf_, mAndV_, mOrV_, mNotV_, kAndV_bl, kOrV_bl, kNotV_bl, mSl_, mPart_, kPart_, mNoPart_, sSeq_, sSet_, sRet_, sIf_, sExpr_, sNil_, sBreak_, sCont_, e_lt, e_ltD, e_le, e_gt, e_ge, e_eqI, e_neI, e_eqS, e_neS, e_add, e_sub, List.set_cons_zero, List.set_cons_succ, kTu0, kTu1, kTu2, kTu3, kTu4, kTu5, kLs0, kLs1, kLs2, kLs3, kLs4, kLs5, mM_, mM0_, sAsg_, sFor_, iRng_, iSeq_, p1, h1, p2, h2, p3, h3, hx] <;> rfl
theorem wt4 (h : PoolOk S j) : ∃ (c p q : Int) (S' : Sto), WT4 [some (.obj j), x1, x2, some atX, some atY, e5, e6, e7, e8, e9, e10, e11, e12, e13, e14, e15] S = .nx [some (.obj j), x1, x2, some atX, some atY, e5, some (tm c p q), e7, e8, e9, e10, e11, e12, e13, e14, e15] S' ∧ Sl c p q ∧ Stp j S S' := by
  obtain ⟨c, p, q, S1, S2, S3, X, w, u, v, p1, p2, p3, hx, h1, h2, h3, hsl, t⟩ := wt_draw h
  refine ⟨c, p, q, _, ?_, hsl, t⟩
  unfold WT4
  simp only [bind_ok, bind_ex, of_some, rs_ok, rs_ex, then_nx, then_rt, then_ex, then_bk, then_ct, mV0, mVs, mC_, m2_, m1_, mB_, kB_bl, mB1_, mNil_, mCons_, f1L_, f2L_, mTup_, mLst_, mCall_, mNotT_, mAndT_, mOrT_, mIf_, mAndV_, mOrV_, mNotV_, kAndV_bl, kOrV_bl, kNotV_bl, mSl_, mPart_, kPart_, mNoPart_, sSeq_, sSet_, sRet_, sIf_, sExpr_, sNil_, sBreak_, sCont_, e_lt, e_ltD, e_le, e_gt, e_ge, e_eqI, e_neI, e_eqS, e_neS, e_add, e_sub, List.set_cons_zero, List.set_cons_succ, kTu0, kTu1, kTu2, kTu3, kTu4, kTu5, kLs0, kLs1, kLs2, kLs3, kLs4, kLs5, mM_, mM0_, sAsg_, sFor_, iRng_, iSeq_, p1, h1, p2, h2, p3, h3, hx] <;> rfl
theorem wt5 {lc lp lq hc hp hq : Int} (h : PoolOk S j) (hl : Sl lc lp lq) (hh : Sl hc hp hq) : ∃ (c p q : Int) (S' : Sto), WT5 [some (.obj j), x1, x2, e3, e4, some (tm lc lp lq), some (tm hc hp hq), e7, e8, e9, e10, e11, e12, e13, e14, e15] S = .nx [some (.obj j), x1, x2, e3, e4, some (tm lc lp lq), some (tm c p q), e7, e8, e9, e10, e11, e12, e13, e14, e15] S' ∧ Sl c p q ∧ Stp j S S' := by
  obtain ⟨w, S1, p1, q1, s1, l1⟩ := pk h 4 4 rfl (by decide)
  obtain ⟨sc, sp, sq⟩ := hl.sm
  by_cases hw : w = 3
  · have d1 : decide ((w : Int) = 3) = true := decide_eq_true (by omega)
    obtain ⟨X, hx⟩ := law_plus (S := S1) (c := 0) (p := 0) (q := 0) (c' := lc) (k := -1) (by decide) sp sq sc
    refine ⟨0 + -1 * lc, 0 + -1 * lp, 0 + -1 * lq, S1 ++ X, ?_, ?_, s1.trans (Stp.app s1.pool)⟩
    · unfold WT5
      simp only [bind_ok, bind_ex, of_some, rs_ok, rs_ex, then_nx, then_rt, then_ex, then_bk, then_ct, mV0, mVs, mC_, m2_, m1_, mB_, kB_bl, mB1_, mNil_, mCons_, f1L_, f2L_, mTup_, mLst_, mCall_, mNotT_, mAndT_, mOrT_, mIf_, mAndV_, mOrV_, mNotV_, kAndV_bl, kOrV_bl, kNotV_bl, mSl_, mPart_, kPart_, mNoPart_, sSeq_, sSet_, sRet_, sIf_, sExpr_, sNil_, sBreak_, sCont_, e_lt, e_ltD, e_le, e_gt, e_ge, e_eqI, e_neI, e_eqS, e_neS, e_add, e_sub, List.set_cons_zero, List.set_cons_succ, kTu0, kTu1, kTu2, kTu3, kTu4, kTu5, kLs0, kLs1, kLs2, kLs3, kLs4, kLs5, mM_, mM0_, sAsg_, sFor_, iRng_, iSeq_, p1, d1, if_true, e_neg, tmz, hx] <;> rfl
    · have := hl.c
      have := hl.p
      have := hl.q
      exact ⟨by omega, by omega, by omega⟩
  · have d1 : decide ((w : Int) = 3) = false := decide_eq_false (by omega)
    refine ⟨hc, hp, hq, S1, ?_, hh, s1⟩
    unfold WT5
    simp only [bind_ok, bind_ex, of_some, rs_ok, rs_ex, then_nx, then_rt, then_ex, then_bk, then_ct, mV0, mVs, mC_, m2_, m1_, mB_, kB_bl, mB1_, mNil_, mCons_, f1L_, f2L_, mTup_, mLst_, mCall_, mNotT_, mAndT_, mOrT_, mIf_, mAndV_, mOrV_, mNotV_, kAndV_bl, kOrV_bl, kNotV_bl, mSl_, mPart_, kPart_, mNoPart_, sSeq_, sSet_, sRet_, sIf_, sExpr_, sNil_, sBreak_, sCont_, e_lt, e_ltD, e_le, e_gt, e_ge, e_eqI, e_neI, e_eqS, e_neS, e_add, e_sub, List.set_cons_zero, List.set_cons_succ, kTu0, kTu1, kTu2, kTu3, kTu4, kTu5, kLs0, kLs1, kLs2, kLs3, kLs4, kLs5, mM_, mM0_, sAsg_, sFor_, iRng_, iSeq_, p1, d1, Bool.false_eq_true, if_false] <;> rfl
end
section
variable {S : Sto} {a b lc lp lq hc hp hq : Int} (ha : 1 ≤ a ∧ a < 10000000000000) (hb : 1 ≤ b ∧ b < 10000000000000) (hl : Sl lc lp lq) (hh : Sl hc hp hq)
include ha hb
theorem sh_bd {x y : Int} (hx : x.natAbs ≤ 9) (hy : y.natAbs ≤ 9) : (b * x + a * y).natAbs ≤ 200000000000000 := by
  have h1 : (b * x).natAbs ≤ 90000000000000 := mul_bd (X := 10000000000000) (by omega) hx (by decide)
  have h2 : (a * y).natAbs ≤ 90000000000000 := mul_bd (X := 10000000000000) (by omega) hy (by decide)
  omega
include hl hh
theorem pr_t : Pr a lc lp lq b hc hp hq := by
  have h1 := sh_bd ha hb hl.c hh.c
  have h2 := sh_bd ha hb hl.p hh.p
  have h3 := sh_bd ha hb hl.q hh.q
  have h4 := dd_bd ha hb
  obtain ⟨sa, sb⟩ := sab ha hb
  obtain ⟨c1, c2, c3⟩ := hl.sm
  obtain ⟨k1, k2, k3⟩ := hh.sm
  have h5 : (b * lc + a * hc + (a - 1) * (b - 1)).natAbs ≤ 300000000000000000000000000 := by omega
  exact ⟨ha.1, hb.1, sa, sb, c1, c2, c3, k1, k2, k3, sm_of h1 (by decide), sm_of h5 (by decide), sm_of h2 (by decide), sm_of h3 (by decide)⟩
end
end K26

namespace K26
open PySem PySem.Spec L2 Mi
theorem eqv_nil (r : Cf) : PyData.eqv (.tuple (r.map pairP)) (.tuple []) = decide (r = []) := by
  rw [eqv_tup]
  cases r with
  | nil => simp [PyData.eqvAll]
  | cons z r => simp [PyData.eqvAll]
theorem rw_nil {S : Sto} {r : Cf} (hl : r.length ≤ 100) : fEq (rwC r) (.tup []) S = some (.bl (decide (r = [])), S) := by
  have h2 : toP S 1000000 (.tup []) = some (.tuple []) := toP_tup (n := 999999) rfl
  have h := eqD_of (toP_rwC (S := S) r 1000000 (by omega)) h2 (shp_ok (shp_rwC r) (by omega)) (shp_ok (shp_tup (k := 0) fun p hp => by cases hp) (by omega))
  rw [eqv_nil] at h
  exact (eq_tup h).1
theorem tm1' {S : Sto} {c p q : Int} : fIx (tm c p q) (.int 1) S = some (rwC (cf p q), S) := tm1
section
variable {S : Sto} {a b lc lp lq hc hp hq r P Q d : Int} {x0 e3 e4 e7 e8 e9 e10 e11 e12 e13 e14 e15 : Option D} (ha : 1 ≤ a ∧ a < 10000000000000) (hb : 1 ≤ b ∧ b < 10000000000000) (hl : Sl lc lp lq) (hh : Sl hc hp hq)
  (er : b * lc + a * hc = r) (eP : b * lp + a * hp = P) (eQ : b * lq + a * hq = Q) (ed : (a - 1) * (b - 1) = d)
include ha hb hl hh er eP eQ
theorem wt6 : ∃ X : Sto, WT6 [x0, some (.int a), some (.int b), e3, e4, some (tm lc lp lq), some (tm hc hp hq), e7, e8, e9, e10, e11, e12, e13, e14, e15] S = .nx [x0, some (.int a), some (.int b), e3, e4, some (tm lc lp lq), some (tm hc hp hq), some (tm r P Q), e8, e9, e10, e11, e12, e13, e14, e15] (S ++ X) := by
  have h := pr_t ha hb hl hh
  obtain ⟨X, h1⟩ := law_plus (S := S) (c := 0) (p := 0) (q := 0) h.sb h.l1 h.l2 h.l0
  obtain ⟨Y, h2⟩ := law_plus (S := S ++ X) (c := b * lc) (p := b * lp) (q := b * lq) h.sa h.h1 h.h2 h.h0
  rw [Int.zero_add, Int.zero_add, Int.zero_add] at h1
  rw [er, eP, eQ] at h2
  refine ⟨X ++ Y, ?_⟩
  rw [← List.append_assoc]
  unfold WT6
  simp only [bind_ok, bind_ex, of_some, rs_ok, rs_ex, then_nx, then_rt, then_ex, then_bk, then_ct, mV0, mVs, mC_, m2_, m1_, mB_, kB_bl, mB1_, mNil_, mCons_, f1L_, f2L_, mTup_, mLst_, mCall_, mNotT_, mAndT_, mOrT_, mIf_, mAndV_, mOrV_, mNotV_, kAndV_bl, kOrV_bl, kNotV_bl, mSl_, mPart_, kPart_, mNoPart_, sSeq_, sSet_, sRet_, sIf_, sExpr_, sNil_, sBreak_, sCont_, e_lt, e_ltD, e_le, e_gt, e_ge, e_eqI, e_neI, e_eqS, e_neS, e_add, e_sub, List.set_cons_zero, List.set_cons_succ, kTu0, kTu1, kTu2, kTu3, kTu4, kTu5, kLs0, kLs1, kLs2, kLs3, kLs4, kLs5, mM_, mM0_, sAsg_, sFor_, iRng_, iSeq_, tmz, h1, h2] <;> rfl
theorem wt7 : ∃ X : Sto, WT7 [x0, some (.int a), some (.int b), e3, e4, some (tm lc lp lq), some (tm hc hp hq), some (tm r P Q), e8, e9, e10, e11, e12, e13, e14, e15] S = .nx [x0, some (.int a), some (.int b), e3, e4, some (tm lc lp lq), some (tm hc hp hq), some (tm r P Q), some (shF "le" r P Q), e9, e10, e11, e12, e13, e14, e15] (S ++ X) := by
  have h := pr_t ha hb hl hh
  have h1 := h.r
  have h2 := h.p
  have h3 := h.q
  rw [er] at h1
  rw [eP] at h2
  rw [eQ] at h3
  obtain ⟨X, hx⟩ := law_short (S := S) (w := "le") h1 h2 h3
  refine ⟨X, ?_⟩
  unfold WT7
  simp only [bind_ok, bind_ex, of_some, rs_ok, rs_ex, then_nx, then_rt, then_ex, then_bk, then_ct, mV0, mVs, mC_, m2_, m1_, mB_, kB_bl, mB1_, mNil_, mCons_, f1L_, f2L_, mTup_, mLst_, mCall_, mNotT_, mAndT_, mOrT_, mIf_, mAndV_, mOrV_, mNotV_, kAndV_bl, kOrV_bl, kNotV_bl, mSl_, mPart_, kPart_, mNoPart_, sSeq_, sSet_, sRet_, sIf_, sExpr_, sNil_, sBreak_, sCont_, e_lt, e_ltD, e_le, e_gt, e_ge, e_eqI, e_neI, e_eqS, e_neS, e_add, e_sub, List.set_cons_zero, List.set_cons_succ, kTu0, kTu1, kTu2, kTu3, kTu4, kTu5, kLs0, kLs1, kLs2, kLs3, kLs4, kLs5, mM_, mM0_, sAsg_, sFor_, iRng_, iSeq_, facz, hx, sh0] <;> rfl
include ed
theorem wt8 : ∃ X : Sto, WT8 [x0, some (.int a), some (.int b), e3, e4, some (tm lc lp lq), some (tm hc hp hq), some (tm r P Q), e8, e9, e10, e11, e12, e13, e14, e15] S = .nx [x0, some (.int a), some (.int b), e3, e4, some (tm lc lp lq), some (tm hc hp hq), some (tm r P Q), e8, some (shF "le" (r + d) P Q), e10, e11, e12, e13, e14, e15] (S ++ X) := by
  have h := pr_t ha hb hl hh
  have h1 := h.d
  have h2 := h.p
  have h3 := h.q
  rw [er, ed] at h1
  rw [eP] at h2
  rw [eQ] at h3
  have hd := dd_bd ha hb
  have de : ∀ S : Sto, _ := fun S => dd_e (S := S) ha hb
  rw [ed] at hd
  simp only [ed] at de
  obtain ⟨X, hx⟩ := law_plus (S := S) (c := r) (p := P) (q := Q) sm1 sm0 sm0 (sm_of hd (by decide))
  rw [Int.one_mul, Int.one_mul, Int.add_zero, Int.add_zero] at hx
  obtain ⟨Y, hy⟩ := law_short (S := S ++ X) (w := "le") h1 h2 h3
  refine ⟨X ++ Y, ?_⟩
  rw [← List.append_assoc]
  unfold WT8
  simp only [bind_ok, bind_ex, of_some, rs_ok, rs_ex, then_nx, then_rt, then_ex, then_bk, then_ct, mV0, mVs, mC_, m2_, m1_, mB_, kB_bl, mB1_, mNil_, mCons_, f1L_, f2L_, mTup_, mLst_, mCall_, mNotT_, mAndT_, mOrT_, mIf_, mAndV_, mOrV_, mNotV_, kAndV_bl, kOrV_bl, kNotV_bl, mSl_, mPart_, kPart_, mNoPart_, sSeq_, sSet_, sRet_, sIf_, sExpr_, sNil_, sBreak_, sCont_, e_lt, e_ltD, e_le, e_gt, e_ge, e_eqI, e_neI, e_eqS, e_neS, e_add, e_sub, List.set_cons_zero, List.set_cons_succ, kTu0, kTu1, kTu2, kTu3, kTu4, kTu5, kLs0, kLs1, kLs2, kLs3, kLs4, kLs5, mM_, mM0_, sAsg_, sFor_, iRng_, iSeq_, tmz, de, hx, facz, hy, sh0] <;> rfl
theorem wt9 : ∃ X : Sto, WT9 [x0, some (.int a), some (.int b), e3, e4, some (tm lc lp lq), some (tm hc hp hq), e7, some (shF "le" r P Q), some (shF "le" (r + d) P Q), e10, e11, e12, e13, e14, e15] S = .nx [x0, some (.int a), some (.int b), e3, e4, some (tm lc lp lq), some (tm hc hp hq), e7, some (shF "le" r P Q), some (shF "le" (r + d) P Q), e10, e11, e12, e13, e14, e15] (S ++ X) := by
  have h := pr_t ha hb hl hh
  obtain ⟨X, hx⟩ := real_row (S := S) h
  obtain ⟨Y, hy⟩ := dark_row (S := S ++ X) h
  rw [er, eP, eQ, shF_le] at hx
  rw [er, eP, eQ, ed, shF_le] at hy
  refine ⟨X ++ Y, ?_⟩
  rw [← List.append_assoc, shF_le, shF_le]
  unfold WT9
  simp only [bind_ok, bind_ex, of_some, rs_ok, rs_ex, then_nx, then_rt, then_ex, then_bk, then_ct, mV0, mVs, mC_, m2_, m1_, mB_, kB_bl, mB1_, mNil_, mCons_, f1L_, f2L_, mTup_, mLst_, mCall_, mNotT_, mAndT_, mOrT_, mIf_, mAndV_, mOrV_, mNotV_, kAndV_bl, kOrV_bl, kNotV_bl, mSl_, mPart_, kPart_, mNoPart_, sSeq_, sSet_, sRet_, sIf_, sExpr_, sNil_, sBreak_, sCont_, e_lt, e_ltD, e_le, e_gt, e_ge, e_eqI, e_neI, e_eqS, e_neS, e_add, e_sub, List.set_cons_zero, List.set_cons_succ, kTu0, kTu1, kTu2, kTu3, kTu4, kTu5, kLs0, kLs1, kLs2, kLs3, kLs4, kLs5, mM_, mM0_, sAsg_, sFor_, iRng_, iSeq_, hx, hy, fac_ne okLe, Bool.false_eq_true, if_false] <;> rfl
theorem wt12 : ∃ X : Sto, WT12 [x0, some (.int a), some (.int b), e3, e4, some (tm lc lp lq), some (tm hc hp hq), e7, e8, e9, e10, e11, e12, e13, e14, e15] S = .nx [x0, some (.int a), some (.int b), e3, e4, some (tm lc lp lq), some (tm hc hp hq), e7, e8, e9, e10, some (.bl (exB r (r + d) P Q)), e12, e13, e14, e15] (S ++ X) := by
  have h := pr_t ha hb hl hh
  obtain ⟨X, hx⟩ := is_exact (S := S) h
  rw [er, eP, eQ, ed] at hx
  refine ⟨X, ?_⟩
  unfold WT12
  simp only [bind_ok, bind_ex, of_some, rs_ok, rs_ex, then_nx, then_rt, then_ex, then_bk, then_ct, mV0, mVs, mC_, m2_, m1_, mB_, kB_bl, mB1_, mNil_, mCons_, f1L_, f2L_, mTup_, mLst_, mCall_, mNotT_, mAndT_, mOrT_, mIf_, mAndV_, mOrV_, mNotV_, kAndV_bl, kOrV_bl, kNotV_bl, mSl_, mPart_, kPart_, mNoPart_, sSeq_, sSet_, sRet_, sIf_, sExpr_, sNil_, sBreak_, sCont_, e_lt, e_ltD, e_le, e_gt, e_ge, e_eqI, e_neI, e_eqS, e_neS, e_add, e_sub, List.set_cons_zero, List.set_cons_succ, kTu0, kTu1, kTu2, kTu3, kTu4, kTu5, kLs0, kLs1, kLs2, kLs3, kLs4, kLs5, mM_, mM0_, sAsg_, sFor_, iRng_, iSeq_, hx] <;> rfl
end
section
variable {S : Sto} {r d P Q : Int} {x0 x1 x2 e3 e4 e5 e6 e7 e8 e9 e10 e11 e12 e13 e14 e15 : Option D}
theorem wt10_11 : (sSeq WT10 WT11) [x0, x1, x2, e3, e4, e5, e6, e7, some (shF "le" r P Q), some (shF "le" d P Q), e10, e11, e12, e13, e14, e15] S = .nx [x0, x1, x2, e3, e4, e5, e6, e7, some (shF "le" r P Q), some (shF "le" d P Q), some (.bl (exB r d P Q)), e11, e12, e13, e14, e15] S := by
  have hn := sh_nil P Q
  have hr := fun S => rw_nil (S := S) (r := cf (P / gD P Q) (Q / gD P Q)) (by have := cf_len (P / gD P Q) (Q / gD P Q); omega)
  rw [shF_le, shF_le]
  unfold exB
  by_cases h0 : gD P Q = 0
  · rw [if_pos h0]
    rw [decide_eq_true (hn.mpr h0)] at hr
    unfold WT10 WT11
    simp only [bind_ok, bind_ex, of_some, rs_ok, rs_ex, then_nx, then_rt, then_ex, then_bk, then_ct, mV0, mVs, mC_, m2_, m1_, mB_, kB_bl, mB1_, mNil_, mCons_, f1L_, f2L_, mTup_, mLst_, mCall_, mNotT_, mAndT_, mOrT_, mIf_, mAndV_, mOrV_, mNotV_, kAndV_bl, kOrV_bl, kNotV_bl, mSl_, mPart_, kPart_, mNoPart_, sSeq_, sSet_, sRet_, sIf_, sExpr_, sNil_, sBreak_, sCont_, e_lt, e_ltD, e_le, e_gt, e_ge, e_eqI, e_neI, e_eqS, e_neS, e_add, e_sub, List.set_cons_zero, List.set_cons_succ, kTu0, kTu1, kTu2, kTu3, kTu4, kTu5, kLs0, kLs1, kLs2, kLs3, kLs4, kLs5, mM_, mM0_, sAsg_, sFor_, iRng_, iSeq_, fac_eq, fac1, tm1, tm0, hr, if_true, e_eqB] <;> rfl
  · rw [if_neg h0]
    rw [decide_eq_false fun z => h0 (hn.mp z)] at hr
    unfold WT10 WT11
    simp only [bind_ok, bind_ex, of_some, rs_ok, rs_ex, then_nx, then_rt, then_ex, then_bk, then_ct, mV0, mVs, mC_, m2_, m1_, mB_, kB_bl, mB1_, mNil_, mCons_, f1L_, f2L_, mTup_, mLst_, mCall_, mNotT_, mAndT_, mOrT_, mIf_, mAndV_, mOrV_, mNotV_, kAndV_bl, kOrV_bl, kNotV_bl, mSl_, mPart_, kPart_, mNoPart_, sSeq_, sSet_, sRet_, sIf_, sExpr_, sNil_, sBreak_, sCont_, e_lt, e_ltD, e_le, e_gt, e_ge, e_eqI, e_neI, e_eqS, e_neS, e_add, e_sub, List.set_cons_zero, List.set_cons_succ, kTu0, kTu1, kTu2, kTu3, kTu4, kTu5, kLs0, kLs1, kLs2, kLs3, kLs4, kLs5, mM_, mM0_, sAsg_, sFor_, iRng_, iSeq_, fac_eq, fac1, tm1, tm0, hr, Bool.false_eq_true, if_false] <;> rfl
theorem wt13 {e : Bool} : WT13 [x0, x1, x2, e3, e4, e5, e6, e7, e8, e9, some (.bl e), some (.bl e), e12, e13, e14, e15] S = .nx [x0, x1, x2, e3, e4, e5, e6, e7, e8, e9, some (.bl e), some (.bl e), e12, e13, e14, e15] S := by
  have t1 : (!decide (decide (e = true) = e)) = false := by cases e <;> rfl
  have t2 : decide (decide (e = false) = e) = false := by cases e <;> rfl
  unfold WT13
  simp only [bind_ok, bind_ex, of_some, rs_ok, rs_ex, then_nx, then_rt, then_ex, then_bk, then_ct, mV0, mVs, mC_, m2_, m1_, mB_, kB_bl, mB1_, mNil_, mCons_, f1L_, f2L_, mTup_, mLst_, mCall_, mNotT_, mAndT_, mOrT_, mIf_, mAndV_, mOrV_, mNotV_, kAndV_bl, kOrV_bl, kNotV_bl, mSl_, mPart_, kPart_, mNoPart_, sSeq_, sSet_, sRet_, sIf_, sExpr_, sNil_, sBreak_, sCont_, e_lt, e_ltD, e_le, e_gt, e_ge, e_eqI, e_neI, e_eqS, e_neS, e_add, e_sub, List.set_cons_zero, List.set_cons_succ, kTu0, kTu1, kTu2, kTu3, kTu4, kTu5, kLs0, kLs1, kLs2, kLs3, kLs4, kLs5, mM_, mM0_, sAsg_, sFor_, iRng_, iSeq_, e_is, e_neB, e_eqB, t1, t2, Bool.false_eq_true, if_false] <;> rfl
end
end K26

namespace K26
open PySem PySem.Spec L2 Mi
/-! ### at four states -/
def TT1 : MS := (sSet 13 (mDisp ["x", "a"] (mCons (m2 fSub (mCall M__law_pick (mCons (mV 0) (mCons (mC (.int 21)) mNil))) (mC (.int 10))) (mCons (m2 fSub (mCall M__law_pick (mCons (mV 0) (mCons (mC (.int 21)) mNil))) (mC (.int 10))) mNil))))
def TT2 : MS := (sSet 14 (mCall M_whole_between (mCons (mV 1) (mCons (mCall M__law_value (mCons (mV 5) (mCons (mV 13) mNil))) (mCons (mV 2) (mCons (mCall M__law_value (mCons (mV 6) (mCons (mV 13) mNil))) mNil))))))
def TT3 : MS := (sIf (mAndT (mB (m2 fIsN (mV 14) (mC .non))) (mB (m2 fGt (mCall M__law_value (mCons (m2 fIx (mV 8) (mC (.int 1))) (mCons (mV 13) mNil))) (mC (.int 0)))))
  (sRet (mC (.bl false)))
  sNil)
def TT4 : MS := (sIf (mAndT (mB (m2 fIs (mV 14) (mC .non))) (mB (m2 fLe (mCall M__law_value (mCons (m2 fIx (mV 9) (mC (.int 1))) (mCons (mV 13) mNil))) (mC (.int 0)))))
  (sRet (mC (.bl false)))
  sNil)
def TT5 : MS := (sIf (mNotT (mB (mCall M__law_same (mCons (mV 14) (mCons (mCall M__law_between (mCons (mV 1) (mCons (mCall M__law_value (mCons (mV 5) (mCons (mV 13) mNil))) (mCons (mV 2) (mCons (mCall M__law_value (mCons (mV 6) (mCons (mV 13) mNil))) mNil))))) mNil)))))
  (sRet (mC (.bl false)))
  sNil)
def TT : MS := sSeq TT1 (sSeq TT2 (sSeq TT3 (sSeq TT4 TT5)))
theorem WT14_eq : WT14 = sFor (iRng (mCons (mC (.int 4)) mNil)) (gN 12) TT := (rfl)
theorem tt1 {S : Sto} {j : Nat} {e1 e2 e3 e4 e5 e6 e7 e8 e9 e10 e11 e12 e13 e14 e15 : Option D} (h : PoolOk S j) : ∃ (x y : Int) (S' : Sto), TT1 [some (.obj j), e1, e2, e3, e4, e5, e6, e7, e8, e9, e10, e11, e12, e13, e14, e15] S = .nx [some (.obj j), e1, e2, e3, e4, e5, e6, e7, e8, e9, e10, e11, e12, some (.obj S.length), e14, e15] S' ∧
    S'[S.length]? = some (stD x y) ∧ x.natAbs ≤ 10 ∧ y.natAbs ≤ 10 ∧ Stp j S S' := by
  obtain ⟨u, S1, p1, q1, s1, l1⟩ := pk (S := S ++ [.dic []]) (pool_app h) 21 21 rfl (by decide)
  obtain ⟨v, S2, p2, q2, s2, l2⟩ := pk s1.pool 21 21 rfl (by decide)
  have t : Stp j (S ++ [.dic []]) S2 := s1.trans s2
  have hlt := h.lt
  have g : S2[S.length]? = some (.dic []) := t.get last0 (by omega)
  refine ⟨(u : Int) - 10, (v : Int) - 10, S2.set S.length (stD ((u : Int) - 10) ((v : Int) - 10)), ?_, List.getElem?_set_self (get_lt g), by omega, by omega, ((Stp.app h).trans t).put (Nat.le_refl _) hlt⟩
  unfold TT1
  simp only [sSet_]
  unfold mDisp
  simp only [bind_ok, bind_ex, of_some, rs_ok, rs_ex, then_nx, then_rt, then_ex, then_bk, then_ct, mV0, mVs, mC_, m2_, m1_, mB_, kB_bl, mB1_, mNil_, mCons_, f1L_, f2L_, mTup_, mLst_, mCall_, mNotT_, mAndT_, mOrT_, mIf_, mAndV_, mOrV_, mNotV_, kAndV_bl, kOrV_bl, kNotV_bl, mSl_, mPart_, kPart_, mNoPart_, sSeq_, sSet_, sRet_, sIf_, sExpr_, sNil_, sBreak_, sCont_, e_lt, e_ltD, e_le, e_gt, e_ge, e_eqI, e_neI, e_eqS, e_neS, e_add, e_sub, List.set_cons_zero, List.set_cons_succ, kTu0, kTu1, kTu2, kTu3, kTu4, kTu5, kLs0, kLs1, kLs2, kLs3, kLs4, kLs5, mM_, mM0_, sAsg_, sFor_, iRng_, iSeq_, p1, p2, g]
  rfl
section
variable {S : Sto} {k : Nat} {a b lc lp lq hc hp hq r P Q d x y : Int} {x0 e3 e4 e7 e8 e9 e10 e11 e12 e13 e14 e15 : Option D} (ha : 1 ≤ a ∧ a < 10000000000000) (hb : 1 ≤ b ∧ b < 10000000000000) (hl : Sl lc lp lq) (hh : Sl hc hp hq)
  (er : b * lc + a * hc = r) (eP : b * lp + a * hp = P) (eQ : b * lq + a * hq = Q) (ed : (a - 1) * (b - 1) = d) (hk : S[k]? = some (stD x y)) (hx : x.natAbs ≤ 10) (hy : y.natAbs ≤ 10)
include ha hb hl hh hk hx hy
theorem tt2 : TT2 [x0, some (.int a), some (.int b), e3, e4, some (tm lc lp lq), some (tm hc hp hq), e7, e8, e9, e10, e11, e12, some (.obj k), e14, e15] S = .nx [x0, some (.int a), some (.int b), e3, e4, some (tm lc lp lq), some (tm hc hp hq), e7, e8, e9, e10, e11, e12, some (.obj k), some (optD (betO a (lc + lp * x + lq * y) b (hc + hp * x + hq * y))), e15] S := by
  obtain ⟨sa, sb⟩ := sab ha hb
  have sx := sm_of hx (by decide)
  have sy := sm_of hy (by decide)
  obtain ⟨c1, c2, c3⟩ := hl.sm
  obtain ⟨k1, k2, k3⟩ := hh.sm
  unfold TT2
  simp only [bind_ok, bind_ex, of_some, rs_ok, rs_ex, then_nx, then_rt, then_ex, then_bk, then_ct, mV0, mVs, mC_, m2_, m1_, mB_, kB_bl, mB1_, mNil_, mCons_, f1L_, f2L_, mTup_, mLst_, mCall_, mNotT_, mAndT_, mOrT_, mIf_, mAndV_, mOrV_, mNotV_, kAndV_bl, kOrV_bl, kNotV_bl, mSl_, mPart_, kPart_, mNoPart_, sSeq_, sSet_, sRet_, sIf_, sExpr_, sNil_, sBreak_, sCont_, e_lt, e_ltD, e_le, e_gt, e_ge, e_eqI, e_neI, e_eqS, e_neS, e_add, e_sub, List.set_cons_zero, List.set_cons_succ, kTu0, kTu1, kTu2, kTu3, kTu4, kTu5, kLs0, kLs1, kLs2, kLs3, kLs4, kLs5, mM_, mM0_, sAsg_, sFor_, iRng_, iSeq_, law_value hk sx sy c2 c3, law_value hk sx sy k2 k3, whole_between ha.1 hb.1 sa sb] <;> rfl
theorem tt5 : TT5 [x0, some (.int a), some (.int b), e3, e4, some (tm lc lp lq), some (tm hc hp hq), e7, e8, e9, e10, e11, e12, some (.obj k), some (optD (betO a (lc + lp * x + lq * y) b (hc + hp * x + hq * y))), e15] S = .nx [x0, some (.int a), some (.int b), e3, e4, some (tm lc lp lq), some (tm hc hp hq), e7, e8, e9, e10, e11, e12, some (.obj k), some (optD (betO a (lc + lp * x + lq * y) b (hc + hp * x + hq * y))), e15] S := by
  obtain ⟨sa, sb⟩ := sab ha hb
  have sx := sm_of hx (by decide)
  have sy := sm_of hy (by decide)
  obtain ⟨c1, c2, c3⟩ := hl.sm
  obtain ⟨k1, k2, k3⟩ := hh.sm
  unfold TT5
  simp only [bind_ok, bind_ex, of_some, rs_ok, rs_ex, then_nx, then_rt, then_ex, then_bk, then_ct, mV0, mVs, mC_, m2_, m1_, mB_, kB_bl, mB1_, mNil_, mCons_, f1L_, f2L_, mTup_, mLst_, mCall_, mNotT_, mAndT_, mOrT_, mIf_, mAndV_, mOrV_, mNotV_, kAndV_bl, kOrV_bl, kNotV_bl, mSl_, mPart_, kPart_, mNoPart_, sSeq_, sSet_, sRet_, sIf_, sExpr_, sNil_, sBreak_, sCont_, e_lt, e_ltD, e_le, e_gt, e_ge, e_eqI, e_neI, e_eqS, e_neS, e_add, e_sub, List.set_cons_zero, List.set_cons_succ, kTu0, kTu1, kTu2, kTu3, kTu4, kTu5, kLs0, kLs1, kLs2, kLs3, kLs4, kLs5, mM_, mM0_, sAsg_, sFor_, iRng_, iSeq_, law_value hk sx sy c2 c3, law_value hk sx sy k2 k3, law_between ha.1 hb.1 sa sb, law_same, Bool.not_true, Bool.false_eq_true, if_false] <;> rfl
include er eP eQ
omit hl hh hk hx hy in
theorem tt_sum : b * (lc + lp * x + lq * y) + a * (hc + hp * x + hq * y) = r + P * x + Q * y := by
  rw [← er, ← eP, ← eQ]
  simp only [Int.mul_add, Int.add_mul, Int.mul_assoc]
  omega
theorem tt3 : TT3 [x0, some (.int a), some (.int b), e3, e4, some (tm lc lp lq), some (tm hc hp hq), e7, some (shF "le" r P Q), e9, e10, e11, e12, some (.obj k), some (optD (betO a (lc + lp * x + lq * y) b (hc + hp * x + hq * y))), e15] S = .nx [x0, some (.int a), some (.int b), e3, e4, some (tm lc lp lq), some (tm hc hp hq), e7, some (shF "le" r P Q), e9, e10, e11, e12, some (.obj k), some (optD (betO a (lc + lp * x + lq * y) b (hc + hp * x + hq * y))), e15] S := by
  have h := pr_t ha hb hl hh
  have h2 := h.p
  have h3 := h.q
  rw [eP] at h2
  rw [eQ] at h3
  have sx := sm_of hx (by decide)
  have sy := sm_of hy (by decide)
  have hv := law_value (c := shC r P Q) (p := P / gD P Q) (q := Q / gD P Q) hk sx sy (sm_div h2) (sm_div h3)
  have hs := sh_val r P Q x y
  have e := tt_sum (x := x) (y := y) ha hb er eP eQ
  have r1 := (real_dark (low := lc + lp * x + lq * y) (high := hc + hp * x + hq * y) ha.1 hb.1).1
  rw [e] at r1
  rw [shF_le]
  generalize betO a (lc + lp * x + lq * y) b (hc + hp * x + hq * y) = o at *
  cases o with
  | none => unfold TT3; simp only [bind_ok, bind_ex, of_some, rs_ok, rs_ex, then_nx, then_rt, then_ex, then_bk, then_ct, mV0, mVs, mC_, m2_, m1_, mB_, kB_bl, mB1_, mNil_, mCons_, f1L_, f2L_, mTup_, mLst_, mCall_, mNotT_, mAndT_, mOrT_, mIf_, mAndV_, mOrV_, mNotV_, kAndV_bl, kOrV_bl, kNotV_bl, mSl_, mPart_, kPart_, mNoPart_, sSeq_, sSet_, sRet_, sIf_, sExpr_, sNil_, sBreak_, sCont_, e_lt, e_ltD, e_le, e_gt, e_ge, e_eqI, e_neI, e_eqS, e_neS, e_add, e_sub, List.set_cons_zero, List.set_cons_succ, kTu0, kTu1, kTu2, kTu3, kTu4, kTu5, kLs0, kLs1, kLs2, kLs3, kLs4, kLs5, mM_, mM0_, sAsg_, sFor_, iRng_, iSeq_, optD, isn_n, Bool.false_eq_true, if_false] <;> rfl
  | some i =>
    have d1 : decide (0 < shC r P Q + P / gD P Q * x + Q / gD P Q * y) = false := decide_eq_false fun z => by have := r1 (hs.mp z); cases this
    unfold TT3; simp only [bind_ok, bind_ex, of_some, rs_ok, rs_ex, then_nx, then_rt, then_ex, then_bk, then_ct, mV0, mVs, mC_, m2_, m1_, mB_, kB_bl, mB1_, mNil_, mCons_, f1L_, f2L_, mTup_, mLst_, mCall_, mNotT_, mAndT_, mOrT_, mIf_, mAndV_, mOrV_, mNotV_, kAndV_bl, kOrV_bl, kNotV_bl, mSl_, mPart_, kPart_, mNoPart_, sSeq_, sSet_, sRet_, sIf_, sExpr_, sNil_, sBreak_, sCont_, e_lt, e_ltD, e_le, e_gt, e_ge, e_eqI, e_neI, e_eqS, e_neS, e_add, e_sub, List.set_cons_zero, List.set_cons_succ, kTu0, kTu1, kTu2, kTu3, kTu4, kTu5, kLs0, kLs1, kLs2, kLs3, kLs4, kLs5, mM_, mM0_, sAsg_, sFor_, iRng_, iSeq_, optD, isn_i, fac1, hv, d1, if_true, Bool.false_eq_true, if_false] <;> rfl
include ed
theorem tt4 : TT4 [x0, some (.int a), some (.int b), e3, e4, some (tm lc lp lq), some (tm hc hp hq), e7, e8, some (shF "le" (r + d) P Q), e10, e11, e12, some (.obj k), some (optD (betO a (lc + lp * x + lq * y) b (hc + hp * x + hq * y))), e15] S = .nx [x0, some (.int a), some (.int b), e3, e4, some (tm lc lp lq), some (tm hc hp hq), e7, e8, some (shF "le" (r + d) P Q), e10, e11, e12, some (.obj k), some (optD (betO a (lc + lp * x + lq * y) b (hc + hp * x + hq * y))), e15] S := by
  have h := pr_t ha hb hl hh
  have h2 := h.p
  have h3 := h.q
  rw [eP] at h2
  rw [eQ] at h3
  have sx := sm_of hx (by decide)
  have sy := sm_of hy (by decide)
  have hv := law_value (c := shC (r + d) P Q) (p := P / gD P Q) (q := Q / gD P Q) hk sx sy (sm_div h2) (sm_div h3)
  have hs := sh_val (r + d) P Q x y
  have e := tt_sum (x := x) (y := y) ha hb er eP eQ
  have r1 := (real_dark (low := lc + lp * x + lq * y) (high := hc + hp * x + hq * y) ha.1 hb.1).2
  rw [e, ed] at r1
  rw [shF_le]
  generalize betO a (lc + lp * x + lq * y) b (hc + hp * x + hq * y) = o at *
  cases o with
  | none =>
    have d1 : decide (shC (r + d) P Q + P / gD P Q * x + Q / gD P Q * y ≤ 0) = false := decide_eq_false fun z => by
      have : ¬ (0 < r + d + P * x + Q * y) := fun w => by have := hs.mpr w; omega
      exact r1 (by omega) rfl
    unfold TT4; simp only [bind_ok, bind_ex, of_some, rs_ok, rs_ex, then_nx, then_rt, then_ex, then_bk, then_ct, mV0, mVs, mC_, m2_, m1_, mB_, kB_bl, mB1_, mNil_, mCons_, f1L_, f2L_, mTup_, mLst_, mCall_, mNotT_, mAndT_, mOrT_, mIf_, mAndV_, mOrV_, mNotV_, kAndV_bl, kOrV_bl, kNotV_bl, mSl_, mPart_, kPart_, mNoPart_, sSeq_, sSet_, sRet_, sIf_, sExpr_, sNil_, sBreak_, sCont_, e_lt, e_ltD, e_le, e_gt, e_ge, e_eqI, e_neI, e_eqS, e_neS, e_add, e_sub, List.set_cons_zero, List.set_cons_succ, kTu0, kTu1, kTu2, kTu3, kTu4, kTu5, kLs0, kLs1, kLs2, kLs3, kLs4, kLs5, mM_, mM0_, sAsg_, sFor_, iRng_, iSeq_, optD, is_n, fac1, hv, d1, if_true, Bool.false_eq_true, if_false] <;> rfl
  | some i => unfold TT4; simp only [bind_ok, bind_ex, of_some, rs_ok, rs_ex, then_nx, then_rt, then_ex, then_bk, then_ct, mV0, mVs, mC_, m2_, m1_, mB_, kB_bl, mB1_, mNil_, mCons_, f1L_, f2L_, mTup_, mLst_, mCall_, mNotT_, mAndT_, mOrT_, mIf_, mAndV_, mOrV_, mNotV_, kAndV_bl, kOrV_bl, kNotV_bl, mSl_, mPart_, kPart_, mNoPart_, sSeq_, sSet_, sRet_, sIf_, sExpr_, sNil_, sBreak_, sCont_, e_lt, e_ltD, e_le, e_gt, e_ge, e_eqI, e_neI, e_eqS, e_neS, e_add, e_sub, List.set_cons_zero, List.set_cons_succ, kTu0, kTu1, kTu2, kTu3, kTu4, kTu5, kLs0, kLs1, kLs2, kLs3, kLs4, kLs5, mM_, mM0_, sAsg_, sFor_, iRng_, iSeq_, optD, is_i, Bool.false_eq_true, if_false] <;> rfl
end
section
variable {j : Nat} {a b lc lp lq hc hp hq r P Q d x y : Int} {e3 e4 e7 e10 e11 e15 : Option D} (ha : 1 ≤ a ∧ a < 10000000000000) (hb : 1 ≤ b ∧ b < 10000000000000) (hl : Sl lc lp lq) (hh : Sl hc hp hq)
  (er : b * lc + a * hc = r) (eP : b * lp + a * hp = P) (eQ : b * lq + a * hq = Q) (ed : (a - 1) * (b - 1) = d)
include ha hb hl hh er eP eQ ed
theorem tt_loop : ∀ (k i n : Nat) (S : Sto) (x12 x13 x14 : Option D), n = i + k → PoolOk S j → ∃ (y12 y13 y14 : Option D) (S' : Sto),
    forI (itRng 0 n) (gN 12) TT k i [some (.obj j), some (.int a), some (.int b), e3, e4, some (tm lc lp lq), some (tm hc hp hq), e7, some (shF "le" r P Q), some (shF "le" (r + d) P Q), e10, e11, x12, x13, x14, e15] S =
      .nx [some (.obj j), some (.int a), some (.int b), e3, e4, some (tm lc lp lq), some (tm hc hp hq), e7, some (shF "le" r P Q), some (shF "le" (r + d) P Q), e10, e11, y12, y13, y14, e15] S' ∧ Stp j S S'
  | 0, i, n, S, x12, x13, x14, hn, h => ⟨x12, x13, x14, S, by rw [show i = n by omega, fr_end], stp_refl h⟩
  | k + 1, i, n, S, x12, x13, x14, hn, h => by
    obtain ⟨x, y, S1, r1, g, hx, hy, t⟩ := tt1 (e1 := some (.int a)) (e2 := some (.int b)) (e3 := e3) (e4 := e4) (e5 := some (tm lc lp lq)) (e6 := some (tm hc hp hq)) (e7 := e7) (e8 := some (shF "le" r P Q)) (e9 := some (shF "le" (r + d) P Q)) (e10 := e10) (e11 := e11) (e12 := some (.int (0 + (i : Int)))) (e13 := x13) (e14 := x14) (e15 := e15) h
    obtain ⟨y12, y13, y14, S', q, t'⟩ := tt_loop k (i + 1) n S1 (some (.int (0 + (i : Int)))) (some (.obj S.length)) (some (optD (betO a (lc + lp * x + lq * y) b (hc + hp * x + hq * y)))) (by omega) t.pool
    refine ⟨y12, y13, y14, S', ?_, t.trans t'⟩
    rw [fr_nx (by omega) (env2 := [some (.obj j), some (.int a), some (.int b), e3, e4, some (tm lc lp lq), some (tm hc hp hq), e7, some (shF "le" r P Q), some (shF "le" (r + d) P Q), e10, e11, some (.int (0 + (i : Int))), some (.obj S.length), some (optD (betO a (lc + lp * x + lq * y) b (hc + hp * x + hq * y))), e15]) (S2 := S1), q]
    unfold TT
    simp only [List.set_cons_zero, List.set_cons_succ]
    rw [sSeq_, r1, then_nx, sSeq_, tt2 ha hb hl hh g hx hy, then_nx, sSeq_, tt3 ha hb hl hh er eP eQ g hx hy, then_nx, sSeq_, tt4 ha hb hl hh er eP eQ ed g hx hy, then_nx, tt5 ha hb hl hh g hx hy]
theorem wt14 {S : Sto} {e12 e13 e14 : Option D} (h : PoolOk S j) : ∃ (y12 y13 y14 : Option D) (S' : Sto),
    WT14 [some (.obj j), some (.int a), some (.int b), e3, e4, some (tm lc lp lq), some (tm hc hp hq), e7, some (shF "le" r P Q), some (shF "le" (r + d) P Q), e10, e11, e12, e13, e14, e15] S =
      .nx [some (.obj j), some (.int a), some (.int b), e3, e4, some (tm lc lp lq), some (tm hc hp hq), e7, some (shF "le" r P Q), some (shF "le" (r + d) P Q), e10, e11, y12, y13, y14, e15] S' ∧ Stp j S S' := by
  obtain ⟨y12, y13, y14, S', q, t⟩ := tt_loop (j := j) (e3 := e3) (e4 := e4) (e7 := e7) (e10 := e10) (e11 := e11) (e15 := e15) ha hb hl hh er eP eQ ed 4 0 4 S e12 e13 e14 (by omega) h
  refine ⟨y12, y13, y14, S', ?_, t⟩
  have r4 : kRngI [.int 4] S = .ok (itRng 0 4) S := kRng1 (by decide)
  have en : (itRng 0 4).n = 4 := rfl
  rw [WT14_eq]
  simp only [bind_ok, bind_ex, of_some, rs_ok, rs_ex, then_nx, then_rt, then_ex, then_bk, then_ct, mV0, mVs, mC_, m2_, m1_, mB_, kB_bl, mB1_, mNil_, mCons_, f1L_, f2L_, mTup_, mLst_, mCall_, mNotT_, mAndT_, mOrT_, mIf_, mAndV_, mOrV_, mNotV_, kAndV_bl, kOrV_bl, kNotV_bl, mSl_, mPart_, kPart_, mNoPart_, sSeq_, sSet_, sRet_, sIf_, sExpr_, sNil_, sBreak_, sCont_, e_lt, e_ltD, e_le, e_gt, e_ge, e_eqI, e_neI, e_eqS, e_neS, e_add, e_sub, List.set_cons_zero, List.set_cons_succ, kTu0, kTu1, kTu2, kTu3, kTu4, kTu5, kLs0, kLs1, kLs2, kLs3, kLs4, kLs5, mM_, mM0_, sAsg_, sFor_, iRng_, iSeq_, r4, en, q]
end
end K26

namespace K26
open PySem PySem.Spec L2 Mi
/-! ### rows, shortened -/
theorem fact_sort {S : Sto} {w : Str} {c p q : Int} (hw : w = "le" ∨ w = "eq") : ∃ s : Int, M_fact_sort [facD w c p q, .int 0] S = .ok (.int s) S ∧ (s = 0 ∨ s = 1) := by
  obtain ⟨s, s1, s2⟩ := ts_tm (S := S) c p q
  refine ⟨s, ?_, s2⟩
  have e : M_fact_sort = mFn 2 5 (B_fact_sort (R_quantified_sort 11)) := rfl
  have hi : fIsi ["tuple"] (facD w c p q) S = some (.bl true, S) := rfl
  have hl : fLen (facD w c p q) S = some (.int 2, S) := rfl
  have d1 : decide ((2 : Int) < 2) = false := rfl
  have hin : fInD (.str w) (.tup [.str "le", .str "eq", .str "ne"]) S = some (.bl true, S) := by rcases hw with rfl | rfl <;> rfl
  rw [e]
  unfold mFn B_fact_sort
  simp only [List.length_cons, List.length_nil, Nat.reduceAdd, if_true, List.map_cons, List.map_nil, List.replicate, List.cons_append, List.nil_append, Nat.reduceSub, Nat.sub_self]
  simp only [bind_ok, bind_ex, of_some, rs_ok, rs_ex, then_nx, then_rt, then_ex, then_bk, then_ct, mV0, mVs, mC_, m2_, m1_, mB_, kB_bl, mB1_, mNil_, mCons_, f1L_, f2L_, mTup_, mLst_, mCall_, mNotT_, mAndT_, mOrT_, mIf_, mAndV_, mOrV_, mNotV_, kAndV_bl, kOrV_bl, kNotV_bl, mSl_, mPart_, kPart_, mNoPart_, sSeq_, sSet_, sRet_, sIf_, sExpr_, sNil_, sBreak_, sCont_, e_lt, e_ltD, e_le, e_gt, e_ge, e_eqI, e_neI, e_eqS, e_neS, e_add, e_sub, List.set_cons_zero, List.set_cons_succ, kTu0, kTu1, kTu2, kTu3, kTu4, kTu5, kLs0, kLs1, kLs2, kLs3, kLs4, kLs5, mM_, mM0_, sAsg_, sFor_, iRng_, iSeq_, hi, hl, d1, fac0, hin, fac1, s1, Bool.not_true, Bool.false_eq_true, if_false, if_true, decide_true] <;> rfl
theorem is_row {S : Sto} {w : Str} {c p q : Int} (hw : w = "le" ∨ w = "eq") : M_is_row [facD w c p q] S = .ok (.bl true) S := by
  obtain ⟨s, s1, s2⟩ := fact_sort (S := S) (c := c) (p := p) (q := q) hw
  have d3 : decide (s = 3) = false := decide_eq_false (by omega)
  have hf : M_is_fact [facD w c p q] S = .ok (.bl true) S := by
    show mFn 2 2 B_is_fact [facD w c p q, .bl false] S = _
    unfold mFn B_is_fact
    simp only [List.length_cons, List.length_nil, Nat.reduceAdd, if_true, List.map_cons, List.map_nil, List.replicate, List.cons_append, List.nil_append, Nat.reduceSub, Nat.sub_self]
    simp only [bind_ok, bind_ex, of_some, rs_ok, rs_ex, then_nx, then_rt, then_ex, then_bk, then_ct, mV0, mVs, mC_, m2_, m1_, mB_, kB_bl, mB1_, mNil_, mCons_, f1L_, f2L_, mTup_, mLst_, mCall_, mNotT_, mAndT_, mOrT_, mIf_, mAndV_, mOrV_, mNotV_, kAndV_bl, kOrV_bl, kNotV_bl, mSl_, mPart_, kPart_, mNoPart_, sSeq_, sSet_, sRet_, sIf_, sExpr_, sNil_, sBreak_, sCont_, e_lt, e_ltD, e_le, e_gt, e_ge, e_eqI, e_neI, e_eqS, e_neS, e_add, e_sub, List.set_cons_zero, List.set_cons_succ, kTu0, kTu1, kTu2, kTu3, kTu4, kTu5, kLs0, kLs1, kLs2, kLs3, kLs4, kLs5, mM_, mM0_, sAsg_, sFor_, iRng_, iSeq_, s1, d_BAD, d3, Bool.not_false, if_true] <;> rfl
  have hin : fInD (.str w) (.tup [.str "le", .str "eq"]) S = some (.bl true, S) := by rcases hw with rfl | rfl <;> rfl
  unfold M_is_row mFn B_is_row
  simp only [List.length_cons, List.length_nil, Nat.reduceAdd, if_true, List.map_cons, List.map_nil, List.replicate, List.cons_append, List.nil_append, Nat.reduceSub, Nat.sub_self]
  simp only [bind_ok, bind_ex, of_some, rs_ok, rs_ex, then_nx, then_rt, then_ex, then_bk, then_ct, mV0, mVs, mC_, m2_, m1_, mB_, kB_bl, mB1_, mNil_, mCons_, f1L_, f2L_, mTup_, mLst_, mCall_, mNotT_, mAndT_, mOrT_, mIf_, mAndV_, mOrV_, mNotV_, kAndV_bl, kOrV_bl, kNotV_bl, mSl_, mPart_, kPart_, mNoPart_, sSeq_, sSet_, sRet_, sIf_, sExpr_, sNil_, sBreak_, sCont_, e_lt, e_ltD, e_le, e_gt, e_ge, e_eqI, e_neI, e_eqS, e_neS, e_add, e_sub, List.set_cons_zero, List.set_cons_succ, kTu0, kTu1, kTu2, kTu3, kTu4, kTu5, kLs0, kLs1, kLs2, kLs3, kLs4, kLs5, mM_, mM0_, sAsg_, sFor_, iRng_, iSeq_, hf, if_true, fac0, hin] <;> rfl
theorem shortened {S : Sto} {w : Str} {c p q : Int} (hc : Sm c) (hp : Sm p) (hq : Sm q) (hw : w = "le" ∨ w = "eq") : ∃ X : Sto, M_shortened [facD w c p q] S = .ok (shD w c p q) (S ++ X) := by
  obtain ⟨X, h⟩ := short_row (S := S) hc hp hq hw
  refine ⟨X, ?_⟩
  unfold M_shortened mFn B_shortened
  simp only [List.length_cons, List.length_nil, Nat.reduceAdd, if_true, List.map_cons, List.map_nil, List.replicate, List.cons_append, List.nil_append, Nat.reduceSub, Nat.sub_self]
  simp only [bind_ok, bind_ex, of_some, rs_ok, rs_ex, then_nx, then_rt, then_ex, then_bk, then_ct, mV0, mVs, mC_, m2_, m1_, mB_, kB_bl, mB1_, mNil_, mCons_, f1L_, f2L_, mTup_, mLst_, mCall_, mNotT_, mAndT_, mOrT_, mIf_, mAndV_, mOrV_, mNotV_, kAndV_bl, kOrV_bl, kNotV_bl, mSl_, mPart_, kPart_, mNoPart_, sSeq_, sSet_, sRet_, sIf_, sExpr_, sNil_, sBreak_, sCont_, e_lt, e_ltD, e_le, e_gt, e_ge, e_eqI, e_neI, e_eqS, e_neS, e_add, e_sub, List.set_cons_zero, List.set_cons_succ, kTu0, kTu1, kTu2, kTu3, kTu4, kTu5, kLs0, kLs1, kLs2, kLs3, kLs4, kLs5, mM_, mM0_, sAsg_, sFor_, iRng_, iSeq_, is_row hw, Bool.not_true, Bool.false_eq_true, if_false, h] <;> rfl
theorem shF_ex {w : Str} {c p q : Int} (hw : w = "le" ∨ w = "eq") : ∃ (w' : Str) (c' p' q' : Int), shF w c p q = facD w' c' p' q' ∧ PyData.strOk w' = true := by
  have ok : PyData.strOk w = true := by rcases hw with rfl | rfl; exact okLe; exact okEq
  unfold shF
  split
  · exact ⟨_, _, _, _, rfl, ok⟩
  · split
    · exact ⟨_, _, _, _, rfl, okLe⟩
    · exact ⟨_, _, _, _, rfl, ok⟩
theorem sh_ne {S : Sto} {w : Str} {c p q : Int} (hw : w = "le" ∨ w = "eq") : fNe (shD w c p q) (shD w c p q) S = some (.bl false, S) := by
  unfold shD
  generalize (if gD p q = 0 then (1 : Int) else (gD p q : Int)) = n
  obtain ⟨w', c', p', q', e, ok⟩ := shF_ex (c := c) (p := p) (q := q) hw
  rw [e]
  have e1 : ∀ n, 200 ≤ n → toP S n (facD w' c' p' q') = some (facP w' c' p' q') := fun n hn => by
    obtain ⟨m, rfl⟩ : ∃ m, n = m + 5 := ⟨n - 5, by omega⟩
    have e1 := toP_tmC (S := S) c' (cf p' q') (m + 2) (by have := cf_len p' q'; omega)
    show toP S (m + 4 + 1) (.tup [.str w', tm c' p' q']) = _
    refine toP_tup ?_
    show toPs S (m + 3 + 1) [.str w', tm c' p' q'] = _
    unfold toPs
    rw [show toPs S (m + 3) [tm c' p' q'] = some [tmP c' (cf p' q')] from by
      show toPs S (m + 2 + 1) [tm c' p' q'] = _
      unfold toPs
      rw [e1]; rfl]
    rfl
  have ht : toP S 1000000 (.tup [facD w' c' p' q', .int n]) = some (.tuple [facP w' c' p' q', .int n]) := by
    show toP S (999999 + 1) _ = _
    refine toP_tup ?_
    show toPs S (999998 + 1) [facD w' c' p' q', .int n] = _
    unfold toPs
    rw [e1 999998 (by decide)]; rfl
  have hs : Shp 10 (.tuple [facP w' c' p' q', .int n]) := shp_tup fun p hp => by
    simp only [List.mem_cons, List.not_mem_nil, or_false] at hp
    rcases hp with rfl | rfl
    · exact shp_fac ok ..
    · exact shp_mono (shp_int _) (by omega)
  have ha : PySem.W.alike (.tuple [facP w' c' p' q', .int n]) (.tuple [facP w' c' p' q', .int n]) = true := by
    rw [alike_tup, alike_cons, alike_cons, alike_nil, alike_int, alike_fac]; rfl
  have := eqD_of ht ht (shp_ok hs (by omega)) (shp_ok hs (by omega))
  rw [eqv_refl _ ha] at this
  exact (eq_tup this).2
def QB : MS := (sIf (mOrT (mB (m2 fNe (mCall M_shortened (mCons (mV 15) mNil)) (mCall M__law_short (mCons (mV 15) mNil)))) (mB (m2 fIsN (mCall M_is_row (mCons (mV 15) mNil)) (mC (.bl true)))))
  (sRet (mC (.bl false)))
  sNil)
def GoodF (f : D) : Prop := ∃ (w : Str) (c p q : Int), f = facD w c p q ∧ (w = "le" ∨ w = "eq") ∧ Sm c ∧ Sm p ∧ Sm q
section
variable {e0 e1 e2 e3 e4 e5 e6 e7 e8 e9 e10 e11 e12 e13 e14 e15 : Option D}
theorem qb {S : Sto} {f : D} (h : GoodF f) : ∃ X : Sto, QB [e0, e1, e2, e3, e4, e5, e6, e7, e8, e9, e10, e11, e12, e13, e14, some f] S = .nx [e0, e1, e2, e3, e4, e5, e6, e7, e8, e9, e10, e11, e12, e13, e14, some f] (S ++ X) := by
  obtain ⟨w, c, p, q, rfl, hw, hc, hp, hq⟩ := h
  obtain ⟨X, h1⟩ := shortened (S := S) hc hp hq hw
  obtain ⟨Y, h2⟩ := law_short (S := S ++ X) (w := w) hc hp hq
  refine ⟨X ++ Y, ?_⟩
  rw [← List.append_assoc]
  unfold QB
  simp only [bind_ok, bind_ex, of_some, rs_ok, rs_ex, then_nx, then_rt, then_ex, then_bk, then_ct, mV0, mVs, mC_, m2_, m1_, mB_, kB_bl, mB1_, mNil_, mCons_, f1L_, f2L_, mTup_, mLst_, mCall_, mNotT_, mAndT_, mOrT_, mIf_, mAndV_, mOrV_, mNotV_, kAndV_bl, kOrV_bl, kNotV_bl, mSl_, mPart_, kPart_, mNoPart_, sSeq_, sSet_, sRet_, sIf_, sExpr_, sNil_, sBreak_, sCont_, e_lt, e_ltD, e_le, e_gt, e_ge, e_eqI, e_neI, e_eqS, e_neS, e_add, e_sub, List.set_cons_zero, List.set_cons_succ, kTu0, kTu1, kTu2, kTu3, kTu4, kTu5, kLs0, kLs1, kLs2, kLs3, kLs4, kLs5, mM_, mM0_, sAsg_, sFor_, iRng_, iSeq_, h1, h2, sh_ne hw, is_row hw, e_isn, decide_true, Bool.not_true, Bool.false_eq_true, if_false] <;> rfl
theorem q_loop {fs : List D} {k : Nat} (hf : ∀ f ∈ fs, GoodF f) : ∀ (suf pre : List D) (S : Sto) (x15 : Option D), fs = pre ++ suf → S[k]? = some (.lst fs) → ∃ (X : Sto) (y15 : Option D),
    forI (itLst fs.length k) (gN 15) QB suf.length pre.length [e0, e1, e2, e3, e4, e5, e6, e7, e8, e9, e10, e11, e12, e13, e14, x15] S = .nx [e0, e1, e2, e3, e4, e5, e6, e7, e8, e9, e10, e11, e12, e13, e14, y15] (S ++ X)
  | [], pre, S, x15, he, hk => by
    refine ⟨[], x15, ?_⟩
    have : pre.length = fs.length := by rw [he]; simp
    rw [this, fl_end hk, List.append_nil]
  | f :: suf, pre, S, x15, he, hk => by
    have hd : fs[pre.length]? = some f := by rw [he]; simp
    obtain ⟨X, st⟩ := qb (e0 := e0) (e1 := e1) (e2 := e2) (e3 := e3) (e4 := e4) (e5 := e5) (e6 := e6) (e7 := e7) (e8 := e8) (e9 := e9) (e10 := e10) (e11 := e11) (e12 := e12) (e13 := e13) (e14 := e14) (S := S) (hf f (by rw [he]; simp))
    obtain ⟨Y, y15, q⟩ := q_loop hf suf (pre ++ [f]) (S ++ X) (some f) (by rw [he]; simp) (get_app hk)
    refine ⟨X ++ Y, y15, ?_⟩
    rw [show (f :: suf).length = suf.length + 1 from rfl, fl_nx hk hd rfl st]
    rw [List.length_append, List.length_singleton] at q
    rw [q, List.append_assoc]
end
section
variable {S : Sto} {a b lc lp lq hc hp hq r P Q : Int} {e0 e3 e4 e8 e9 e10 e11 e12 e13 e14 e15 : Option D} (ha : 1 ≤ a ∧ a < 10000000000000) (hb : 1 ≤ b ∧ b < 10000000000000) (hl : Sl lc lp lq) (hh : Sl hc hp hq)
  (er : b * lc + a * hc = r) (eP : b * lp + a * hp = P) (eQ : b * lq + a * hq = Q)
include ha hb hl hh er eP eQ
theorem wt15 : ∃ (X : Sto) (y15 : Option D), WT15 [e0, some (.int a), some (.int b), e3, e4, some (tm lc lp lq), some (tm hc hp hq), some (tm r P Q), e8, e9, e10, e11, e12, e13, e14, e15] S =
    .nx [e0, some (.int a), some (.int b), e3, e4, some (tm lc lp lq), some (tm hc hp hq), some (tm r P Q), e8, e9, e10, e11, e12, e13, e14, y15] (S ++ X) := by
  have h := pr_t ha hb hl hh
  have h1 := h.r
  have h2 := h.p
  have h3 := h.q
  rw [er] at h1
  rw [eP] at h2
  rw [eQ] at h3
  obtain ⟨c1, c2, c3⟩ := hl.sm
  obtain ⟨X, hx⟩ := law_plus (S := S) (c := lc) (p := lp) (q := lq) (k := 3) (by decide) h.h1 h.h2 h.h0
  have b1 := hl.c
  have b2 := hl.p
  have b3 := hl.q
  have b4 := hh.c
  have b5 := hh.p
  have b6 := hh.q
  have hf : ∀ f ∈ [facD "le" r P Q, facD "eq" r P Q, facD "eq" lc lp lq, facD "le" (lc + 3 * hc) (lp + 3 * hp) (lq + 3 * hq)], GoodF f := fun f hf => by
    simp only [List.mem_cons, List.not_mem_nil, or_false] at hf
    rcases hf with rfl | rfl | rfl | rfl
    · exact ⟨_, _, _, _, rfl, .inl rfl, h1, h2, h3⟩
    · exact ⟨_, _, _, _, rfl, .inr rfl, h1, h2, h3⟩
    · exact ⟨_, _, _, _, rfl, .inr rfl, c1, c2, c3⟩
    · exact ⟨_, _, _, _, rfl, .inl rfl, sm_of (X := 36) (by omega) (by decide), sm_of (X := 36) (by omega) (by decide), sm_of (X := 36) (by omega) (by decide)⟩
  generalize hfs : [facD "le" r P Q, facD "eq" r P Q, facD "eq" lc lp lq, facD "le" (lc + 3 * hc) (lp + 3 * hp) (lq + 3 * hq)] = fs at hf
  obtain ⟨Y, y15, q⟩ := q_loop (k := (S ++ X).length) (e0 := e0) (e1 := some (.int a)) (e2 := some (.int b)) (e3 := e3) (e4 := e4) (e5 := some (tm lc lp lq)) (e6 := some (tm hc hp hq)) (e7 := some (tm r P Q)) (e8 := e8) (e9 := e9) (e10 := e10) (e11 := e11) (e12 := e12) (e13 := e13) (e14 := e14) hf fs [] (S ++ X ++ [.lst fs]) e15 rfl last0
  refine ⟨X ++ ([.lst fs] ++ Y), y15, ?_⟩
  rw [← List.append_assoc, ← List.append_assoc]
  have kl : kLst fs (S ++ X) = .ok (.obj (S ++ X).length) (S ++ X ++ [.lst fs]) := by rw [← hfs]; exact kLs4
  have ks := kSeqL (S := S ++ X ++ [.lst fs]) (j := (S ++ X).length) (ds := fs) last0
  have en : (itLst fs.length (S ++ X).length).n = fs.length := rfl
  rw [show ([] : List D).length = 0 from rfl] at q
  unfold QB at q
  unfold WT15
  simp only [bind_ok, bind_ex, of_some, rs_ok, rs_ex, then_nx, then_rt, then_ex, then_bk, then_ct, mV0, mVs, mC_, m2_, m1_, mB_, kB_bl, mB1_, mNil_, mCons_, f1L_, f2L_, mTup_, mLst_, mCall_, mNotT_, mAndT_, mOrT_, mIf_, mAndV_, mOrV_, mNotV_, kAndV_bl, kOrV_bl, kNotV_bl, mSl_, mPart_, kPart_, mNoPart_, sSeq_, sSet_, sRet_, sIf_, sExpr_, sNil_, sBreak_, sCont_, e_lt, e_ltD, e_le, e_gt, e_ge, e_eqI, e_neI, e_eqS, e_neS, e_add, e_sub, List.set_cons_zero, List.set_cons_succ, kTu0, kTu1, kTu2, kTu3, kTu4, kTu5, kLs0, kLs1, kLs2, kLs3, kLs4, kLs5, mM_, mM0_, sAsg_, sFor_, iRng_, iSeq_, facz, hx, hfs, kl, ks, en, q] <;> rfl
end
end K26

namespace K26
open PySem PySem.Spec L2 Mi
/-! ### what is refused -/
/-- no whole number, or below 1 -/
def Bad (d : D) : Prop := d = .int 0 ∨ d = .int (-3) ∨ d = .non ∨ d = .bl true ∨ d = .str "1"
/-- no whole number -/
def Odd (d : D) : Prop := d = .non ∨ d = .bl true ∨ d = .str "1" ∨ d = .tup [.int 1, .tup []]
theorem bad_1 {S : Sto} {d : D} (h : Bad d) : (M_is_whole [d] S = .ok (.bl false) S) ∨ (∃ i : Int, d = .int i ∧ decide (i < 1) = true) := by
  rcases h with rfl | rfl | rfl | rfl | rfl
  · exact .inr ⟨_, rfl, rfl⟩
  · exact .inr ⟨_, rfl, rfl⟩
  · exact .inl (whole_no ty_non rfl)
  · exact .inl (whole_no ty_bl rfl)
  · exact .inl (whole_no ty_str rfl)
theorem odd_1 {S : Sto} {d : D} (h : Odd d) : Ty S d ∧ isI d = false := by
  rcases h with rfl | rfl | rfl | rfl
  · exact ⟨ty_non, rfl⟩
  · exact ⟨ty_bl, rfl⟩
  · exact ⟨ty_str, rfl⟩
  · exact ⟨ty_tup, rfl⟩
theorem odd_n {S : Sto} {d : D} (h : Odd d) (hn : d ≠ .non) : fIsN d .non S = some (.bl true, S) := by
  rcases h with rfl | rfl | rfl | rfl
  · exact absurd rfl hn
  · rfl
  · rfl
  · rfl
theorem ts_7 {S : Sto} : M_term_sort [.int 7, .int 0] S = .ok (.int 3) S := by
  have e : M_term_sort = mFn 2 5 (B_term_sort (R_atom_sort 11)) := rfl
  have hi : fIsi ["tuple"] (.int 7) S = some (.bl false, S) := rfl
  rw [e]
  unfold mFn B_term_sort
  simp only [List.length_cons, List.length_nil, Nat.reduceAdd, if_true, List.map_cons, List.map_nil, List.replicate, List.cons_append, List.nil_append, Nat.reduceSub, Nat.sub_self]
  simp only [bind_ok, bind_ex, of_some, rs_ok, rs_ex, then_nx, then_rt, then_ex, then_bk, then_ct, mV0, mVs, mC_, m2_, m1_, mB_, kB_bl, mB1_, mNil_, mCons_, f1L_, f2L_, mTup_, mLst_, mCall_, mNotT_, mAndT_, mOrT_, mIf_, mAndV_, mOrV_, mNotV_, kAndV_bl, kOrV_bl, kNotV_bl, mSl_, mPart_, kPart_, mNoPart_, sSeq_, sSet_, sRet_, sIf_, sExpr_, sNil_, sBreak_, sCont_, e_lt, e_ltD, e_le, e_gt, e_ge, e_eqI, e_neI, e_eqS, e_neS, e_add, e_sub, List.set_cons_zero, List.set_cons_succ, kTu0, kTu1, kTu2, kTu3, kTu4, kTu5, kLs0, kLs1, kLs2, kLs3, kLs4, kLs5, mM_, mM0_, sAsg_, sFor_, iRng_, iSeq_, hi, Bool.not_false, if_true, d_BAD] <;> rfl
theorem ts_12 {S : Sto} : M_term_sort [.tup [.int 1, .int 2], .int 0] S = .ok (.int 3) S := by
  have e : M_term_sort = mFn 2 5 (B_term_sort (R_atom_sort 11)) := rfl
  have hi : fIsi ["tuple"] (.tup [.int 1, .int 2]) S = some (.bl true, S) := rfl
  have h2 : fIsi ["tuple"] (.int 2) S = some (.bl false, S) := rfl
  have hl : fLen (.tup [.int 1, .int 2]) S = some (.int 2, S) := rfl
  rw [e]
  unfold mFn B_term_sort
  simp only [List.length_cons, List.length_nil, Nat.reduceAdd, if_true, List.map_cons, List.map_nil, List.replicate, List.cons_append, List.nil_append, Nat.reduceSub, Nat.sub_self]
  simp only [bind_ok, bind_ex, of_some, rs_ok, rs_ex, then_nx, then_rt, then_ex, then_bk, then_ct, mV0, mVs, mC_, m2_, m1_, mB_, kB_bl, mB1_, mNil_, mCons_, f1L_, f2L_, mTup_, mLst_, mCall_, mNotT_, mAndT_, mOrT_, mIf_, mAndV_, mOrV_, mNotV_, kAndV_bl, kOrV_bl, kNotV_bl, mSl_, mPart_, kPart_, mNoPart_, sSeq_, sSet_, sRet_, sIf_, sExpr_, sNil_, sBreak_, sCont_, e_lt, e_ltD, e_le, e_gt, e_ge, e_eqI, e_neI, e_eqS, e_neS, e_add, e_sub, List.set_cons_zero, List.set_cons_succ, kTu0, kTu1, kTu2, kTu3, kTu4, kTu5, kLs0, kLs1, kLs2, kLs3, kLs4, kLs5, mM_, mM0_, sAsg_, sFor_, iRng_, iSeq_, hi, hl, e_t0, e_t1, h2, whole_int, decide_true, Bool.not_true, Bool.not_false, Bool.false_eq_true, if_false, if_true, d_BAD] <;> rfl
section
variable {S : Sto} {a b lc lp lq : Int} {bad x y : D} (ha : 1 ≤ a) (hb : 1 ≤ b) (h : Bad bad)
include h in
theorem cp1 : M_check_pair [bad, x, bad, y] S = .ex (exBA 0) S := by
  rcases bad_1 (S := S) h with w | ⟨i, rfl, d1⟩
  · unfold M_check_pair mFn B_check_pair
    simp only [List.length_cons, List.length_nil, Nat.reduceAdd, if_true, List.map_cons, List.map_nil, List.replicate, List.cons_append, List.nil_append, Nat.reduceSub, Nat.sub_self]
    simp only [bind_ok, bind_ex, of_some, rs_ok, rs_ex, then_nx, then_rt, then_ex, then_bk, then_ct, mV0, mVs, mC_, m2_, m1_, mB_, kB_bl, mB1_, mNil_, mCons_, f1L_, f2L_, mTup_, mLst_, mCall_, mNotT_, mAndT_, mOrT_, mIf_, mAndV_, mOrV_, mNotV_, kAndV_bl, kOrV_bl, kNotV_bl, mSl_, mPart_, kPart_, mNoPart_, sSeq_, sSet_, sRet_, sIf_, sExpr_, sNil_, sBreak_, sCont_, e_lt, e_ltD, e_le, e_gt, e_ge, e_eqI, e_neI, e_eqS, e_neS, e_add, e_sub, List.set_cons_zero, List.set_cons_succ, kTu0, kTu1, kTu2, kTu3, kTu4, kTu5, kLs0, kLs1, kLs2, kLs3, kLs4, kLs5, mM_, mM0_, sAsg_, sFor_, iRng_, iSeq_, w, Bool.not_false, if_true] <;> rfl
  · unfold M_check_pair mFn B_check_pair
    simp only [List.length_cons, List.length_nil, Nat.reduceAdd, if_true, List.map_cons, List.map_nil, List.replicate, List.cons_append, List.nil_append, Nat.reduceSub, Nat.sub_self]
    simp only [bind_ok, bind_ex, of_some, rs_ok, rs_ex, then_nx, then_rt, then_ex, then_bk, then_ct, mV0, mVs, mC_, m2_, m1_, mB_, kB_bl, mB1_, mNil_, mCons_, f1L_, f2L_, mTup_, mLst_, mCall_, mNotT_, mAndT_, mOrT_, mIf_, mAndV_, mOrV_, mNotV_, kAndV_bl, kOrV_bl, kNotV_bl, mSl_, mPart_, kPart_, mNoPart_, sSeq_, sSet_, sRet_, sIf_, sExpr_, sNil_, sBreak_, sCont_, e_lt, e_ltD, e_le, e_gt, e_ge, e_eqI, e_neI, e_eqS, e_neS, e_add, e_sub, List.set_cons_zero, List.set_cons_succ, kTu0, kTu1, kTu2, kTu3, kTu4, kTu5, kLs0, kLs1, kLs2, kLs3, kLs4, kLs5, mM_, mM0_, sAsg_, sFor_, iRng_, iSeq_, whole_int, d1, Bool.not_true, Bool.false_eq_true, if_false, if_true] <;> rfl
include ha in
theorem cp2 : M_check_pair [.int a, .int 7, bad, y] S = .ex exBT S := by
  have d1 : decide (a < 1) = false := decide_eq_false (by omega)
  unfold M_check_pair mFn B_check_pair
  simp only [List.length_cons, List.length_nil, Nat.reduceAdd, if_true, List.map_cons, List.map_nil, List.replicate, List.cons_append, List.nil_append, Nat.reduceSub, Nat.sub_self]
  simp only [bind_ok, bind_ex, of_some, rs_ok, rs_ex, then_nx, then_rt, then_ex, then_bk, then_ct, mV0, mVs, mC_, m2_, m1_, mB_, kB_bl, mB1_, mNil_, mCons_, f1L_, f2L_, mTup_, mLst_, mCall_, mNotT_, mAndT_, mOrT_, mIf_, mAndV_, mOrV_, mNotV_, kAndV_bl, kOrV_bl, kNotV_bl, mSl_, mPart_, kPart_, mNoPart_, sSeq_, sSet_, sRet_, sIf_, sExpr_, sNil_, sBreak_, sCont_, e_lt, e_ltD, e_le, e_gt, e_ge, e_eqI, e_neI, e_eqS, e_neS, e_add, e_sub, List.set_cons_zero, List.set_cons_succ, kTu0, kTu1, kTu2, kTu3, kTu4, kTu5, kLs0, kLs1, kLs2, kLs3, kLs4, kLs5, mM_, mM0_, sAsg_, sFor_, iRng_, iSeq_, whole_int, d1, ts_7, d_BAD, decide_true, Bool.not_true, Bool.false_eq_true, if_false, if_true] <;> rfl
include ha h in
theorem cp3 : M_check_pair [.int a, tm lc lp lq, bad, y] S = .ex (exBA 2) S := by
  have d1 : decide (a < 1) = false := decide_eq_false (by omega)
  obtain ⟨s, s1, s2⟩ := ts_tm (S := S) lc lp lq
  have d3 : decide (s = 3) = false := decide_eq_false (by omega)
  rcases bad_1 (S := S) h with w | ⟨i, rfl, d2⟩
  · unfold M_check_pair mFn B_check_pair
    simp only [List.length_cons, List.length_nil, Nat.reduceAdd, if_true, List.map_cons, List.map_nil, List.replicate, List.cons_append, List.nil_append, Nat.reduceSub, Nat.sub_self]
    simp only [bind_ok, bind_ex, of_some, rs_ok, rs_ex, then_nx, then_rt, then_ex, then_bk, then_ct, mV0, mVs, mC_, m2_, m1_, mB_, kB_bl, mB1_, mNil_, mCons_, f1L_, f2L_, mTup_, mLst_, mCall_, mNotT_, mAndT_, mOrT_, mIf_, mAndV_, mOrV_, mNotV_, kAndV_bl, kOrV_bl, kNotV_bl, mSl_, mPart_, kPart_, mNoPart_, sSeq_, sSet_, sRet_, sIf_, sExpr_, sNil_, sBreak_, sCont_, e_lt, e_ltD, e_le, e_gt, e_ge, e_eqI, e_neI, e_eqS, e_neS, e_add, e_sub, List.set_cons_zero, List.set_cons_succ, kTu0, kTu1, kTu2, kTu3, kTu4, kTu5, kLs0, kLs1, kLs2, kLs3, kLs4, kLs5, mM_, mM0_, sAsg_, sFor_, iRng_, iSeq_, whole_int, d1, s1, d3, d_BAD, w, Bool.not_false, Bool.not_true, Bool.false_eq_true, if_false, if_true] <;> rfl
  · unfold M_check_pair mFn B_check_pair
    simp only [List.length_cons, List.length_nil, Nat.reduceAdd, if_true, List.map_cons, List.map_nil, List.replicate, List.cons_append, List.nil_append, Nat.reduceSub, Nat.sub_self]
    simp only [bind_ok, bind_ex, of_some, rs_ok, rs_ex, then_nx, then_rt, then_ex, then_bk, then_ct, mV0, mVs, mC_, m2_, m1_, mB_, kB_bl, mB1_, mNil_, mCons_, f1L_, f2L_, mTup_, mLst_, mCall_, mNotT_, mAndT_, mOrT_, mIf_, mAndV_, mOrV_, mNotV_, kAndV_bl, kOrV_bl, kNotV_bl, mSl_, mPart_, kPart_, mNoPart_, sSeq_, sSet_, sRet_, sIf_, sExpr_, sNil_, sBreak_, sCont_, e_lt, e_ltD, e_le, e_gt, e_ge, e_eqI, e_neI, e_eqS, e_neS, e_add, e_sub, List.set_cons_zero, List.set_cons_succ, kTu0, kTu1, kTu2, kTu3, kTu4, kTu5, kLs0, kLs1, kLs2, kLs3, kLs4, kLs5, mM_, mM0_, sAsg_, sFor_, iRng_, iSeq_, whole_int, d1, s1, d3, d_BAD, d2, Bool.not_true, Bool.false_eq_true, if_false, if_true] <;> rfl
include ha hb in
theorem cp4 : M_check_pair [.int a, tm lc lp lq, .int b, .tup [.int 1, .int 2]] S = .ex exBT S := by
  have d1 : decide (a < 1) = false := decide_eq_false (by omega)
  have d2 : decide (b < 1) = false := decide_eq_false (by omega)
  obtain ⟨s, s1, s2⟩ := ts_tm (S := S) lc lp lq
  have d3 : decide (s = 3) = false := decide_eq_false (by omega)
  unfold M_check_pair mFn B_check_pair
  simp only [List.length_cons, List.length_nil, Nat.reduceAdd, if_true, List.map_cons, List.map_nil, List.replicate, List.cons_append, List.nil_append, Nat.reduceSub, Nat.sub_self]
  simp only [bind_ok, bind_ex, of_some, rs_ok, rs_ex, then_nx, then_rt, then_ex, then_bk, then_ct, mV0, mVs, mC_, m2_, m1_, mB_, kB_bl, mB1_, mNil_, mCons_, f1L_, f2L_, mTup_, mLst_, mCall_, mNotT_, mAndT_, mOrT_, mIf_, mAndV_, mOrV_, mNotV_, kAndV_bl, kOrV_bl, kNotV_bl, mSl_, mPart_, kPart_, mNoPart_, sSeq_, sSet_, sRet_, sIf_, sExpr_, sNil_, sBreak_, sCont_, e_lt, e_ltD, e_le, e_gt, e_ge, e_eqI, e_neI, e_eqS, e_neS, e_add, e_sub, List.set_cons_zero, List.set_cons_succ, kTu0, kTu1, kTu2, kTu3, kTu4, kTu5, kLs0, kLs1, kLs2, kLs3, kLs4, kLs5, mM_, mM0_, sAsg_, sFor_, iRng_, iSeq_, whole_int, d1, d2, s1, d3, ts_12, d_BAD, decide_true, Bool.not_true, Bool.false_eq_true, if_false, if_true] <;> rfl
end
theorem rr_ex {S : Sto} {x y z w : D} {e : Xn} (h : M_check_pair [x, y, z, w] S = .ex e S) : M_real_row [x, y, z, w] S = .ex e S := by
  unfold M_real_row mFn B_real_row
  simp only [List.length_cons, List.length_nil, Nat.reduceAdd, if_true, List.map_cons, List.map_nil, List.replicate, List.cons_append, List.nil_append, Nat.reduceSub, Nat.sub_self]
  simp only [bind_ok, bind_ex, of_some, rs_ok, rs_ex, then_nx, then_rt, then_ex, then_bk, then_ct, mV0, mVs, mC_, m2_, m1_, mB_, kB_bl, mB1_, mNil_, mCons_, f1L_, f2L_, mTup_, mLst_, mCall_, mNotT_, mAndT_, mOrT_, mIf_, mAndV_, mOrV_, mNotV_, kAndV_bl, kOrV_bl, kNotV_bl, mSl_, mPart_, kPart_, mNoPart_, sSeq_, sSet_, sRet_, sIf_, sExpr_, sNil_, sBreak_, sCont_, e_lt, e_ltD, e_le, e_gt, e_ge, e_eqI, e_neI, e_eqS, e_neS, e_add, e_sub, List.set_cons_zero, List.set_cons_succ, kTu0, kTu1, kTu2, kTu3, kTu4, kTu5, kLs0, kLs1, kLs2, kLs3, kLs4, kLs5, mM_, mM0_, sAsg_, sFor_, iRng_, iSeq_, h] <;> rfl
theorem dr_ex {S : Sto} {x y z w : D} {e : Xn} (h : M_check_pair [x, y, z, w] S = .ex e S) : M_dark_row [x, y, z, w] S = .ex e S := by
  unfold M_dark_row mFn B_dark_row
  simp only [List.length_cons, List.length_nil, Nat.reduceAdd, if_true, List.map_cons, List.map_nil, List.replicate, List.cons_append, List.nil_append, Nat.reduceSub, Nat.sub_self]
  simp only [bind_ok, bind_ex, of_some, rs_ok, rs_ex, then_nx, then_rt, then_ex, then_bk, then_ct, mV0, mVs, mC_, m2_, m1_, mB_, kB_bl, mB1_, mNil_, mCons_, f1L_, f2L_, mTup_, mLst_, mCall_, mNotT_, mAndT_, mOrT_, mIf_, mAndV_, mOrV_, mNotV_, kAndV_bl, kOrV_bl, kNotV_bl, mSl_, mPart_, kPart_, mNoPart_, sSeq_, sSet_, sRet_, sIf_, sExpr_, sNil_, sBreak_, sCont_, e_lt, e_ltD, e_le, e_gt, e_ge, e_eqI, e_neI, e_eqS, e_neS, e_add, e_sub, List.set_cons_zero, List.set_cons_succ, kTu0, kTu1, kTu2, kTu3, kTu4, kTu5, kLs0, kLs1, kLs2, kLs3, kLs4, kLs5, mM_, mM0_, sAsg_, sFor_, iRng_, iSeq_, h] <;> rfl
theorem ie_ex {S : Sto} {x y z w : D} {e : Xn} (h : M_check_pair [x, y, z, w] S = .ex e S) : M_is_exact [x, y, z, w] S = .ex e S := by
  unfold M_is_exact mFn B_is_exact
  simp only [List.length_cons, List.length_nil, Nat.reduceAdd, if_true, List.map_cons, List.map_nil, List.replicate, List.cons_append, List.nil_append, Nat.reduceSub, Nat.sub_self]
  simp only [bind_ok, bind_ex, of_some, rs_ok, rs_ex, then_nx, then_rt, then_ex, then_bk, then_ct, mV0, mVs, mC_, m2_, m1_, mB_, kB_bl, mB1_, mNil_, mCons_, f1L_, f2L_, mTup_, mLst_, mCall_, mNotT_, mAndT_, mOrT_, mIf_, mAndV_, mOrV_, mNotV_, kAndV_bl, kOrV_bl, kNotV_bl, mSl_, mPart_, kPart_, mNoPart_, sSeq_, sSet_, sRet_, sIf_, sExpr_, sNil_, sBreak_, sCont_, e_lt, e_ltD, e_le, e_gt, e_ge, e_eqI, e_neI, e_eqS, e_neS, e_add, e_sub, List.set_cons_zero, List.set_cons_succ, kTu0, kTu1, kTu2, kTu3, kTu4, kTu5, kLs0, kLs1, kLs2, kLs3, kLs4, kLs5, mM_, mM0_, sAsg_, sFor_, iRng_, iSeq_, rr_ex h] <;> rfl
section
variable {S : Sto} {a b : Int} {bad odd x y : D} (ha : 1 ≤ a) (hb : 1 ≤ b) (h : Bad bad) (o : Odd odd)
include h in
theorem wb1 : M_whole_between [bad, x, bad, y] S = .ex (exBA 0) S := by
  rcases bad_1 (S := S) h with w | ⟨i, rfl, d1⟩
  · unfold M_whole_between mFn B_whole_between
    simp only [List.length_cons, List.length_nil, Nat.reduceAdd, if_true, List.map_cons, List.map_nil, List.replicate, List.cons_append, List.nil_append, Nat.reduceSub, Nat.sub_self]
    simp only [bind_ok, bind_ex, of_some, rs_ok, rs_ex, then_nx, then_rt, then_ex, then_bk, then_ct, mV0, mVs, mC_, m2_, m1_, mB_, kB_bl, mB1_, mNil_, mCons_, f1L_, f2L_, mTup_, mLst_, mCall_, mNotT_, mAndT_, mOrT_, mIf_, mAndV_, mOrV_, mNotV_, kAndV_bl, kOrV_bl, kNotV_bl, mSl_, mPart_, kPart_, mNoPart_, sSeq_, sSet_, sRet_, sIf_, sExpr_, sNil_, sBreak_, sCont_, e_lt, e_ltD, e_le, e_gt, e_ge, e_eqI, e_neI, e_eqS, e_neS, e_add, e_sub, List.set_cons_zero, List.set_cons_succ, kTu0, kTu1, kTu2, kTu3, kTu4, kTu5, kLs0, kLs1, kLs2, kLs3, kLs4, kLs5, mM_, mM0_, sAsg_, sFor_, iRng_, iSeq_, w, Bool.not_false, if_true] <;> rfl
  · unfold M_whole_between mFn B_whole_between
    simp only [List.length_cons, List.length_nil, Nat.reduceAdd, if_true, List.map_cons, List.map_nil, List.replicate, List.cons_append, List.nil_append, Nat.reduceSub, Nat.sub_self]
    simp only [bind_ok, bind_ex, of_some, rs_ok, rs_ex, then_nx, then_rt, then_ex, then_bk, then_ct, mV0, mVs, mC_, m2_, m1_, mB_, kB_bl, mB1_, mNil_, mCons_, f1L_, f2L_, mTup_, mLst_, mCall_, mNotT_, mAndT_, mOrT_, mIf_, mAndV_, mOrV_, mNotV_, kAndV_bl, kOrV_bl, kNotV_bl, mSl_, mPart_, kPart_, mNoPart_, sSeq_, sSet_, sRet_, sIf_, sExpr_, sNil_, sBreak_, sCont_, e_lt, e_ltD, e_le, e_gt, e_ge, e_eqI, e_neI, e_eqS, e_neS, e_add, e_sub, List.set_cons_zero, List.set_cons_succ, kTu0, kTu1, kTu2, kTu3, kTu4, kTu5, kLs0, kLs1, kLs2, kLs3, kLs4, kLs5, mM_, mM0_, sAsg_, sFor_, iRng_, iSeq_, whole_int, d1, Bool.not_true, Bool.false_eq_true, if_false, if_true] <;> rfl
include ha o in
theorem wb2 : M_whole_between [.int a, odd, x, y] S = .ex (exBA 1) S := by
  have d1 : decide (a < 1) = false := decide_eq_false (by omega)
  obtain ⟨o1, o2⟩ := odd_1 (S := S) o
  unfold M_whole_between mFn B_whole_between
  simp only [List.length_cons, List.length_nil, Nat.reduceAdd, if_true, List.map_cons, List.map_nil, List.replicate, List.cons_append, List.nil_append, Nat.reduceSub, Nat.sub_self]
  simp only [bind_ok, bind_ex, of_some, rs_ok, rs_ex, then_nx, then_rt, then_ex, then_bk, then_ct, mV0, mVs, mC_, m2_, m1_, mB_, kB_bl, mB1_, mNil_, mCons_, f1L_, f2L_, mTup_, mLst_, mCall_, mNotT_, mAndT_, mOrT_, mIf_, mAndV_, mOrV_, mNotV_, kAndV_bl, kOrV_bl, kNotV_bl, mSl_, mPart_, kPart_, mNoPart_, sSeq_, sSet_, sRet_, sIf_, sExpr_, sNil_, sBreak_, sCont_, e_lt, e_ltD, e_le, e_gt, e_ge, e_eqI, e_neI, e_eqS, e_neS, e_add, e_sub, List.set_cons_zero, List.set_cons_succ, kTu0, kTu1, kTu2, kTu3, kTu4, kTu5, kLs0, kLs1, kLs2, kLs3, kLs4, kLs5, mM_, mM0_, sAsg_, sFor_, iRng_, iSeq_, whole_int, d1, check_whole_bad o1 o2, Bool.not_true, Bool.false_eq_true, if_false] <;> rfl
include ha h in
theorem wb3 : M_whole_between [.int a, .int 1, bad, y] S = .ex (exBA 2) S := by
  have d1 : decide (a < 1) = false := decide_eq_false (by omega)
  rcases bad_1 (S := S) h with w | ⟨i, rfl, d2⟩
  · unfold M_whole_between mFn B_whole_between
    simp only [List.length_cons, List.length_nil, Nat.reduceAdd, if_true, List.map_cons, List.map_nil, List.replicate, List.cons_append, List.nil_append, Nat.reduceSub, Nat.sub_self]
    simp only [bind_ok, bind_ex, of_some, rs_ok, rs_ex, then_nx, then_rt, then_ex, then_bk, then_ct, mV0, mVs, mC_, m2_, m1_, mB_, kB_bl, mB1_, mNil_, mCons_, f1L_, f2L_, mTup_, mLst_, mCall_, mNotT_, mAndT_, mOrT_, mIf_, mAndV_, mOrV_, mNotV_, kAndV_bl, kOrV_bl, kNotV_bl, mSl_, mPart_, kPart_, mNoPart_, sSeq_, sSet_, sRet_, sIf_, sExpr_, sNil_, sBreak_, sCont_, e_lt, e_ltD, e_le, e_gt, e_ge, e_eqI, e_neI, e_eqS, e_neS, e_add, e_sub, List.set_cons_zero, List.set_cons_succ, kTu0, kTu1, kTu2, kTu3, kTu4, kTu5, kLs0, kLs1, kLs2, kLs3, kLs4, kLs5, mM_, mM0_, sAsg_, sFor_, iRng_, iSeq_, whole_int, check_whole, d1, w, Bool.not_true, Bool.not_false, Bool.false_eq_true, if_false, if_true] <;> rfl
  · unfold M_whole_between mFn B_whole_between
    simp only [List.length_cons, List.length_nil, Nat.reduceAdd, if_true, List.map_cons, List.map_nil, List.replicate, List.cons_append, List.nil_append, Nat.reduceSub, Nat.sub_self]
    simp only [bind_ok, bind_ex, of_some, rs_ok, rs_ex, then_nx, then_rt, then_ex, then_bk, then_ct, mV0, mVs, mC_, m2_, m1_, mB_, kB_bl, mB1_, mNil_, mCons_, f1L_, f2L_, mTup_, mLst_, mCall_, mNotT_, mAndT_, mOrT_, mIf_, mAndV_, mOrV_, mNotV_, kAndV_bl, kOrV_bl, kNotV_bl, mSl_, mPart_, kPart_, mNoPart_, sSeq_, sSet_, sRet_, sIf_, sExpr_, sNil_, sBreak_, sCont_, e_lt, e_ltD, e_le, e_gt, e_ge, e_eqI, e_neI, e_eqS, e_neS, e_add, e_sub, List.set_cons_zero, List.set_cons_succ, kTu0, kTu1, kTu2, kTu3, kTu4, kTu5, kLs0, kLs1, kLs2, kLs3, kLs4, kLs5, mM_, mM0_, sAsg_, sFor_, iRng_, iSeq_, whole_int, check_whole, d1, d2, Bool.not_true, Bool.false_eq_true, if_false, if_true] <;> rfl
include ha hb o in
theorem wb4 : M_whole_between [.int a, .int 1, .int b, odd] S = .ex (exBA 3) S := by
  have d1 : decide (a < 1) = false := decide_eq_false (by omega)
  have d2 : decide (b < 1) = false := decide_eq_false (by omega)
  obtain ⟨o1, o2⟩ := odd_1 (S := S) o
  unfold M_whole_between mFn B_whole_between
  simp only [List.length_cons, List.length_nil, Nat.reduceAdd, if_true, List.map_cons, List.map_nil, List.replicate, List.cons_append, List.nil_append, Nat.reduceSub, Nat.sub_self]
  simp only [bind_ok, bind_ex, of_some, rs_ok, rs_ex, then_nx, then_rt, then_ex, then_bk, then_ct, mV0, mVs, mC_, m2_, m1_, mB_, kB_bl, mB1_, mNil_, mCons_, f1L_, f2L_, mTup_, mLst_, mCall_, mNotT_, mAndT_, mOrT_, mIf_, mAndV_, mOrV_, mNotV_, kAndV_bl, kOrV_bl, kNotV_bl, mSl_, mPart_, kPart_, mNoPart_, sSeq_, sSet_, sRet_, sIf_, sExpr_, sNil_, sBreak_, sCont_, e_lt, e_ltD, e_le, e_gt, e_ge, e_eqI, e_neI, e_eqS, e_neS, e_add, e_sub, List.set_cons_zero, List.set_cons_succ, kTu0, kTu1, kTu2, kTu3, kTu4, kTu5, kLs0, kLs1, kLs2, kLs3, kLs4, kLs5, mM_, mM0_, sAsg_, sFor_, iRng_, iSeq_, whole_int, check_whole, d1, d2, check_whole_bad o1 o2, Bool.not_true, Bool.false_eq_true, if_false] <;> rfl
include o in
theorem vn1 (hn : odd ≠ .non) : M_value_nearest [odd, odd] S = .ex (exBA 0) S := by
  obtain ⟨o1, o2⟩ := odd_1 (S := S) o
  unfold M_value_nearest mFn B_value_nearest
  simp only [List.length_cons, List.length_nil, Nat.reduceAdd, if_true, List.map_cons, List.map_nil, List.replicate, List.cons_append, List.nil_append, Nat.reduceSub, Nat.sub_self]
  simp only [bind_ok, bind_ex, of_some, rs_ok, rs_ex, then_nx, then_rt, then_ex, then_bk, then_ct, mV0, mVs, mC_, m2_, m1_, mB_, kB_bl, mB1_, mNil_, mCons_, f1L_, f2L_, mTup_, mLst_, mCall_, mNotT_, mAndT_, mOrT_, mIf_, mAndV_, mOrV_, mNotV_, kAndV_bl, kOrV_bl, kNotV_bl, mSl_, mPart_, kPart_, mNoPart_, sSeq_, sSet_, sRet_, sIf_, sExpr_, sNil_, sBreak_, sCont_, e_lt, e_ltD, e_le, e_gt, e_ge, e_eqI, e_neI, e_eqS, e_neS, e_add, e_sub, List.set_cons_zero, List.set_cons_succ, kTu0, kTu1, kTu2, kTu3, kTu4, kTu5, kLs0, kLs1, kLs2, kLs3, kLs4, kLs5, mM_, mM0_, sAsg_, sFor_, iRng_, iSeq_, odd_n o hn, if_true, check_whole_bad o1 o2] <;> rfl
include o in
theorem vn2 (hn : odd ≠ .non) : M_value_nearest [.int 1, odd] S = .ex (exBA 1) S := by
  obtain ⟨o1, o2⟩ := odd_1 (S := S) o
  unfold M_value_nearest mFn B_value_nearest
  simp only [List.length_cons, List.length_nil, Nat.reduceAdd, if_true, List.map_cons, List.map_nil, List.replicate, List.cons_append, List.nil_append, Nat.reduceSub, Nat.sub_self]
  simp only [bind_ok, bind_ex, of_some, rs_ok, rs_ex, then_nx, then_rt, then_ex, then_bk, then_ct, mV0, mVs, mC_, m2_, m1_, mB_, kB_bl, mB1_, mNil_, mCons_, f1L_, f2L_, mTup_, mLst_, mCall_, mNotT_, mAndT_, mOrT_, mIf_, mAndV_, mOrV_, mNotV_, kAndV_bl, kOrV_bl, kNotV_bl, mSl_, mPart_, kPart_, mNoPart_, sSeq_, sSet_, sRet_, sIf_, sExpr_, sNil_, sBreak_, sCont_, e_lt, e_ltD, e_le, e_gt, e_ge, e_eqI, e_neI, e_eqS, e_neS, e_add, e_sub, List.set_cons_zero, List.set_cons_succ, kTu0, kTu1, kTu2, kTu3, kTu4, kTu5, kLs0, kLs1, kLs2, kLs3, kLs4, kLs5, mM_, mM0_, sAsg_, sFor_, iRng_, iSeq_, isn_i, check_whole, odd_n o hn, if_true, check_whole_bad o1 o2] <;> rfl
end
theorem ir_ne {S : Sto} {c p q : Int} : M_is_row [facD "ne" c p q] S = .ok (.bl false) S := by
  obtain ⟨s, s1, s2⟩ := ts_tm (S := S) c p q
  have d3 : decide (s = 3) = false := decide_eq_false (by omega)
  have e : M_fact_sort = mFn 2 5 (B_fact_sort (R_quantified_sort 11)) := rfl
  have fs : M_fact_sort [facD "ne" c p q, .int 0] S = .ok (.int s) S := by
    have hi : fIsi ["tuple"] (facD "ne" c p q) S = some (.bl true, S) := rfl
    have hl : fLen (facD "ne" c p q) S = some (.int 2, S) := rfl
    have d1 : decide ((2 : Int) < 2) = false := rfl
    have hin : fInD (.str "ne") (.tup [.str "le", .str "eq", .str "ne"]) S = some (.bl true, S) := rfl
    rw [e]
    unfold mFn B_fact_sort
    simp only [List.length_cons, List.length_nil, Nat.reduceAdd, if_true, List.map_cons, List.map_nil, List.replicate, List.cons_append, List.nil_append, Nat.reduceSub, Nat.sub_self]
    simp only [bind_ok, bind_ex, of_some, rs_ok, rs_ex, then_nx, then_rt, then_ex, then_bk, then_ct, mV0, mVs, mC_, m2_, m1_, mB_, kB_bl, mB1_, mNil_, mCons_, f1L_, f2L_, mTup_, mLst_, mCall_, mNotT_, mAndT_, mOrT_, mIf_, mAndV_, mOrV_, mNotV_, kAndV_bl, kOrV_bl, kNotV_bl, mSl_, mPart_, kPart_, mNoPart_, sSeq_, sSet_, sRet_, sIf_, sExpr_, sNil_, sBreak_, sCont_, e_lt, e_ltD, e_le, e_gt, e_ge, e_eqI, e_neI, e_eqS, e_neS, e_add, e_sub, List.set_cons_zero, List.set_cons_succ, kTu0, kTu1, kTu2, kTu3, kTu4, kTu5, kLs0, kLs1, kLs2, kLs3, kLs4, kLs5, mM_, mM0_, sAsg_, sFor_, iRng_, iSeq_, hi, hl, d1, fac0, hin, fac1, s1, Bool.not_true, Bool.false_eq_true, if_false, if_true, decide_true] <;> rfl
  have hf : M_is_fact [facD "ne" c p q] S = .ok (.bl true) S := by
    show mFn 2 2 B_is_fact [facD "ne" c p q, .bl false] S = _
    unfold mFn B_is_fact
    simp only [List.length_cons, List.length_nil, Nat.reduceAdd, if_true, List.map_cons, List.map_nil, List.replicate, List.cons_append, List.nil_append, Nat.reduceSub, Nat.sub_self]
    simp only [bind_ok, bind_ex, of_some, rs_ok, rs_ex, then_nx, then_rt, then_ex, then_bk, then_ct, mV0, mVs, mC_, m2_, m1_, mB_, kB_bl, mB1_, mNil_, mCons_, f1L_, f2L_, mTup_, mLst_, mCall_, mNotT_, mAndT_, mOrT_, mIf_, mAndV_, mOrV_, mNotV_, kAndV_bl, kOrV_bl, kNotV_bl, mSl_, mPart_, kPart_, mNoPart_, sSeq_, sSet_, sRet_, sIf_, sExpr_, sNil_, sBreak_, sCont_, e_lt, e_ltD, e_le, e_gt, e_ge, e_eqI, e_neI, e_eqS, e_neS, e_add, e_sub, List.set_cons_zero, List.set_cons_succ, kTu0, kTu1, kTu2, kTu3, kTu4, kTu5, kLs0, kLs1, kLs2, kLs3, kLs4, kLs5, mM_, mM0_, sAsg_, sFor_, iRng_, iSeq_, fs, d_BAD, d3, Bool.not_false, if_true] <;> rfl
  have hin : fInD (.str "ne") (.tup [.str "le", .str "eq"]) S = some (.bl false, S) := rfl
  unfold M_is_row mFn B_is_row
  simp only [List.length_cons, List.length_nil, Nat.reduceAdd, if_true, List.map_cons, List.map_nil, List.replicate, List.cons_append, List.nil_append, Nat.reduceSub, Nat.sub_self]
  simp only [bind_ok, bind_ex, of_some, rs_ok, rs_ex, then_nx, then_rt, then_ex, then_bk, then_ct, mV0, mVs, mC_, m2_, m1_, mB_, kB_bl, mB1_, mNil_, mCons_, f1L_, f2L_, mTup_, mLst_, mCall_, mNotT_, mAndT_, mOrT_, mIf_, mAndV_, mOrV_, mNotV_, kAndV_bl, kOrV_bl, kNotV_bl, mSl_, mPart_, kPart_, mNoPart_, sSeq_, sSet_, sRet_, sIf_, sExpr_, sNil_, sBreak_, sCont_, e_lt, e_ltD, e_le, e_gt, e_ge, e_eqI, e_neI, e_eqS, e_neS, e_add, e_sub, List.set_cons_zero, List.set_cons_succ, kTu0, kTu1, kTu2, kTu3, kTu4, kTu5, kLs0, kLs1, kLs2, kLs3, kLs4, kLs5, mM_, mM0_, sAsg_, sFor_, iRng_, iSeq_, hf, if_true, fac0, hin] <;> rfl
theorem ir_tm {S : Sto} {c p q : Int} : M_is_row [tm c p q] S = .ok (.bl false) S := by
  have e : M_fact_sort = mFn 2 5 (B_fact_sort (R_quantified_sort 11)) := rfl
  have fs : M_fact_sort [tm c p q, .int 0] S = .ok (.int 3) S := by
    have d1 : decide ((2 : Int) < 2) = false := rfl
    have h1 : fInD (.int c) (.tup [.str "le", .str "eq", .str "ne"]) S = some (.bl false, S) := rfl
    have h2 : fInD (.int c) (.tup [.str "and", .str "or"]) S = some (.bl false, S) := rfl
    have h3 : fInD (.int c) (.tup [.str "all", .str "some"]) S = some (.bl false, S) := rfl
    have h4 : fInD (.int c) (.tup [.str "same", .str "unlike"]) S = some (.bl false, S) := rfl
    have d0 : decide ((0 : Int) < 0) = false := rfl
    rw [e]
    unfold mFn B_fact_sort
    simp only [List.length_cons, List.length_nil, Nat.reduceAdd, if_true, List.map_cons, List.map_nil, List.replicate, List.cons_append, List.nil_append, Nat.reduceSub, Nat.sub_self]
    simp only [bind_ok, bind_ex, of_some, rs_ok, rs_ex, then_nx, then_rt, then_ex, then_bk, then_ct, mV0, mVs, mC_, m2_, m1_, mB_, kB_bl, mB1_, mNil_, mCons_, f1L_, f2L_, mTup_, mLst_, mCall_, mNotT_, mAndT_, mOrT_, mIf_, mAndV_, mOrV_, mNotV_, kAndV_bl, kOrV_bl, kNotV_bl, mSl_, mPart_, kPart_, mNoPart_, sSeq_, sSet_, sRet_, sIf_, sExpr_, sNil_, sBreak_, sCont_, e_lt, e_ltD, e_le, e_gt, e_ge, e_eqI, e_neI, e_eqS, e_neS, e_add, e_sub, List.set_cons_zero, List.set_cons_succ, kTu0, kTu1, kTu2, kTu3, kTu4, kTu5, kLs0, kLs1, kLs2, kLs3, kLs4, kLs5, mM_, mM0_, sAsg_, sFor_, iRng_, iSeq_, isi_tm, len_tm, d1, tm0, h1, h2, h3, h4, d0, Bool.not_true, Bool.false_eq_true, if_false, d_BAD] <;> rfl
  have hf : M_is_fact [tm c p q] S = .ok (.bl false) S := by
    show mFn 2 2 B_is_fact [tm c p q, .bl false] S = _
    unfold mFn B_is_fact
    simp only [List.length_cons, List.length_nil, Nat.reduceAdd, if_true, List.map_cons, List.map_nil, List.replicate, List.cons_append, List.nil_append, Nat.reduceSub, Nat.sub_self]
    simp only [bind_ok, bind_ex, of_some, rs_ok, rs_ex, then_nx, then_rt, then_ex, then_bk, then_ct, mV0, mVs, mC_, m2_, m1_, mB_, kB_bl, mB1_, mNil_, mCons_, f1L_, f2L_, mTup_, mLst_, mCall_, mNotT_, mAndT_, mOrT_, mIf_, mAndV_, mOrV_, mNotV_, kAndV_bl, kOrV_bl, kNotV_bl, mSl_, mPart_, kPart_, mNoPart_, sSeq_, sSet_, sRet_, sIf_, sExpr_, sNil_, sBreak_, sCont_, e_lt, e_ltD, e_le, e_gt, e_ge, e_eqI, e_neI, e_eqS, e_neS, e_add, e_sub, List.set_cons_zero, List.set_cons_succ, kTu0, kTu1, kTu2, kTu3, kTu4, kTu5, kLs0, kLs1, kLs2, kLs3, kLs4, kLs5, mM_, mM0_, sAsg_, sFor_, iRng_, iSeq_, fs, d_BAD, decide_true, Bool.not_true, Bool.false_eq_true, if_false] <;> rfl
  unfold M_is_row mFn B_is_row
  simp only [List.length_cons, List.length_nil, Nat.reduceAdd, if_true, List.map_cons, List.map_nil, List.replicate, List.cons_append, List.nil_append, Nat.reduceSub, Nat.sub_self]
  simp only [bind_ok, bind_ex, of_some, rs_ok, rs_ex, then_nx, then_rt, then_ex, then_bk, then_ct, mV0, mVs, mC_, m2_, m1_, mB_, kB_bl, mB1_, mNil_, mCons_, f1L_, f2L_, mTup_, mLst_, mCall_, mNotT_, mAndT_, mOrT_, mIf_, mAndV_, mOrV_, mNotV_, kAndV_bl, kOrV_bl, kNotV_bl, mSl_, mPart_, kPart_, mNoPart_, sSeq_, sSet_, sRet_, sIf_, sExpr_, sNil_, sBreak_, sCont_, e_lt, e_ltD, e_le, e_gt, e_ge, e_eqI, e_neI, e_eqS, e_neS, e_add, e_sub, List.set_cons_zero, List.set_cons_succ, kTu0, kTu1, kTu2, kTu3, kTu4, kTu5, kLs0, kLs1, kLs2, kLs3, kLs4, kLs5, mM_, mM0_, sAsg_, sFor_, iRng_, iSeq_, hf, Bool.false_eq_true, if_false] <;> rfl
theorem sh_ex {S : Sto} {d : D} (h : M_is_row [d] S = .ok (.bl false) S) : M_shortened [d] S = .ex exBF S := by
  unfold M_shortened mFn B_shortened
  simp only [List.length_cons, List.length_nil, Nat.reduceAdd, if_true, List.map_cons, List.map_nil, List.replicate, List.cons_append, List.nil_append, Nat.reduceSub, Nat.sub_self]
  simp only [bind_ok, bind_ex, of_some, rs_ok, rs_ex, then_nx, then_rt, then_ex, then_bk, then_ct, mV0, mVs, mC_, m2_, m1_, mB_, kB_bl, mB1_, mNil_, mCons_, f1L_, f2L_, mTup_, mLst_, mCall_, mNotT_, mAndT_, mOrT_, mIf_, mAndV_, mOrV_, mNotV_, kAndV_bl, kOrV_bl, kNotV_bl, mSl_, mPart_, kPart_, mNoPart_, sSeq_, sSet_, sRet_, sIf_, sExpr_, sNil_, sBreak_, sCont_, e_lt, e_ltD, e_le, e_gt, e_ge, e_eqI, e_neI, e_eqS, e_neS, e_add, e_sub, List.set_cons_zero, List.set_cons_succ, kTu0, kTu1, kTu2, kTu3, kTu4, kTu5, kLs0, kLs1, kLs2, kLs3, kLs4, kLs5, mM_, mM0_, sAsg_, sFor_, iRng_, iSeq_, h, Bool.not_false, if_true] <;> rfl
/-! asked -/
def AB : MS := (sIf (mB (m2 fEq (mV 0) (mC (.str "between"))))
  (sSet 2 (mCall M_whole_between (mCons (m2 fIx (mV 1) (mC (.int 0))) (mCons (m2 fIx (mV 1) (mC (.int 1))) (mCons (m2 fIx (mV 1) (mC (.int 2))) (mCons (m2 fIx (mV 1) (mC (.int 3))) mNil))))))
  (sIf (mB (m2 fEq (mV 0) (mC (.str "real"))))
  (sSet 2 (mCall M_real_row (mCons (m2 fIx (mV 1) (mC (.int 0))) (mCons (m2 fIx (mV 1) (mC (.int 1))) (mCons (m2 fIx (mV 1) (mC (.int 2))) (mCons (m2 fIx (mV 1) (mC (.int 3))) mNil))))))
  (sIf (mB (m2 fEq (mV 0) (mC (.str "dark"))))
  (sSet 2 (mCall M_dark_row (mCons (m2 fIx (mV 1) (mC (.int 0))) (mCons (m2 fIx (mV 1) (mC (.int 1))) (mCons (m2 fIx (mV 1) (mC (.int 2))) (mCons (m2 fIx (mV 1) (mC (.int 3))) mNil))))))
  (sIf (mB (m2 fEq (mV 0) (mC (.str "exact"))))
  (sSet 2 (mCall M_is_exact (mCons (m2 fIx (mV 1) (mC (.int 0))) (mCons (m2 fIx (mV 1) (mC (.int 1))) (mCons (m2 fIx (mV 1) (mC (.int 2))) (mCons (m2 fIx (mV 1) (mC (.int 3))) mNil))))))
  (sIf (mB (m2 fEq (mV 0) (mC (.str "short"))))
  (sSet 2 (mCall M_shortened (mCons (mV 1) mNil)))
  (sSet 2 (mCall M_value_nearest (mCons (m2 fIx (mV 1) (mC (.int 0))) (mCons (m2 fIx (mV 1) (mC (.int 1))) mNil)))))))))
def AH : List ClM := [(sub_BadArguments, some 3, (xSetL 2 (fun en => ((fun _ => some (.str "arguments")) en).bind fun d => ((fun en => ((fun en => if en.cls ∈ xl_number then en.fs.lookup ("number" : Str) else none) en).bind fun d => ((fun _ => some []) en).map fun ds => d :: ds) en).map fun ds => d :: ds))),
  (sub_BadTerm, none, fun _ => (sSet 2 (mC (.str "term")))),
  (sub_BadFact, none, fun _ => (sSet 2 (mC (.str "fact"))))]
theorem asked_B : B__law_asked = sSeq (sSet 2 (mC .non)) (sSeq (sTryM AB AH) (sRet (mV 2))) := (rfl)
section
variable {S : Sto} {d : D} {w : Str}
theorem asked_a {k : Int} (h : AB [some (.str w), some d, some .non, none] S = .ex (exBA k) [some (.str w), some d, some .non, none] S) : M__law_asked [.str w, d] S = .ok (.obj S.length) (S ++ [.lst [.str "arguments", .int k]]) := by
  have hc : catchM AH (exBA k) [some (.str w), some d, some .non, none] S = .nx [some (.str w), some d, some (.obj S.length), none] (S ++ [.lst [.str "arguments", .int k]]) := by
    have hs : sub_BadArguments "BadArguments" = some true := by decide +kernel
    have hx : ("BadArguments" : Str) ∈ xl_number := by decide +kernel
    unfold AH catchM
    simp only [hs]
    rw [if_pos (show 3 < [some (D.str w), some d, some D.non, none].length from by simp)]
    unfold xSetL
    simp only [if_pos hx]
    rfl
  unfold M__law_asked mFn
  rw [asked_B]
  simp only [List.length_cons, List.length_nil, Nat.reduceAdd, if_true, List.map_cons, List.map_nil, List.replicate, List.cons_append, List.nil_append, Nat.reduceSub, Nat.sub_self]
  simp only [bind_ok, bind_ex, of_some, rs_ok, rs_ex, then_nx, then_rt, then_ex, then_bk, then_ct, mV0, mVs, mC_, m2_, m1_, mB_, kB_bl, mB1_, mNil_, mCons_, f1L_, f2L_, mTup_, mLst_, mCall_, mNotT_, mAndT_, mOrT_, mIf_, mAndV_, mOrV_, mNotV_, kAndV_bl, kOrV_bl, kNotV_bl, mSl_, mPart_, kPart_, mNoPart_, sSeq_, sSet_, sRet_, sIf_, sExpr_, sNil_, sBreak_, sCont_, e_lt, e_ltD, e_le, e_gt, e_ge, e_eqI, e_neI, e_eqS, e_neS, e_add, e_sub, List.set_cons_zero, List.set_cons_succ, kTu0, kTu1, kTu2, kTu3, kTu4, kTu5, kLs0, kLs1, kLs2, kLs3, kLs4, kLs5, mM_, mM0_, sAsg_, sFor_, iRng_, iSeq_]
  unfold sTryM
  simp only [h, hc, bind_ok, bind_ex, of_some, rs_ok, rs_ex, then_nx, then_rt, then_ex, then_bk, then_ct, mV0, mVs, mC_, m2_, m1_, mB_, kB_bl, mB1_, mNil_, mCons_, f1L_, f2L_, mTup_, mLst_, mCall_, mNotT_, mAndT_, mOrT_, mIf_, mAndV_, mOrV_, mNotV_, kAndV_bl, kOrV_bl, kNotV_bl, mSl_, mPart_, kPart_, mNoPart_, sSeq_, sSet_, sRet_, sIf_, sExpr_, sNil_, sBreak_, sCont_, e_lt, e_ltD, e_le, e_gt, e_ge, e_eqI, e_neI, e_eqS, e_neS, e_add, e_sub, List.set_cons_zero, List.set_cons_succ, kTu0, kTu1, kTu2, kTu3, kTu4, kTu5, kLs0, kLs1, kLs2, kLs3, kLs4, kLs5, mM_, mM0_, sAsg_, sFor_, iRng_, iSeq_] <;> rfl
theorem asked_t (h : AB [some (.str w), some d, some .non, none] S = .ex exBT [some (.str w), some d, some .non, none] S) : M__law_asked [.str w, d] S = .ok (.str "term") S := by
  have hc : catchM AH exBT [some (.str w), some d, some .non, none] S = .nx [some (.str w), some d, some (.str "term"), none] S := by
    have hs : sub_BadArguments "BadTerm" = some false := by decide +kernel
    have ht : sub_BadTerm "BadTerm" = some true := by decide +kernel
    unfold AH catchM
    simp only [hs]
    unfold catchM
    simp only [ht]
    rfl
  unfold M__law_asked mFn
  rw [asked_B]
  simp only [List.length_cons, List.length_nil, Nat.reduceAdd, if_true, List.map_cons, List.map_nil, List.replicate, List.cons_append, List.nil_append, Nat.reduceSub, Nat.sub_self]
  simp only [bind_ok, bind_ex, of_some, rs_ok, rs_ex, then_nx, then_rt, then_ex, then_bk, then_ct, mV0, mVs, mC_, m2_, m1_, mB_, kB_bl, mB1_, mNil_, mCons_, f1L_, f2L_, mTup_, mLst_, mCall_, mNotT_, mAndT_, mOrT_, mIf_, mAndV_, mOrV_, mNotV_, kAndV_bl, kOrV_bl, kNotV_bl, mSl_, mPart_, kPart_, mNoPart_, sSeq_, sSet_, sRet_, sIf_, sExpr_, sNil_, sBreak_, sCont_, e_lt, e_ltD, e_le, e_gt, e_ge, e_eqI, e_neI, e_eqS, e_neS, e_add, e_sub, List.set_cons_zero, List.set_cons_succ, kTu0, kTu1, kTu2, kTu3, kTu4, kTu5, kLs0, kLs1, kLs2, kLs3, kLs4, kLs5, mM_, mM0_, sAsg_, sFor_, iRng_, iSeq_]
  unfold sTryM
  simp only [h, hc, bind_ok, bind_ex, of_some, rs_ok, rs_ex, then_nx, then_rt, then_ex, then_bk, then_ct, mV0, mVs, mC_, m2_, m1_, mB_, kB_bl, mB1_, mNil_, mCons_, f1L_, f2L_, mTup_, mLst_, mCall_, mNotT_, mAndT_, mOrT_, mIf_, mAndV_, mOrV_, mNotV_, kAndV_bl, kOrV_bl, kNotV_bl, mSl_, mPart_, kPart_, mNoPart_, sSeq_, sSet_, sRet_, sIf_, sExpr_, sNil_, sBreak_, sCont_, e_lt, e_ltD, e_le, e_gt, e_ge, e_eqI, e_neI, e_eqS, e_neS, e_add, e_sub, List.set_cons_zero, List.set_cons_succ, kTu0, kTu1, kTu2, kTu3, kTu4, kTu5, kLs0, kLs1, kLs2, kLs3, kLs4, kLs5, mM_, mM0_, sAsg_, sFor_, iRng_, iSeq_] <;> rfl
theorem asked_f (h : AB [some (.str w), some d, some .non, none] S = .ex exBF [some (.str w), some d, some .non, none] S) : M__law_asked [.str w, d] S = .ok (.str "fact") S := by
  have hc : catchM AH exBF [some (.str w), some d, some .non, none] S = .nx [some (.str w), some d, some (.str "fact"), none] S := by
    have hs : sub_BadArguments "BadFact" = some false := by decide +kernel
    have ht : sub_BadTerm "BadFact" = some false := by decide +kernel
    have hf : sub_BadFact "BadFact" = some true := by decide +kernel
    unfold AH catchM
    simp only [hs]
    unfold catchM
    simp only [ht]
    unfold catchM
    simp only [hf]
    rfl
  unfold M__law_asked mFn
  rw [asked_B]
  simp only [List.length_cons, List.length_nil, Nat.reduceAdd, if_true, List.map_cons, List.map_nil, List.replicate, List.cons_append, List.nil_append, Nat.reduceSub, Nat.sub_self]
  simp only [bind_ok, bind_ex, of_some, rs_ok, rs_ex, then_nx, then_rt, then_ex, then_bk, then_ct, mV0, mVs, mC_, m2_, m1_, mB_, kB_bl, mB1_, mNil_, mCons_, f1L_, f2L_, mTup_, mLst_, mCall_, mNotT_, mAndT_, mOrT_, mIf_, mAndV_, mOrV_, mNotV_, kAndV_bl, kOrV_bl, kNotV_bl, mSl_, mPart_, kPart_, mNoPart_, sSeq_, sSet_, sRet_, sIf_, sExpr_, sNil_, sBreak_, sCont_, e_lt, e_ltD, e_le, e_gt, e_ge, e_eqI, e_neI, e_eqS, e_neS, e_add, e_sub, List.set_cons_zero, List.set_cons_succ, kTu0, kTu1, kTu2, kTu3, kTu4, kTu5, kLs0, kLs1, kLs2, kLs3, kLs4, kLs5, mM_, mM0_, sAsg_, sFor_, iRng_, iSeq_]
  unfold sTryM
  simp only [h, hc, bind_ok, bind_ex, of_some, rs_ok, rs_ex, then_nx, then_rt, then_ex, then_bk, then_ct, mV0, mVs, mC_, m2_, m1_, mB_, kB_bl, mB1_, mNil_, mCons_, f1L_, f2L_, mTup_, mLst_, mCall_, mNotT_, mAndT_, mOrT_, mIf_, mAndV_, mOrV_, mNotV_, kAndV_bl, kOrV_bl, kNotV_bl, mSl_, mPart_, kPart_, mNoPart_, sSeq_, sSet_, sRet_, sIf_, sExpr_, sNil_, sBreak_, sCont_, e_lt, e_ltD, e_le, e_gt, e_ge, e_eqI, e_neI, e_eqS, e_neS, e_add, e_sub, List.set_cons_zero, List.set_cons_succ, kTu0, kTu1, kTu2, kTu3, kTu4, kTu5, kLs0, kLs1, kLs2, kLs3, kLs4, kLs5, mM_, mM0_, sAsg_, sFor_, iRng_, iSeq_] <;> rfl
end
end K26

namespace K26
open PySem PySem.Spec L2 Mi
theorem e_ix3 {S : Sto} {i : Nat} {d0 d1 d2 d : D} {r : List D} (h : S[i]? = some (.lst (d0 :: d1 :: d2 :: d :: r))) : fIx (.obj i) (.int 3) S = some (d, S) := e_ixL (k := 3) h rfl
theorem e_ix4 {S : Sto} {i : Nat} {d0 d1 d2 d3 d : D} {r : List D} (h : S[i]? = some (.lst (d0 :: d1 :: d2 :: d3 :: d :: r))) : fIx (.obj i) (.int 4) S = some (d, S) := e_ixL (k := 4) h rfl
section
variable {S : Sto} {i : Nat} {x y z w d : D} {e : Xn}
theorem sb1 : decide (("real" : Str) = "between") = false := by decide +kernel
theorem sb2 : decide (("dark" : Str) = "between") = false := by decide +kernel
theorem sb3 : decide (("dark" : Str) = "real") = false := by decide +kernel
theorem sb4 : decide (("exact" : Str) = "between") = false := by decide +kernel
theorem sb5 : decide (("exact" : Str) = "real") = false := by decide +kernel
theorem sb6 : decide (("exact" : Str) = "dark") = false := by decide +kernel
theorem sb7 : decide (("short" : Str) = "between") = false := by decide +kernel
theorem sb8 : decide (("short" : Str) = "real") = false := by decide +kernel
theorem sb9 : decide (("short" : Str) = "dark") = false := by decide +kernel
theorem sb10 : decide (("short" : Str) = "exact") = false := by decide +kernel
theorem sb11 : decide (("nearest" : Str) = "between") = false := by decide +kernel
theorem sb12 : decide (("nearest" : Str) = "real") = false := by decide +kernel
theorem sb13 : decide (("nearest" : Str) = "dark") = false := by decide +kernel
theorem sb14 : decide (("nearest" : Str) = "exact") = false := by decide +kernel
theorem sb15 : decide (("nearest" : Str) = "short") = false := by decide +kernel
theorem ab_between (hr : S[i]? = some (.lst [x, y, z, w])) (h : M_whole_between [x, y, z, w] S = .ex e S) : AB [some (.str "between"), some (.obj i), some .non, none] S = .ex e [some (.str "between"), some (.obj i), some .non, none] S := by
  unfold AB
  simp only [bind_ok, bind_ex, of_some, rs_ok, rs_ex, then_nx, then_rt, then_ex, then_bk, then_ct, mV0, mVs, mC_, m2_, m1_, mB_, kB_bl, mB1_, mNil_, mCons_, f1L_, f2L_, mTup_, mLst_, mCall_, mNotT_, mAndT_, mOrT_, mIf_, mAndV_, mOrV_, mNotV_, kAndV_bl, kOrV_bl, kNotV_bl, mSl_, mPart_, kPart_, mNoPart_, sSeq_, sSet_, sRet_, sIf_, sExpr_, sNil_, sBreak_, sCont_, e_lt, e_ltD, e_le, e_gt, e_ge, e_eqI, e_neI, e_eqS, e_neS, e_add, e_sub, List.set_cons_zero, List.set_cons_succ, kTu0, kTu1, kTu2, kTu3, kTu4, kTu5, kLs0, kLs1, kLs2, kLs3, kLs4, kLs5, mM_, mM0_, sAsg_, sFor_, iRng_, iSeq_, decide_true, if_true, e_ix0 hr, e_ix1 hr, e_ix2 hr, e_ix3 hr, h] <;> rfl
theorem ab_real (hr : S[i]? = some (.lst [x, y, z, w])) (h : M_real_row [x, y, z, w] S = .ex e S) : AB [some (.str "real"), some (.obj i), some .non, none] S = .ex e [some (.str "real"), some (.obj i), some .non, none] S := by
  unfold AB
  simp only [bind_ok, bind_ex, of_some, rs_ok, rs_ex, then_nx, then_rt, then_ex, then_bk, then_ct, mV0, mVs, mC_, m2_, m1_, mB_, kB_bl, mB1_, mNil_, mCons_, f1L_, f2L_, mTup_, mLst_, mCall_, mNotT_, mAndT_, mOrT_, mIf_, mAndV_, mOrV_, mNotV_, kAndV_bl, kOrV_bl, kNotV_bl, mSl_, mPart_, kPart_, mNoPart_, sSeq_, sSet_, sRet_, sIf_, sExpr_, sNil_, sBreak_, sCont_, e_lt, e_ltD, e_le, e_gt, e_ge, e_eqI, e_neI, e_eqS, e_neS, e_add, e_sub, List.set_cons_zero, List.set_cons_succ, kTu0, kTu1, kTu2, kTu3, kTu4, kTu5, kLs0, kLs1, kLs2, kLs3, kLs4, kLs5, mM_, mM0_, sAsg_, sFor_, iRng_, iSeq_, sb1, Bool.false_eq_true, if_false, decide_true, if_true, e_ix0 hr, e_ix1 hr, e_ix2 hr, e_ix3 hr, h] <;> rfl
theorem ab_dark (hr : S[i]? = some (.lst [x, y, z, w])) (h : M_dark_row [x, y, z, w] S = .ex e S) : AB [some (.str "dark"), some (.obj i), some .non, none] S = .ex e [some (.str "dark"), some (.obj i), some .non, none] S := by
  unfold AB
  simp only [bind_ok, bind_ex, of_some, rs_ok, rs_ex, then_nx, then_rt, then_ex, then_bk, then_ct, mV0, mVs, mC_, m2_, m1_, mB_, kB_bl, mB1_, mNil_, mCons_, f1L_, f2L_, mTup_, mLst_, mCall_, mNotT_, mAndT_, mOrT_, mIf_, mAndV_, mOrV_, mNotV_, kAndV_bl, kOrV_bl, kNotV_bl, mSl_, mPart_, kPart_, mNoPart_, sSeq_, sSet_, sRet_, sIf_, sExpr_, sNil_, sBreak_, sCont_, e_lt, e_ltD, e_le, e_gt, e_ge, e_eqI, e_neI, e_eqS, e_neS, e_add, e_sub, List.set_cons_zero, List.set_cons_succ, kTu0, kTu1, kTu2, kTu3, kTu4, kTu5, kLs0, kLs1, kLs2, kLs3, kLs4, kLs5, mM_, mM0_, sAsg_, sFor_, iRng_, iSeq_, sb2, sb3, Bool.false_eq_true, if_false, decide_true, if_true, e_ix0 hr, e_ix1 hr, e_ix2 hr, e_ix3 hr, h] <;> rfl
theorem ab_exact (hr : S[i]? = some (.lst [x, y, z, w])) (h : M_is_exact [x, y, z, w] S = .ex e S) : AB [some (.str "exact"), some (.obj i), some .non, none] S = .ex e [some (.str "exact"), some (.obj i), some .non, none] S := by
  unfold AB
  simp only [bind_ok, bind_ex, of_some, rs_ok, rs_ex, then_nx, then_rt, then_ex, then_bk, then_ct, mV0, mVs, mC_, m2_, m1_, mB_, kB_bl, mB1_, mNil_, mCons_, f1L_, f2L_, mTup_, mLst_, mCall_, mNotT_, mAndT_, mOrT_, mIf_, mAndV_, mOrV_, mNotV_, kAndV_bl, kOrV_bl, kNotV_bl, mSl_, mPart_, kPart_, mNoPart_, sSeq_, sSet_, sRet_, sIf_, sExpr_, sNil_, sBreak_, sCont_, e_lt, e_ltD, e_le, e_gt, e_ge, e_eqI, e_neI, e_eqS, e_neS, e_add, e_sub, List.set_cons_zero, List.set_cons_succ, kTu0, kTu1, kTu2, kTu3, kTu4, kTu5, kLs0, kLs1, kLs2, kLs3, kLs4, kLs5, mM_, mM0_, sAsg_, sFor_, iRng_, iSeq_, sb4, sb5, sb6, Bool.false_eq_true, if_false, decide_true, if_true, e_ix0 hr, e_ix1 hr, e_ix2 hr, e_ix3 hr, h] <;> rfl
theorem ab_short (h : M_shortened [d] S = .ex e S) : AB [some (.str "short"), some d, some .non, none] S = .ex e [some (.str "short"), some d, some .non, none] S := by
  unfold AB
  simp only [bind_ok, bind_ex, of_some, rs_ok, rs_ex, then_nx, then_rt, then_ex, then_bk, then_ct, mV0, mVs, mC_, m2_, m1_, mB_, kB_bl, mB1_, mNil_, mCons_, f1L_, f2L_, mTup_, mLst_, mCall_, mNotT_, mAndT_, mOrT_, mIf_, mAndV_, mOrV_, mNotV_, kAndV_bl, kOrV_bl, kNotV_bl, mSl_, mPart_, kPart_, mNoPart_, sSeq_, sSet_, sRet_, sIf_, sExpr_, sNil_, sBreak_, sCont_, e_lt, e_ltD, e_le, e_gt, e_ge, e_eqI, e_neI, e_eqS, e_neS, e_add, e_sub, List.set_cons_zero, List.set_cons_succ, kTu0, kTu1, kTu2, kTu3, kTu4, kTu5, kLs0, kLs1, kLs2, kLs3, kLs4, kLs5, mM_, mM0_, sAsg_, sFor_, iRng_, iSeq_, sb7, sb8, sb9, sb10, Bool.false_eq_true, if_false, decide_true, if_true, h] <;> rfl
theorem ab_nearest (hr : S[i]? = some (.lst [x, y])) (h : M_value_nearest [x, y] S = .ex e S) : AB [some (.str "nearest"), some (.obj i), some .non, none] S = .ex e [some (.str "nearest"), some (.obj i), some .non, none] S := by
  unfold AB
  simp only [bind_ok, bind_ex, of_some, rs_ok, rs_ex, then_nx, then_rt, then_ex, then_bk, then_ct, mV0, mVs, mC_, m2_, m1_, mB_, kB_bl, mB1_, mNil_, mCons_, f1L_, f2L_, mTup_, mLst_, mCall_, mNotT_, mAndT_, mOrT_, mIf_, mAndV_, mOrV_, mNotV_, kAndV_bl, kOrV_bl, kNotV_bl, mSl_, mPart_, kPart_, mNoPart_, sSeq_, sSet_, sRet_, sIf_, sExpr_, sNil_, sBreak_, sCont_, e_lt, e_ltD, e_le, e_gt, e_ge, e_eqI, e_neI, e_eqS, e_neS, e_add, e_sub, List.set_cons_zero, List.set_cons_succ, kTu0, kTu1, kTu2, kTu3, kTu4, kTu5, kLs0, kLs1, kLs2, kLs3, kLs4, kLs5, mM_, mM0_, sAsg_, sFor_, iRng_, iSeq_, sb11, sb12, sb13, sb14, sb15, Bool.false_eq_true, if_false, e_ix0 hr, e_ix1 hr, h] <;> rfl
end
def AskA (w : Str) (rows : List D) (k : Int) : Prop := ∀ S : Sto, M__law_asked [.str w, .obj S.length] (S ++ [.lst rows]) = .ok (.obj (S ++ [MO.lst rows]).length) (S ++ [.lst rows] ++ [.lst [.str "arguments", .int k]])
def AskT (w : Str) (rows : List D) : Prop := ∀ S : Sto, M__law_asked [.str w, .obj S.length] (S ++ [.lst rows]) = .ok (.str "term") (S ++ [.lst rows])
theorem args_ne (T : Sto) (k : Int) : fNe (.obj T.length) (.obj (T ++ [MO.lst [.str "arguments", .int k]]).length) (T ++ [.lst [.str "arguments", .int k]] ++ [.lst [.str "arguments", .int k]]) = some (.bl false, T ++ [.lst [.str "arguments", .int k]] ++ [.lst [.str "arguments", .int k]]) := by
  have ts : ∀ S : Sto, toPs S 999999 [.str "arguments", .int k] = some [.str "arguments", .int k] := fun S => rfl
  have t1 : ∀ (S : Sto) (i : Nat), S[i]? = some (.lst [.str "arguments", .int k]) → toP S 1000000 (.obj i) = some (.list [.str "arguments", .int k]) := fun S i h => by
    show toP S (999999 + 1) (.obj i) = _
    unfold toP
    simp only [lst_at h, ts]
    rfl
  have hs : Shp 1 (.list [.str "arguments", .int k]) := shp_lst (k := 0) fun p hp => by
    simp only [List.mem_cons, List.not_mem_nil, or_false] at hp
    rcases hp with rfl | rfl
    · exact shp_str (by decide +kernel)
    · exact shp_int _
  have hv : PyData.eqv (.list [.str "arguments", .int k]) (.list [.str "arguments", .int k]) = true := eqv_refl _ (by simp [PySem.W.alike, PySem.W.alikeAll])
  have := eqD_of (t1 _ _ (get_app (X := [MO.lst [.str "arguments", .int k]]) (last0 (S := T) (x := MO.lst [.str "arguments", .int k])))) (t1 _ _ (last0 (S := T ++ [MO.lst [.str "arguments", .int k]]) (x := MO.lst [.str "arguments", .int k]))) (shp_ok hs (by omega)) (shp_ok hs (by omega))
  rw [hv] at this
  show (eqD _ _ _).map _ = _
  rw [this]; rfl
section
variable {a b lc lp lq hc hp hq : Int} {bad odd : D} (ha : 1 ≤ a) (hb : 1 ≤ b) (h : Bad bad) (o : Odd odd)
inductive W3 : Str → Prop
  | r : W3 "real"
  | d : W3 "dark"
  | e : W3 "exact"
theorem ab_3 {w : Str} (hw : W3 w) {S : Sto} {i : Nat} {x y z u : D} {e : Xn} (hr : S[i]? = some (.lst [x, y, z, u])) (h : M_check_pair [x, y, z, u] S = .ex e S) : AB [some (.str w), some (.obj i), some .non, none] S = .ex e [some (.str w), some (.obj i), some .non, none] S := by
  cases hw with
  | r => exact ab_real hr (rr_ex h)
  | d => exact ab_dark hr (dr_ex h)
  | e => exact ab_exact hr (ie_ex h)
theorem aa1 {w : Str} (hw : W3 w) (h : Bad bad) : AskA w [bad, .int 7, bad, .int 7] 0 := fun S => asked_a (ab_3 hw last0 (cp1 h))
theorem aa2 {w : Str} (hw : W3 w) (ha : 1 ≤ a) : AskT w [.int a, .int 7, bad, tm hc hp hq] := fun S => asked_t (ab_3 hw last0 (cp2 ha))
theorem aa3 {w : Str} (hw : W3 w) (ha : 1 ≤ a) (h : Bad bad) : AskA w [.int a, tm lc lp lq, bad, .int 7] 2 := fun S => asked_a (ab_3 hw last0 (cp3 ha h))
theorem aa4 {w : Str} (hw : W3 w) (ha : 1 ≤ a) (hb : 1 ≤ b) : AskT w [.int a, tm lc lp lq, .int b, .tup [.int 1, .int 2]] := fun S => asked_t (ab_3 hw last0 (cp4 ha hb))
theorem aa5 (h : Bad bad) : AskA "between" [bad, odd, bad, odd] 0 := fun S => asked_a (ab_between last0 (wb1 h))
theorem aa6 (ha : 1 ≤ a) (o : Odd odd) : AskA "between" [.int a, odd, bad, odd] 1 := fun S => asked_a (ab_between last0 (wb2 ha o))
theorem aa7 (ha : 1 ≤ a) (h : Bad bad) : AskA "between" [.int a, .int 1, bad, odd] 2 := fun S => asked_a (ab_between last0 (wb3 ha h))
theorem aa8 (ha : 1 ≤ a) (hb : 1 ≤ b) (o : Odd odd) : AskA "between" [.int a, .int 1, .int b, odd] 3 := fun S => asked_a (ab_between last0 (wb4 ha hb o))
theorem aa9 (o : Odd odd) (hn : odd ≠ .non) : AskA "nearest" [odd, odd] 0 := fun S => asked_a (ab_nearest last0 (vn1 o hn))
theorem aa10 (o : Odd odd) (hn : odd ≠ .non) : AskA "nearest" [.int 1, odd] 1 := fun S => asked_a (ab_nearest last0 (vn2 o hn))
end
/-! the refusals, one by one -/
def aG (k : Int) : MO := .lst [.str "arguments", .int k]
def WF1 : MS := (sSet 5 (m2 fIx (mLst (mCons (mC (.int 0)) (mCons (m1 fNeg (mC (.int 3))) (mCons (mC .non) (mCons (mC (.bl true)) (mCons (mC (.str "1")) mNil)))))) (mCall M__law_pick (mCons (mV 0) (mCons (mC (.int 5)) mNil)))))
def WF2 : MS := (sFor (iSeq (mLst (mCons (mC (.str "real")) (mCons (mC (.str "dark")) (mCons (mC (.str "exact")) mNil))))) (gN 6)
  (sSeq (sIf (mOrT (mB (m2 fNe (mCall M__law_asked (mCons (mV 6) (mCons (mLst (mCons (mV 5) (mCons (mC (.int 7)) (mCons (mV 5) (mCons (mC (.int 7)) mNil))))) mNil))) (mLst (mCons (mC (.str "arguments")) (mCons (mC (.int 0)) mNil))))) (mB (m2 fNe (mCall M__law_asked (mCons (mV 6) (mCons (mLst (mCons (mV 1) (mCons (mC (.int 7)) (mCons (mV 5) (mCons (mV 4) mNil))))) mNil))) (mC (.str "term")))))
  (sRet (mC (.bl false)))
  sNil)
  (sIf (mOrT (mB (m2 fNe (mCall M__law_asked (mCons (mV 6) (mCons (mLst (mCons (mV 1) (mCons (mV 2) (mCons (mV 5) (mCons (mC (.int 7)) mNil))))) mNil))) (mLst (mCons (mC (.str "arguments")) (mCons (mC (.int 2)) mNil))))) (mB (m2 fNe (mCall M__law_asked (mCons (mV 6) (mCons (mLst (mCons (mV 1) (mCons (mV 2) (mCons (mV 3) (mCons (mTup (mCons (mC (.int 1)) (mCons (mC (.int 2)) mNil))) mNil))))) mNil))) (mC (.str "term")))))
  (sRet (mC (.bl false)))
  sNil)))
def WF3 : MS := (sSet 7 (m2 fIx (mLst (mCons (mC .non) (mCons (mC (.bl true)) (mCons (mC (.str "1")) (mCons (mTup (mCons (mC (.int 1)) (mCons (mTup mNil) mNil))) mNil))))) (mCall M__law_pick (mCons (mV 0) (mCons (mC (.int 4)) mNil)))))
def WF4 : MS := (sIf (mB (m2 fNe (mCall M__law_asked (mCons (mC (.str "between")) (mCons (mLst (mCons (mV 5) (mCons (mV 7) (mCons (mV 5) (mCons (mV 7) mNil))))) mNil))) (mLst (mCons (mC (.str "arguments")) (mCons (mC (.int 0)) mNil)))))
  (sRet (mC (.bl false)))
  sNil)
def WF5 : MS := (sIf (mB (m2 fNe (mCall M__law_asked (mCons (mC (.str "between")) (mCons (mLst (mCons (mV 1) (mCons (mV 7) (mCons (mV 5) (mCons (mV 7) mNil))))) mNil))) (mLst (mCons (mC (.str "arguments")) (mCons (mC (.int 1)) mNil)))))
  (sRet (mC (.bl false)))
  sNil)
def WF6 : MS := (sIf (mOrT (mB (m2 fNe (mCall M__law_asked (mCons (mC (.str "between")) (mCons (mLst (mCons (mV 1) (mCons (mC (.int 1)) (mCons (mV 5) (mCons (mV 7) mNil))))) mNil))) (mLst (mCons (mC (.str "arguments")) (mCons (mC (.int 2)) mNil))))) (mB (m2 fNe (mCall M__law_asked (mCons (mC (.str "between")) (mCons (mLst (mCons (mV 1) (mCons (mC (.int 1)) (mCons (mV 3) (mCons (mV 7) mNil))))) mNil))) (mLst (mCons (mC (.str "arguments")) (mCons (mC (.int 3)) mNil))))))
  (sRet (mC (.bl false)))
  sNil)
def WF7 : MS := (sSet 8 (m2 fIx (mLst (mCons (mC (.bl true)) (mCons (mC (.str "1")) (mCons (mTup (mCons (mC (.int 1)) (mCons (mTup mNil) mNil))) mNil)))) (mCall M__law_pick (mCons (mV 0) (mCons (mC (.int 3)) mNil)))))
def WF8 : MS := (sIf (mOrT (mB (m2 fNe (mCall M__law_asked (mCons (mC (.str "nearest")) (mCons (mLst (mCons (mV 8) (mCons (mV 8) mNil))) mNil))) (mLst (mCons (mC (.str "arguments")) (mCons (mC (.int 0)) mNil))))) (mB (m2 fNe (mCall M__law_asked (mCons (mC (.str "nearest")) (mCons (mLst (mCons (mC (.int 1)) (mCons (mV 8) mNil))) mNil))) (mLst (mCons (mC (.str "arguments")) (mCons (mC (.int 1)) mNil))))))
  (sRet (mC (.bl false)))
  sNil)
def WF9 : MS := (sRet (mAndV (m2 fEq (mCall M__law_asked (mCons (mC (.str "short")) (mCons (mTup (mCons (mC (.str "ne")) (mCons (mV 2) mNil))) mNil))) (mC (.str "fact"))) (mAndV (m2 fEq (mCall M__law_asked (mCons (mC (.str "short")) (mCons (mV 2) mNil))) (mC (.str "fact"))) (m2 fIs (mCall M_is_row (mCons (mTup (mCons (mC (.str "ne")) (mCons (mV 2) mNil))) mNil)) (mC (.bl false))))))
theorem law_refusals_eq : B__law_refusals = sSeq WF1 (sSeq WF2 (sSeq WF3 (sSeq WF4 (sSeq WF5 (sSeq WF6 (sSeq WF7 (sSeq WF8 WF9))))))) := (rfl)

def RB : MS := (sSeq (sIf (mOrT (mB (m2 fNe (mCall M__law_asked (mCons (mV 6) (mCons (mLst (mCons (mV 5) (mCons (mC (.int 7)) (mCons (mV 5) (mCons (mC (.int 7)) mNil))))) mNil))) (mLst (mCons (mC (.str "arguments")) (mCons (mC (.int 0)) mNil))))) (mB (m2 fNe (mCall M__law_asked (mCons (mV 6) (mCons (mLst (mCons (mV 1) (mCons (mC (.int 7)) (mCons (mV 5) (mCons (mV 4) mNil))))) mNil))) (mC (.str "term")))))
  (sRet (mC (.bl false)))
  sNil)
  (sIf (mOrT (mB (m2 fNe (mCall M__law_asked (mCons (mV 6) (mCons (mLst (mCons (mV 1) (mCons (mV 2) (mCons (mV 5) (mCons (mC (.int 7)) mNil))))) mNil))) (mLst (mCons (mC (.str "arguments")) (mCons (mC (.int 2)) mNil))))) (mB (m2 fNe (mCall M__law_asked (mCons (mV 6) (mCons (mLst (mCons (mV 1) (mCons (mV 2) (mCons (mV 3) (mCons (mTup (mCons (mC (.int 1)) (mCons (mC (.int 2)) mNil))) mNil))))) mNil))) (mC (.str "term")))))
  (sRet (mC (.bl false)))
  sNil))
theorem WF2_eq : WF2 = sFor (iSeq (mLst (mCons (mC (.str "real")) (mCons (mC (.str "dark")) (mCons (mC (.str "exact")) mNil))))) (gN 6) RB := (rfl)
section
variable {S : Sto} {j : Nat} {a b lc lp lq hc hp hq : Int} {bad odd : D} {x0 e1 e2 e3 e4 e5 e6 e7 e8 : Option D} (ha : 1 ≤ a) (hb : 1 ≤ b) (h : Bad bad) (o : Odd odd)
theorem wf1 (hS : PoolOk S j) : ∃ (bad : D) (S' : Sto), WF1 [some (.obj j), e1, e2, e3, e4, e5, e6, e7, e8] S = .nx [some (.obj j), e1, e2, e3, e4, some bad, e6, e7, e8] S' ∧ Bad bad ∧ Stp j S S' := by
  obtain ⟨w, S1, p1, q1, s1, l1⟩ := pk (S := S ++ [.lst [.int 0, .int (-3), .non, .bl true, .str "1"]]) (pool_app hS) 5 5 rfl (by decide)
  have g := Stp.list hS.lt s1
  obtain ⟨z, hz, hix⟩ : ∃ z : D, Bad z ∧ fIx (.obj S.length) (.int (w : Int)) S1 = some (z, S1) := by
    match w, q1 with
    | 0, _ => exact ⟨_, .inl rfl, e_ix0 g⟩
    | 1, _ => exact ⟨_, .inr (.inl rfl), e_ix1 g⟩
    | 2, _ => exact ⟨_, .inr (.inr (.inl rfl)), e_ix2 g⟩
    | 3, _ => exact ⟨_, .inr (.inr (.inr (.inl rfl))), e_ix3 g⟩
    | 4, _ => exact ⟨_, .inr (.inr (.inr (.inr rfl))), e_ix4 g⟩
    | _ + 5, h => omega
  refine ⟨z, S1, ?_, hz, (Stp.app hS).trans s1⟩
  unfold WF1
  simp only [bind_ok, bind_ex, of_some, rs_ok, rs_ex, then_nx, then_rt, then_ex, then_bk, then_ct, mV0, mVs, mC_, m2_, m1_, mB_, kB_bl, mB1_, mNil_, mCons_, f1L_, f2L_, mTup_, mLst_, mCall_, mNotT_, mAndT_, mOrT_, mIf_, mAndV_, mOrV_, mNotV_, kAndV_bl, kOrV_bl, kNotV_bl, mSl_, mPart_, kPart_, mNoPart_, sSeq_, sSet_, sRet_, sIf_, sExpr_, sNil_, sBreak_, sCont_, e_lt, e_ltD, e_le, e_gt, e_ge, e_eqI, e_neI, e_eqS, e_neS, e_add, e_sub, List.set_cons_zero, List.set_cons_succ, kTu0, kTu1, kTu2, kTu3, kTu4, kTu5, kLs0, kLs1, kLs2, kLs3, kLs4, kLs5, mM_, mM0_, sAsg_, sFor_, iRng_, iSeq_, e_neg, p1, hix] <;> rfl
theorem wf3 (hS : PoolOk S j) : ∃ (odd : D) (S' : Sto), WF3 [some (.obj j), e1, e2, e3, e4, e5, e6, e7, e8] S = .nx [some (.obj j), e1, e2, e3, e4, e5, e6, some odd, e8] S' ∧ Odd odd ∧ Stp j S S' := by
  obtain ⟨w, S1, p1, q1, s1, l1⟩ := pk (S := S ++ [.lst [.non, .bl true, .str "1", .tup [.int 1, .tup []]]]) (pool_app hS) 4 4 rfl (by decide)
  have g := Stp.list hS.lt s1
  obtain ⟨z, hz, hix⟩ : ∃ z : D, Odd z ∧ fIx (.obj S.length) (.int (w : Int)) S1 = some (z, S1) := by
    match w, q1 with
    | 0, _ => exact ⟨_, .inl rfl, e_ix0 g⟩
    | 1, _ => exact ⟨_, .inr (.inl rfl), e_ix1 g⟩
    | 2, _ => exact ⟨_, .inr (.inr (.inl rfl)), e_ix2 g⟩
    | 3, _ => exact ⟨_, .inr (.inr (.inr rfl)), e_ix3 g⟩
    | _ + 4, h => omega
  refine ⟨z, S1, ?_, hz, (Stp.app hS).trans s1⟩
  unfold WF3
  simp only [bind_ok, bind_ex, of_some, rs_ok, rs_ex, then_nx, then_rt, then_ex, then_bk, then_ct, mV0, mVs, mC_, m2_, m1_, mB_, kB_bl, mB1_, mNil_, mCons_, f1L_, f2L_, mTup_, mLst_, mCall_, mNotT_, mAndT_, mOrT_, mIf_, mAndV_, mOrV_, mNotV_, kAndV_bl, kOrV_bl, kNotV_bl, mSl_, mPart_, kPart_, mNoPart_, sSeq_, sSet_, sRet_, sIf_, sExpr_, sNil_, sBreak_, sCont_, e_lt, e_ltD, e_le, e_gt, e_ge, e_eqI, e_neI, e_eqS, e_neS, e_add, e_sub, List.set_cons_zero, List.set_cons_succ, kTu0, kTu1, kTu2, kTu3, kTu4, kTu5, kLs0, kLs1, kLs2, kLs3, kLs4, kLs5, mM_, mM0_, sAsg_, sFor_, iRng_, iSeq_, p1, hix] <;> rfl
theorem wf7 (hS : PoolOk S j) : ∃ (odd : D) (S' : Sto), WF7 [some (.obj j), e1, e2, e3, e4, e5, e6, e7, e8] S = .nx [some (.obj j), e1, e2, e3, e4, e5, e6, e7, some odd] S' ∧ (Odd odd ∧ odd ≠ .non) ∧ Stp j S S' := by
  obtain ⟨w, S1, p1, q1, s1, l1⟩ := pk (S := S ++ [.lst [.bl true, .str "1", .tup [.int 1, .tup []]]]) (pool_app hS) 3 3 rfl (by decide)
  have g := Stp.list hS.lt s1
  obtain ⟨z, hz, hix⟩ : ∃ z : D, (Odd z ∧ z ≠ .non) ∧ fIx (.obj S.length) (.int (w : Int)) S1 = some (z, S1) := by
    match w, q1 with
    | 0, _ => exact ⟨_, ⟨.inr (.inl rfl), fun z => by cases z⟩, e_ix0 g⟩
    | 1, _ => exact ⟨_, ⟨.inr (.inr (.inl rfl)), fun z => by cases z⟩, e_ix1 g⟩
    | 2, _ => exact ⟨_, ⟨.inr (.inr (.inr rfl)), fun z => by cases z⟩, e_ix2 g⟩
    | _ + 3, h => omega
  refine ⟨z, S1, ?_, hz, (Stp.app hS).trans s1⟩
  unfold WF7
  simp only [bind_ok, bind_ex, of_some, rs_ok, rs_ex, then_nx, then_rt, then_ex, then_bk, then_ct, mV0, mVs, mC_, m2_, m1_, mB_, kB_bl, mB1_, mNil_, mCons_, f1L_, f2L_, mTup_, mLst_, mCall_, mNotT_, mAndT_, mOrT_, mIf_, mAndV_, mOrV_, mNotV_, kAndV_bl, kOrV_bl, kNotV_bl, mSl_, mPart_, kPart_, mNoPart_, sSeq_, sSet_, sRet_, sIf_, sExpr_, sNil_, sBreak_, sCont_, e_lt, e_ltD, e_le, e_gt, e_ge, e_eqI, e_neI, e_eqS, e_neS, e_add, e_sub, List.set_cons_zero, List.set_cons_succ, kTu0, kTu1, kTu2, kTu3, kTu4, kTu5, kLs0, kLs1, kLs2, kLs3, kLs4, kLs5, mM_, mM0_, sAsg_, sFor_, iRng_, iSeq_, p1, hix] <;> rfl
include ha hb h
theorem rb {w : Str} (hw : W3 w) : ∃ X : Sto, RB [x0, some (.int a), some (tm lc lp lq), some (.int b), some (tm hc hp hq), some bad, some (.str w), e7, e8] S = .nx [x0, some (.int a), some (tm lc lp lq), some (.int b), some (tm hc hp hq), some bad, some (.str w), e7, e8] (S ++ X) := by
  have h1 := aa1 hw h
  have h2 := aa2 (bad := bad) (hc := hc) (hp := hp) (hq := hq) hw ha
  have h3 := aa3 (lc := lc) (lp := lp) (lq := lq) hw ha h
  have h4 := aa4 (lc := lc) (lp := lp) (lq := lq) hw ha hb
  unfold AskA at h1 h3
  unfold AskT at h2 h4
  refine ⟨[.lst [bad, .int 7, bad, .int 7]] ++ [aG 0] ++ [aG 0] ++ [.lst [.int a, .int 7, bad, tm hc hp hq]] ++ [.lst [.int a, tm lc lp lq, bad, .int 7]] ++ [aG 2] ++ [aG 2] ++ [.lst [.int a, tm lc lp lq, .int b, .tup [.int 1, .int 2]]], ?_⟩
  unfold RB aG
  simp only [bind_ok, bind_ex, of_some, rs_ok, rs_ex, then_nx, then_rt, then_ex, then_bk, then_ct, mV0, mVs, mC_, m2_, m1_, mB_, kB_bl, mB1_, mNil_, mCons_, f1L_, f2L_, mTup_, mLst_, mCall_, mNotT_, mAndT_, mOrT_, mIf_, mAndV_, mOrV_, mNotV_, kAndV_bl, kOrV_bl, kNotV_bl, mSl_, mPart_, kPart_, mNoPart_, sSeq_, sSet_, sRet_, sIf_, sExpr_, sNil_, sBreak_, sCont_, e_lt, e_ltD, e_le, e_gt, e_ge, e_eqI, e_neI, e_eqS, e_neS, e_add, e_sub, List.set_cons_zero, List.set_cons_succ, kTu0, kTu1, kTu2, kTu3, kTu4, kTu5, kLs0, kLs1, kLs2, kLs3, kLs4, kLs5, mM_, mM0_, sAsg_, sFor_, iRng_, iSeq_, h1, args_ne, h2, h3, h4, decide_true, Bool.not_true, Bool.false_eq_true, if_false]
  simp only [List.append_assoc] <;> rfl
theorem wf2 : ∃ (X : Sto) (y6 : Option D), WF2 [x0, some (.int a), some (tm lc lp lq), some (.int b), some (tm hc hp hq), some bad, e6, e7, e8] S = .nx [x0, some (.int a), some (tm lc lp lq), some (.int b), some (tm hc hp hq), some bad, y6, e7, e8] (S ++ X) := by
  have g : (S ++ [MO.lst [.str "real", .str "dark", .str "exact"]])[S.length]? = some (.lst [.str "real", .str "dark", .str "exact"]) := last0
  obtain ⟨X, r1⟩ := rb (S := S ++ [.lst [.str "real", .str "dark", .str "exact"]]) (x0 := x0) (lc := lc) (lp := lp) (lq := lq) (hc := hc) (hp := hp) (hq := hq) (e7 := e7) (e8 := e8) ha hb h .r
  obtain ⟨Y, r2⟩ := rb (S := S ++ [.lst [.str "real", .str "dark", .str "exact"]] ++ X) (x0 := x0) (lc := lc) (lp := lp) (lq := lq) (hc := hc) (hp := hp) (hq := hq) (e7 := e7) (e8 := e8) ha hb h .d
  obtain ⟨Z, r3⟩ := rb (S := S ++ [.lst [.str "real", .str "dark", .str "exact"]] ++ X ++ Y) (x0 := x0) (lc := lc) (lp := lp) (lq := lq) (hc := hc) (hp := hp) (hq := hq) (e7 := e7) (e8 := e8) ha hb h .e
  have lo : forI (itLst 3 S.length) (gN 6) RB 3 0 [x0, some (.int a), some (tm lc lp lq), some (.int b), some (tm hc hp hq), some bad, e6, e7, e8] (S ++ [.lst [.str "real", .str "dark", .str "exact"]]) = .nx [x0, some (.int a), some (tm lc lp lq), some (.int b), some (tm hc hp hq), some bad, some (.str "exact"), e7, e8] (S ++ [.lst [.str "real", .str "dark", .str "exact"]] ++ X ++ Y ++ Z) := by
    rw [fl_nx g (d := .str "real") rfl rfl r1, fl_nx (get_app g) (d := .str "dark") rfl rfl r2, fl_nx (get_app (get_app g)) (d := .str "exact") rfl rfl r3]
    exact fl_end (get_app (get_app (get_app g)))
  have ks := kSeqL g
  have en : (itLst 3 S.length).n = 3 := rfl
  refine ⟨[.lst [.str "real", .str "dark", .str "exact"]] ++ X ++ Y ++ Z, some (.str "exact"), ?_⟩
  rw [WF2_eq]
  simp only [bind_ok, bind_ex, of_some, rs_ok, rs_ex, then_nx, then_rt, then_ex, then_bk, then_ct, mV0, mVs, mC_, m2_, m1_, mB_, kB_bl, mB1_, mNil_, mCons_, f1L_, f2L_, mTup_, mLst_, mCall_, mNotT_, mAndT_, mOrT_, mIf_, mAndV_, mOrV_, mNotV_, kAndV_bl, kOrV_bl, kNotV_bl, mSl_, mPart_, kPart_, mNoPart_, sSeq_, sSet_, sRet_, sIf_, sExpr_, sNil_, sBreak_, sCont_, e_lt, e_ltD, e_le, e_gt, e_ge, e_eqI, e_neI, e_eqS, e_neS, e_add, e_sub, List.set_cons_zero, List.set_cons_succ, kTu0, kTu1, kTu2, kTu3, kTu4, kTu5, kLs0, kLs1, kLs2, kLs3, kLs4, kLs5, mM_, mM0_, sAsg_, sFor_, iRng_, iSeq_, ks, List.length_cons, List.length_nil, Nat.reduceAdd, en, lo]
  simp only [List.append_assoc] <;> rfl
include o
omit ha hb in
theorem wf4 : ∃ X : Sto, WF4 [x0, e1, e2, e3, e4, some bad, e6, some odd, e8] S = .nx [x0, e1, e2, e3, e4, some bad, e6, some odd, e8] (S ++ X) := by
  have h1 := aa5 (odd := odd) h
  unfold AskA at h1
  refine ⟨[.lst [bad, odd, bad, odd]] ++ [aG 0] ++ [aG 0], ?_⟩
  unfold WF4 aG
  simp only [bind_ok, bind_ex, of_some, rs_ok, rs_ex, then_nx, then_rt, then_ex, then_bk, then_ct, mV0, mVs, mC_, m2_, m1_, mB_, kB_bl, mB1_, mNil_, mCons_, f1L_, f2L_, mTup_, mLst_, mCall_, mNotT_, mAndT_, mOrT_, mIf_, mAndV_, mOrV_, mNotV_, kAndV_bl, kOrV_bl, kNotV_bl, mSl_, mPart_, kPart_, mNoPart_, sSeq_, sSet_, sRet_, sIf_, sExpr_, sNil_, sBreak_, sCont_, e_lt, e_ltD, e_le, e_gt, e_ge, e_eqI, e_neI, e_eqS, e_neS, e_add, e_sub, List.set_cons_zero, List.set_cons_succ, kTu0, kTu1, kTu2, kTu3, kTu4, kTu5, kLs0, kLs1, kLs2, kLs3, kLs4, kLs5, mM_, mM0_, sAsg_, sFor_, iRng_, iSeq_, h1, args_ne, Bool.false_eq_true, if_false]
  simp only [List.append_assoc] <;> rfl
omit hb h in
theorem wf5 : ∃ X : Sto, WF5 [x0, some (.int a), e2, e3, e4, some bad, e6, some odd, e8] S = .nx [x0, some (.int a), e2, e3, e4, some bad, e6, some odd, e8] (S ++ X) := by
  have h1 := aa6 (bad := bad) ha o
  unfold AskA at h1
  refine ⟨[.lst [.int a, odd, bad, odd]] ++ [aG 1] ++ [aG 1], ?_⟩
  unfold WF5 aG
  simp only [bind_ok, bind_ex, of_some, rs_ok, rs_ex, then_nx, then_rt, then_ex, then_bk, then_ct, mV0, mVs, mC_, m2_, m1_, mB_, kB_bl, mB1_, mNil_, mCons_, f1L_, f2L_, mTup_, mLst_, mCall_, mNotT_, mAndT_, mOrT_, mIf_, mAndV_, mOrV_, mNotV_, kAndV_bl, kOrV_bl, kNotV_bl, mSl_, mPart_, kPart_, mNoPart_, sSeq_, sSet_, sRet_, sIf_, sExpr_, sNil_, sBreak_, sCont_, e_lt, e_ltD, e_le, e_gt, e_ge, e_eqI, e_neI, e_eqS, e_neS, e_add, e_sub, List.set_cons_zero, List.set_cons_succ, kTu0, kTu1, kTu2, kTu3, kTu4, kTu5, kLs0, kLs1, kLs2, kLs3, kLs4, kLs5, mM_, mM0_, sAsg_, sFor_, iRng_, iSeq_, h1, args_ne, Bool.false_eq_true, if_false]
  simp only [List.append_assoc] <;> rfl
theorem wf6 : ∃ X : Sto, WF6 [x0, some (.int a), e2, some (.int b), e4, some bad, e6, some odd, e8] S = .nx [x0, some (.int a), e2, some (.int b), e4, some bad, e6, some odd, e8] (S ++ X) := by
  have h1 := aa7 (odd := odd) ha h
  have h2 := aa8 ha hb o
  unfold AskA at h1 h2
  refine ⟨[.lst [.int a, .int 1, bad, odd]] ++ [aG 2] ++ [aG 2] ++ [.lst [.int a, .int 1, .int b, odd]] ++ [aG 3] ++ [aG 3], ?_⟩
  unfold WF6 aG
  simp only [bind_ok, bind_ex, of_some, rs_ok, rs_ex, then_nx, then_rt, then_ex, then_bk, then_ct, mV0, mVs, mC_, m2_, m1_, mB_, kB_bl, mB1_, mNil_, mCons_, f1L_, f2L_, mTup_, mLst_, mCall_, mNotT_, mAndT_, mOrT_, mIf_, mAndV_, mOrV_, mNotV_, kAndV_bl, kOrV_bl, kNotV_bl, mSl_, mPart_, kPart_, mNoPart_, sSeq_, sSet_, sRet_, sIf_, sExpr_, sNil_, sBreak_, sCont_, e_lt, e_ltD, e_le, e_gt, e_ge, e_eqI, e_neI, e_eqS, e_neS, e_add, e_sub, List.set_cons_zero, List.set_cons_succ, kTu0, kTu1, kTu2, kTu3, kTu4, kTu5, kLs0, kLs1, kLs2, kLs3, kLs4, kLs5, mM_, mM0_, sAsg_, sFor_, iRng_, iSeq_, h1, h2, args_ne, Bool.false_eq_true, if_false]
  simp only [List.append_assoc] <;> rfl
omit ha hb h in
theorem wf8 (hn : odd ≠ .non) : ∃ X : Sto, WF8 [x0, e1, e2, e3, e4, e5, e6, e7, some odd] S = .nx [x0, e1, e2, e3, e4, e5, e6, e7, some odd] (S ++ X) := by
  have h1 := aa9 o hn
  have h2 := aa10 o hn
  unfold AskA at h1 h2
  refine ⟨[.lst [odd, odd]] ++ [aG 0] ++ [aG 0] ++ [.lst [.int 1, odd]] ++ [aG 1] ++ [aG 1], ?_⟩
  unfold WF8 aG
  simp only [bind_ok, bind_ex, of_some, rs_ok, rs_ex, then_nx, then_rt, then_ex, then_bk, then_ct, mV0, mVs, mC_, m2_, m1_, mB_, kB_bl, mB1_, mNil_, mCons_, f1L_, f2L_, mTup_, mLst_, mCall_, mNotT_, mAndT_, mOrT_, mIf_, mAndV_, mOrV_, mNotV_, kAndV_bl, kOrV_bl, kNotV_bl, mSl_, mPart_, kPart_, mNoPart_, sSeq_, sSet_, sRet_, sIf_, sExpr_, sNil_, sBreak_, sCont_, e_lt, e_ltD, e_le, e_gt, e_ge, e_eqI, e_neI, e_eqS, e_neS, e_add, e_sub, List.set_cons_zero, List.set_cons_succ, kTu0, kTu1, kTu2, kTu3, kTu4, kTu5, kLs0, kLs1, kLs2, kLs3, kLs4, kLs5, mM_, mM0_, sAsg_, sFor_, iRng_, iSeq_, h1, h2, args_ne, Bool.false_eq_true, if_false]
  simp only [List.append_assoc] <;> rfl
omit ha hb h o in
theorem wf9 : WF9 [x0, e1, some (tm lc lp lq), e3, e4, e5, e6, e7, e8] S = .rt (.bl true) S := by
  have h1 : ∀ S : Sto, M__law_asked [.str "short", facD "ne" lc lp lq] S = .ok (.str "fact") S := fun S => asked_f (ab_short (sh_ex ir_ne))
  have h2 : ∀ S : Sto, M__law_asked [.str "short", tm lc lp lq] S = .ok (.str "fact") S := fun S => asked_f (ab_short (sh_ex ir_tm))
  unfold WF9
  simp only [bind_ok, bind_ex, of_some, rs_ok, rs_ex, then_nx, then_rt, then_ex, then_bk, then_ct, mV0, mVs, mC_, m2_, m1_, mB_, kB_bl, mB1_, mNil_, mCons_, f1L_, f2L_, mTup_, mLst_, mCall_, mNotT_, mAndT_, mOrT_, mIf_, mAndV_, mOrV_, mNotV_, kAndV_bl, kOrV_bl, kNotV_bl, mSl_, mPart_, kPart_, mNoPart_, sSeq_, sSet_, sRet_, sIf_, sExpr_, sNil_, sBreak_, sCont_, e_lt, e_ltD, e_le, e_gt, e_ge, e_eqI, e_neI, e_eqS, e_neS, e_add, e_sub, List.set_cons_zero, List.set_cons_succ, kTu0, kTu1, kTu2, kTu3, kTu4, kTu5, kLs0, kLs1, kLs2, kLs3, kLs4, kLs5, mM_, mM0_, sAsg_, sFor_, iRng_, iSeq_, facz, h1, h2, ir_ne, e_is, decide_true, if_true] <;> rfl
end
theorem law_refusals {S : Sto} {j : Nat} {a b lc lp lq hc hp hq : Int} (hS : PoolOk S j) (ha : 1 ≤ a) (hb : 1 ≤ b) : ∃ S' : Sto, M__law_refusals [.obj j, .int a, tm lc lp lq, .int b, tm hc hp hq] S = .ok (.bl true) S' ∧ Stp j S S' := by
  obtain ⟨bad, S1, r1, hbad, t1⟩ := wf1 (e1 := some (.int a)) (e2 := some (tm lc lp lq)) (e3 := some (.int b)) (e4 := some (tm hc hp hq)) (e5 := none) (e6 := none) (e7 := none) (e8 := none) hS
  obtain ⟨X2, y6, r2⟩ := wf2 (S := S1) (x0 := some (.obj j)) (lc := lc) (lp := lp) (lq := lq) (hc := hc) (hp := hp) (hq := hq) (e6 := none) (e7 := none) (e8 := none) ha hb hbad
  obtain ⟨odd, S3, r3, hodd, t3⟩ := wf3 (S := S1 ++ X2) (e1 := some (.int a)) (e2 := some (tm lc lp lq)) (e3 := some (.int b)) (e4 := some (tm hc hp hq)) (e5 := some bad) (e6 := y6) (e7 := none) (e8 := none) (pool_app t1.pool)
  obtain ⟨X4, r4⟩ := wf4 (S := S3) (x0 := some (.obj j)) (e1 := some (.int a)) (e2 := some (tm lc lp lq)) (e3 := some (.int b)) (e4 := some (tm hc hp hq)) (e6 := y6) (e8 := none) hbad hodd
  obtain ⟨X5, r5⟩ := wf5 (S := S3 ++ X4) (x0 := some (.obj j)) (bad := bad) (e2 := some (tm lc lp lq)) (e3 := some (.int b)) (e4 := some (tm hc hp hq)) (e6 := y6) (e8 := none) ha hodd
  obtain ⟨X6, r6⟩ := wf6 (S := S3 ++ X4 ++ X5) (x0 := some (.obj j)) (e2 := some (tm lc lp lq)) (e4 := some (tm hc hp hq)) (e6 := y6) (e8 := none) ha hb hbad hodd
  obtain ⟨wr, S7, r7, ⟨hwr, hwn⟩, t7⟩ := wf7 (S := S3 ++ X4 ++ X5 ++ X6) (e1 := some (.int a)) (e2 := some (tm lc lp lq)) (e3 := some (.int b)) (e4 := some (tm hc hp hq)) (e5 := some bad) (e6 := y6) (e7 := some odd) (e8 := none) (pool_app (pool_app (pool_app t3.pool)))
  obtain ⟨X8, r8⟩ := wf8 (S := S7) (x0 := some (.obj j)) (e1 := some (.int a)) (e2 := some (tm lc lp lq)) (e3 := some (.int b)) (e4 := some (tm hc hp hq)) (e5 := some bad) (e6 := y6) (e7 := some odd) hwr hwn
  have t : Stp j S (S7 ++ X8) := ((((((t1.trans (Stp.app t1.pool)).trans t3).trans (Stp.app t3.pool)).trans (Stp.app (pool_app t3.pool))).trans (Stp.app (pool_app (pool_app t3.pool)))).trans t7).trans (Stp.app t7.pool)
  refine ⟨S7 ++ X8, ?_, t⟩
  unfold M__law_refusals mFn
  rw [law_refusals_eq]
  simp only [List.length_cons, List.length_nil, Nat.reduceAdd, if_true, List.map_cons, List.map_nil, List.replicate, List.cons_append, List.nil_append, Nat.reduceSub, Nat.sub_self]
  rw [sSeq_, r1, then_nx, sSeq_, r2, then_nx, sSeq_, r3, then_nx, sSeq_, r4, then_nx, sSeq_, r5, then_nx, sSeq_, r6, then_nx, sSeq_, r7, then_nx, sSeq_, r8, then_nx, wf9] <;> rfl
end K26

namespace K26
open PySem PySem.Spec L2 Mi
theorem law_terms_right {S : Sto} {j : Nat} {a b : Int} (h : PoolOk S j) (ha : 1 ≤ a ∧ a < 10000000000000) (hb : 1 ≤ b ∧ b < 10000000000000) : ∃ S' : Sto, M__law_terms_right [.obj j, .int a, .int b] S = .ok (.bl true) S' ∧ Stp j S S' := by
  obtain ⟨lc, lp, lq, S3, r3, hl, t3⟩ := wt3 (x1 := some (.int a)) (x2 := some (.int b)) (e5 := none) (e6 := none) (e7 := none) (e8 := none) (e9 := none) (e10 := none) (e11 := none) (e12 := none) (e13 := none) (e14 := none) (e15 := none) h
  obtain ⟨c0, p0, q0, S4, r4, h0, t4⟩ := wt4 (x1 := some (.int a)) (x2 := some (.int b)) (e5 := some (tm lc lp lq)) (e6 := none) (e7 := none) (e8 := none) (e9 := none) (e10 := none) (e11 := none) (e12 := none) (e13 := none) (e14 := none) (e15 := none) t3.pool
  obtain ⟨hc, hp, hq, S5, r5, hh, t5⟩ := wt5 (x1 := some (.int a)) (x2 := some (.int b)) (e3 := some atX) (e4 := some atY) (e7 := none) (e8 := none) (e9 := none) (e10 := none) (e11 := none) (e12 := none) (e13 := none) (e14 := none) (e15 := none) t4.pool hl h0
  obtain ⟨r, er⟩ : ∃ r, b * lc + a * hc = r := ⟨_, rfl⟩
  obtain ⟨P, eP⟩ : ∃ r, b * lp + a * hp = r := ⟨_, rfl⟩
  obtain ⟨Q, eQ⟩ : ∃ r, b * lq + a * hq = r := ⟨_, rfl⟩
  obtain ⟨d, ed⟩ : ∃ r, (a - 1) * (b - 1) = r := ⟨_, rfl⟩
  obtain ⟨X6, r6⟩ := wt6 (S := S5) (x0 := some (.obj j)) (e3 := some atX) (e4 := some atY) (e7 := none) (e8 := none) (e9 := none) (e10 := none) (e11 := none) (e12 := none) (e13 := none) (e14 := none) (e15 := none) ha hb hl hh er eP eQ
  obtain ⟨X7, r7⟩ := wt7 (S := S5 ++ X6) (x0 := some (.obj j)) (e3 := some atX) (e4 := some atY) (e8 := none) (e9 := none) (e10 := none) (e11 := none) (e12 := none) (e13 := none) (e14 := none) (e15 := none) ha hb hl hh er eP eQ
  obtain ⟨X8, r8⟩ := wt8 (S := S5 ++ X6 ++ X7) (x0 := some (.obj j)) (e3 := some atX) (e4 := some atY) (e8 := some (shF "le" r P Q)) (e9 := none) (e10 := none) (e11 := none) (e12 := none) (e13 := none) (e14 := none) (e15 := none) ha hb hl hh er eP eQ ed
  obtain ⟨X9, r9⟩ := wt9 (S := S5 ++ X6 ++ X7 ++ X8) (x0 := some (.obj j)) (e3 := some atX) (e4 := some atY) (e7 := some (tm r P Q)) (e10 := none) (e11 := none) (e12 := none) (e13 := none) (e14 := none) (e15 := none) ha hb hl hh er eP eQ ed
  have r10 := wt10_11 (S := S5 ++ X6 ++ X7 ++ X8 ++ X9) (r := r) (d := r + d) (P := P) (Q := Q) (x0 := some (.obj j)) (x1 := some (.int a)) (x2 := some (.int b)) (e3 := some atX) (e4 := some atY) (e5 := some (tm lc lp lq)) (e6 := some (tm hc hp hq)) (e7 := some (tm r P Q)) (e10 := none) (e11 := none) (e12 := none) (e13 := none) (e14 := none) (e15 := none)
  obtain ⟨X12, r12⟩ := wt12 (S := S5 ++ X6 ++ X7 ++ X8 ++ X9) (x0 := some (.obj j)) (e3 := some atX) (e4 := some atY) (e7 := some (tm r P Q)) (e8 := some (shF "le" r P Q)) (e9 := some (shF "le" (r + d) P Q)) (e10 := some (.bl (exB r (r + d) P Q))) (e11 := none) (e12 := none) (e13 := none) (e14 := none) (e15 := none) ha hb hl hh er eP eQ ed
  have tA : Stp j S (S5 ++ X6 ++ X7 ++ X8 ++ X9 ++ X12) := ((t3.trans t4).trans t5).trans (by simp only [List.append_assoc]; exact Stp.app t5.pool)
  obtain ⟨y12, y13, y14, S14, r14, t14⟩ := wt14 (S := S5 ++ X6 ++ X7 ++ X8 ++ X9 ++ X12) (e3 := some atX) (e4 := some atY) (e7 := some (tm r P Q)) (e10 := some (.bl (exB r (r + d) P Q))) (e11 := some (.bl (exB r (r + d) P Q))) (e12 := none) (e13 := none) (e14 := none) (e15 := none) ha hb hl hh er eP eQ ed tA.pool
  obtain ⟨X15, y15, r15⟩ := wt15 (S := S14) (e0 := some (.obj j)) (e3 := some atX) (e4 := some atY) (e8 := some (shF "le" r P Q)) (e9 := some (shF "le" (r + d) P Q)) (e10 := some (.bl (exB r (r + d) P Q))) (e11 := some (.bl (exB r (r + d) P Q))) (e12 := y12) (e13 := y13) (e14 := y14) (e15 := none) ha hb hl hh er eP eQ
  obtain ⟨S', r16, t16⟩ := law_refusals (S := S14 ++ X15) (lc := lc) (lp := lp) (lq := lq) (hc := hc) (hp := hp) (hq := hq) (pool_app t14.pool) ha.1 hb.1
  refine ⟨S', ?_, ((tA.trans t14).trans (Stp.app t14.pool)).trans t16⟩
  have s16 : WT16 [some (.obj j), some (.int a), some (.int b), some atX, some atY, some (tm lc lp lq), some (tm hc hp hq), some (tm r P Q), some (shF "le" r P Q), some (shF "le" (r + d) P Q), some (.bl (exB r (r + d) P Q)), some (.bl (exB r (r + d) P Q)), y12, y13, y14, y15] (S14 ++ X15) = .rt (.bl true) S' := by
    unfold WT16
    simp only [bind_ok, bind_ex, of_some, rs_ok, rs_ex, then_nx, then_rt, then_ex, then_bk, then_ct, mV0, mVs, mC_, m2_, m1_, mB_, kB_bl, mB1_, mNil_, mCons_, f1L_, f2L_, mTup_, mLst_, mCall_, mNotT_, mAndT_, mOrT_, mIf_, mAndV_, mOrV_, mNotV_, kAndV_bl, kOrV_bl, kNotV_bl, mSl_, mPart_, kPart_, mNoPart_, sSeq_, sSet_, sRet_, sIf_, sExpr_, sNil_, sBreak_, sCont_, e_lt, e_ltD, e_le, e_gt, e_ge, e_eqI, e_neI, e_eqS, e_neS, e_add, e_sub, List.set_cons_zero, List.set_cons_succ, kTu0, kTu1, kTu2, kTu3, kTu4, kTu5, kLs0, kLs1, kLs2, kLs3, kLs4, kLs5, mM_, mM0_, sAsg_, sFor_, iRng_, iSeq_, r16]
  unfold M__law_terms_right mFn
  rw [law_terms_right_eq]
  simp only [List.length_cons, List.length_nil, Nat.reduceAdd, if_true, List.map_cons, List.map_nil, List.replicate, List.cons_append, List.nil_append, Nat.reduceSub, Nat.sub_self]
  rw [sSeq_, wt1, then_nx, sSeq_, wt2, then_nx, sSeq_, r3, then_nx, sSeq_, r4, then_nx, sSeq_, r5, then_nx, sSeq_, r6, then_nx, sSeq_, r7, then_nx, sSeq_, r8, then_nx, sSeq_, r9, then_nx]
  have r10' : ∀ m : MS, (sSeq WT10 (sSeq WT11 m)) [some (.obj j), some (.int a), some (.int b), some atX, some atY, some (tm lc lp lq), some (tm hc hp hq), some (tm r P Q), some (shF "le" r P Q), some (shF "le" (r + d) P Q), none, none, none, none, none, none] (S5 ++ X6 ++ X7 ++ X8 ++ X9) = m [some (.obj j), some (.int a), some (.int b), some atX, some atY, some (tm lc lp lq), some (tm hc hp hq), some (tm r P Q), some (shF "le" r P Q), some (shF "le" (r + d) P Q), some (.bl (exB r (r + d) P Q)), none, none, none, none, none] (S5 ++ X6 ++ X7 ++ X8 ++ X9) := fun m => by
    rw [sSeq_] at r10 ⊢
    generalize WT10 _ _ = R at r10 ⊢
    cases R <;> first | (cases r10; done) | skip
    case nx env1 S1 =>
      rw [then_nx] at r10 ⊢
      rw [sSeq_, r10, then_nx]
  rw [r10', sSeq_, r12, then_nx, sSeq_, wt13, then_nx, sSeq_, r14, then_nx, sSeq_, r15, then_nx, s16] <;> rfl
/-! ### the law -/
def WL1 : MS := (sSet 1 (mCall M__law_pool (mCons (mV 0) mNil)))
def WL2 : MS := (sSet 2 (mCall M__law_number (mCons (mV 1) mNil)))
def WL3 : MS := (sSet 3 (mCall M__law_number (mCons (mV 1) mNil)))
def WL4 : MS := (sIf (mOrT (mNotT (mB (mCall M__law_whole_right (mCons (mV 1) (mCons (mV 2) (mCons (mV 3) mNil)))))) (mNotT (mB (mCall M__law_terms_right (mCons (mV 1) (mCons (mV 2) (mCons (mV 3) mNil)))))))
  (sRet (mC (.bl false)))
  sNil)
def WL5 : MS := (sFor (iRng (mCons (mC (.int 3)) mNil)) (gN 4)
  (sSeq (sSet 5 (mLst (mCons (mC .non) (mCons (mC .non) mNil))))
  (sSeq (sFor (iRng (mCons (mC (.int 2)) mNil)) (gN 6)
  (sIf (mB (m2 fGt (mCall M__law_pick (mCons (mV 1) (mCons (mC (.int 4)) mNil))) (mC (.int 0))))
  (sPut (mV 5) (mV 6) (m2 fMulA (m2 fSub (mCall M__law_pick (mCons (mV 1) (mCons (mC (.int 21)) mNil))) (mC (.int 10))) (m2 fIx (mLst (mCons (mC (.int 1)) (mCons (mC (.int 1)) (mCons (m2 fPow (mC (.int 10)) (mC (.int 25))) mNil)))) (mCall M__law_pick (mCons (mV 1) (mCons (mC (.int 3)) mNil))))))
  sNil))
  (sIf (mNotT (mB (mCall M__law_same (mCons (mCall M_value_nearest (mCons (m2 fIx (mV 5) (mC (.int 0))) (mCons (m2 fIx (mV 5) (mC (.int 1))) mNil))) (mCons (mCall M__law_nearest (mCons (m2 fIx (mV 5) (mC (.int 0))) (mCons (m2 fIx (mV 5) (mC (.int 1))) mNil))) mNil)))))
  (sRet (mC (.bl false)))
  sNil))))
def WL6 : MS := (sRet (mC (.bl true)))
theorem B_law_eq : B_law = sSeq WL1 (sSeq WL2 (sSeq WL3 (sSeq WL4 (sSeq WL5 WL6)))) := (rfl)

def LI : MS := (sIf (mB (m2 fGt (mCall M__law_pick (mCons (mV 1) (mCons (mC (.int 4)) mNil))) (mC (.int 0))))
  (sPut (mV 5) (mV 6) (m2 fMulA (m2 fSub (mCall M__law_pick (mCons (mV 1) (mCons (mC (.int 21)) mNil))) (mC (.int 10))) (m2 fIx (mLst (mCons (mC (.int 1)) (mCons (mC (.int 1)) (mCons (m2 fPow (mC (.int 10)) (mC (.int 25))) mNil)))) (mCall M__law_pick (mCons (mV 1) (mCons (mC (.int 3)) mNil))))))
  sNil)
def LO : MS := (sSeq (sSet 5 (mLst (mCons (mC .non) (mCons (mC .non) mNil))))
  (sSeq (sFor (iRng (mCons (mC (.int 2)) mNil)) (gN 6) LI)
  (sIf (mNotT (mB (mCall M__law_same (mCons (mCall M_value_nearest (mCons (m2 fIx (mV 5) (mC (.int 0))) (mCons (m2 fIx (mV 5) (mC (.int 1))) mNil))) (mCons (mCall M__law_nearest (mCons (m2 fIx (mV 5) (mC (.int 0))) (mCons (m2 fIx (mV 5) (mC (.int 1))) mNil))) mNil)))))
  (sRet (mC (.bl false)))
  sNil)))
theorem WL5_eq : WL5 = sFor (iRng (mCons (mC (.int 3)) mNil)) (gN 4) LO := (rfl)
section
variable {j k : Nat} {e0 e2 e3 e4 : Option D}
/-- the row of the turn -/
def RowOk (S : Sto) (k : Nat) : Prop := ∃ l g : Option Int, S[k]? = some (.lst [optD l, optD g])
theorem row_put {S : Sto} {i : Nat} {v : Int} (h : RowOk S k) (hi : i < 2) : ∃ ds : List D, fPut (.obj k) (.int (0 + (i : Int))) (.int v) S = some (S.set k (.lst ds)) ∧ RowOk (S.set k (.lst ds)) k := by
  obtain ⟨l, g, e⟩ := h
  have hlt := get_lt e
  refine ⟨[optD l, optD g].set i (.int v), ?_, ?_⟩
  · unfold fPut
    simp only [e]
    rw [Int.zero_add, ixN_nat (by simpa using hi)]
    rfl
  · match i, hi with
    | 0, _ => exact ⟨some v, g, List.getElem?_set_self hlt⟩
    | 1, _ => exact ⟨l, some v, List.getElem?_set_self hlt⟩
theorem li {S0 S : Sto} {i : Nat} (hi : i < 2) (t : Stp j S0 S) (hk : S0.length ≤ k) (hj : j < S0.length) (hr : RowOk S k) : ∃ S' : Sto, LI [e0, some (.obj j), e2, e3, e4, some (.obj k), some (.int (0 + (i : Int)))] S = .nx [e0, some (.obj j), e2, e3, e4, some (.obj k), some (.int (0 + (i : Int)))] S' ∧ Stp j S0 S' ∧ RowOk S' k := by
  obtain ⟨w, S1, p1, q1, s1, l1⟩ := pk t.pool 4 4 rfl (by decide)
  have kj : k ≠ j := by omega
  have hr1 : RowOk S1 k := by obtain ⟨l, g, e⟩ := hr; exact ⟨l, g, s1.get e kj⟩
  by_cases hw : w = 0
  · have d1 : decide ((0 : Int) < (w : Int)) = false := decide_eq_false (by omega)
    refine ⟨S1, ?_, t.trans s1, hr1⟩
    unfold LI
    simp only [bind_ok, bind_ex, of_some, rs_ok, rs_ex, then_nx, then_rt, then_ex, then_bk, then_ct, mV0, mVs, mC_, m2_, m1_, mB_, kB_bl, mB1_, mNil_, mCons_, f1L_, f2L_, mTup_, mLst_, mCall_, mNotT_, mAndT_, mOrT_, mIf_, mAndV_, mOrV_, mNotV_, kAndV_bl, kOrV_bl, kNotV_bl, mSl_, mPart_, kPart_, mNoPart_, sSeq_, sSet_, sRet_, sIf_, sExpr_, sNil_, sBreak_, sCont_, e_lt, e_ltD, e_le, e_gt, e_ge, e_eqI, e_neI, e_eqS, e_neS, e_add, e_sub, List.set_cons_zero, List.set_cons_succ, kTu0, kTu1, kTu2, kTu3, kTu4, kTu5, kLs0, kLs1, kLs2, kLs3, kLs4, kLs5, mM_, mM0_, sAsg_, sFor_, iRng_, iSeq_, p1, d1, Bool.false_eq_true, if_false]
  · have d1 : decide ((0 : Int) < (w : Int)) = true := decide_eq_true (by omega)
    obtain ⟨u, S2, p2, q2, s2, l2⟩ := pk s1.pool 21 21 rfl (by decide)
    obtain ⟨v, S3, p3, q3, s3, l3⟩ := pk (S := S2 ++ [.lst [.int 1, .int 1, .int 10000000000000000000000000]]) (pool_app s2.pool) 3 3 rfl (by decide)
    have g := Stp.list s2.pool.lt s3
    have pw : ∀ S : Sto, fPow (.int 10) (.int 25) S = some (.int 10000000000000000000000000, S) := fun S => pow_ 25 25 rfl (by decide)
    obtain ⟨z, hz, hix⟩ : ∃ z : Int, z.natAbs ≤ 10000000000000000000000000 ∧ fIx (.obj S2.length) (.int (v : Int)) S3 = some (.int z, S3) := by
      match v, q3 with
      | 0, _ => exact ⟨1, by decide, e_ix0 g⟩
      | 1, _ => exact ⟨1, by decide, e_ix1 g⟩
      | 2, _ => exact ⟨_, by decide, e_ix2 g⟩
      | _ + 3, h => omega
    have t3 : Stp j S S3 := ((s1.trans s2).trans (Stp.app s2.pool)).trans s3
    have hr3 : RowOk S3 k := by obtain ⟨l, g, e⟩ := hr; exact ⟨l, g, t3.get e kj⟩
    obtain ⟨ds, pu, hr4⟩ := row_put (v := ((u : Int) - 10) * z) hr3 hi
    refine ⟨S3.set k (.lst ds), ?_, (t.trans t3).put hk (by omega), hr4⟩
    unfold LI
    simp only [bind_ok, bind_ex, of_some, rs_ok, rs_ex, then_nx, then_rt, then_ex, then_bk, then_ct, mV0, mVs, mC_, m2_, m1_, mB_, kB_bl, mB1_, mNil_, mCons_, f1L_, f2L_, mTup_, mLst_, mCall_, mNotT_, mAndT_, mOrT_, mIf_, mAndV_, mOrV_, mNotV_, kAndV_bl, kOrV_bl, kNotV_bl, mSl_, mPart_, kPart_, mNoPart_, sSeq_, sSet_, sRet_, sIf_, sExpr_, sNil_, sBreak_, sCont_, e_lt, e_ltD, e_le, e_gt, e_ge, e_eqI, e_neI, e_eqS, e_neS, e_add, e_sub, List.set_cons_zero, List.set_cons_succ, kTu0, kTu1, kTu2, kTu3, kTu4, kTu5, kLs0, kLs1, kLs2, kLs3, kLs4, kLs5, mM_, mM0_, sAsg_, sFor_, iRng_, iSeq_, p1, d1, if_true]
    unfold sPut
    simp only [bind_ok, bind_ex, of_some, rs_ok, rs_ex, then_nx, then_rt, then_ex, then_bk, then_ct, mV0, mVs, mC_, m2_, m1_, mB_, kB_bl, mB1_, mNil_, mCons_, f1L_, f2L_, mTup_, mLst_, mCall_, mNotT_, mAndT_, mOrT_, mIf_, mAndV_, mOrV_, mNotV_, kAndV_bl, kOrV_bl, kNotV_bl, mSl_, mPart_, kPart_, mNoPart_, sSeq_, sSet_, sRet_, sIf_, sExpr_, sNil_, sBreak_, sCont_, e_lt, e_ltD, e_le, e_gt, e_ge, e_eqI, e_neI, e_eqS, e_neS, e_add, e_sub, List.set_cons_zero, List.set_cons_succ, kTu0, kTu1, kTu2, kTu3, kTu4, kTu5, kLs0, kLs1, kLs2, kLs3, kLs4, kLs5, mM_, mM0_, sAsg_, sFor_, iRng_, iSeq_, p2, pw, p3, hix, e_mulW (sm_of (show ((u : Int) - 10).natAbs ≤ 10 by omega) (by decide)) (sm_of hz (by decide)), pu]
theorem lo_ {S : Sto} {e5 e6 : Option D} (h : PoolOk S j) : ∃ (y5 y6 : Option D) (S' : Sto), LO [e0, some (.obj j), e2, e3, e4, e5, e6] S = .nx [e0, some (.obj j), e2, e3, e4, y5, y6] S' ∧ Stp j S S' := by
  have hj := h.lt
  have t0 : Stp j S (S ++ [.lst [.non, .non]]) := Stp.app h
  have hr0 : RowOk (S ++ [.lst [.non, .non]]) S.length := ⟨none, none, last0⟩
  obtain ⟨S1, r1, t1, hr1⟩ := li (e0 := e0) (e2 := e2) (e3 := e3) (e4 := e4) (i := 0) (by decide) t0 (Nat.le_refl _) hj hr0
  obtain ⟨S2, r2, t2, hr2⟩ := li (e0 := e0) (e2 := e2) (e3 := e3) (e4 := e4) (i := 1) (by decide) t1 (Nat.le_refl _) hj hr1
  obtain ⟨l, g, e⟩ := hr2
  have lo : forI (itRng 0 2) (gN 6) LI 2 0 [e0, some (.obj j), e2, e3, e4, some (.obj S.length), e6] (S ++ [.lst [.non, .non]]) = .nx [e0, some (.obj j), e2, e3, e4, some (.obj S.length), some (.int (0 + ((1 : Nat) : Int)))] S2 := by
    rw [fr_nx (by decide) r1, fr_nx (by decide) r2, fr_end]
  have rn : ∀ S, kRngI [.int 2] S = .ok (itRng 0 2) S := fun S => kRng1 (by decide)
  have en : (itRng 0 2).n = 2 := rfl
  refine ⟨some (.obj S.length), some (.int (0 + ((1 : Nat) : Int))), S2, ?_, t2⟩
  unfold LO
  simp only [bind_ok, bind_ex, of_some, rs_ok, rs_ex, then_nx, then_rt, then_ex, then_bk, then_ct, mV0, mVs, mC_, m2_, m1_, mB_, kB_bl, mB1_, mNil_, mCons_, f1L_, f2L_, mTup_, mLst_, mCall_, mNotT_, mAndT_, mOrT_, mIf_, mAndV_, mOrV_, mNotV_, kAndV_bl, kOrV_bl, kNotV_bl, mSl_, mPart_, kPart_, mNoPart_, sSeq_, sSet_, sRet_, sIf_, sExpr_, sNil_, sBreak_, sCont_, e_lt, e_ltD, e_le, e_gt, e_ge, e_eqI, e_neI, e_eqS, e_neS, e_add, e_sub, List.set_cons_zero, List.set_cons_succ, kTu0, kTu1, kTu2, kTu3, kTu4, kTu5, kLs0, kLs1, kLs2, kLs3, kLs4, kLs5, mM_, mM0_, sAsg_, sFor_, iRng_, iSeq_, rn, en, lo, e_ix0 e, e_ix1 e, value_nearest, law_nearest, law_same, Bool.not_true, Bool.false_eq_true, if_false] <;> rfl
theorem lo_loop : ∀ (k i n : Nat) (S : Sto) (x4 x5 x6 : Option D), n = i + k → PoolOk S j → ∃ (y4 y5 y6 : Option D) (S' : Sto),
    forI (itRng 0 n) (gN 4) LO k i [e0, some (.obj j), e2, e3, x4, x5, x6] S = .nx [e0, some (.obj j), e2, e3, y4, y5, y6] S' ∧ Stp j S S'
  | 0, i, n, S, x4, x5, x6, hn, h => ⟨x4, x5, x6, S, by rw [show i = n by omega, fr_end], stp_refl h⟩
  | k + 1, i, n, S, x4, x5, x6, hn, h => by
    obtain ⟨u5, u6, S1, r1, t1⟩ := lo_ (e0 := e0) (e2 := e2) (e3 := e3) (e4 := some (.int (0 + (i : Int)))) (e5 := x5) (e6 := x6) h
    obtain ⟨y4, y5, y6, S', q, t'⟩ := lo_loop k (i + 1) n S1 (some (.int (0 + (i : Int)))) u5 u6 (by omega) t1.pool
    exact ⟨y4, y5, y6, S', by rw [fr_nx (by omega) r1, q], t1.trans t'⟩
end
theorem plain : Plain M_law := by
  intro ns hn
  obtain ⟨S1, r1, p1⟩ := pool ns hn
  obtain ⟨a, S2, r2, a1, a2, t2, _⟩ := law_number p1
  obtain ⟨b, S3, r3, b1, b2, t3, _⟩ := law_number t2.pool
  obtain ⟨S4, r4, t4⟩ := law_whole_right t3.pool ⟨a1, a2⟩ ⟨b1, b2⟩
  obtain ⟨S5, r5, t5⟩ := law_terms_right t4.pool ⟨a1, a2⟩ ⟨b1, b2⟩
  obtain ⟨y4, y5, y6, S6, r6, t6⟩ := lo_loop (j := 1) (e0 := some (.obj 0)) (e2 := some (.int a)) (e3 := some (.int b)) 3 0 3 S5 none none none (by omega) t5.pool
  have rn : kRngI [.int 3] S5 = .ok (itRng 0 3) S5 := kRng1 (by decide)
  have en : (itRng 0 3).n = 3 := rfl
  refine ⟨S6, ?_⟩
  unfold LO LI at r6
  unfold M_law mFn B_law
  simp only [List.length_cons, List.length_nil, Nat.reduceAdd, if_true, List.map_cons, List.map_nil, List.replicate, List.cons_append, List.nil_append, Nat.reduceSub, Nat.sub_self]
  simp only [bind_ok, bind_ex, of_some, rs_ok, rs_ex, then_nx, then_rt, then_ex, then_bk, then_ct, mV0, mVs, mC_, m2_, m1_, mB_, kB_bl, mB1_, mNil_, mCons_, f1L_, f2L_, mTup_, mLst_, mCall_, mNotT_, mAndT_, mOrT_, mIf_, mAndV_, mOrV_, mNotV_, kAndV_bl, kOrV_bl, kNotV_bl, mSl_, mPart_, kPart_, mNoPart_, sSeq_, sSet_, sRet_, sIf_, sExpr_, sNil_, sBreak_, sCont_, e_lt, e_ltD, e_le, e_gt, e_ge, e_eqI, e_neI, e_eqS, e_neS, e_add, e_sub, List.set_cons_zero, List.set_cons_succ, kTu0, kTu1, kTu2, kTu3, kTu4, kTu5, kLs0, kLs1, kLs2, kLs3, kLs4, kLs5, mM_, mM0_, sAsg_, sFor_, iRng_, iSeq_, r1, r2, r3, r4, r5, Bool.not_true, Bool.false_eq_true, if_false, rn, en, r6] <;> rfl
end K26

open PySem PySem.W PySem.Calls PyProof.Rows
theorem PySem.Challenge.cw_provedtorun_k26_whole_between_two_rows_holds : PySem.Challenge.rw_provedtorun_k26_whole_between_two_rows.Holds := by
  w_on; o_law
  refine HandSHeadRun.head_imp (r := OpenLaw.row PySem.Challenge.rw_provedtorun_k26_whole_between_two_rows) (q := view (OpenLaw.row PySem.Challenge.rw_provedtorun_k26_whole_between_two_rows).prog [0, 56]) (H := K26.hk) (ob := K26.ob) (M := 6000) (loose := K26.names) (d := HandSHeadRun.topDef (OpenLaw.row PySem.Challenge.rw_provedtorun_k26_whole_between_two_rows).prog 56) (kwd := []) K26.ob_eq
    K26.run (by kernel_rfl) (by kernel_rfl) (by kernel_rfl) (by rfl) (by first | assumption | decide +kernel) (by decide +kernel) ⟨rfl, rfl, rfl, rfl, rfl, by decide +kernel⟩ ?hw ?hc
  case hw => w_witness2
  case hc =>
    refine Mi.walk_ofW (lw := PySem.Challenge.rw_provedtorun_k26_whole_between_two_rows) (m := 63) (lv := 33) (x := "script") rfl (by decide) (by kernel_rfl) ⟨rfl, by decide, by decide⟩ ?F
    case F =>
      intro w mg fa h Y G hmg0
      obtain ⟨K, KX, c⟩ := Y
      have hmg : mg ("law" : PySem.Str) = some (.ref fa) := by
        have e : (HandSHeadRun.topDef (OpenLaw.row PySem.Challenge.rw_provedtorun_k26_whole_between_two_rows).prog 56).name = ("law" : PySem.Str) := by kernel_rfl
        rw [← e]
        exact hmg0
      obtain ⟨fd, hb, hF⟩ := K26.facts (w := w) KX G hmg c
      exact ⟨K, fd, Mi.spM K mg K26.M_law, KX, hb, fun H a ns hl hO hS => Mi.spM_plain K26.plain hl hO hS, fun base _ _ => hF base⟩
