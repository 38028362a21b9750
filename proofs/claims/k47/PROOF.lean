import PyProof.Rows.All
import Wide.All
import OpenK.AllK
import Wide.FinOn
import HandS.ForMost
import HandS.Deep
import HandS.IsInst
import HandS.ForExc
import HandS.TupLe
import HandS.TupAny
import HandS.Codes
import HandS.SortInts
import HandS.Wide
import HandS.SetFor
import HandS.SortKw
import HandS.Strs
import PyProof.WalkInts
import KE.KMinKey
import HandS.Conv
import HandS.EndBits
import HandS.ExcInit
import HandS.ExcField
import HandS.ExcIs
import HandS.WordsExc
import KE.KExcIs
import HandS.Iter
import HandS.HeadHook3
import HandS.More
import HandS.Rev
import HandS.RevTup
import KE.KDictList
import HandS.SortRule
import PySem.Challenge.RW_shredday_k47_least_pair_covers
set_option Elab.async false
set_option linter.all false
set_option maxRecDepth 100000
/-! DL: values as trees, what represents them on the abstract heap, owned and shared parts. -/
namespace DL
open PySem PySem.Spec PyProof.Rows L2

inductive D where
  | non | bl (b : Bool) | int (i : Int) | str (x : Str) | ty (n : String)
  | lst (xs : List D) | tup (xs : List D) | scr (xs : List D)
  | dK (kvs : List (Key × D)) | dT (kvs : List (List Key × D))

theorem SqT.mono {K : PySem.W.Frag} {H H' : Hp} {a : Addr} {xs : List V} (e : Same H H') (h : SqT K H a xs) : SqT K H' a xs := by
  rcases h with (h | ⟨o, h⟩) | h
  · exact .inl (.inl (e _ _ h))
  · exact .inl (.inr ⟨o, e _ _ h⟩)
  · exact .inr h

def isIntD : D → Bool
  | .int _ => true
  | _ => false
def isTyD : D → Bool
  | .ty _ => true
  | _ => false
/-- tuples that are told apart from those of the written part -/
def badK (ds : List D) : Bool := ds.all isIntD || ds.any isTyD
mutual
inductive Rep (K : PySem.W.Frag) (F : Hp) : D → V → Prop
  | non : Rep K F .non .non
  | bl (b : Bool) : Rep K F (.bl b) (.bl b)
  | int (i : Int) : Rep K F (.int i) (.int i)
  | str (x : Str) : Rep K F (.str x) (.str x)
  | ty (n : String) : Rep K F (.ty n) (.ty n)
  | lst {a : Addr} {vs : List V} {ds : List D} : F a = some (.lst vs) → Reps K F ds vs → Rep K F (.lst ds) (.ref a)
  | scr {a : Addr} {vs : List V} {ds : List D} : SqL K F a vs → Reps K F ds vs → Rep K F (.scr ds) (.ref a)
  | tup {a : Addr} {vs : List V} {ds : List D} : F a = some (.tup vs) → Reps K F ds vs → Rep K F (.tup ds) (.ref a)
  | tupK {a : Addr} {vs : List V} {ds : List D} : SqT K F a vs → badK ds = false → Reps K F ds vs → Rep K F (.tup ds) (.ref a)
  | dK {a : Addr} {kvs : List (Key × D)} {kws : List (Key × V)} : F a = some (.dK kws) → kvs.map (·.1) = kws.map (·.1) → Reps K F (kvs.map (·.2)) (kws.map (·.2)) → Rep K F (.dK kvs) (.ref a)
  | dT {a : Addr} {kvs : List (List Key × D)} {kws : List (List Key × V)} : F a = some (.dT kws) → kvs.map (·.1) = kws.map (·.1) → Reps K F (kvs.map (·.2)) (kws.map (·.2)) → Rep K F (.dT kvs) (.ref a)
inductive Reps (K : PySem.W.Frag) (F : Hp) : List D → List V → Prop
  | nil : Reps K F [] []
  | cons {d : D} {v : V} {ds : List D} {vs : List V} : Rep K F d v → Reps K F ds vs → Reps K F (d :: ds) (v :: vs)
end

mutual
theorem Rep.mono {K : PySem.W.Frag} {F F' : Hp} (e : Same F F') : ∀ {d : D} {v : V}, Rep K F d v → Rep K F' d v
  | _, _, .non => .non
  | _, _, .bl b => .bl b
  | _, _, .int i => .int i
  | _, _, .str x => .str x
  | _, _, .ty n => .ty n
  | _, _, .lst h r => .lst (e _ _ h) (Reps.mono e r)
  | _, _, .scr h r => .scr (e.seq h) (Reps.mono e r)
  | _, _, .tup h r => .tup (e _ _ h) (Reps.mono e r)
  | _, _, .tupK h c r => .tupK (SqT.mono e h) c (Reps.mono e r)
  | _, _, .dK h k r => .dK (e _ _ h) k (Reps.mono e r)
  | _, _, .dT h k r => .dT (e _ _ h) k (Reps.mono e r)
theorem Reps.mono {K : PySem.W.Frag} {F F' : Hp} (e : Same F F') : ∀ {ds : List D} {vs : List V}, Reps K F ds vs → Reps K F' ds vs
  | _, _, .nil => .nil
  | _, _, .cons a b => .cons (Rep.mono e a) (Reps.mono e b)
end

theorem Reps.length {K : PySem.W.Frag} {F : Hp} : ∀ {ds : List D} {vs : List V}, Reps K F ds vs → ds.length = vs.length
  | _, _, .nil => rfl
  | _, _, .cons _ b => by simp [Reps.length b]
theorem Reps.get {K : PySem.W.Frag} {F : Hp} : ∀ {ds : List D} {vs : List V} {i : Nat} {d : D}, Reps K F ds vs → ds[i]? = some d → ∃ v, vs[i]? = some v ∧ Rep K F d v
  | _, _, _, _, .nil, e => by simp at e
  | _, _, 0, _, .cons r _, e => by simp at e; subst e; exact ⟨_, rfl, r⟩
  | _, _, i + 1, d, .cons _ t, e => by
    obtain ⟨u, h1, h2⟩ := Reps.get (i := i) (d := d) t (by simpa using e)
    exact ⟨u, by simpa using h1, h2⟩
theorem Reps.getV {K : PySem.W.Frag} {F : Hp} : ∀ {ds : List D} {vs : List V} {i : Nat} {v : V}, Reps K F ds vs → vs[i]? = some v → ∃ d, ds[i]? = some d ∧ Rep K F d v
  | _, _, _, _, .nil, e => by simp at e
  | _, _, 0, _, .cons r _, e => by simp at e; subst e; exact ⟨_, rfl, r⟩
  | _, _, i + 1, d, .cons _ t, e => by
    obtain ⟨u, h1, h2⟩ := Reps.getV (i := i) (v := d) t (by simpa using e)
    exact ⟨u, by simpa using h1, h2⟩
theorem Reps.append {K : PySem.W.Frag} {F : Hp} : ∀ {ds es : List D} {vs ws : List V}, Reps K F ds vs → Reps K F es ws → Reps K F (ds ++ es) (vs ++ ws)
  | _, _, _, _, .nil, s => s
  | _, _, _, _, .cons r t, s => .cons r (Reps.append t s)
theorem Reps.set {K : PySem.W.Frag} {F : Hp} {d : D} {v : V} (r : Rep K F d v) : ∀ {ds : List D} {vs : List V} (i : Nat), Reps K F ds vs → Reps K F (ds.set i d) (vs.set i v)
  | _, _, _, .nil => .nil
  | _, _, 0, .cons _ t => .cons r t
  | _, _, i + 1, .cons q t => .cons q (Reps.set r i t)
theorem Reps.take {K : PySem.W.Frag} {F : Hp} : ∀ {ds : List D} {vs : List V} (n : Nat), Reps K F ds vs → Reps K F (ds.take n) (vs.take n)
  | _, _, 0, _ => by simp; exact .nil
  | _, _, _ + 1, .nil => .nil
  | _, _, n + 1, .cons r t => .cons r (Reps.take n t)
theorem Reps.drop {K : PySem.W.Frag} {F : Hp} : ∀ {ds : List D} {vs : List V} (n : Nat), Reps K F ds vs → Reps K F (ds.drop n) (vs.drop n)
  | _, _, 0, r => r
  | _, _, _ + 1, .nil => .nil
  | _, _, n + 1, .cons _ t => Reps.drop n t
theorem Reps.reverse {K : PySem.W.Frag} {F : Hp} : ∀ {ds : List D} {vs : List V}, Reps K F ds vs → Reps K F ds.reverse vs.reverse
  | _, _, .nil => .nil
  | _, _, .cons r t => by
    rw [List.reverse_cons, List.reverse_cons]
    exact (Reps.reverse t).append (.cons r .nil)

/-! ### owned values: depth n; the addresses of the owned lists and dicts lie in S -/
def RepA (R : D → V → (Addr → Prop) → Prop) : List D → List V → (Addr → Prop) → Prop
  | [], [], _ => True
  | d :: ds, v :: vs, S => ∃ S1 S2 : Addr → Prop, (∀ a, S1 a → S a) ∧ (∀ a, S2 a → S a) ∧ (∀ a, S1 a → S2 a → False) ∧ R d v S1 ∧ RepA R ds vs S2
  | _, _, _ => False
def RepM (K : PySem.W.Frag) (F H : Hp) : Nat → D → V → (Addr → Prop) → Prop
  | 0, d, v, _ => Rep K F d v
  | n + 1, .lst ds, v, S => ∃ p vs, v = .ref p ∧ S p ∧ H p = some (.lst vs) ∧ RepA (RepM K F H n) ds vs (fun a => S a ∧ a ≠ p)
  | n + 1, .dK kvs, v, S => ∃ p kws, v = .ref p ∧ S p ∧ H p = some (.dK kws) ∧ kvs.map (·.1) = kws.map (·.1) ∧ RepA (RepM K F H n) (kvs.map (·.2)) (kws.map (·.2)) (fun a => S a ∧ a ≠ p)
  | n + 1, .dT kvs, v, S => ∃ p kws, v = .ref p ∧ S p ∧ H p = some (.dT kws) ∧ kvs.map (·.1) = kws.map (·.1) ∧ RepA (RepM K F H n) (kvs.map (·.2)) (kws.map (·.2)) (fun a => S a ∧ a ≠ p)
  | n + 1, .tup ds, v, S => ∃ p vs, v = .ref p ∧ F p = some (.tup vs) ∧ RepA (RepM K F H n) ds vs S
  | _ + 1, .non, v, _ => Rep K F .non v
  | _ + 1, .bl b, v, _ => Rep K F (.bl b) v
  | _ + 1, .int i, v, _ => Rep K F (.int i) v
  | _ + 1, .str x, v, _ => Rep K F (.str x) v
  | _ + 1, .ty x, v, _ => Rep K F (.ty x) v
  | _ + 1, .scr x, v, _ => Rep K F (.scr x) v

theorem RepA.imp {R R' : D → V → (Addr → Prop) → Prop} : ∀ {ds : List D} {vs : List V} {S S' : Addr → Prop}, RepA R ds vs S → (∀ a, S a → S' a) → (∀ d v T, (∀ a, T a → S a) → R d v T → R' d v T) → RepA R' ds vs S'
  | [], [], _, _, _, _, _ => trivial
  | [], _ :: _, _, _, h, _, _ => h.elim
  | _ :: _, [], _, _, h, _, _ => h.elim
  | _ :: _, _ :: _, _, _, ⟨S1, S2, h1, h2, h3, h4, h5⟩, hs, hr =>
    ⟨S1, S2, fun a q => hs a (h1 a q), fun a q => hs a (h2 a q), h3, hr _ _ _ h1 h4, RepA.imp h5 (fun _ q => q) fun d v T ht => hr d v T fun a q => h2 a (ht a q)⟩
theorem RepA.length {R : D → V → (Addr → Prop) → Prop} : ∀ {ds : List D} {vs : List V} {S : Addr → Prop}, RepA R ds vs S → ds.length = vs.length
  | [], [], _, _ => rfl
  | [], _ :: _, _, h => h.elim
  | _ :: _, [], _, h => h.elim
  | _ :: _, _ :: _, _, ⟨_, _, _, _, _, _, h5⟩ => by simp [RepA.length h5]
theorem RepA.of_reps {K : PySem.W.Frag} {F H : Hp} : ∀ {ds : List D} {vs : List V} {S : Addr → Prop}, Reps K F ds vs → RepA (RepM K F H 0) ds vs S
  | _, _, _, .nil => trivial
  | _, _, _, .cons r t => ⟨fun _ => False, fun _ => False, fun _ q => q.elim, fun _ q => q.elim, fun _ q _ => q, r, RepA.of_reps t⟩
theorem RepA.reps {K : PySem.W.Frag} {F H : Hp} : ∀ {ds : List D} {vs : List V} {S : Addr → Prop}, RepA (RepM K F H 0) ds vs S → Reps K F ds vs
  | [], [], _, _ => .nil
  | [], _ :: _, _, h => h.elim
  | _ :: _, [], _, h => h.elim
  | _ :: _, _ :: _, _, ⟨_, _, _, _, _, h4, h5⟩ => .cons h4 (RepA.reps h5)

/-- a larger set; a larger shared part; the owned objects as they were -/
theorem RepM.imp {K : PySem.W.Frag} {F F' H H' : Hp} (e : Same F F') : ∀ {n : Nat} {d : D} {v : V} {S S' : Addr → Prop}, RepM K F H n d v S → (∀ a, S a → S' a) → (∀ a o, S a → H a = some o → H' a = some o) → RepM K F' H' n d v S'
  | 0, d, v, _, _, h, _, _ => Rep.mono e (d := d) (v := v) h
  | n + 1, .lst ds, v, S, S', ⟨p, vs, h1, h2, h3, h4⟩, hs, hk =>
    ⟨p, vs, h1, hs _ h2, hk _ _ h2 h3, RepA.imp h4 (fun a q => ⟨hs a q.1, q.2⟩) fun d v T ht r => RepM.imp e r (fun _ q => q) fun a o q => hk a o (ht a q).1⟩
  | n + 1, .dK kvs, v, S, S', ⟨p, vs, h1, h2, h3, hks, h4⟩, hs, hk =>
    ⟨p, vs, h1, hs _ h2, hk _ _ h2 h3, hks, RepA.imp h4 (fun a q => ⟨hs a q.1, q.2⟩) fun d v T ht r => RepM.imp e r (fun _ q => q) fun a o q => hk a o (ht a q).1⟩
  | n + 1, .dT kvs, v, S, S', ⟨p, vs, h1, h2, h3, hks, h4⟩, hs, hk =>
    ⟨p, vs, h1, hs _ h2, hk _ _ h2 h3, hks, RepA.imp h4 (fun a q => ⟨hs a q.1, q.2⟩) fun d v T ht r => RepM.imp e r (fun _ q => q) fun a o q => hk a o (ht a q).1⟩
  | n + 1, .tup ds, v, S, S', ⟨p, vs, h1, h3, h4⟩, hs, hk =>
    ⟨p, vs, h1, e _ _ h3, RepA.imp h4 hs fun d v T ht r => RepM.imp e r (fun _ q => q) fun a o q => hk a o (ht a q)⟩
  | n + 1, .non, v, _, _, h, _, _ => Rep.mono e (d := .non) (v := v) h
  | n + 1, .bl b, v, _, _, h, _, _ => Rep.mono e (d := .bl b) (v := v) h
  | n + 1, .int i, v, _, _, h, _, _ => Rep.mono e (d := .int i) (v := v) h
  | n + 1, .str x, v, _, _, h, _, _ => Rep.mono e (d := .str x) (v := v) h
  | n + 1, .ty x, v, _, _, h, _, _ => Rep.mono e (d := .ty x) (v := v) h
  | n + 1, .scr x, v, _, _, h, _, _ => Rep.mono e (d := .scr x) (v := v) h
theorem RepM.wid {K : PySem.W.Frag} {F H : Hp} {n : Nat} {d : D} {v : V} {S S' : Addr → Prop} (h : RepM K F H n d v S) (hs : ∀ a, S a → S' a) : RepM K F H n d v S' :=
  h.imp (Same.refl _) hs fun _ _ _ q => q

/-- owned things become shared -/
theorem RepM.share {K : PySem.W.Frag} {F F' H : Hp} (e : Same F F') : ∀ {n : Nat} {d : D} {v : V} {S : Addr → Prop}, RepM K F H n d v S → (∀ a o, S a → H a = some o → F' a = some o) → Rep K F' d v
  | 0, d, v, _, h, _ => Rep.mono e (d := d) (v := v) h
  | n + 1, .lst ds, v, S, ⟨p, vs, h1, h2, h3, h4⟩, hk => by
    subst h1
    refine .lst (hk _ _ h2 h3) (RepA.reps (H := H) (S := fun a => S a ∧ a ≠ p) (RepA.imp h4 (fun _ q => q) fun d v T ht r => ?_))
    exact RepM.share e r fun a o q => hk a o (ht a q).1
  | n + 1, .dK kvs, v, S, ⟨p, vs, h1, h2, h3, hks, h4⟩, hk => by
    subst h1
    refine .dK (hk _ _ h2 h3) hks (RepA.reps (H := H) (S := fun a => S a ∧ a ≠ p) (RepA.imp h4 (fun _ q => q) fun d v T ht r => ?_))
    exact RepM.share e r fun a o q => hk a o (ht a q).1
  | n + 1, .dT kvs, v, S, ⟨p, vs, h1, h2, h3, hks, h4⟩, hk => by
    subst h1
    refine .dT (hk _ _ h2 h3) hks (RepA.reps (H := H) (S := fun a => S a ∧ a ≠ p) (RepA.imp h4 (fun _ q => q) fun d v T ht r => ?_))
    exact RepM.share e r fun a o q => hk a o (ht a q).1
  | n + 1, .tup ds, v, S, ⟨p, vs, h1, h3, h4⟩, hk => by
    subst h1
    refine .tup (e _ _ h3) (RepA.reps (H := H) (S := S) (RepA.imp h4 (fun _ q => q) fun d v T ht r => ?_))
    exact RepM.share e r fun a o q => hk a o (ht a q)
  | n + 1, .non, v, _, h, _ => Rep.mono e (d := .non) (v := v) h
  | n + 1, .bl b, v, _, h, _ => Rep.mono e (d := .bl b) (v := v) h
  | n + 1, .int i, v, _, h, _ => Rep.mono e (d := .int i) (v := v) h
  | n + 1, .str x, v, _, h, _ => Rep.mono e (d := .str x) (v := v) h
  | n + 1, .ty x, v, _, h, _ => Rep.mono e (d := .ty x) (v := v) h
  | n + 1, .scr x, v, _, h, _ => Rep.mono e (d := .scr x) (v := v) h

/-! ### values without shared lists or dicts -/
mutual
def flatT : D → Bool
  | .non | .bl _ | .int _ | .str _ | .ty _ => true
  | .tup ds => flatTs ds
  | _ => false
def flatTs : List D → Bool
  | [] => true
  | d :: ds => flatT d && flatTs ds
end
def closedM : Nat → D → Bool
  | 0, d => flatT d
  | n + 1, .lst ds => ds.all (closedM n)
  | n + 1, .dK kvs => kvs.all fun p => closedM n p.2
  | n + 1, .dT kvs => kvs.all fun p => closedM n p.2
  | n + 1, .tup ds => ds.all (closedM n)
  | _ + 1, .scr _ => false
  | _ + 1, _ => true

/-- less is shared: only what no flat value leans on is taken away -/
def Keeps (F F' : Hp) : Prop := ∀ a xs, (F a = some (.tup xs) → F' a = some (.tup xs)) ∧ ∀ o, F a = some (.frz o (.tup xs)) → F' a = some (.frz o (.tup xs))
theorem SqT.keeps {K : PySem.W.Frag} {H H' : Hp} {a : Addr} {xs : List V} (e : Keeps H H') (h : SqT K H a xs) : SqT K H' a xs := by
  rcases h with (h | ⟨o, h⟩) | h
  · exact .inl (.inl ((e _ _).1 h))
  · exact .inl (.inr ⟨o, (e _ _).2 o h⟩)
  · exact .inr h
mutual
theorem Rep.keeps {K : PySem.W.Frag} {F F' : Hp} (e : Keeps F F') : ∀ {d : D} {v : V}, Rep K F d v → flatT d = true → Rep K F' d v
  | _, _, .non, _ => .non
  | _, _, .bl b, _ => .bl b
  | _, _, .int i, _ => .int i
  | _, _, .str x, _ => .str x
  | _, _, .ty x, _ => .ty x
  | _, _, .tup h r, f => .tup ((e _ _).1 h) (Reps.keeps e r f)
  | _, _, .tupK h c r, f => .tupK (SqT.keeps e h) c (Reps.keeps e r f)
  | _, _, .lst _ _, f => by simp [flatT] at f
  | _, _, .scr _ _, f => by simp [flatT] at f
  | _, _, .dK _ _ _, f => by simp [flatT] at f
  | _, _, .dT _ _ _, f => by simp [flatT] at f
theorem Reps.keeps {K : PySem.W.Frag} {F F' : Hp} (e : Keeps F F') : ∀ {ds : List D} {vs : List V}, Reps K F ds vs → flatTs ds = true → Reps K F' ds vs
  | _, _, .nil, _ => .nil
  | _, _, .cons a b, f => by
    simp only [flatTs, Bool.and_eq_true] at f
    exact .cons (Rep.keeps e a f.1) (Reps.keeps e b f.2)
end
theorem RepA.keeps {R R' : D → V → (Addr → Prop) → Prop} {p : D → Bool} (hr : ∀ d v T, R d v T → p d = true → R' d v T) : ∀ {ds : List D} {vs : List V} {S : Addr → Prop}, RepA R ds vs S → ds.all p = true → RepA R' ds vs S
  | [], [], _, _, _ => trivial
  | [], _ :: _, _, h, _ => h.elim
  | _ :: _, [], _, h, _ => h.elim
  | _ :: _, _ :: _, _, ⟨S1, S2, h1, h2, h3, h4, h5⟩, q => by
    rw [List.all_cons, Bool.and_eq_true] at q
    exact ⟨S1, S2, h1, h2, h3, hr _ _ _ h4 q.1, RepA.keeps hr h5 q.2⟩
theorem RepM.keeps {K : PySem.W.Frag} {F F' H : Hp} (e : Keeps F F') : ∀ {n : Nat} {d : D} {v : V} {S : Addr → Prop}, RepM K F H n d v S → closedM n d = true → RepM K F' H n d v S
  | 0, d, v, _, h, c => Rep.keeps e (d := d) (v := v) h c
  | n + 1, .lst ds, v, S, ⟨p, vs, h1, h2, h3, h4⟩, c => ⟨p, vs, h1, h2, h3, RepA.keeps (p := closedM n) (fun _ _ _ r q => RepM.keeps e r q) h4 (show ds.all (closedM n) = true by simpa only [closedM] using c)⟩
  | n + 1, .dK kvs, v, S, ⟨p, vs, h1, h2, h3, hks, h4⟩, c => ⟨p, vs, h1, h2, h3, hks, RepA.keeps (p := closedM n) (fun _ _ _ r q => RepM.keeps e r q) h4 (by rw [List.all_map]; show kvs.all (fun p => closedM n p.2) = true; simpa only [closedM] using c)⟩
  | n + 1, .dT kvs, v, S, ⟨p, vs, h1, h2, h3, hks, h4⟩, c => ⟨p, vs, h1, h2, h3, hks, RepA.keeps (p := closedM n) (fun _ _ _ r q => RepM.keeps e r q) h4 (by rw [List.all_map]; show kvs.all (fun p => closedM n p.2) = true; simpa only [closedM] using c)⟩
  | n + 1, .tup ds, v, S, ⟨p, vs, h1, h3, h4⟩, c => ⟨p, vs, h1, (e _ _).1 h3, RepA.keeps (p := closedM n) (fun _ _ _ r q => RepM.keeps e r q) h4 (show ds.all (closedM n) = true by simpa only [closedM] using c)⟩
  | n + 1, .non, v, _, h, _ => Rep.keeps e (d := .non) (v := v) h rfl
  | n + 1, .bl b, v, _, h, _ => Rep.keeps e (d := .bl b) (v := v) h rfl
  | n + 1, .int i, v, _, h, _ => Rep.keeps e (d := .int i) (v := v) h rfl
  | n + 1, .str x, v, _, h, _ => Rep.keeps e (d := .str x) (v := v) h rfl
  | n + 1, .ty x, v, _, h, _ => Rep.keeps e (d := .ty x) (v := v) h rfl
  | n + 1, .scr x, v, _, h, c => by simp [closedM] at c

/-! ### what a value's form says -/
section
variable {K : PySem.W.Frag} {F H : Hp} {v : V}
theorem Rep.tup_inv {ds : List D} (r : Rep K F (.tup ds) v) : ∃ a vs, v = .ref a ∧ SqT K F a vs ∧ Reps K F ds vs := by
  cases r with
  | tup h r => exact ⟨_, _, rfl, SqT.of h, r⟩
  | tupK h _ r => exact ⟨_, _, rfl, h, r⟩
theorem Rep.tup_strict {ds : List D} (r : Rep K F (.tup ds) v) (h : badK ds = true) : ∃ a vs, v = .ref a ∧ F a = some (.tup vs) ∧ Reps K F ds vs := by
  cases r with
  | tup h r => exact ⟨_, _, rfl, h, r⟩
  | tupK _ c _ => rw [h] at c; cases c
theorem Rep.tup_ints {ds : List D} (r : Rep K F (.tup ds) v) (h : ds.all isIntD = true) : ∃ a vs, v = .ref a ∧ F a = some (.tup vs) ∧ Reps K F ds vs := r.tup_strict (by unfold badK; rw [h]; rfl)
theorem Rep.lst_inv {ds : List D} (r : Rep K F (.lst ds) v) : ∃ a vs, v = .ref a ∧ SqL K F a vs ∧ Reps K F ds vs := by
  cases r with
  | lst h r => exact ⟨_, _, rfl, SqL.of h, r⟩
theorem Rep.lst_inv' {ds : List D} (r : Rep K F (.lst ds) v) : ∃ a vs, v = .ref a ∧ F a = some (.lst vs) ∧ Reps K F ds vs := by
  cases r with
  | lst h r => exact ⟨_, _, rfl, h, r⟩
theorem Rep.scr_inv {ds : List D} (r : Rep K F (.scr ds) v) : ∃ a vs, v = .ref a ∧ SqL K F a vs ∧ Reps K F ds vs := by
  cases r with
  | scr h r => exact ⟨_, _, rfl, h, r⟩
theorem Rep.dK_inv {kvs : List (Key × D)} (r : Rep K F (.dK kvs) v) : ∃ a kws, v = .ref a ∧ F a = some (.dK kws) ∧ kvs.map (·.1) = kws.map (·.1) ∧ Reps K F (kvs.map (·.2)) (kws.map (·.2)) := by
  cases r with
  | dK h k r => exact ⟨_, _, rfl, h, k, r⟩
theorem Rep.dT_inv {kvs : List (List Key × D)} (r : Rep K F (.dT kvs) v) : ∃ a kws, v = .ref a ∧ F a = some (.dT kws) ∧ kvs.map (·.1) = kws.map (·.1) ∧ Reps K F (kvs.map (·.2)) (kws.map (·.2)) := by
  cases r with
  | dT h k r => exact ⟨_, _, rfl, h, k, r⟩
theorem Rep.int_inv {i : Int} (r : Rep K F (.int i) v) : v = .int i := by cases r; rfl
theorem Rep.bl_inv {b : Bool} (r : Rep K F (.bl b) v) : v = .bl b := by cases r; rfl
theorem Rep.str_inv {x : Str} (r : Rep K F (.str x) v) : v = .str x := by cases r; rfl
theorem Rep.ty_inv {x : String} (r : Rep K F (.ty x) v) : v = .ty x := by cases r; rfl
theorem Rep.non_inv (r : Rep K F .non v) : v = .non := by cases r; rfl
theorem Reps.ints : ∀ {ns : List Int} {vs : List V}, Reps K F (ns.map D.int) vs → vs = ns.map V.int
  | [], _, .nil => rfl
  | n :: ns, _, .cons a b => by rw [Rep.int_inv a, Reps.ints b]; rfl
theorem Reps.strs : ∀ {ns : List Str} {vs : List V}, Reps K F (ns.map D.str) vs → vs = ns.map V.str
  | [], _, .nil => rfl
  | n :: ns, _, .cons a b => by rw [Rep.str_inv a, Reps.strs b]; rfl
theorem reps_ints : ∀ (ns : List Int), Reps K F (ns.map D.int) (ns.map V.int)
  | [] => .nil
  | n :: ns => .cons (.int n) (reps_ints ns)
theorem reps_strs : ∀ (ns : List Str), Reps K F (ns.map D.str) (ns.map V.str)
  | [] => .nil
  | n :: ns => .cons (.str n) (reps_strs ns)
end

end DL

set_option autoImplicit false
set_option Elab.async false
set_option linter.all false
set_option maxRecDepth 100000
/-! DL: what an expression, a test, an argument list, a statement comes to, over values as trees; what that says of the hand layer's readings. -/
namespace DL
open PySem PySem.Spec PyProof.Rows L2

abbrev DEnv := List (Option (Nat × D))
structure Exc where
  cls : Str
  args : List (Str × D)
inductive Out (α : Type) where
  | ok (a : α) (e : DEnv) | exc (x : Exc) (e : DEnv) | stuck
def Out.bind {α β : Type} (o : Out α) (f : α → DEnv → Out β) : Out β :=
  match o with
  | .ok a e => f a e
  | .exc x e => .exc x e
  | .stuck => .stuck
inductive OutS where
  | nx (e : DEnv) | ret (n : Nat) (d : D) (e : DEnv) | brk (e : DEnv) | cont (e : DEnv) | exc (x : Exc) (e : DEnv) | stuck
def Out.bindS {α : Type} (o : Out α) (f : α → DEnv → OutS) : OutS :=
  match o with
  | .ok a e => f a e
  | .exc x e => .exc x e
  | .stuck => .stuck
abbrev ME := DEnv → Out (Nat × D)
abbrev MT := DEnv → Out Bool
abbrev MA := DEnv → Out (List D)
abbrev MS := DEnv → OutS

/-! ### the state -/
def LD : Option HO → Prop
  | some (.lst _) => True
  | some (.dK _) => True
  | some (.dT _) => True
  | _ => False
theorem LD.mut {o : Option HO} (h : LD o) : L2.Mut o := by
  cases o with
  | none => exact h.elim
  | some u => cases u <;> first | trivial | exact h.elim
theorem LD.some {o : Option HO} (h : LD o) : o ≠ none := by
  intro e; subst e; exact h
abbrev Fp := Nat → Addr → Prop
structure SS (K : PySem.W.Frag) (G F H : Hp) (σ : L2.St) (env : DEnv) (fp : Fp) : Prop where
  len : env.length = σ.length
  slot : ∀ i n d, env[i]? = some (some (n, d)) → ∃ v, σ[i]? = some (some v) ∧ RepM K F H n d v (fp i)
  dis : ∀ i j a, i ≠ j → fp i a → fp j a → False
  ld : ∀ i a, fp i a → LD (H a)
  nf : ∀ i a, fp i a → F a = none
  ng : ∀ i a, fp i a → G a = none
  sf : Same F H
  sg : Same G H
structure SV (K : PySem.W.Frag) (G F H : Hp) (σ : L2.St) (env : DEnv) (fp : Fp) (n : Nat) (d : D) (v : V) (S : Addr → Prop) : Prop where
  ss : SS K G F H σ env fp
  val : RepM K F H n d v S
  vld : ∀ a, S a → LD (H a)
  vnf : ∀ a, S a → F a = none
  vng : ∀ a, S a → G a = none
  vdis : ∀ i a, S a → fp i a → False
structure FrExt (G F F' : Hp) : Prop where
  same : Same F F'
  out : ∀ a, G a ≠ none → F a = none → F' a = none
theorem FrExt.refl {G F : Hp} : FrExt G F F := ⟨Same.refl _, fun _ _ h => h⟩
theorem FrExt.trans {G F F1 F2 : Hp} (a : FrExt G F F1) (b : FrExt G F1 F2) : FrExt G F F2 := ⟨a.same.trans b.same, fun x h1 h2 => b.out x h1 (a.out x h1 h2)⟩

/-- an exception of the program's own class, its fields -/
def RepX (K : PySem.W.Frag) (mg : Str → Option Value) (F H : Hp) (x : Exc) (c : Value) (dd : Option Addr) : Prop :=
  ∃ C d fs, mg x.cls = some (.ref C) ∧ c = .ref C ∧ dd = some d ∧ H d = some (.xd fs) ∧ x.args.map (·.1) = fs.map (·.1) ∧ Reps K F (x.args.map (·.2)) (fs.map (·.2))

/-- what an outcome wants: of a value P, of an exception W -/
def RG {α : Type} (K : PySem.W.Frag) (mg : Str → Option Value) (W : WX) (G F : Hp) (σ : L2.St) (P : α → DEnv → Prop) (o : Out α) : Prop :=
  match o with
  | .ok a e => P a e
  | .exc x e => ∀ c dd F' H' fp', SS K G F' H' σ e fp' → FrExt G F F' → RepX K mg F' H' x c dd → W c dd σ H'
  | .stuck => False
theorem RG.bind {α β : Type} {K : PySem.W.Frag} {mg : Str → Option Value} {W : WX} {G F : Hp} {σ : L2.St} {P : β → DEnv → Prop} {o : Out α} {k : α → DEnv → Out β} (h : RG K mg W G F σ P (o.bind k)) : RG K mg W G F σ (fun a e => RG K mg W G F σ P (k a e)) o := by
  cases o <;> exact h
theorem RG.imp {α : Type} {K : PySem.W.Frag} {mg : Str → Option Value} {W : WX} {G F F1 : Hp} {σ : L2.St} {P P' : α → DEnv → Prop} {o : Out α} (h : RG K mg W G F σ P o) (f : FrExt G F F1) (i : ∀ a e, P a e → P' a e) : RG K mg W G F1 σ P' o := by
  cases o with
  | ok a e => exact i _ _ h
  | exc x e => exact fun c dd F' H' fp' s fe r => h c dd F' H' fp' s (f.trans fe) r
  | stuck => exact h
abbrev PV (K : PySem.W.Frag) (G F : Hp) (σ : L2.St) (Q : VK) : Nat × D → DEnv → Prop := fun r e => ∀ v F' H' fp' S, SV K G F' H' σ e fp' r.1 r.2 v S → FrExt G F F' → Q v H'
abbrev PB (K : PySem.W.Frag) (G F : Hp) (σ : L2.St) (Q : Bool → Hp → Prop) : Bool → DEnv → Prop := fun b e => ∀ F' H' fp', SS K G F' H' σ e fp' → FrExt G F F' → Q b H'
abbrev PL (K : PySem.W.Frag) (G F : Hp) (σ : L2.St) (Q : List V → Hp → Prop) : List D → DEnv → Prop := fun ds e => ∀ vs F' H' fp', SS K G F' H' σ e fp' → Reps K F' ds vs → FrExt G F F' → Q vs H'
def tE (K : PySem.W.Frag) (mg : Str → Option Value) (W : WX) (m : ME) : TE := fun σ H Q => ∃ G F env fp, SS K G F H σ env fp ∧ RG K mg W G F σ (PV K G F σ Q) (m env)
def tT (K : PySem.W.Frag) (mg : Str → Option Value) (W : WX) (m : MT) : TT := fun σ H Q => ∃ G F env fp, SS K G F H σ env fp ∧ RG K mg W G F σ (PB K G F σ Q) (m env)
def tA (K : PySem.W.Frag) (mg : Str → Option Value) (W : WX) (m : MA) : TA := fun σ H Q => ∃ G F env fp, SS K G F H σ env fp ∧ RG K mg W G F σ (PL K G F σ Q) (m env)
def Agree (A : List Nat) (σ σ' : L2.St) : Prop := σ'.length = σ.length ∧ ∀ i, i ∉ A → σ'[i]? = σ[i]?
/-- what a statement's outcome wants -/
def RGS (K : PySem.W.Frag) (mg : Str → Option Value) (W : WX) (G F : Hp) (A : List Nat) (σ : L2.St) (De : L2.Ends) (o : OutS) : Prop :=
  match o with
  | .nx env' => ∀ σ' F' H' fp', Agree A σ σ' → SS K G F' H' σ' env' fp' → FrExt G F F' → De.nx σ' H'
  | .brk env' => ∀ σ' F' H' fp', Agree A σ σ' → SS K G F' H' σ' env' fp' → FrExt G F F' → De.bk σ' H'
  | .cont env' => ∀ σ' F' H' fp', Agree A σ σ' → SS K G F' H' σ' env' fp' → FrExt G F F' → De.ct σ' H'
  | .ret n d env' => ∀ v σ' F' H' fp' S, Agree A σ σ' → SV K G F' H' σ' env' fp' n d v S → FrExt G F F' → De.rt v H'
  | .exc x env' => ∀ c dd σ' F' H' fp', Agree A σ σ' → SS K G F' H' σ' env' fp' → FrExt G F F' → RepX K mg F' H' x c dd → W c dd σ' H'
  | .stuck => False
def tS (K : PySem.W.Frag) (mg : Str → Option Value) (W : WX) (A : List Nat) (m : MS) : TS := fun De σ H => ∃ G F env fp, SS K G F H σ env fp ∧ RGS K mg W G F A σ De (m env)

def DE (X : Cx) (W : WX) (m : ME) (e : Expr) : Prop := PE X e (tE X.K X.mg W m)
def DT (X : Cx) (W : WX) (m : MT) (e : Expr) : Prop := PT X e (tT X.K X.mg W m)
def DW (X : Cx) (W : WX) (m : MT) (e : Expr) : Prop := PW X e (tT X.K X.mg W m)
def DA (X : Cx) (W : WX) (m : MA) (es : List Expr) : Prop := PA X es (tA X.K X.mg W m)
def DS (X : Cx) (W : WX) (A : List Nat) (m : MS) (st : Stmt) : Prop := PS X st (tS X.K X.mg W A m)
def DSs (X : Cx) (W : WX) (A : List Nat) (m : MS) (sts : List Stmt) : Prop := PSs X sts (tS X.K X.mg W A m)

theorem PE.to {X : Cx} {e : Expr} {t t' : TE} (h : PE X e t) (i : ∀ σ H Q, t' σ H Q → t σ H Q) : PE X e t' := ⟨fun pins s σ H Q I q => h.run pins s σ H Q I (i σ H Q q)⟩
theorem PT.to {X : Cx} {e : Expr} {t t' : TT} (h : PT X e t) (i : ∀ σ H Q, t' σ H Q → t σ H Q) : PT X e t' := ⟨fun pins s σ H Q I q => h.run pins s σ H Q I (i σ H Q q)⟩
theorem PW.to {X : Cx} {e : Expr} {t t' : TT} (h : PW X e t) (i : ∀ σ H Q, t' σ H Q → t σ H Q) : PW X e t' := ⟨fun wh pins s σ H Q I q => h.run wh pins s σ H Q I (i σ H Q q)⟩
theorem PA.to {X : Cx} {e : List Expr} {t t' : TA} (h : PA X e t) (i : ∀ σ H Q, t' σ H Q → t σ H Q) : PA X e t' := ⟨fun pos pins s σ H Q I q => h.run pos pins s σ H Q I (i σ H Q q)⟩
theorem PS.to {X : Cx} {e : Stmt} {t t' : TS} (h : PS X e t) (i : ∀ De σ H, t' De σ H → t De σ H) : PS X e t' := ⟨fun pins s σ H De I q => h.run pins s σ H De I (i De σ H q)⟩
theorem PSs.to {X : Cx} {e : List Stmt} {t t' : TS} (h : PSs X e t) (i : ∀ De σ H, t' De σ H → t De σ H) : PSs X e t' := ⟨fun pins s σ H De I q => h.run pins s σ H De I (i De σ H q)⟩

/-! ### sharing what a value owns -/
open Classical in
noncomputable def addH (F H : Hp) (S : Addr → Prop) : Hp := fun a => match F a with
  | some o => some o
  | none => if S a then H a else none
theorem addH_same {F H : Hp} {S : Addr → Prop} : Same F (addH F H S) := fun a o e => by unfold addH; rw [e]
theorem addH_in {F H : Hp} {S : Addr → Prop} (sf : Same F H) {a : Addr} {o : HO} (h : S a) (e : H a = some o) : addH F H S a = some o := by
  unfold addH
  cases q : F a with
  | some u => have := sf _ _ q; rw [e] at this; simpa using this.symm
  | none => simp [h, e]
theorem addH_out {F H : Hp} {S : Addr → Prop} {a : Addr} (h : ¬ S a) : addH F H S a = F a := by
  unfold addH
  cases q : F a with
  | some u => rfl
  | none => simp [h]
theorem addH_sub {F H : Hp} {S : Addr → Prop} (sf : Same F H) : Same (addH F H S) H := fun a o e => by
  by_cases h : S a
  · unfold addH at e
    cases q : F a with
    | some u => rw [q] at e; exact sf _ _ (q.trans e)
    | none => rw [q] at e; simpa [h] using e
  · rw [addH_out h] at e; exact sf _ _ e
theorem Same.eq_none {F H : Hp} (s : Same F H) {a : Addr} (h : H a = none) : F a = none := s.free h
theorem RepM.rep {K : PySem.W.Frag} {F H : Hp} {n : Nat} {d : D} {v : V} {S : Addr → Prop} (sf : Same F H) (h : RepM K F H n d v S) : Rep K (addH F H S) d v :=
  h.share addH_same fun a o q e => addH_in sf q e

section
variable {K : PySem.W.Frag} {mg : Str → Option Value} {G F F' H H' : Hp} {σ : L2.St} {env env' : DEnv} {fp fp' : Fp} {n : Nat} {d : D} {v : V} {S : Addr → Prop}
/-- a larger shared part that touches nothing owned; a heap in which all that counts stands -/
theorem SS.grow (s : SS K G F H σ env fp) (e : Same F F') (sf : Same F' H') (k : ∀ a o, H a = some o → (∃ i, fp i a) ∨ G a ≠ none → H' a = some o) (hn : ∀ i a, fp i a → F' a = none) : SS K G F' H' σ env fp where
  len := s.len
  slot := fun i n d q => by
    obtain ⟨v, h1, h2⟩ := s.slot i n d q
    exact ⟨v, h1, h2.imp e (fun _ q => q) fun a o z q => k a o q (.inl ⟨i, z⟩)⟩
  dis := s.dis
  ld := fun i a q => by
    have h := s.ld i a q
    cases e' : H a with
    | none => exact absurd e' h.some
    | some o => rw [k a o e' (.inl ⟨i, q⟩), ← e']; exact h
  nf := hn
  ng := s.ng
  sf := sf
  sg := fun a o e => k a o (s.sg a o e) (.inr (by rw [e]; simp))
/-- the value of an expression is shared -/
theorem SV.share (s : SV K G F H σ env fp n d v S) : SS K G (addH F H S) H σ env fp ∧ Rep K (addH F H S) d v ∧ FrExt G F (addH F H S) := by
  have hS : ∀ a, G a ≠ none → ¬ S a := fun a h q => h (s.vng a q)
  refine ⟨s.ss.grow addH_same (addH_sub s.ss.sf) (fun a o e _ => e) (fun i a q => ?_), s.val.rep s.ss.sf, ⟨addH_same, fun a h e => ?_⟩⟩
  · rw [addH_out (fun z => s.vdis i a z q)]; exact s.ss.nf i a q
  · rw [addH_out (hS a h)]; exact e
theorem SV.of_rep (s : SS K G F H σ env fp) (r : Rep K F d v) : SV K G F H σ env fp 0 d v (fun _ => False) :=
  ⟨s, r, fun _ q => q.elim, fun _ q => q.elim, fun _ q => q.elim, fun _ _ q => q.elim⟩
end

/-- what an operation may hand back: nothing that stood is changed; what is owned is new -/
structure NewV (K : PySem.W.Frag) (F H F' H' : Hp) (n : Nat) (d : D) (v : V) (S : Addr → Prop) : Prop where
  ff : Same F F'
  hh : Same H H'
  fh : Same F' H'
  rep : RepM K F' H' n d v S
  ld : ∀ a, S a → LD (H' a)
  new : ∀ a, S a → H a = none
  nf : ∀ a, S a → F' a = none
  fn : ∀ a, F a = none → H a ≠ none → F' a = none
theorem NewV.of_rep {K : PySem.W.Frag} {F H : Hp} {d : D} {v : V} (sf : Same F H) (r : Rep K F d v) : NewV K F H F H 0 d v (fun _ => False) :=
  ⟨Same.refl _, Same.refl _, sf, r, fun _ q => q.elim, fun _ q => q.elim, fun _ q => q.elim, fun _ h _ => h⟩
theorem same_upd {H : Hp} {p : Addr} {o : HO} (h : H p = none) : Same H (upd H p o) := fun a u e => by rw [upd_ne (ne_of_none e h)]; exact e
theorem same_upd2 {F H : Hp} {p : Addr} {o : HO} (s : Same F H) (h : F p = none) : Same F (upd H p o) := fun a u e => by rw [upd_ne (ne_of_none e h)]; exact s _ _ e
theorem NewV.lst {K : PySem.W.Frag} {F H : Hp} {ds : List D} {vs : List V} {p : Addr} (sf : Same F H) (hp : H p = none) (r : Reps K F ds vs) : NewV K F H F (upd H p (.lst vs)) 1 (.lst ds) (.ref p) (fun a => a = p) := by
  refine ⟨Same.refl _, same_upd hp, same_upd2 sf (sf.free hp), ⟨p, vs, rfl, rfl, upd_same, RepA.of_reps r⟩, fun a q => ?_, fun a q => ?_, fun a q => ?_, fun _ h _ => h⟩
  · subst q; rw [upd_same]; trivial
  · subst q; exact hp
  · subst q; exact sf.free hp
theorem NewV.dK {K : PySem.W.Frag} {F H : Hp} {kvs : List (Key × D)} {kws : List (Key × V)} {p : Addr} (sf : Same F H) (hp : H p = none) (hk : kvs.map (·.1) = kws.map (·.1)) (r : Reps K F (kvs.map (·.2)) (kws.map (·.2))) : NewV K F H F (upd H p (.dK kws)) 1 (.dK kvs) (.ref p) (fun a => a = p) := by
  refine ⟨Same.refl _, same_upd hp, same_upd2 sf (sf.free hp), ⟨p, kws, rfl, rfl, upd_same, hk, RepA.of_reps r⟩, fun a q => ?_, fun a q => ?_, fun a q => ?_, fun _ h _ => h⟩
  · subst q; rw [upd_same]; trivial
  · subst q; exact hp
  · subst q; exact sf.free hp
theorem NewV.dT {K : PySem.W.Frag} {F H : Hp} {kvs : List (List Key × D)} {kws : List (List Key × V)} {p : Addr} (sf : Same F H) (hp : H p = none) (hk : kvs.map (·.1) = kws.map (·.1)) (r : Reps K F (kvs.map (·.2)) (kws.map (·.2))) : NewV K F H F (upd H p (.dT kws)) 1 (.dT kvs) (.ref p) (fun a => a = p) := by
  refine ⟨Same.refl _, same_upd hp, same_upd2 sf (sf.free hp), ⟨p, kws, rfl, rfl, upd_same, hk, RepA.of_reps r⟩, fun a q => ?_, fun a q => ?_, fun a q => ?_, fun _ h _ => h⟩
  · subst q; rw [upd_same]; trivial
  · subst q; exact hp
  · subst q; exact sf.free hp
theorem NewV.tup {K : PySem.W.Frag} {F H : Hp} {ds : List D} {vs : List V} {p : Addr} (sf : Same F H) (hp : H p = none) (r : Reps K F ds vs) : NewV K F H (upd F p (.tup vs)) (upd H p (.tup vs)) 0 (.tup ds) (.ref p) (fun _ => False) := by
  have hf := sf.free hp
  refine ⟨same_upd hf, same_upd hp, fun a u e => ?_, ?_, fun _ q => q.elim, fun _ q => q.elim, fun _ q => q.elim, fun a h1 h2 => ?_⟩
  · by_cases h : a = p
    · subst h; rw [upd_same] at e ⊢; exact e
    · rw [upd_ne h] at e ⊢; exact sf _ _ e
  · exact Rep.tup upd_same (Reps.mono (same_upd hf) r)
  · rw [upd_ne (fun z => h2 (by rw [z]; exact hp))]; exact h1
section
variable {K : PySem.W.Frag} {mg : Str → Option Value} {G F F' H H' : Hp} {σ : L2.St} {env env' : DEnv} {fp fp' : Fp} {n : Nat} {d : D} {v : V} {S : Addr → Prop}
theorem SS.new (s : SS K G F H σ env fp) (w : NewV K F H F' H' n d v S) : SV K G F' H' σ env fp n d v S ∧ FrExt G F F' := by
  refine ⟨⟨s.grow w.ff w.fh (fun a o e _ => w.hh a o e) fun i a q => w.fn a (s.nf i a q) (s.ld i a q).some, w.rep, w.ld, w.nf, fun a q => s.sg.free (w.new a q), fun i a q z => ?_⟩, ⟨w.ff, fun a h e => w.fn a e fun z => h (s.sg.free z)⟩⟩
  exact (s.ld i a z).some (w.new a q)
end

/-! ### constants, names -/
section
variable {X : Cx} {W : WX}
def mC (d : D) : ME := fun env => .ok (0, d) env
theorem de_const {e : Expr} {d : D} {v : V} (h : PE X e (tC v)) (r : ∀ K F, Rep K F d v) : DE X W (mC d) e :=
  PE.to h fun σ H Q ⟨G, F, env, fp, s, q⟩ => q v F H fp _ (SV.of_rep s (r _ _)) .refl
theorem de_int {i : Int} {j pos} : DE X W (mC (.int i)) (.Constant (.int i) j pos) := de_const pe_int fun _ _ => .int i
theorem de_bl {b : Bool} {j pos} : DE X W (mC (.bl b)) (.Constant (.bool b) j pos) := de_const pe_bl fun _ _ => .bl b
theorem de_non {j pos} : DE X W (mC .non) (.Constant .none j pos) := de_const pe_non fun _ _ => .non
theorem de_str {x : Str} {j pos} : DE X W (mC (.str x)) (.Constant (.str x) j pos) := de_const pe_str fun _ _ => .str x
def mVar (i : Nat) : ME := fun env => match env[i]? with
  | some (some (0, d)) => .ok (0, d) env
  | _ => .stuck
theorem de_var {i : Nat} {e : Expr} (h : PE X e (tVar i)) : DE X W (mVar i) e := by
  refine PE.to h fun σ H Q ⟨G, F, env, fp, s, q⟩ => ?_
  unfold mVar at q
  split at q
  · rename_i d hd
    obtain ⟨v, hv, r⟩ := s.slot i 0 d hd
    exact ⟨v, hv, q v F H fp _ (SV.of_rep s r) .refl⟩
  · exact q.elim
/-- a name is given away: what it owned goes with the value -/
def mMove (i : Nat) : ME := fun env => match env[i]? with
  | some (some (n, d)) => .ok (n, d) (env.set i none)
  | _ => .stuck
theorem SS.drop {K : PySem.W.Frag} {G F H : Hp} {σ : L2.St} {env : DEnv} {fp : Fp} (i : Nat) (s : SS K G F H σ env fp) : SS K G F H σ (env.set i none) (fun j a => j ≠ i ∧ fp j a) where
  len := by rw [List.length_set]; exact s.len
  slot := fun j n d q => by
    by_cases h : i = j
    · subst h
      by_cases hl : i < env.length
      · rw [List.getElem?_set_self hl] at q; cases q
      · rw [List.getElem?_eq_none (by simpa using hl)] at q; cases q
    · rw [List.getElem?_set_ne h] at q
      obtain ⟨v, h1, h2⟩ := s.slot j n d q
      exact ⟨v, h1, h2.wid fun a q => ⟨fun e => h e.symm, q⟩⟩
  dis := fun i j a h p q => s.dis i j a h p.2 q.2
  ld := fun i a q => s.ld i a q.2
  nf := fun i a q => s.nf i a q.2
  ng := fun i a q => s.ng i a q.2
  sf := s.sf
  sg := s.sg
theorem de_move {i : Nat} {e : Expr} (h : PE X e (tVar i)) : DE X W (mMove i) e := by
  refine PE.to h fun σ H Q ⟨G, F, env, fp, s, q⟩ => ?_
  unfold mMove at q
  split at q
  · rename_i n d hd
    obtain ⟨v, hv, r⟩ := s.slot i n d hd
    exact ⟨v, hv, q v F H _ (fp i) ⟨s.drop i, r, s.ld i, s.nf i, s.ng i, fun j a p z => s.dis i j a (fun e => z.1 e.symm) p z.2⟩ .refl⟩
  · exact q.elim

/-! ### operations -/
def mOp2 (f : D → D → Option (Nat × D)) (ma mb : ME) : ME := fun env => (ma env).bind fun a e1 => (mb e1).bind fun b e2 =>
  match f a.2 b.2 with
  | some r => .ok r e2
  | none => .stuck
def mOp1 (f : D → Option (Nat × D)) (ma : ME) : ME := fun env => (ma env).bind fun a e1 =>
  match f a.2 with
  | some r => .ok r e1
  | none => .stuck
def OpD (X : Cx) (g : Value → Value → Sem Value) (f : D → D → Option (Nat × D)) : Prop :=
  ∃ r : R2, OpR X g r ∧ ∀ d1 d2 n d, f d1 d2 = some (n, d) → ∀ (F H : Hp) (x y : V) (Q : VK), Same F H → Rep X.K F d1 x → Rep X.K F d2 y →
    (∀ v F' H' S, NewV X.K F H F' H' n d v S → Q v H') → r x y H Q
def UnD (X : Cx) (g : Value → Sem Value) (f : D → Option (Nat × D)) : Prop :=
  ∃ r : V → Hp → VK → Prop, UnR X g r ∧ ∀ d1 n d, f d1 = some (n, d) → ∀ (F H : Hp) (x : V) (Q : VK), Same F H → Rep X.K F d1 x →
    (∀ v F' H' S, NewV X.K F H F' H' n d v S → Q v H') → r x H Q
/-- one value, then what is made of it -/
theorem tE.of {K : PySem.W.Frag} {mg : Str → Option Value} {W : WX} {G F H : Hp} {ma : ME} {P : Nat × D → DEnv → Prop} {σ : L2.St} {env : DEnv} {fp : Fp} {Q' : VK} (s : SS K G F H σ env fp) (h : RG K mg W G F σ P (ma env))
    (hk : ∀ r e F1 H1 fp1 v, P r e → SS K G F1 H1 σ e fp1 → Rep K F1 r.2 v → FrExt G F F1 → Q' v H1) : tE K mg W ma σ H Q' := by
  refine ⟨G, F, env, fp, s, h.imp .refl fun r e p v F' H' fp' S sv fe => ?_⟩
  obtain ⟨s1, r1, f1⟩ := sv.share
  exact hk r e _ H' fp' v p s1 r1 (fe.trans f1)
theorem tT.of {K : PySem.W.Frag} {mg : Str → Option Value} {W : WX} {G F H : Hp} {ma : MT} {P : Bool → DEnv → Prop} {σ : L2.St} {env : DEnv} {fp : Fp} {Q' : Bool → Hp → Prop} (s : SS K G F H σ env fp) (h : RG K mg W G F σ P (ma env))
    (hk : ∀ b e F1 H1 fp1, P b e → SS K G F1 H1 σ e fp1 → FrExt G F F1 → Q' b H1) : tT K mg W ma σ H Q' :=
  ⟨G, F, env, fp, s, h.imp .refl fun b e p F' H' fp' s' fe => hk b e F' H' fp' p s' fe⟩
theorem tA.of {K : PySem.W.Frag} {mg : Str → Option Value} {W : WX} {G F H : Hp} {ma : MA} {P : List D → DEnv → Prop} {σ : L2.St} {env : DEnv} {fp : Fp} {Q' : List V → Hp → Prop} (s : SS K G F H σ env fp) (h : RG K mg W G F σ P (ma env))
    (hk : ∀ ds e F1 H1 fp1 vs, P ds e → SS K G F1 H1 σ e fp1 → Reps K F1 ds vs → FrExt G F F1 → Q' vs H1) : tA K mg W ma σ H Q' :=
  ⟨G, F, env, fp, s, h.imp .refl fun ds e p vs F' H' fp' s' r fe => hk ds e F' H' fp' vs p s' r fe⟩
/-- the end: something new, or nothing -/
theorem RG.end {K : PySem.W.Frag} {mg : Str → Option Value} {W : WX} {G F F1 H1 : Hp} {σ : L2.St} {e : DEnv} {fp1 : Fp} {Q : VK} {o : Option (Nat × D)} (s : SS K G F1 H1 σ e fp1) (fe : FrExt G F F1)
    (h : RG K mg W G F σ (PV K G F σ Q) (match o with | some r => Out.ok r e | none => .stuck)) : ∃ n d, o = some (n, d) ∧ ∀ v F' H' S, NewV K F1 H1 F' H' n d v S → Q v H' := by
  cases o with
  | none => exact h.elim
  | some r =>
    refine ⟨r.1, r.2, rfl, fun v F' H' S w => ?_⟩
    obtain ⟨sv, f2⟩ := s.new w
    exact h v F' H' fp1 S sv (fe.trans f2)
theorem de_op {a b : Expr} {op : Operator} {pos : Pos} {f : D → D → Option (Nat × D)} {ma mb : ME} (ho : OpD X (binaryOp op) f) (ha : DE X W ma a) (hb : DE X W mb b) : DE X W (mOp2 f ma mb) (.BinOp a op b pos) := by
  obtain ⟨r, hr, hq⟩ := ho
  refine PE.to (pe_op hr ha hb) fun σ H Q ⟨G, F, env, fp, s, h⟩ => ?_
  refine tE.of s h.bind fun r1 e1 F1 H1 fp1 v1 p1 s1 rep1 fe1 => ?_
  refine tE.of s1 (RG.imp p1.bind fe1 fun _ _ q => q) fun r2 e2 F2 H2 fp2 v2 p2 s2 rep2 fe2 => ?_
  obtain ⟨n, d, ho, hk⟩ := RG.end s2 (fe1.trans fe2) p2
  exact hq _ _ n d ho F2 H2 v1 v2 Q s2.sf (rep1.mono fe2.same) rep2 hk
theorem de_un {a : Expr} {op : UnaryOp} {pos : Pos} {f : D → Option (Nat × D)} {ma : ME} (ho : UnD X (unaryOp op) f) (ha : DE X W ma a) : DE X W (mOp1 f ma) (.UnaryOp op a pos) := by
  obtain ⟨r, hr, hq⟩ := ho
  refine PE.to (pe_un hr ha) fun σ H Q ⟨G, F, env, fp, s, h⟩ => ?_
  refine tE.of s h.bind fun r1 e1 F1 H1 fp1 v1 p1 s1 rep1 fe1 => ?_
  obtain ⟨n, d, ho, hk⟩ := RG.end s1 fe1 p1
  exact hq _ n d ho F1 H1 v1 Q s1.sf rep1 hk
/-- a comparison as a value -/
theorem de_cmp {a b : Expr} {op : CmpOp} {pos : Pos} {f : D → D → Option (Nat × D)} {ma mb : ME} (ho : OpD X (compareOp op) f) (ha : DE X W ma a) (hb : DE X W mb b) (hm : behindInMarks op b = false := by first | exact nomark _ | rfl) : DE X W (mOp2 f ma mb) (.Compare a [op] [b] pos) := by
  obtain ⟨r, hr, hq⟩ := ho
  refine PE.to (pe_cmpR hr ha hb hm) fun σ H Q ⟨G, F, env, fp, s, h⟩ => ?_
  refine tE.of s h.bind fun r1 e1 F1 H1 fp1 v1 p1 s1 rep1 fe1 => ?_
  refine tE.of s1 (RG.imp p1.bind fe1 fun _ _ q => q) fun r2 e2 F2 H2 fp2 v2 p2 s2 rep2 fe2 => ?_
  obtain ⟨n, d, ho, hk⟩ := RG.end s2 (fe1.trans fe2) p2
  exact hq _ _ n d ho F2 H2 v1 v2 Q s2.sf (rep1.mono fe2.same) rep2 hk
end
end DL

set_option autoImplicit false
set_option Elab.async false
set_option linter.all false
set_option maxRecDepth 100000
/-! DL: comparisons, tests, conditional values, items, displays, calls of what is built in. -/
namespace DL
open PySem PySem.Spec PyProof.Rows L2
section
variable {X : Cx} {W : WX}

/-! ### comparisons -/
def CmpD (X : Cx) (op : CmpOp) (f : D → D → Option Bool) : Prop :=
  ∃ r : R2, OpR X (compareOp op) r ∧ ∀ d1 d2 k, f d1 d2 = some k → ∀ (F H : Hp) (x y : V) (Q : VK), Same F H → Rep X.K F d1 x → Rep X.K F d2 y → Q (.bl k) H → r x y H Q
def oB {α : Type} (o : Option α) (e : DEnv) : Out α := match o with
  | some k => .ok k e
  | none => .stuck
def mCmp (f : D → D → Option Bool) (ma mb : ME) : MT := fun env => (ma env).bind fun a e1 => (mb e1).bind fun b e2 => oB (f a.2 b.2) e2
def mChain (f g : D → D → Option Bool) (ma mb mc : ME) : MT := fun env => (ma env).bind fun a e1 => (mb e1).bind fun b e2 => (oB (f a.2 b.2) e2).bind fun k e2 =>
  if k = true then (mc e2).bind fun c e3 => oB (g b.2 c.2) e3 else .ok false e2
def mBool (m : MT) : ME := fun env => (m env).bind fun b e => .ok (0, .bl b) e
def DB (X : Cx) (W : WX) (m : MT) (e : Expr) : Prop := DE X W (mBool m) e

theorem RG.ofO {α : Type} {K : PySem.W.Frag} {mg : Str → Option Value} {G F : Hp} {σ : L2.St} {P : α → DEnv → Prop} {o : Option α} {e : DEnv} (h : RG K mg W G F σ P (oB o e)) : ∃ k, o = some k ∧ P k e := by
  cases o with
  | none => exact h.elim
  | some k => exact ⟨k, rfl, h⟩
theorem PV.bl {K : PySem.W.Frag} {G F F1 H1 : Hp} {σ : L2.St} {Q : VK} {b : Bool} {e : DEnv} {fp : Fp} (h : PV K G F σ Q (0, .bl b) e) (s : SS K G F1 H1 σ e fp) (fe : FrExt G F F1) : Q (.bl b) H1 :=
  h _ F1 H1 fp _ (SV.of_rep s (.bl b)) fe

theorem db_cmp {a b : Expr} {op : CmpOp} {pos : Pos} {f : D → D → Option Bool} {ma mb : ME} (ho : CmpD X op f) (ha : DE X W ma a) (hb : DE X W mb b) (hm : behindInMarks op b = false := by first | exact nomark _ | rfl | with_unfolding_all rfl) : DB X W (mCmp f ma mb) (.Compare a [op] [b] pos) := by
  obtain ⟨r, hr, hq⟩ := ho
  refine PE.to (pe_cmpR hr ha hb hm) fun σ H Q ⟨G, F, env, fp, s, h⟩ => ?_
  refine tE.of s h.bind.bind fun r1 e1 F1 H1 fp1 v1 p1 s1 rep1 fe1 => ?_
  refine tE.of s1 (RG.imp p1.bind fe1 fun _ _ q => q) fun r2 e2 F2 H2 fp2 v2 p2 s2 rep2 fe2 => ?_
  obtain ⟨k, ho, hk⟩ := p2.ofO
  exact hq _ _ k ho F2 H2 v1 v2 Q s2.sf (rep1.mono fe2.same) rep2 (PV.bl hk s2 (fe1.trans fe2))
theorem dt_cmp {a b : Expr} {op : CmpOp} {pos : Pos} {f : D → D → Option Bool} {ma mb : ME} (ho : CmpD X op f) (ha : DE X W ma a) (hb : DE X W mb b) (hm : behindInMarks op b = false := by first | exact nomark _ | rfl | with_unfolding_all rfl) : DT X W (mCmp f ma mb) (.Compare a [op] [b] pos) := by
  obtain ⟨r, hr, hq⟩ := ho
  refine PT.to (pt_cmpR hr ha hb hm) fun σ H Q ⟨G, F, env, fp, s, h⟩ => ?_
  refine tE.of s h.bind fun r1 e1 F1 H1 fp1 v1 p1 s1 rep1 fe1 => ?_
  refine tE.of s1 (RG.imp p1.bind fe1 fun _ _ q => q) fun r2 e2 F2 H2 fp2 v2 p2 s2 rep2 fe2 => ?_
  obtain ⟨k, ho, hk⟩ := p2.ofO
  exact hq _ _ k ho F2 H2 v1 v2 _ s2.sf (rep1.mono fe2.same) rep2 ⟨k, rfl, hk F2 H2 fp2 s2 (fe1.trans fe2)⟩
theorem db_chain {a b c : Expr} {op op' : CmpOp} {pos : Pos} {f g : D → D → Option Bool} {ma mb mc : ME} (ho : CmpD X op f) (ho' : CmpD X op' g) (ha : DE X W ma a) (hb : DE X W mb b) (hc : DE X W mc c) (hm : lastMarks [op, op'] [b, c] = false := by with_unfolding_all rfl) :
    DB X W (mChain f g ma mb mc) (.Compare a [op, op'] [b, c] pos) := by
  obtain ⟨r, hr, hq⟩ := ho
  obtain ⟨r', hr', hq'⟩ := ho'
  refine PE.to (pe_chain hr hr' ha hb hc hm) fun σ H Q ⟨G, F, env, fp, s, h⟩ => ?_
  refine tE.of s h.bind.bind fun r1 e1 F1 H1 fp1 v1 p1 s1 rep1 fe1 => ?_
  refine tE.of s1 (RG.imp p1.bind fe1 fun _ _ q => q) fun r2 e2 F2 H2 fp2 v2 p2 s2 rep2 fe2 => ?_
  obtain ⟨k, ho, hk⟩ := p2.bind.ofO
  refine hq _ _ k ho F2 H2 v1 v2 _ s2.sf (rep1.mono fe2.same) rep2 ⟨k, rfl, ?_⟩
  cases k with
  | false => exact PV.bl hk s2 (fe1.trans fe2)
  | true =>
    refine tE.of s2 (RG.imp (RG.bind hk) (fe1.trans fe2) fun _ _ q => q) fun r3 e3 F3 H3 fp3 v3 p3 s3 rep3 fe3 => ?_
    obtain ⟨k, ho, hk⟩ := p3.ofO
    exact hq' _ _ k ho F3 H3 v2 v3 _ s3.sf (rep2.mono fe3.same) rep3 (PV.bl hk s3 ((fe1.trans fe2).trans fe3))
theorem dt_chain {a b c : Expr} {op op' : CmpOp} {pos : Pos} {f g : D → D → Option Bool} {ma mb mc : ME} (ho : CmpD X op f) (ho' : CmpD X op' g) (ha : DE X W ma a) (hb : DE X W mb b) (hc : DE X W mc c) (hm : lastMarks [op, op'] [b, c] = false := by with_unfolding_all rfl) :
    DT X W (mChain f g ma mb mc) (.Compare a [op, op'] [b, c] pos) := by
  obtain ⟨r, hr, hq⟩ := ho
  obtain ⟨r', hr', hq'⟩ := ho'
  refine PT.to (pt_chain hr hr' ha hb hc hm) fun σ H Q ⟨G, F, env, fp, s, h⟩ => ?_
  refine tE.of s h.bind fun r1 e1 F1 H1 fp1 v1 p1 s1 rep1 fe1 => ?_
  refine tE.of s1 (RG.imp p1.bind fe1 fun _ _ q => q) fun r2 e2 F2 H2 fp2 v2 p2 s2 rep2 fe2 => ?_
  obtain ⟨k, ho, hk⟩ := p2.bind.ofO
  refine hq _ _ k ho F2 H2 v1 v2 _ s2.sf (rep1.mono fe2.same) rep2 ⟨k, rfl, ?_⟩
  cases k with
  | false => exact ⟨false, rfl, hk F2 H2 fp2 s2 (fe1.trans fe2)⟩
  | true =>
    refine tE.of s2 (RG.imp (RG.bind hk) (fe1.trans fe2) fun _ _ q => q) fun r3 e3 F3 H3 fp3 v3 p3 s3 rep3 fe3 => ?_
    obtain ⟨k, ho, hk⟩ := p3.ofO
    exact hq' _ _ k ho F3 H3 v2 v3 _ s3.sf (rep2.mono fe3.same) rep3 ⟨k, rfl, hk F3 H3 fp3 s3 ((fe1.trans fe2).trans fe3)⟩

/-! ### and, or, not -/
def mAnd (ma mb : MT) : MT := fun env => (ma env).bind fun a e => if a = true then mb e else .ok false e
def mOr (ma mb : MT) : MT := fun env => (ma env).bind fun a e => if a = true then .ok true e else mb e
def mNot (ma : MT) : MT := fun env => (ma env).bind fun a e => .ok (!a) e
def mIsB (m : ME) : MT := fun env => (m env).bind fun r e => match r.2 with
  | .bl b => .ok b e
  | _ => .stuck
def DBs (X : Cx) (W : WX) (m : MT) (op : BoolOp) (es : List Expr) : Prop := ∀ pos, DB X W m (.BoolOp op es pos)
theorem db_of {e : Expr} {m : ME} (h : DE X W m e) : DB X W (mIsB m) e := by
  refine PE.to h fun σ H Q ⟨G, F, env, fp, s, h⟩ => ⟨G, F, env, fp, s, RG.imp h.bind.bind .refl fun r e q v F' H' fp' S sv fe => ?_⟩
  obtain ⟨n, d⟩ := r
  cases d <;> first | exact q.elim | skip
  rename_i b
  obtain ⟨s1, r1, f1⟩ := sv.share
  cases Rep.bl_inv r1
  exact q _ _ H' fp' _ (SV.of_rep s1 (.bl b)) (fe.trans f1)
theorem de_db {e : Expr} {m : MT} (h : DB X W m e) : DE X W (mBool m) e := h
theorem dbs_one {op : BoolOp} {a : Expr} {m : MT} (h : DB X W m a) : DBs X W m op [a] := fun _ => pe_one h
/-- a bool first -/
theorem tE.ofB {K : PySem.W.Frag} {mg : Str → Option Value} {G F H : Hp} {ma : MT} {P : Bool → DEnv → Prop} {σ : L2.St} {env : DEnv} {fp : Fp} {Q' : VK} (s : SS K G F H σ env fp) (h : RG K mg W G F σ P (ma env))
    (hk : ∀ b e F1 H1 fp1, P b e → SS K G F1 H1 σ e fp1 → FrExt G F F1 → Q' (.bl b) H1) : tE K mg W (mBool ma) σ H Q' := by
  refine ⟨G, F, env, fp, s, ?_⟩
  unfold mBool
  cases q : ma env with
  | stuck => rw [q] at h; exact h
  | exc x e => rw [q] at h; exact h
  | ok b e =>
    rw [q] at h
    intro v F' H' fp' S sv fe
    obtain ⟨s1, r1, f1⟩ := sv.share
    cases Rep.bl_inv r1
    exact hk b e _ H' fp' h s1 (fe.trans f1)
theorem dbs_and {a b : Expr} {rest : List Expr} {ma mb : MT} (ha : DB X W ma a) (hb : DBs X W mb .And (b :: rest)) : DBs X W (mAnd ma mb) .And (a :: b :: rest) := fun pos => by
  refine PE.to (pe_and ha (hb pos)) fun σ H Q ⟨G, F, env, fp, s, h⟩ => ?_
  refine tE.ofB s h.bind.bind fun k e1 F1 H1 fp1 p1 s1 fe1 => ⟨k, rfl, ?_⟩
  cases k with
  | false => exact PV.bl p1 s1 fe1
  | true => exact tE.ofB s1 (RG.imp (o := mb e1) p1 fe1 fun _ _ q => q) fun k e2 F2 H2 fp2 p2 s2 fe2 => PV.bl p2 s2 (fe1.trans fe2)
theorem dbs_or {a b : Expr} {rest : List Expr} {ma mb : MT} (ha : DB X W ma a) (hb : DBs X W mb .Or (b :: rest)) : DBs X W (mOr ma mb) .Or (a :: b :: rest) := fun pos => by
  refine PE.to (pe_or ha (hb pos)) fun σ H Q ⟨G, F, env, fp, s, h⟩ => ?_
  refine tE.ofB s h.bind.bind fun k e1 F1 H1 fp1 p1 s1 fe1 => ⟨k, rfl, ?_⟩
  cases k with
  | true => exact PV.bl p1 s1 fe1
  | false => exact tE.ofB s1 (RG.imp (o := mb e1) p1 fe1 fun _ _ q => q) fun k e2 F2 H2 fp2 p2 s2 fe2 => PV.bl p2 s2 (fe1.trans fe2)
theorem db_bop {op : BoolOp} {es : List Expr} {m : MT} {pos : Pos} (h : DBs X W m op es) : DB X W m (.BoolOp op es pos) := h pos

/-! ### tests -/
def truthD : D → Option Bool
  | .non => some false
  | .bl b => some b
  | .int i => some (i != 0)
  | .str x => if x.length ≤ sizeLine then some ((x.length : Int) != 0) else none
  | .lst ds => some (!ds.isEmpty)
  | .scr ds => some (!ds.isEmpty)
  | .tup ds => some (!ds.isEmpty)
  | .dK kvs => some (!kvs.isEmpty)
  | .dT _ => none
  | .ty _ => none
def mTru (m : ME) : MT := fun env => (m env).bind fun r e => oB (truthD r.2) e
theorem isEmpty_len {α β : Type} {xs : List α} {ys : List β} (h : xs.length = ys.length) : xs.isEmpty = ys.isEmpty := by
  cases xs <;> cases ys <;> simp_all
theorem truthD_ok {K : PySem.W.Frag} {F H : Hp} {d : D} {v : V} {k : Bool} (sf : Same F H) (r : Rep K F d v) (h : truthD d = some k) : TruV K v H k := by
  cases r with
  | non => exact (Option.some.inj h).symm
  | bl b => exact (Option.some.inj h).symm
  | int i => exact (Option.some.inj h).symm
  | str x =>
    simp only [truthD] at h
    split at h
    · rename_i hx; exact ⟨hx, (Option.some.inj h).symm⟩
    · cases h
  | lst hs hr => exact .inl ⟨_, SqL.of (sf _ _ hs), by rw [← isEmpty_len hr.length]; exact (Option.some.inj h).symm⟩
  | scr hs hr => exact .inl ⟨_, sf.seq hs, by rw [← isEmpty_len hr.length]; exact (Option.some.inj h).symm⟩
  | tup hs hr => exact .inr (.inl ⟨_, SqT.of (sf _ _ hs), by rw [← isEmpty_len hr.length]; exact (Option.some.inj h).symm⟩)
  | tupK hs _ hr => exact .inr (.inl ⟨_, SqT.mono sf hs, by rw [← isEmpty_len hr.length]; exact (Option.some.inj h).symm⟩)
  | dK hs hk hr =>
    refine .inr (.inr ⟨_, sf _ _ hs, ?_⟩)
    have e := congrArg List.length hk
    rw [List.length_map, List.length_map] at e
    rw [← isEmpty_len e]
    exact (Option.some.inj h).symm
  | dT _ _ _ => cases h
  | ty _ => cases h
theorem dt_val {e : Expr} {m : ME} (h : DE X W m e) (he : ∀ whole, isTrue e X.env whole = (do let v ← whole; standAt e.pos; holding [v] (truthy v)) := by intro _; rfl) : DT X W (mTru m) e := by
  refine PT.to (pt_truth h he) fun σ H Q ⟨G, F, env, fp, s, h⟩ => ?_
  refine tE.of s h.bind fun r1 e1 F1 H1 fp1 v1 p1 s1 rep1 fe1 => ?_
  obtain ⟨k, ho, hk⟩ := p1.ofO
  exact ⟨k, truthD_ok s1.sf rep1 ho, hk F1 H1 fp1 s1 fe1⟩
theorem dt_not {a : Expr} {m : MT} {pos : Pos} (h : DT X W m a) : DT X W (mNot m) (.UnaryOp .Not a pos) := by
  refine PT.to (pt_not h) fun σ H Q ⟨G, F, env, fp, s, h⟩ => ?_
  exact tT.of s h.bind fun b e F1 H1 fp1 p s1 fe => p F1 H1 fp1 s1 fe
def DWs (X : Cx) (W : WX) (m : MT) (op : BoolOp) (es : List Expr) : Prop := ∀ pos, DW X W m (.BoolOp op es pos)
theorem dws_and1 {a : Expr} {m : MT} (h : DT X W m a) : DWs X W m .And [a] := fun _ => pw_and1 h
theorem dws_or1 {a : Expr} {m : MT} (h : DT X W m a) : DWs X W m .Or [a] := fun _ => pw_or1 h
theorem dws_and {a b : Expr} {rest : List Expr} {ma mb : MT} (ha : DT X W ma a) (hb : DWs X W mb .And (b :: rest)) : DWs X W (mAnd ma mb) .And (a :: b :: rest) := fun pos => by
  refine PW.to (pw_and ha (hb pos)) fun σ H Q ⟨G, F, env, fp, s, h⟩ => ?_
  refine tT.of s h.bind fun k e1 F1 H1 fp1 p1 s1 fe1 => ?_
  cases k with
  | false => exact p1 F1 H1 fp1 s1 fe1
  | true => exact tT.of s1 (RG.imp (o := mb e1) p1 fe1 fun _ _ q => q) fun k e2 F2 H2 fp2 p2 s2 fe2 => p2 F2 H2 fp2 s2 (fe1.trans fe2)
theorem dws_or {a b : Expr} {rest : List Expr} {ma mb : MT} (ha : DT X W ma a) (hb : DWs X W mb .Or (b :: rest)) : DWs X W (mOr ma mb) .Or (a :: b :: rest) := fun pos => by
  refine PW.to (pw_or ha (hb pos)) fun σ H Q ⟨G, F, env, fp, s, h⟩ => ?_
  refine tT.of s h.bind fun k e1 F1 H1 fp1 p1 s1 fe1 => ?_
  cases k with
  | true => exact p1 F1 H1 fp1 s1 fe1
  | false => exact tT.of s1 (RG.imp (o := mb e1) p1 fe1 fun _ _ q => q) fun k e2 F2 H2 fp2 p2 s2 fe2 => p2 F2 H2 fp2 s2 (fe1.trans fe2)
theorem dt_bop {op : BoolOp} {es : List Expr} {m : MT} {pos : Pos} (h : DWs X W m op es) : DT X W m (.BoolOp op es pos) := (h pos).pt
/-- not x as a value -/
theorem db_not {a : Expr} {m : MT} {pos : Pos} (h : DB X W m a) : DB X W (mNot m) (.UnaryOp .Not a pos) := by
  refine PE.to (pe_not h) fun σ H Q ⟨G, F, env, fp, s, h⟩ => ?_
  exact tE.ofB s h.bind.bind fun k e1 F1 H1 fp1 p1 s1 fe1 => ⟨k, rfl, PV.bl p1 s1 fe1⟩
/-- a if c else b -/
def mIfE (c : MT) (ma mb : ME) : ME := fun env => (c env).bind fun k e => if k = true then ma e else mb e
theorem de_ifE {c a b : Expr} {mc : MT} {ma mb : ME} {pos : Pos} (hc : DT X W mc c) (ha : DE X W ma a) (hb : DE X W mb b) : DE X W (mIfE mc ma mb) (.IfExp c a b pos) := by
  refine PE.to (pe_ifExp hc ha hb) fun σ H Q ⟨G, F, env, fp, s, h⟩ => ?_
  refine tT.of s h.bind fun k e1 F1 H1 fp1 p1 s1 fe1 => ?_
  cases k with
  | true => exact ⟨G, F1, e1, fp1, s1, RG.imp (o := ma e1) p1 fe1 fun _ _ q v F' H' fp' S sv fe => q v F' H' fp' S sv (fe1.trans fe)⟩
  | false => exact ⟨G, F1, e1, fp1, s1, RG.imp (o := mb e1) p1 fe1 fun _ _ q v F' H' fp' S sv fe => q v F' H' fp' S sv (fe1.trans fe)⟩

/-! ### items, slices -/
def IxD (X : Cx) (f : D → D → Option (Nat × D)) : Prop :=
  ∃ r : R2, IxR X r ∧ ∀ d1 d2 n d, f d1 d2 = some (n, d) → ∀ (F H : Hp) (x y : V) (Q : VK), Same F H → Rep X.K F d1 x → Rep X.K F d2 y →
    (∀ v F' H' S, NewV X.K F H F' H' n d v S → Q v H') → r x y H Q
theorem de_ix {a b : Expr} {pos : Pos} {f : D → D → Option (Nat × D)} {ma mb : ME} (ho : IxD X f) (ha : DE X W ma a) (hb : DE X W mb b) (hs : PlainIx b := by intro _ _; rfl) : DE X W (mOp2 f ma mb) (.Subscript a b pos) := by
  obtain ⟨r, hr, hq⟩ := ho
  refine PE.to (pe_ix hr ha hb hs) fun σ H Q ⟨G, F, env, fp, s, h⟩ => ?_
  refine tE.of s h.bind fun r1 e1 F1 H1 fp1 v1 p1 s1 rep1 fe1 => ?_
  refine tE.of s1 (RG.imp p1.bind fe1 fun _ _ q => q) fun r2 e2 F2 H2 fp2 v2 p2 s2 rep2 fe2 => ?_
  obtain ⟨n, d, ho, hk⟩ := RG.end s2 (fe1.trans fe2) p2
  exact hq _ _ n d ho F2 H2 v1 v2 Q s2.sf (rep1.mono fe2.same) rep2 hk

def SlD (X : Cx) (f : D → Option Int → Option Int → Option (Nat × D)) : Prop :=
  ∃ r : V → Option Int → Option Int → Hp → VK → Prop, SlR X r ∧ ∀ d1 lo hi n d, f d1 lo hi = some (n, d) → ∀ (F H : Hp) (x : V) (Q : VK), Same F H → Rep X.K F d1 x →
    (∀ v F' H' S, NewV X.K F H F' H' n d v S → Q v H') → r x lo hi H Q
abbrev MO := DEnv → Out (Option Int)
abbrev PO' (K : PySem.W.Frag) (G F : Hp) (σ : L2.St) (Q : Option Int → Hp → Prop) : Option Int → DEnv → Prop := fun b e => ∀ F' H' fp', SS K G F' H' σ e fp' → FrExt G F F' → Q b H'
def tO (K : PySem.W.Frag) (mg : Str → Option Value) (W : WX) (m : MO) : TO := fun σ H Q => ∃ G F env fp, SS K G F H σ env fp ∧ RG K mg W G F σ (PO' K G F σ Q) (m env)
def DO (X : Cx) (W : WX) (m : MO) (e : Option Expr) : Prop := PO X e (tO X.K X.mg W m)
theorem tO.of {K : PySem.W.Frag} {mg : Str → Option Value} {W : WX} {G F H : Hp} {ma : MO} {P : Option Int → DEnv → Prop} {σ : L2.St} {env : DEnv} {fp : Fp} {Q' : Option Int → Hp → Prop} (s : SS K G F H σ env fp) (h : RG K mg W G F σ P (ma env))
    (hk : ∀ b e F1 H1 fp1, P b e → SS K G F1 H1 σ e fp1 → FrExt G F F1 → Q' b H1) : tO K mg W ma σ H Q' :=
  ⟨G, F, env, fp, s, h.imp .refl fun b e p F' H' fp' s' fe => hk b e F' H' fp' p s' fe⟩
theorem PO.to {X : Cx} {e : Option Expr} {t t' : TO} (h : PO X e t) (i : ∀ σ H Q, t' σ H Q → t σ H Q) : PO X e t' := by
  constructor
  intros
  apply h.run <;> first | assumption | (apply i; assumption)
def mONone : MO := fun env => .ok none env
def mOSome (m : ME) : MO := fun env => (m env).bind fun r e => match r.2 with
  | .int i => .ok (some i) e
  | _ => .stuck
theorem do_none : DO X W mONone none := PO.to po_none fun σ H Q ⟨G, F, env, fp, s, h⟩ => h F H fp s .refl
theorem do_some {e : Expr} {m : ME} (h : DE X W m e) : DO X W (mOSome m) (some e) := by
  refine PO.to (po_some h) fun σ H Q ⟨G, F, env, fp, s, h⟩ => ?_
  refine tE.of s h.bind fun r1 e1 F1 H1 fp1 v1 p1 s1 rep1 fe1 => ?_
  obtain ⟨n, d⟩ := r1
  cases d <;> first | exact p1.elim | skip
  rename_i i
  exact ⟨i, Rep.int_inv rep1, p1 F1 H1 fp1 s1 fe1⟩
def mSlice (f : D → Option Int → Option Int → Option (Nat × D)) (ma : ME) (ml mh : MO) : ME := fun env => (ma env).bind fun a e1 => (ml e1).bind fun lo e2 => (mh e2).bind fun hi e3 => oB (f a.2 lo hi) e3
theorem RG.end2 {K : PySem.W.Frag} {mg : Str → Option Value} {G F F1 H1 : Hp} {σ : L2.St} {e : DEnv} {fp1 : Fp} {Q : VK} {o : Option (Nat × D)} (s : SS K G F1 H1 σ e fp1) (fe : FrExt G F F1)
    (h : RG K mg W G F σ (PV K G F σ Q) (oB o e)) : ∃ n d, o = some (n, d) ∧ ∀ v F' H' S, NewV K F1 H1 F' H' n d v S → Q v H' := by
  obtain ⟨r, e, p⟩ := h.ofO
  refine ⟨r.1, r.2, e, fun v F' H' S w => ?_⟩
  obtain ⟨sv, f2⟩ := s.new w
  exact p v F' H' fp1 S sv (fe.trans f2)
theorem de_slice {a : Expr} {lo hi : Option Expr} {p2 pos : Pos} {f : D → Option Int → Option Int → Option (Nat × D)} {ma : ME} {ml mh : MO} (ho : SlD X f) (ha : DE X W ma a) (hl : DO X W ml lo) (hh : DO X W mh hi) :
    DE X W (mSlice f ma ml mh) (.Subscript a (.Slice lo hi none p2) pos) := by
  obtain ⟨r, hr, hq⟩ := ho
  refine PE.to (pe_slice hr ha hl hh) fun σ H Q ⟨G, F, env, fp, s, h⟩ => ?_
  refine tE.of s h.bind fun r1 e1 F1 H1 fp1 v1 p1 s1 rep1 fe1 => ?_
  refine tO.of s1 (RG.imp p1.bind fe1 fun _ _ q => q) fun lo e2 F2 H2 fp2 p2 s2 fe2 => ?_
  refine tO.of s2 (RG.imp p2.bind (fe1.trans fe2) fun _ _ q => q) fun hi e3 F3 H3 fp3 p3 s3 fe3 => ?_
  obtain ⟨n, d, ho, hk⟩ := RG.end2 s3 ((fe1.trans fe2).trans fe3) p3
  exact hq _ _ _ n d ho F3 H3 v1 Q s3.sf (rep1.mono (fe2.same.trans fe3.same)) hk

/-! ### arguments, displays -/
def mNil : MA := fun env => .ok [] env
def mCons (m : ME) (ms : MA) : MA := fun env => (m env).bind fun a e1 => (ms e1).bind fun ds e2 => .ok (a.2 :: ds) e2
theorem da_nil : DA X W mNil [] := PA.to pa_nil fun σ H Q ⟨G, F, env, fp, s, h⟩ => h [] F H fp s .nil .refl
theorem da_cons {e : Expr} {es : List Expr} {m : ME} {ms : MA} (h : DE X W m e) (hs : DA X W ms es) (hst : starEach (e :: es) X.env = (false, eval e X.env) :: starEach es X.env := by rfl) : DA X W (mCons m ms) (e :: es) := by
  refine PA.to (pa_cons h hs hst) fun σ H Q ⟨G, F, env, fp, s, h⟩ => ?_
  refine tE.of s h.bind fun r1 e1 F1 H1 fp1 v1 p1 s1 rep1 fe1 => ?_
  refine tA.of s1 (RG.imp p1.bind fe1 fun _ _ q => q) fun ds e2 F2 H2 fp2 vs p2 s2 rep2 fe2 => ?_
  exact p2 _ F2 H2 fp2 s2 (.cons (rep1.mono fe2.same) rep2) (fe1.trans fe2)
def mTup (ms : MA) : ME := fun env => (ms env).bind fun ds e => if ds.length ≤ 1000 then .ok (0, .tup ds) e else .stuck
def mLst (ms : MA) : ME := fun env => (ms env).bind fun ds e => if ds.length ≤ 1000 then .ok (1, .lst ds) e else .stuck
theorem le_line {n : Nat} (h : n ≤ 1000) : n ≤ sizeLine := by rw [sizeLine_eq]; omega
theorem de_tup {es : List Expr} {ms : MA} {x1} {pos : Pos} (h : DA X W ms es) : DE X W (mTup ms) (.Tuple es x1 pos) := by
  refine PE.to (pe_tup h) fun σ H Q ⟨G, F, env, fp, s, h⟩ => ?_
  refine tA.of s h.bind fun ds e1 F1 H1 fp1 vs p1 s1 rep1 fe1 => ?_
  by_cases hl : ds.length ≤ 1000
  · simp only [hl, if_true] at p1
    refine ⟨by rw [← rep1.length]; exact le_line hl, fun p hp => ?_⟩
    obtain ⟨sv, f2⟩ := s1.new (NewV.tup s1.sf hp rep1)
    exact p1 _ _ _ fp1 _ sv (fe1.trans f2)
  · simp only [hl, if_false] at p1; exact p1.elim
theorem de_lst {es : List Expr} {ms : MA} {pos : Pos} (h : DA X W ms es) : DE X W (mLst ms) (.List es pos) := by
  refine PE.to (pe_lst h) fun σ H Q ⟨G, F, env, fp, s, h⟩ => ?_
  refine tA.of s h.bind fun ds e1 F1 H1 fp1 vs p1 s1 rep1 fe1 => ?_
  by_cases hl : ds.length ≤ 1000
  · simp only [hl, if_true] at p1
    refine ⟨by rw [← rep1.length]; exact le_line hl, fun p hp => ?_⟩
    obtain ⟨sv, f2⟩ := s1.new (NewV.lst s1.sf hp rep1)
    exact p1 _ _ _ fp1 _ sv (fe1.trans f2)
  · simp only [hl, if_false] at p1; exact p1.elim

/-! ### calls of what is built in -/
def CallD (X : Cx) (f : Value) (g : List D → Option (Nat × D)) : Prop :=
  ∃ r : List V → Hp → VK → Prop, CallR X f r ∧ ∀ ds n d, g ds = some (n, d) → ∀ (F H : Hp) (xs : List V) (Q : VK), Same F H → Reps X.K F ds xs →
    (∀ v F' H' S, NewV X.K F H F' H' n d v S → Q v H') → r xs H Q
def mCallB (g : List D → Option (Nat × D)) (ms : MA) : ME := fun env => (ms env).bind fun ds e => oB (g ds) e
theorem de_callB {x : Str} {id : String} {p pos : Pos} {e : Expr} {es : List Expr} {g : List D → Option (Nat × D)} {ms : MA} (hc : CallD X (.builtin id) g) (hg : Gl X x) (hm : X.mg x = none) (hv : bootBuiltins x = some (.builtin id)) (ha : DA X W ms (e :: es)) (hn : x ≠ "__name__" := by decide) (hdb : (x == ("__debug__" : Str)) = false := by decide) (he : starEach (e :: es) X.env = (false, eval e X.env) :: starEach es X.env := by rfl) (hpl : (backTo pos (starEach es X.env)).any (·.1) = false := by rfl) :
    DE X W (mCallB g ms) (.Call (.Name x p) (e :: es) [] pos) := by
  obtain ⟨r, hr, hq⟩ := hc
  refine PE.to (pe_callB hr hg hm hv ha hn hdb he hpl) fun σ H Q ⟨G, F, env, fp, s, h⟩ => ?_
  refine tA.of s h.bind fun ds e1 F1 H1 fp1 vs p1 s1 rep1 fe1 => ?_
  obtain ⟨n, d, ho, hk⟩ := RG.end2 s1 fe1 p1
  exact hq _ n d ho F1 H1 vs Q s1.sf rep1 hk
theorem de_callTy {x : Str} {T : String} {p pos : Pos} {e : Expr} {es : List Expr} {g : List D → Option (Nat × D)} {ms : MA} (hc : CallD X (.type T) g) (hg : Gl X x) (hm : X.mg x = none) (hv : bootBuiltins x = some (.type T)) (ha : DA X W ms (e :: es)) (hn : x ≠ "__name__" := by decide) (hdb : (x == ("__debug__" : Str)) = false := by decide) (he : starEach (e :: es) X.env = (false, eval e X.env) :: starEach es X.env := by rfl) (hpl : (backTo pos (starEach es X.env)).any (·.1) = false := by rfl) :
    DE X W (mCallB g ms) (.Call (.Name x p) (e :: es) [] pos) := by
  obtain ⟨r, hr, hq⟩ := hc
  refine PE.to (pe_callTy hr hg hm hv ha hn hdb he hpl) fun σ H Q ⟨G, F, env, fp, s, h⟩ => ?_
  refine tA.of s h.bind fun ds e1 F1 H1 fp1 vs p1 s1 rep1 fe1 => ?_
  obtain ⟨n, d, ho, hk⟩ := RG.end2 s1 fe1 p1
  exact hq _ n d ho F1 H1 vs Q s1.sf rep1 hk
/-- a method of a built-in type that changes nothing -/
def MtD (X : Cx) (T id : String) (g : D → List D → Option (Nat × D)) : Prop :=
  ∃ r : V → List V → Hp → VK → Prop, MtR X id r ∧ (∀ (F H : Hp) d x, Same F H → Rep X.K F d x → (∃ ds n e, g d ds = some (n, e)) → tyV X.K T x H) ∧
    ∀ d0 ds n d, g d0 ds = some (n, d) → ∀ (F H : Hp) (x : V) (xs : List V) (Q : VK), Same F H → Rep X.K F d0 x → Reps X.K F ds xs →
    (∀ v F' H' S, NewV X.K F H F' H' n d v S → Q v H') → r x xs H Q
def mMeth (ok : D → Bool) (g : D → List D → Option (Nat × D)) (mo : ME) (ms : MA) : ME := fun env => (mo env).bind fun o e1 => if ok o.2 = true then (ms e1).bind fun ds e => oB (g o.2 ds) e else .stuck
def isTy (T : String) : D → Bool
  | .str _ => T == "str"
  | .lst _ => T == "list"
  | .dK _ => T == "dict"
  | .dT _ => T == "dict"
  | _ => false
theorem isTy_ok {K : PySem.W.Frag} {F H : Hp} {T : String} {d : D} {x : V} (sf : Same F H) (r : Rep K F d x) (h : isTy T d = true) : tyV K T x H := by
  cases r with
  | str x => exact (show T = "str" by simpa [isTy] using h)
  | lst hs _ => exact .inl ⟨by simpa [isTy] using h, _, SqL.of (sf _ _ hs)⟩
  | dK hs _ _ => exact .inr (.inr (.inl ⟨by simpa [isTy] using h, .inl ⟨_, sf _ _ hs⟩⟩))
  | dT hs _ _ => exact .inr (.inr (.inl ⟨by simpa [isTy] using h, .inr ⟨_, sf _ _ hs⟩⟩))
  | _ => cases h
def MtD' (X : Cx) (id : String) (g : D → List D → Option (Nat × D)) : Prop :=
  ∃ r : V → List V → Hp → VK → Prop, MtR X id r ∧
    ∀ d0 ds n d, g d0 ds = some (n, d) → ∀ (F H : Hp) (x : V) (xs : List V) (Q : VK), Same F H → Rep X.K F d0 x → Reps X.K F ds xs →
    (∀ v F' H' S, NewV X.K F H F' H' n d v S → Q v H') → r x xs H Q
theorem de_meth {o e : Expr} {es : List Expr} {name : Str} {apos cpos : Pos} {T id : String} {g : D → List D → Option (Nat × D)} {mo : ME} {ms : MA} (pa : PlainAttrs T) (slot : Slot T name id) (hty : typeOf (.builtin id) = pure (.type "method_descriptor")) (hm : MtD' X id g) (ho : DE X W mo o) (ha : DA X W ms (e :: es))
    (hbase : attributeBase o name X.env (eval o X.env) = eval o X.env := by rfl)
    (hfew : ((backTo cpos (starEach (e :: es) X.env)).all (fun x => !x.1) && (backToKw cpos (keywordEach [] X.env)).all (fun x => x.1.isSome)
      && decide ((e :: es).length + ([] : List Keyword).length + (if ([] : List Keyword).isEmpty then 0 else 1) < 30)) = true := by rfl)
    (hline : (apos.endLine == cpos.line) = true := by rfl) (hs : starEach (e :: es) X.env = (false, eval e X.env) :: starEach es X.env := by rfl) (hplain : (backTo cpos (starEach es X.env)).any (·.1) = false := by rfl) :
    DE X W (mMeth (isTy T) g mo ms) (.Call (.Attribute o name apos) (e :: es) [] cpos) := by
  obtain ⟨r, hr, hq⟩ := hm
  refine PE.to (pe_bm pa slot hty hr ho ha hbase hfew hline hs hplain) fun σ H Q ⟨G, F, env, fp, s, h⟩ => ?_
  refine tE.of s h.bind fun r1 e1 F1 H1 fp1 v1 p1 s1 rep1 fe1 => ?_
  by_cases hT : isTy T r1.2 = true
  · simp only [hT, if_true] at p1
    refine ⟨isTy_ok s1.sf rep1 hT, ?_⟩
    refine tA.of s1 (RG.imp p1.bind fe1 fun _ _ q => q) fun ds e2 F2 H2 fp2 vs p2 s2 rep2 fe2 => ?_
    obtain ⟨n, d, ho, hk⟩ := RG.end2 s2 (fe1.trans fe2) p2
    exact hq _ _ n d ho F2 H2 v1 vs Q s2.sf (rep1.mono fe2.same) rep2 hk
  · simp only [hT, if_false] at p1; exact p1.elim
theorem de_meth0 {o : Expr} {name : Str} {apos cpos : Pos} {T id : String} {g : D → List D → Option (Nat × D)} {mo : ME} (pa : PlainAttrs T) (slot : Slot T name id) (hty : typeOf (.builtin id) = pure (.type "method_descriptor")) (hm : MtD' X id g) (ho : DE X W mo o)
    (hbase : attributeBase o name X.env (eval o X.env) = eval o X.env := by rfl) (hline : (apos.endLine == cpos.line) = true := by rfl) :
    DE X W (mMeth (isTy T) g mo mNil) (.Call (.Attribute o name apos) [] [] cpos) := by
  obtain ⟨r, hr, hq⟩ := hm
  refine PE.to (pe_bm0 pa slot hty hr ho hbase hline) fun σ H Q ⟨G, F, env, fp, s, h⟩ => ?_
  refine tE.of s h.bind fun r1 e1 F1 H1 fp1 v1 p1 s1 rep1 fe1 => ?_
  by_cases hT : isTy T r1.2 = true
  · simp only [hT, if_true] at p1
    refine ⟨isTy_ok s1.sf rep1 hT, ?_⟩
    obtain ⟨n, d, ho, hk⟩ := RG.end2 s1 fe1 (RG.bind (o := mNil e1) p1)
    exact hq _ _ n d ho F1 H1 v1 [] Q s1.sf rep1 .nil hk
  · simp only [hT, if_false] at p1; exact p1.elim
end
end DL

set_option autoImplicit false
set_option Elab.async false
set_option linter.all false
set_option maxRecDepth 100000
/-! DL: statements. -/
namespace DL
open PySem PySem.Spec PyProof.Rows L2

theorem Agree.refl (A : List Nat) (σ : L2.St) : Agree A σ σ := ⟨rfl, fun _ _ => rfl⟩
theorem Agree.trans {A A1 A2 : List Nat} {σ σ1 σ2 : L2.St} (a : Agree A1 σ σ1) (b : Agree A2 σ1 σ2) (h1 : ∀ i ∈ A1, i ∈ A) (h2 : ∀ i ∈ A2, i ∈ A) : Agree A σ σ2 :=
  ⟨b.1.trans a.1, fun i hi => (b.2 i fun z => hi (h2 i z)).trans (a.2 i fun z => hi (h1 i z))⟩
theorem Agree.mono {A A1 : List Nat} {σ σ1 : L2.St} (a : Agree A1 σ σ1) (h1 : ∀ i ∈ A1, i ∈ A) : Agree A σ σ1 := ⟨a.1, fun i hi => a.2 i fun z => hi (h1 i z)⟩
theorem Agree.set (σ : L2.St) (i : Nat) (v : Option V) : Agree [i] σ (σ.set i v) := ⟨List.length_set .., fun j hj => List.getElem?_set_ne (fun e => hj (by rw [e]; exact List.mem_cons_self))⟩

section
variable {K : PySem.W.Frag} {mg : Str → Option Value} {W : WX} {G F F1 H H' : Hp} {σ σ1 : L2.St} {env env' : DEnv} {fp fp' : Fp} {n : Nat} {d : D} {v : V} {S : Addr → Prop} {A A1 A0 : List Nat} {De De' : L2.Ends} {o : OutS}
theorem RGS.imp (h : RGS K mg W G F A σ De o) (f : FrExt G F F1) (ha : ∀ σ', Agree A1 σ1 σ' → Agree A σ σ') (hn : ∀ e, o = .nx e → ∀ σ' H', De.nx σ' H' → De'.nx σ' H') (hb : ∀ e, o = .brk e → ∀ σ' H', De.bk σ' H' → De'.bk σ' H')
    (hc : ∀ e, o = .cont e → ∀ σ' H', De.ct σ' H' → De'.ct σ' H') (hr : ∀ v' H', De.rt v' H' → De'.rt v' H') : RGS K mg W G F1 A1 σ1 De' o := by
  cases o with
  | nx e => exact fun σ' F' H' fp' a s fe => hn e rfl _ _ (h σ' F' H' fp' (ha _ a) s (f.trans fe))
  | brk e => exact fun σ' F' H' fp' a s fe => hb e rfl _ _ (h σ' F' H' fp' (ha _ a) s (f.trans fe))
  | cont e => exact fun σ' F' H' fp' a s fe => hc e rfl _ _ (h σ' F' H' fp' (ha _ a) s (f.trans fe))
  | ret n d e => exact fun v σ' F' H' fp' S a s fe => hr _ _ (h v σ' F' H' fp' S (ha _ a) s (f.trans fe))
  | exc x e => exact fun c dd σ' F' H' fp' a s fe r => h c dd σ' F' H' fp' (ha _ a) s (f.trans fe) r
  | stuck => exact h
theorem RGS.same (h : RGS K mg W G F A σ De o) (f : FrExt G F F1) (ha : ∀ σ', Agree A1 σ1 σ' → Agree A σ σ') : RGS K mg W G F1 A1 σ1 De o :=
  h.imp f ha (fun _ _ _ _ q => q) (fun _ _ _ _ q => q) (fun _ _ _ _ q => q) fun _ _ q => q
theorem RGS.ofO {α : Type} {o : Out α} {k : α → DEnv → OutS} (h : RGS K mg W G F A σ De (o.bindS k)) : RG K mg W G F σ (fun a e => RGS K mg W G F A σ De (k a e)) o := by
  cases o with
  | ok a e => exact h
  | exc x e => exact fun c dd F' H' fp' s f r => h c dd σ F' H' fp' (Agree.refl _ _) s f r
  | stuck => exact h
/-- a name takes a value -/
theorem SV.put (s : SV K G F H σ env fp n d v S) (i : Nat) : SS K G F H (σ.set i (some v)) (env.set i (some (n, d))) (fun j a => if j = i then S a else fp j a) where
  len := by rw [List.length_set, List.length_set]; exact s.ss.len
  slot := fun j m e q => by
    by_cases h : i = j
    · subst h
      by_cases hl : i < env.length
      · rw [List.getElem?_set_self hl] at q
        cases q
        refine ⟨v, by rw [List.getElem?_set_self (by rw [← s.ss.len]; exact hl)], ?_⟩
        simpa using s.val
      · rw [List.getElem?_eq_none (by simpa using hl)] at q; cases q
    · rw [List.getElem?_set_ne h] at q
      obtain ⟨u, h1, h2⟩ := s.ss.slot j m e q
      refine ⟨u, by rw [List.getElem?_set_ne h]; exact h1, h2.wid fun a z => ?_⟩
      simp only [if_neg (Ne.symm h)]; exact z
  dis := fun j k a h p q => by
    by_cases hj : j = i
    · by_cases hk : k = i
      · exact h (hj.trans hk.symm)
      · simp only [hj, hk, if_true, if_false] at p q
        exact s.vdis k a p q
    · by_cases hk : k = i
      · simp only [hj, hk, if_true, if_false] at p q
        exact s.vdis j a q p
      · simp only [hj, hk, if_false] at p q
        exact s.ss.dis j k a h p q
  ld := fun j a q => by
    by_cases hj : j = i
    · simp only [hj, if_true] at q; exact s.vld a q
    · simp only [hj, if_false] at q; exact s.ss.ld j a q
  nf := fun j a q => by
    by_cases hj : j = i
    · simp only [hj, if_true] at q; exact s.vnf a q
    · simp only [hj, if_false] at q; exact s.ss.nf j a q
  ng := fun j a q => by
    by_cases hj : j = i
    · simp only [hj, if_true] at q; exact s.vng a q
    · simp only [hj, if_false] at q; exact s.ss.ng j a q
  sf := s.ss.sf
  sg := s.ss.sg
end

/-! ### blocks, ifs, returns, assignments -/
def mSkip : MS := fun env => .nx env
def mSeq (m1 m2 : MS) : MS := fun env => match m1 env with
  | .nx e => m2 e
  | o => o
def mSet (i : Nat) (m : ME) : MS := fun env => (m env).bindS fun r e => .nx (e.set i (some r))
/-- .. shared at once -/
def mSetF (i : Nat) (m : ME) : MS := fun env => (m env).bindS fun r e => .nx (e.set i (some (0, r.2)))
def mDrop (m : ME) : MS := fun env => (m env).bindS fun _ e => .nx e
def mRet (m : ME) : MS := fun env => (m env).bindS fun r e => .ret r.1 r.2 e
def mRetN : MS := fun env => .ret 0 .non env
def mIf (c : MT) (m1 m2 : MS) : MS := fun env => (c env).bindS fun b e => if b = true then m1 e else m2 e
section
variable {X : Cx} {W : WX} {A A1 A2 : List Nat}
theorem dss_nil : DSs X W [] mSkip [] := PSs.to pss_nil fun De σ H ⟨G, F, env, fp, s, h⟩ => h σ F H fp (Agree.refl _ _) s .refl
theorem tS.of {K : PySem.W.Frag} {mg : Str → Option Value} {G F F1 H : Hp} {σ σ1 : L2.St} {env : DEnv} {fp : Fp} {De De' : L2.Ends} {m : MS} (s : SS K G F1 H σ1 env fp) (h : RGS K mg W G F A σ De (m env)) (f : FrExt G F F1) (ha : ∀ σ', Agree A1 σ1 σ' → Agree A σ σ')
    (hn : ∀ e, m env = .nx e → ∀ σ' H', De.nx σ' H' → De'.nx σ' H') (hb : ∀ e, m env = .brk e → ∀ σ' H', De.bk σ' H' → De'.bk σ' H')
    (hc : ∀ e, m env = .cont e → ∀ σ' H', De.ct σ' H' → De'.ct σ' H') (hr : ∀ v' H', De.rt v' H' → De'.rt v' H') : tS K mg W A1 m De' σ1 H := ⟨G, F1, env, fp, s, h.imp f ha hn hb hc hr⟩
theorem dss_cons {st : Stmt} {sts : List Stmt} {m1 m2 : MS} (h1 : DS X W A1 m1 st) (h2 : DSs X W A2 m2 sts) : DSs X W (A1 ++ A2) (mSeq m1 m2) (st :: sts) := by
  refine PSs.to (pss_cons h1 h2) fun De σ H ⟨G, F, env, fp, s, h⟩ => ⟨G, F, env, fp, s, ?_⟩
  unfold mSeq at h
  have l1 : ∀ i ∈ A1, i ∈ A1 ++ A2 := fun i hi => List.mem_append_left _ hi
  have l2 : ∀ i ∈ A2, i ∈ A1 ++ A2 := fun i hi => List.mem_append_right _ hi
  cases e : m1 env with
  | nx e1 =>
    rw [e] at h
    exact fun σ' F' H' fp' a s' fe => ⟨G, F', e1, fp', s', h.same fe fun σ2 b => a.trans b l1 l2⟩
  | brk e1 => rw [e] at h; exact RGS.imp (De' := { De with nx := _ }) h .refl (fun σ' a => a.mono l1) (fun _ q => nomatch q) (fun _ _ _ _ q => q) (fun _ q => nomatch q) fun _ _ q => q
  | cont e1 => rw [e] at h; exact RGS.imp (De' := { De with nx := _ }) h .refl (fun σ' a => a.mono l1) (fun _ q => nomatch q) (fun _ q => nomatch q) (fun _ _ _ _ q => q) fun _ _ q => q
  | ret n d e1 => rw [e] at h; exact RGS.imp (De' := { De with nx := _ }) h .refl (fun σ' a => a.mono l1) (fun _ q => nomatch q) (fun _ q => nomatch q) (fun _ q => nomatch q) fun _ _ q => q
  | exc x e1 => rw [e] at h; exact RGS.imp (De' := { De with nx := _ }) h .refl (fun σ' a => a.mono l1) (fun _ q => nomatch q) (fun _ q => nomatch q) (fun _ q => nomatch q) fun _ _ q => q
  | stuck => rw [e] at h; exact h.elim
theorem dss_one {st : Stmt} {m : MS} (h : DS X W A m st) : DSs X W A m [st] := PSs.to (pss_one h) fun De σ H q => q
theorem ds_set {i : Nat} {x : Str} {e : Expr} {m : ME} {pos pos' : Pos} (hN : X.N.Nodup) (hi : X.N[i]? = some x) (hx : Loc X.env.scope x) (he : DE X W m e) (hs : swapsWith e (some (.Name x pos')) pos.line X.env = pure false := by rfl) (hf : X.fn x = true ∨ X.env.scope.names.lookup x = some .local := by first | exact .inl rfl | exact .inr rfl | assumption) :
    DS X W [i] (mSet i m) (.Assign [.Name x pos'] e pos) := by
  refine PS.to (ps_set hN hi hx he hs hf) fun De σ H ⟨G, F, env, fp, s, h⟩ => ?_
  refine ⟨G, F, env, fp, s, h.ofO.imp .refl fun r e p v F' H' fp' S sv fe => ?_⟩
  exact p _ F' H' _ (Agree.set σ i _) (sv.put i) fe
theorem ds_setF {i : Nat} {x : Str} {e : Expr} {m : ME} {pos pos' : Pos} (hN : X.N.Nodup) (hi : X.N[i]? = some x) (hx : Loc X.env.scope x) (he : DE X W m e) (hs : swapsWith e (some (.Name x pos')) pos.line X.env = pure false := by rfl) (hf : X.fn x = true ∨ X.env.scope.names.lookup x = some .local := by first | exact .inl rfl | exact .inr rfl | assumption) :
    DS X W [i] (mSetF i m) (.Assign [.Name x pos'] e pos) := by
  refine PS.to (ps_set hN hi hx he hs hf) fun De σ H ⟨G, F, env, fp, s, h⟩ => ?_
  refine ⟨G, F, env, fp, s, h.ofO.imp .refl fun r e p v F' H' fp' S sv fe => ?_⟩
  obtain ⟨s1, r1, f1⟩ := sv.share
  exact p _ _ H' _ (Agree.set σ i _) ((SV.of_rep s1 r1).put i) (fe.trans f1)
theorem ds_drop {e : Expr} {m : ME} {pos : Pos} (he : DE X W m e) (hs : swapsWith e none pos.line X.env = pure false := by rfl) : DS X W [] (mDrop m) (.Expr e pos) := by
  refine PS.to (ps_expr he hs) fun De σ H ⟨G, F, env, fp, s, h⟩ => ?_
  exact ⟨G, F, env, fp, s, h.ofO.imp .refl fun r e p v F' H' fp' S sv fe => p σ F' H' fp' (Agree.refl _ _) sv.ss fe⟩
theorem ds_ret {e : Expr} {m : ME} {pos : Pos} (he : DE X W m e) : DS X W [] (mRet m) (.Return (some e) pos) := by
  refine PS.to (ps_ret he) fun De σ H ⟨G, F, env, fp, s, h⟩ => ?_
  exact ⟨G, F, env, fp, s, h.ofO.imp .refl fun r e p v F' H' fp' S sv fe => p v σ F' H' fp' S (Agree.refl _ _) sv fe⟩
theorem ds_retN {pos : Pos} : DS X W [] mRetN (.Return none pos) := by
  refine PS.to ps_retN fun De σ H ⟨G, F, env, fp, s, h⟩ => ?_
  exact h .non σ F H fp _ (Agree.refl _ _) (SV.of_rep s .non) .refl
theorem ds_pass {pos : Pos} : DS X W [] mSkip (.Pass pos) := PS.to ps_pass fun De σ H ⟨G, F, env, fp, s, h⟩ => h σ F H fp (Agree.refl _ _) s .refl
def mBrk : MS := fun env => .brk env
def mCnt : MS := fun env => .cont env
theorem ds_brk {pos : Pos} : DS X W [] mBrk (.Break pos) := PS.to ps_break fun De σ H ⟨G, F, env, fp, s, h⟩ => h σ F H fp (Agree.refl _ _) s .refl
theorem ds_cnt {pos : Pos} : DS X W [] mCnt (.Continue pos) := PS.to ps_continue fun De σ H ⟨G, F, env, fp, s, h⟩ => h σ F H fp (Agree.refl _ _) s .refl
theorem ds_if {c : Expr} {a b : List Stmt} {mc : MT} {m1 m2 : MS} {pos : Pos} (hc : DT X W mc c) (ha : DSs X W A1 m1 a) (hb : DSs X W A2 m2 b) : DS X W (A1 ++ A2) (mIf mc m1 m2) (.If c a b pos) := by
  refine PS.to (ps_if hc ha hb) fun De σ H ⟨G, F, env, fp, s, h⟩ => ?_
  refine tT.of s h.ofO fun k e1 F1 H1 fp1 p1 s1 fe1 => ?_
  cases k with
  | true => exact ⟨G, F1, e1, fp1, s1, RGS.same (o := m1 e1) p1 fe1 fun σ' a => a.mono fun i hi => List.mem_append_left _ hi⟩
  | false => exact ⟨G, F1, e1, fp1, s1, RGS.same (o := m2 e1) p1 fe1 fun σ' a => a.mono fun i hi => List.mem_append_right _ hi⟩

/-! ### targets -/
abbrev DTg := D → DEnv → Option DEnv
def DG (X : Cx) (A : List Nat) (g : DTg) (tg : Expr) : Prop := ∃ t : TG, PG X tg t ∧ ∀ (G F H : Hp) (σ : L2.St) (env : DEnv) (fp : Fp) (d : D) (v : V) (e' : DEnv), SS X.K G F H σ env fp → Rep X.K F d v → g d env = some e' →
  ∀ Q : L2.St → Hp → Prop, (∀ σ' fp', Agree A σ σ' → SS X.K G F H σ' e' fp' → Q σ' H) → t v σ H Q
def gN (i : Nat) : DTg := fun d e => some (e.set i (some (0, d)))
theorem dg_name {i : Nat} {x : Str} {pos : Pos} (hN : X.N.Nodup) (hi : X.N[i]? = some x) (hx : Loc X.env.scope x) (hf : X.fn x = true ∨ X.env.scope.names.lookup x = some .local := by first | exact .inl rfl | exact .inr rfl | assumption) : DG X [i] (gN i) (.Name x pos) := by
  refine ⟨gName i, pg_name hN hi hx hf, fun G F H σ env fp d v e' s r h Q q => ?_⟩
  cases h
  exact q _ _ (Agree.set σ i _) ((SV.of_rep s r).put i)
def setAll : List Nat → List D → DEnv → Option DEnv
  | [], [], e => some e
  | i :: is, d :: ds, e => setAll is ds (e.set i (some (0, d)))
  | _, _, _ => none
def gT (is : List Nat) : DTg := fun d e => match d with
  | .tup ds => setAll is ds e
  | _ => none
def gL (is : List Nat) : DTg := fun d e => match d with
  | .lst ds => setAll is ds e
  | _ => none
def DGs (X : Cx) (is : List Nat) (tgs : List Expr) : Prop := ∃ t : TGs, PGs X tgs t ∧ ∀ (G F H : Hp) (σ : L2.St) (env : DEnv) (fp : Fp) (ds : List D) (vs : List V) (e' : DEnv), SS X.K G F H σ env fp → Reps X.K F ds vs → setAll is ds env = some e' →
  ∀ Q : L2.St → Hp → Prop, (∀ σ' fp', Agree is σ σ' → SS X.K G F H σ' e' fp' → Q σ' H) → t vs σ H Q
theorem dgs_nil : DGs X [] [] := ⟨gNil, pgs_nil, fun G F H σ env fp ds vs e' s r h Q q => by
  cases r with
  | nil => cases h; exact ⟨rfl, q σ fp (Agree.refl _ _) s⟩
  | cons _ _ => cases h⟩
theorem dgs_cons {i : Nat} {is : List Nat} {x : Str} {pos : Pos} {tgs : List Expr} (hN : X.N.Nodup) (hi : X.N[i]? = some x) (hx : Loc X.env.scope x) (ht : DGs X is tgs) (hf : X.fn x = true ∨ X.env.scope.names.lookup x = some .local := by first | exact .inl rfl | exact .inr rfl | assumption) : DGs X (i :: is) (.Name x pos :: tgs) := by
  obtain ⟨t, h1, h2⟩ := ht
  refine ⟨gCons (gName i) t, pgs_cons (pg_name hN hi hx hf) h1, fun G F H σ env fp ds vs e' s r h Q q => ?_⟩
  cases r with
  | nil => cases h
  | cons r1 rs =>
    refine ⟨_, _, rfl, ?_⟩
    refine h2 G F H _ _ _ _ _ e' ((SV.of_rep s r1).put i) rs h Q fun σ' fp' a s' => q σ' fp' ?_ s'
    exact (Agree.set σ i _).trans a (fun j hj => by rw [List.mem_singleton.mp hj]; exact List.mem_cons_self) fun j hj => List.mem_cons_of_mem _ hj
theorem setAll_len : ∀ (is : List Nat) (ds : List D) (e e' : DEnv), setAll is ds e = some e' → ds.length = is.length
  | [], [], _, _, _ => rfl
  | i :: is, d :: ds, e, e', h => by
    have h' : setAll is ds (e.set i (some (0, d))) = some e' := h
    rw [List.length_cons, List.length_cons, setAll_len is ds _ e' h']
  | [], _ :: _, _, _, h => nomatch h
  | _ :: _, [], _, _, h => nomatch h
theorem dg_tup {is : List Nat} {tgs : List Expr} {pos : Pos} {k : Nat} (hc : X.calm = true) (h : DGs X is tgs) (hl : (assignEach tgs X.env).length = is.length := by rfl) (hst : ((assignEach tgs X.env).findIdx? (·.1)) = none := by rfl) : DG X is (gT is) (.Tuple tgs k pos) := by
  obtain ⟨t, h1, h2⟩ := h
  refine ⟨gTup X.K is.length t, pg_tup hc h1 hl hst, fun G F H σ env fp d v e' s r h Q q => ?_⟩
  unfold gT at h
  cases d <;> first | cases h | skip
  obtain ⟨a, vs, rfl, hs, hr⟩ := Rep.tup_inv r
  exact ⟨a, vs, rfl, SqT.mono s.sf hs, by rw [← hr.length]; exact setAll_len _ _ _ _ h, h2 G F H σ env fp _ _ e' s hr h Q q⟩
end
end DL

set_option autoImplicit false
set_option Elab.async false
set_option linter.all false
set_option maxRecDepth 100000
/-! DL: loops. -/
namespace DL
open PySem PySem.Spec PyProof.Rows L2

/-- what an iterator yields, as trees -/
structure WkD (K : PySem.W.Frag) (J : It) (F : Hp) (ds : List D) : Prop where
  go : ∀ i H F2, Same F F2 → Same F2 H → i < ds.length → J.go i H
  stop : ∀ H F2, Same F F2 → Same F2 H → J.stop ds.length H
  yld : ∀ i H x H' F2, Same F F2 → Same F2 H → i < ds.length → J.yld i H x H' → ∃ d F3, ds[i]? = some d ∧ NewV K F2 H F3 H' 0 d x (fun _ => False)
abbrev MI := DEnv → Out (List D)
def tI (K : PySem.W.Frag) (mg : Str → Option Value) (W : WX) (m : MI) : TI := fun σ H R => ∃ G F env fp, SS K G F H σ env fp ∧
  RG K mg W G F σ (fun ds e => ∀ J F' H' fp', SS K G F' H' σ e fp' → FrExt G F F' → WkD K J F' ds → R J H') (m env)
def DI (X : Cx) (W : WX) (m : MI) (tg iter : Expr) : Prop := PI X tg iter (tI X.K X.mg W m)
theorem PI.to {X : Cx} {tg e : Expr} {t t' : TI} (h : PI X tg e t) (i : ∀ σ H Q, t' σ H Q → t σ H Q) : PI X tg e t' := ⟨fun pins s σ H R I q => h.run pins s σ H R I (i σ H R q)⟩

theorem wk_list {K : PySem.W.Frag} {F : Hp} {a : Addr} {vs : List V} {ds : List D} (h : SqL K F a vs) (r : Reps K F ds vs) : WkD K (Itl K a) F ds where
  go := fun i H F2 e1 e2 hi => by
    have hi' : i < vs.length := by rw [← r.length]; exact hi
    exact ⟨vs, vs[i], (e1.trans e2).seq h, List.getElem?_eq_getElem hi'⟩
  stop := fun H F2 e1 e2 => ⟨vs, (e1.trans e2).seq h, by rw [r.length]; exact Nat.le_refl _⟩
  yld := fun i H x H' F2 e1 e2 hi ⟨e, y⟩ => by
    subst e
    obtain ⟨d, hd, rd⟩ := r.getV (y vs ((e1.trans e2).seq h))
    exact ⟨d, F2, hd, NewV.of_rep e2 (rd.mono e1)⟩
theorem wk_tup {K : PySem.W.Frag} {F : Hp} {a : Addr} {vs : List V} {ds : List D} (h : SqT K F a vs) (r : Reps K F ds vs) : WkD K (Itt K a) F ds where
  go := fun i H F2 e1 e2 hi => by
    have hi' : i < vs.length := by rw [← r.length]; exact hi
    exact ⟨vs, vs[i], SqT.mono (e1.trans e2) h, List.getElem?_eq_getElem hi'⟩
  stop := fun H F2 e1 e2 => ⟨vs, SqT.mono (e1.trans e2) h, by rw [r.length]; exact Nat.le_refl _⟩
  yld := fun i H x H' F2 e1 e2 hi ⟨e, y⟩ => by
    subst e
    obtain ⟨d, hd, rd⟩ := r.getV (y vs (SqT.mono (e1.trans e2) h))
    exact ⟨d, F2, hd, NewV.of_rep e2 (rd.mono e1)⟩
def rangeD (lo : Int) (n : Nat) : List D := (List.range n).map fun (k : Nat) => D.int (lo + k)
theorem wk_range {K : PySem.W.Frag} {F : Hp} (lo : Int) (n : Nat) : WkD K (Itr lo n) F (rangeD lo n) where
  go := fun i H F2 e1 e2 hi => by show i < n; simpa [rangeD] using hi
  stop := fun H F2 e1 e2 => by show n ≤ _; simp [rangeD]
  yld := fun i H x H' F2 e1 e2 hi ⟨e, y⟩ => by
    subst e y
    have hi' : i < n := by simpa [rangeD] using hi
    exact ⟨.int (lo + i), F2, by simp [rangeD, hi'], NewV.of_rep e2 (.int _)⟩

section
variable {X : Cx} {W : WX} {A A1 A2 : List Nat}
/-- a list or a tuple is walked -/
def iSeqI (K : PySem.W.Frag) (tl : TE) : TI := fun σ H R => tl σ H fun x H1 => ∃ a, x = .ref a ∧ ((∃ xs, SqL K H1 a xs ∧ R (Itl K a) H1) ∨ ∃ xs, SqT K H1 a xs ∧ R (Itt K a) H1)
theorem pi_seqI {tg l : Expr} {tl : TE} (hl : PE X l tl) : PI X tg l (iSeqI X.K tl) := by
  refine ⟨fun pins s σ H R I h => ?_⟩
  refine thn (hl.run pins s σ H _ I h) fun v s1 ⟨x, H1, I1, r1, q1⟩ => ?_
  obtain ⟨a, e, q⟩ := q1
  subst e
  cases r1
  rcases q with ⟨xs, hq, q⟩ | ⟨xs, hq, q⟩
  · obtain ⟨its, rv, p, hz⟩ := I1.list hq
    refine wpAny_pyIter_list p.isList ?_
    refine ⟨s1.heap.objs.size, [s1.heap.objs.size], _, _, H1, rfl, I1.kept (t' := s1.toks) fun b o e => Heap.get?_push_of_some _ e, turn_list a _, ⟨_, Heap.get?_push_size _ rfl, rfl, rfl⟩, fun b hb => ?_, q⟩
    have e : b = s1.heap.objs.size := by simpa using hb
    subst e
    exact I1.fpOk (Nat.le_refl _) (I1.hok.fresh (Nat.le_refl _))
  · obtain ⟨its, rv, p, hz⟩ := I1.tuple hq
    refine wpAny_pyIter_tuple (show s1.heap.IsTuple a its.toArray from p) ?_
    refine ⟨s1.heap.objs.size, [s1.heap.objs.size], _, _, H1, rfl, I1.kept (t' := s1.toks) fun b o e => Heap.get?_push_of_some _ e, turn_tuple a _, ⟨_, Heap.get?_push_size _ rfl, rfl, rfl⟩, fun b hb => ?_, q⟩
    have e : b = s1.heap.objs.size := by simpa using hb
    subst e
    exact I1.fpOk (Nat.le_refl _) (I1.hok.fresh (Nat.le_refl _))
def mItems (m : ME) : MI := fun env => (m env).bind fun r e => match r.2 with
  | .lst ds => .ok ds e
  | .tup ds => .ok ds e
  | .scr ds => .ok ds e
  | _ => .stuck
theorem di_seq {tg l : Expr} {m : ME} (h : DE X W m l) : DI X W (mItems m) tg l := by
  refine PI.to (pi_seqI h) fun σ H R ⟨G, F, env, fp, s, h⟩ => ?_
  refine tE.of s h.bind fun r1 e1 F1 H1 fp1 v1 p1 s1 rep1 fe1 => ?_
  obtain ⟨n, d⟩ := r1
  cases d <;> first | exact p1.elim | skip
  · obtain ⟨a, vs, rfl, hs, hr⟩ := Rep.lst_inv rep1
    exact ⟨a, rfl, .inl ⟨vs, s1.sf.seq hs, p1 _ F1 H1 fp1 s1 fe1 (wk_list hs hr)⟩⟩
  · obtain ⟨a, vs, rfl, hs, hr⟩ := Rep.tup_inv rep1
    exact ⟨a, rfl, .inr ⟨vs, SqT.mono s1.sf hs, p1 _ F1 H1 fp1 s1 fe1 (wk_tup hs hr)⟩⟩
  · obtain ⟨a, vs, rfl, hs, hr⟩ := Rep.scr_inv rep1
    exact ⟨a, rfl, .inl ⟨vs, s1.sf.seq hs, p1 _ F1 H1 fp1 s1 fe1 (wk_list hs hr)⟩⟩
def rng1 : List D → Option (List D)
  | [.int j] => if -(2 ^ 62) ≤ j ∧ j < 2 ^ 62 then some (rangeD 0 j.toNat) else none
  | _ => none
def rng2 : List D → Option (List D)
  | [.int i, .int j] => if -(2 ^ 62) ≤ i ∧ i < 2 ^ 62 ∧ -(2 ^ 62) ≤ j ∧ j < 2 ^ 62 then some (rangeD i (j - i).toNat) else none
  | _ => none
def mRng (f : List D → Option (List D)) (ms : MA) : MI := fun env => (ms env).bind fun ds e => oB (f ds) e
theorem di_range1 {tg a : Expr} {ms : MA} {p pos : Pos} (hg : Gl X "range") (hm : X.mg "range" = none) (ha : DA X W ms [a]) (hs : starEach [a] X.env = [(false, eval a X.env)] := by rfl) : DI X W (mRng rng1 ms) tg (.Call (.Name "range" p) [a] [] pos) := by
  refine PI.to (pi_range1 hg hm ha hs) fun σ H R ⟨G, F, env, fp, s, h⟩ => ?_
  refine tA.of s h.bind fun ds e1 F1 H1 fp1 vs p1 s1 rep1 fe1 => ?_
  obtain ⟨l, hl, p⟩ := p1.ofO
  unfold rng1 at hl
  split at hl
  · rename_i j
    split at hl
    · rename_i hj
      cases hl
      cases rep1 with
      | cons r1 rs =>
        cases rs
        cases Rep.int_inv r1
        exact ⟨j, rfl, hj.1, hj.2, p _ F1 H1 fp1 s1 fe1 (wk_range 0 _)⟩
    · cases hl
  · cases hl
theorem di_range2 {tg a b : Expr} {ms : MA} {p pos : Pos} (hg : Gl X "range") (hm : X.mg "range" = none) (ha : DA X W ms [a, b]) (hs : starEach [a, b] X.env = [(false, eval a X.env), (false, eval b X.env)] := by rfl) (hs2 : starEach [b] X.env = [(false, eval b X.env)] := by rfl) : DI X W (mRng rng2 ms) tg (.Call (.Name "range" p) [a, b] [] pos) := by
  refine PI.to (pi_range2 hg hm ha hs hs2) fun σ H R ⟨G, F, env, fp, s, h⟩ => ?_
  refine tA.of s h.bind fun ds e1 F1 H1 fp1 vs p1 s1 rep1 fe1 => ?_
  obtain ⟨l, hl, p⟩ := p1.ofO
  unfold rng2 at hl
  split at hl
  · rename_i i j
    split at hl
    · rename_i hj
      cases hl
      cases rep1 with
      | cons r1 rs =>
        cases rs with
        | cons r2 rs =>
          cases rs
          cases Rep.int_inv r1
          cases Rep.int_inv r2
          exact ⟨i, j, rfl, hj, p _ F1 H1 fp1 s1 fe1 (wk_range i _)⟩
    · cases hl
  · cases hl

/-! ### for -/
def wipeD : List Nat → DEnv → DEnv
  | [], e => e
  | j :: js, e => (wipeD js e).set j none
theorem SS.wipe {K : PySem.W.Frag} {G F H : Hp} {σ : L2.St} : ∀ (js : List Nat) {env : DEnv} {fp : Fp}, SS K G F H σ env fp → ∃ fp', SS K G F H σ (wipeD js env) fp'
  | [], _, _, s => ⟨_, s⟩
  | j :: js, _, _, s => let ⟨fp, s'⟩ := SS.wipe js s; ⟨_, s'.drop j⟩
def mForL (g : DTg) (js : List Nat) (b : MS) : List D → MS
  | [], env => .nx env
  | d :: ds, env => match g d env with
    | none => .stuck
    | some e1 => match b e1 with
      | .nx e2 => mForL g js b ds (wipeD js e2)
      | .cont e2 => mForL g js b ds (wipeD js e2)
      | .brk e2 => .nx (wipeD js e2)
      | o => o
def mFor (js : List Nat) (g : DTg) (mi : MI) (b : MS) : MS := fun env => (mi env).bindS fun ds e => mForL g js b ds e
theorem ds_for {tg iter : Expr} {body : List Stmt} {mi : MI} {g : DTg} {b : MS} {pos : Pos} (js : List Nat) (hp : PassesOwn (model X.prog X.w) X.A X.env X.xe) (hc : X.calm = true) (hi : DI X W mi tg iter) (hg : DG X A1 g tg) (hb : DSs X W A2 b body) (hfs : ∀ x, foldedSetIterable iter X.env x = pure x := by intro _; rfl) :
    DS X W (A1 ++ A2) (mFor js g mi b) (.For tg iter body [] pos) := by
  obtain ⟨t, ht, hgq⟩ := hg
  refine PS.to (ps_for hp hc hi ht hb hfs) fun De σ0 H ⟨G, F, env, fp, s, h⟩ => ?_
  refine ⟨G, F, env, fp, s, h.ofO.imp .refl fun ds e p J F' H' fp' s' fe wk => ?_⟩
  have l1 : ∀ i ∈ A1, i ∈ A1 ++ A2 := fun i hi => List.mem_append_left _ hi
  have l2 : ∀ i ∈ A2, i ∈ A1 ++ A2 := fun i hi => List.mem_append_right _ hi
  refine ⟨fun i m σ H => m = ds.length - i ∧ i ≤ ds.length ∧ ∃ F1 e1 fp1, SS X.K G F1 H σ e1 fp1 ∧ FrExt G F F1 ∧ Same F' F1 ∧ Agree (A1 ++ A2) σ0 σ ∧ RGS X.K X.mg W G F (A1 ++ A2) σ0 De (mForL g js b (ds.drop i) e1),
    ⟨ds.length, by simp, Nat.zero_le _, F', e, fp', s', fe, Same.refl _, Agree.refl _ _, by simpa using p⟩, ?_⟩
  rintro i m σ H ⟨rfl, hi, F1, e1, fp1, s1, fe1, sf1, ag, q⟩
  by_cases hlt : i < ds.length
  · refine .inr ⟨wk.go i H F1 sf1 s1.sf hlt, fun σ' H' => i + 1 ≤ ds.length ∧ ∃ F1 e1 fp1, SS X.K G F1 H' σ' e1 fp1 ∧ FrExt G F F1 ∧ Same F' F1 ∧ Agree (A1 ++ A2) σ0 σ' ∧ RGS X.K X.mg W G F (A1 ++ A2) σ0 De (mForL g js b (ds.drop (i + 1)) e1),
      fun σ' H' p' => ⟨ds.length - (i + 1), by omega, rfl, p'⟩, fun x H' y => ?_⟩
    obtain ⟨d, F3, hd, nv⟩ := wk.yld i H x H' F1 sf1 s1.sf hlt y
    rw [List.drop_eq_getElem_cons hlt] at q
    have ed : ds[i] = d := by rw [List.getElem?_eq_getElem hlt] at hd; exact Option.some.inj hd
    rw [ed] at q
    unfold mForL at q
    obtain ⟨sv, f3⟩ := s1.new nv
    cases eg : g d e1 with
    | none => rw [eg] at q; exact q.elim
    | some e2 =>
      rw [eg] at q
      refine hgq G F3 H' σ e1 fp1 d x e2 sv.ss sv.val eg _ fun σ2 fp2 a2 s2 => ?_
      have f03 := fe1.trans f3
      have sf3 := sf1.trans f3.same
      have ag2 : Agree (A1 ++ A2) σ0 σ2 := ag.trans a2 (fun _ z => z) l1
      refine ⟨G, F3, e2, fp2, s2, ?_⟩
      dsimp only at q
      cases eb : b e2 with
      | stuck => rw [eb] at q; exact q.elim
      | nx e3 =>
        rw [eb] at q
        intro σ' F'' H'' fp'' a s'' fe''
        obtain ⟨fpw, sw⟩ := s''.wipe js
        exact ⟨hlt, F'', _, fpw, sw, f03.trans fe'', sf3.trans fe''.same, ag2.trans a (fun _ z => z) l2, q⟩
      | cont e3 =>
        rw [eb] at q
        intro σ' F'' H'' fp'' a s'' fe''
        obtain ⟨fpw, sw⟩ := s''.wipe js
        exact ⟨hlt, F'', _, fpw, sw, f03.trans fe'', sf3.trans fe''.same, ag2.trans a (fun _ z => z) l2, q⟩
      | brk e3 =>
        rw [eb] at q
        intro σ' F'' H'' fp'' a s'' fe''
        obtain ⟨fpw, sw⟩ := s''.wipe js
        exact q σ' F'' H'' fpw (ag2.trans a (fun _ z => z) l2) sw (f03.trans fe'')
      | ret n d e3 =>
        rw [eb] at q
        exact fun v σ' F'' H'' fp'' S a sv fe'' => q v σ' F'' H'' fp'' S (ag2.trans a (fun _ z => z) l2) sv (f03.trans fe'')
      | exc x e3 =>
        rw [eb] at q
        exact fun c dd σ' F'' H'' fp'' a s'' fe'' r => q c dd σ' F'' H'' fp'' (ag2.trans a (fun _ z => z) l2) s'' (f03.trans fe'') r
  · have e : i = ds.length := by omega
    subst e
    refine .inl ⟨wk.stop H F1 sf1 s1.sf, ?_⟩
    rw [List.drop_length] at q
    exact q σ F1 H fp1 ag s1 fe1

/-! ### while -/
def mWhileN (c : MT) (js : List Nat) (b : MS) : Nat → MS
  | 0, _ => .stuck
  | n + 1, env => (c env).bindS fun k e => if k = true then (match b e with
      | .nx e2 => mWhileN c js b n (wipeD js e2)
      | .cont e2 => mWhileN c js b n (wipeD js e2)
      | .brk e2 => .nx (wipeD js e2)
      | o => o) else .nx e
@[irreducible] def FUEL : Nat := 1000000
def mWhile (js : List Nat) (c : MT) (b : MS) : MS := fun env => mWhileN c js b FUEL env
theorem ds_while {c : Expr} {body : List Stmt} {mc : MT} {b : MS} {pos : Pos} (js : List Nat) (hp : PassesOwn (model X.prog X.w) X.A X.env X.xe) (hc : DT X W mc c) (hb : DSs X W A b body) : DS X W A (mWhile js mc b) (.While c body [] pos) := by
  refine PS.to (ps_while hp hc hb) fun De σ0 H ⟨G, F, env, fp, s, h⟩ => ?_
  refine ⟨fun m σ H => ∃ F1 e1 fp1, SS X.K G F1 H σ e1 fp1 ∧ FrExt G F F1 ∧ Agree A σ0 σ ∧ RGS X.K X.mg W G F A σ0 De (mWhileN mc js b m e1), ⟨FUEL, F, env, fp, s, .refl, Agree.refl _ _, h⟩, ?_⟩
  rintro m σ H ⟨F1, e1, fp1, s1, fe1, ag, q⟩
  cases m with
  | zero => exact q.elim
  | succ m =>
    unfold mWhileN at q
    have q' : RG X.K X.mg W G F1 σ _ (mc e1) := RG.imp (F := F) (P' := fun k e => RGS X.K X.mg W G F A σ0 De (if k = true then (match b e with
      | .nx e2 => mWhileN mc js b m (wipeD js e2)
      | .cont e2 => mWhileN mc js b m (wipeD js e2)
      | .brk e2 => .nx (wipeD js e2)
      | o => o) else .nx e)) (by
        cases em : mc e1 with
        | ok k e => rw [em] at q; exact q
        | exc x e => rw [em] at q; exact fun c dd F' H' fp' s f r => q c dd σ F' H' fp' ag s f r
        | stuck => rw [em] at q; exact q) fe1 (fun _ _ z => z)
    refine tT.of s1 q' fun k e2 F2 H2 fp2 p2 s2 fe2 => ?_
    have f02 := fe1.trans fe2
    cases k with
    | false => exact p2 σ F2 H2 fp2 ag s2 f02
    | true =>
      refine ⟨fun σ' H' => ∃ F1 e1 fp1, SS X.K G F1 H' σ' e1 fp1 ∧ FrExt G F F1 ∧ Agree A σ0 σ' ∧ RGS X.K X.mg W G F A σ0 De (mWhileN mc js b m e1), fun σ' H' p' => ⟨m, Nat.lt_succ_self _, p'⟩, G, F2, e2, fp2, s2, ?_⟩
      simp only [if_true] at p2
      cases eb : b e2 with
      | stuck => rw [eb] at p2; exact p2.elim
      | nx e3 =>
        rw [eb] at p2
        intro σ' F'' H'' fp'' a s'' fe''
        obtain ⟨fpw, sw⟩ := s''.wipe js
        exact ⟨F'', _, fpw, sw, f02.trans fe'', ag.trans a (fun _ z => z) fun _ z => z, p2⟩
      | cont e3 =>
        rw [eb] at p2
        intro σ' F'' H'' fp'' a s'' fe''
        obtain ⟨fpw, sw⟩ := s''.wipe js
        exact ⟨F'', _, fpw, sw, f02.trans fe'', ag.trans a (fun _ z => z) fun _ z => z, p2⟩
      | brk e3 =>
        rw [eb] at p2
        intro σ' F'' H'' fp'' a s'' fe''
        obtain ⟨fpw, sw⟩ := s''.wipe js
        exact p2 σ' F'' H'' fpw (ag.trans a (fun _ z => z) fun _ z => z) sw (f02.trans fe'')
      | ret n d e3 =>
        rw [eb] at p2
        exact fun v σ' F'' H'' fp'' S a sv fe'' => p2 v σ' F'' H'' fp'' S (ag.trans a (fun _ z => z) fun _ z => z) sv (f02.trans fe'')
      | exc x e3 =>
        rw [eb] at p2
        exact fun c dd σ' F'' H'' fp'' a s'' fe'' r => p2 c dd σ' F'' H'' fp'' (ag.trans a (fun _ z => z) fun _ z => z) s'' (f02.trans fe'') r
end
end DL

set_option autoImplicit false
set_option Elab.async false
set_option linter.all false
set_option maxRecDepth 100000
/-! DL: sharing for a while, sharing for good; calls of the program's own defs; comprehensions; stores. -/
namespace DL
open PySem PySem.Spec PyProof.Rows L2

/-! ### shared for good -/
def frz1 (i : Nat) (env : DEnv) : DEnv := match env[i]? with
  | some (some (_, d)) => env.set i (some (0, d))
  | _ => env
def frzE : List Nat → DEnv → DEnv
  | [], e => e
  | i :: is, e => frzE is (frz1 i e)
section
variable {K : PySem.W.Frag} {mg : Str → Option Value} {W : WX} {G F H : Hp} {σ : L2.St} {env : DEnv} {fp : Fp}
theorem SS.frz1 (i : Nat) (s : SS K G F H σ env fp) : ∃ F' fp', SS K G F' H σ (frz1 i env) fp' ∧ FrExt G F F' := by
  unfold DL.frz1
  split
  · rename_i n d he
    obtain ⟨v, hv, r⟩ := s.slot i n d he
    have s0 := s.drop i
    have sv : SV K G F H σ (env.set i none) (fun j a => j ≠ i ∧ fp j a) n d v (fp i) := ⟨s0, r, s.ld i, s.nf i, s.ng i, fun j a p z => s.dis i j a (fun e => z.1 e.symm) p z.2⟩
    obtain ⟨s1, r1, f1⟩ := sv.share
    have s2 := (SV.of_rep s1 r1).put i
    rw [List.set_set] at s2
    have hσ : σ.set i (some v) = σ := by
      apply List.ext_getElem?
      intro j
      by_cases h : i = j
      · subst h; rw [List.getElem?_set_self (List.getElem?_eq_some_iff.mp hv).1, hv]
      · rw [List.getElem?_set_ne h]
    rw [hσ] at s2
    exact ⟨_, _, s2, f1⟩
  · exact ⟨F, fp, s, .refl⟩
theorem SS.frz : ∀ (is : List Nat) {F : Hp} {env : DEnv} {fp : Fp}, SS K G F H σ env fp → ∃ F' fp', SS K G F' H σ (frzE is env) fp' ∧ FrExt G F F'
  | [], F, _, fp, s => ⟨F, fp, s, .refl⟩
  | i :: is, F, env, fp, s => by
    obtain ⟨F1, fp1, s1, f1⟩ := s.frz1 i
    obtain ⟨F2, fp2, s2, f2⟩ := SS.frz is s1
    exact ⟨F2, fp2, s2, f1.trans f2⟩
end
section
variable {X : Cx} {W : WX} {A : List Nat}
def mFrzS (is : List Nat) (m : MS) : MS := fun env => m (frzE is env)
def mFrz (is : List Nat) (m : ME) : ME := fun env => m (frzE is env)
theorem ds_frz {st : Stmt} {m : MS} (is : List Nat) (h : DS X W A m st) : DS X W A (mFrzS is m) st := by
  refine PS.to h fun De σ H ⟨G, F, env, fp, s, q⟩ => ?_
  obtain ⟨F1, fp1, s1, f1⟩ := s.frz is
  exact ⟨G, F1, _, fp1, s1, RGS.same q f1 fun _ a => a⟩
theorem de_frz {e : Expr} {m : ME} (is : List Nat) (h : DE X W m e) : DE X W (mFrz is m) e := by
  refine PE.to h fun σ H Q ⟨G, F, env, fp, s, q⟩ => ?_
  obtain ⟨F1, fp1, s1, f1⟩ := s.frz is
  exact ⟨G, F1, _, fp1, s1, RG.imp q f1 fun r e p v F' H' fp' S sv fe => p v F' H' fp' S sv (f1.trans fe)⟩
end

/-! ### shared for a while -/
def tmp1 (Z L : List Nat) (i : Nat) (x : Option (Nat × D)) : Option (Nat × D) :=
  if Z.contains i = true then x.map (fun p => (0, p.2)) else if L.contains i = true then x else match x with
    | some (0, d) => some (0, d)
    | _ => none
def tmpE (Z L : List Nat) : Nat → DEnv → DEnv
  | _, [] => []
  | i, x :: e => tmp1 Z L i x :: tmpE Z L (i + 1) e
def back1 (Z L : List Nat) (i : Nat) (x y : Option (Nat × D)) : Option (Nat × D) :=
  if Z.contains i = true then x else if L.contains i = true then y else x
def backE (Z L : List Nat) : Nat → DEnv → DEnv → DEnv
  | i, x :: e, y :: e2 => back1 Z L i x y :: backE Z L (i + 1) e e2
  | _, _, _ => []
def okL1 (Z L : List Nat) (i : Nat) (y : Option (Nat × D)) : Bool :=
  if Z.contains i = true then true else if L.contains i = true then (match y with
    | some (n, d) => closedM n d
    | none => true) else true
def okL (Z L : List Nat) : Nat → DEnv → Bool
  | _, [] => true
  | i, y :: e => okL1 Z L i y && okL Z L (i + 1) e
theorem tmpE_get (Z L : List Nat) : ∀ (k : Nat) (env : DEnv) (i : Nat), (tmpE Z L k env)[i]? = (env[i]?).map (tmp1 Z L (k + i))
  | _, [], i => by simp [tmpE]
  | k, x :: e, 0 => by simp [tmpE]
  | k, x :: e, i + 1 => by
    have := tmpE_get Z L (k + 1) e i
    rw [show k + 1 + i = k + (i + 1) by omega] at this
    simpa [tmpE] using this
theorem tmpE_length (Z L : List Nat) : ∀ (k : Nat) (env : DEnv), (tmpE Z L k env).length = env.length
  | _, [] => rfl
  | k, x :: e => by simp [tmpE, tmpE_length Z L (k + 1) e]
theorem backE_get (Z L : List Nat) : ∀ (k : Nat) (e e2 : DEnv) (i : Nat) (x : Option (Nat × D)), (backE Z L k e e2)[i]? = some x → ∃ a b, e[i]? = some a ∧ e2[i]? = some b ∧ x = back1 Z L (k + i) a b
  | _, [], _, i, x, h => by simp [backE] at h
  | _, _ :: _, [], i, x, h => by simp [backE] at h
  | k, a :: e, b :: e2, 0, x, h => by
    simp only [backE, List.getElem?_cons_zero, Option.some.injEq] at h
    exact ⟨a, b, rfl, rfl, h.symm⟩
  | k, a :: e, b :: e2, i + 1, x, h => by
    simp only [backE, List.getElem?_cons_succ] at h
    obtain ⟨a', b', h1, h2, h3⟩ := backE_get Z L (k + 1) e e2 i x h
    rw [show k + 1 + i = k + (i + 1) by omega] at h3
    exact ⟨a', b', by simpa using h1, by simpa using h2, h3⟩
theorem backE_length (Z L : List Nat) : ∀ (k : Nat) (e e2 : DEnv), e.length = e2.length → (backE Z L k e e2).length = e.length
  | _, [], _, _ => by simp [backE]
  | _, _ :: _, [], h => by simp at h
  | k, a :: e, b :: e2, h => by simp [backE, backE_length Z L (k + 1) e e2 (by simpa using h)]
theorem okL_get (Z L : List Nat) : ∀ (k : Nat) (e : DEnv) (i : Nat) (y : Option (Nat × D)), okL Z L k e = true → e[i]? = some y → okL1 Z L (k + i) y = true
  | _, [], i, y, _, h => by simp at h
  | k, a :: e, 0, y, o, h => by
    simp only [okL, Bool.and_eq_true] at o
    simp only [List.getElem?_cons_zero, Option.some.injEq] at h
    subst h; exact o.1
  | k, a :: e, i + 1, y, o, h => by
    simp only [okL, Bool.and_eq_true] at o
    have := okL_get Z L (k + 1) e i y o.2 (by simpa using h)
    rw [show k + 1 + i = k + (i + 1) by omega] at this
    exact this

section
variable {K : PySem.W.Frag} {mg : Str → Option Value} {W : WX} {G F H : Hp} {σ : L2.St} {env : DEnv} {fp : Fp}
open Classical in
/-- what is shared for a while; what stands aside -/
noncomputable def tmpG (G H : Hp) (fp : Fp) (Z L : List Nat) : Hp := fun a => match G a with
  | some o => some o
  | none => if (∃ i, Z.contains i = false ∧ L.contains i = false ∧ fp i a) then H a else none
def tmpT (fp : Fp) (Z : List Nat) : Addr → Prop := fun a => ∃ i, Z.contains i = true ∧ fp i a
theorem tmpG_of {Z L : List Nat} {a : Addr} {o : HO} (h : G a = some o) : tmpG G H fp Z L a = some o := by unfold tmpG; rw [h]
theorem tmpG_hid {Z L : List Nat} {a : Addr} (hg : G a = none) {i : Nat} (h1 : Z.contains i = false) (h2 : L.contains i = false) (h3 : fp i a) : tmpG G H fp Z L a = H a := by
  unfold tmpG; rw [hg]; exact if_pos ⟨i, h1, h2, h3⟩
theorem tmpG_none {Z L : List Nat} {a : Addr} (hg : G a = none) (h : ∀ i, Z.contains i = false → L.contains i = false → fp i a → False) : tmpG G H fp Z L a = none := by
  unfold tmpG; rw [hg]; exact if_neg fun ⟨i, h1, h2, h3⟩ => h i h1 h2 h3
theorem tmpG_le {Z L : List Nat} {a : Addr} (h : tmpG G H fp Z L a = none) : G a = none := by
  cases q : G a with
  | none => rfl
  | some o => rw [tmpG_of q] at h; cases h
open Classical in
noncomputable def lessT (F : Hp) (T : Addr → Prop) : Hp := fun a => if T a then none else F a
theorem SS.temp (s : SS K G F H σ env fp) (Z L : List Nat) : SS K (tmpG G H fp Z L) (addH F H (tmpT fp Z)) H σ (tmpE Z L 0 env) (fun i a => Z.contains i = false ∧ L.contains i = true ∧ fp i a) where
  len := by rw [tmpE_length]; exact s.len
  slot := fun i n d q => by
    rw [tmpE_get, Nat.zero_add] at q
    cases e : env[i]? with
    | none => rw [e] at q; cases q
    | some x =>
      rw [e, Option.map_some, Option.some.injEq] at q
      unfold tmp1 at q
      by_cases hZ : Z.contains i = true
      · rw [if_pos hZ] at q
        cases x with
        | none => cases q
        | some p =>
          obtain ⟨m, d'⟩ := p
          cases q
          obtain ⟨v, h1, h2⟩ := s.slot i m _ e
          exact ⟨v, h1, h2.share addH_same fun a o z w => addH_in s.sf ⟨i, hZ, z⟩ w⟩
      · rw [if_neg hZ] at q
        have hZ' : Z.contains i = false := by simpa using hZ
        by_cases hL : L.contains i = true
        · rw [if_pos hL] at q
          subst q
          obtain ⟨v, h1, h2⟩ := s.slot i n d e
          exact ⟨v, h1, h2.imp addH_same (fun a z => ⟨hZ', hL, z⟩) fun _ _ _ w => w⟩
        · rw [if_neg hL] at q
          split at q
          · cases q
            obtain ⟨v, h1, h2⟩ := s.slot i 0 _ e
            exact ⟨v, h1, Rep.mono addH_same h2⟩
          · cases q
  dis := fun i j a h p q => s.dis i j a h p.2.2 q.2.2
  ld := fun i a p => s.ld i a p.2.2
  nf := fun i a p => by
    rw [addH_out]
    · exact s.nf i a p.2.2
    · rintro ⟨j, hj, z⟩
      exact s.dis i j a (fun e => by subst e; rw [hj] at p; exact nomatch p.1) p.2.2 z
  ng := fun i a p => tmpG_none (s.ng i a p.2.2) fun j h1 h2 z => s.dis i j a (fun e => by subst e; rw [h2] at p; exact nomatch p.2.1) p.2.2 z
  sf := addH_sub s.sf
  sg := fun a o e => by
    unfold tmpG at e
    cases q : G a with
    | some u => rw [q] at e; exact s.sg _ _ (q.trans e)
    | none =>
      rw [q] at e
      simp only at e
      split at e
      · exact e
      · cases e
structure TmpBack (K : PySem.W.Frag) (G F H : Hp) (σ : L2.St) (env : DEnv) (fp : Fp) (Z L : List Nat) (F2 H2 : Hp) (e2 : DEnv) (fp2 : Fp) (F3 : Hp) (fp3 : Fp) : Prop where
  ss : SS K G F3 H2 σ (backE Z L 0 env e2) fp3
  fe : FrExt G F F3
  keeps : Keeps F2 F3
  nf : ∀ a, F2 a = none → F3 a = none
  ng : ∀ a, tmpG G H fp Z L a = none → G a = none
  out : ∀ a, F2 a = none → tmpG G H fp Z L a = none → (∀ i, ¬ fp2 i a) → ∀ i, ¬ fp3 i a
theorem SS.back (s : SS K G F H σ env fp) (Z L : List Nat) {F2 H2 : Hp} {e2 : DEnv} {fp2 : Fp} (s2 : SS K (tmpG G H fp Z L) F2 H2 σ e2 fp2) (fe : FrExt (tmpG G H fp Z L) (addH F H (tmpT fp Z)) F2) (ok : okL Z L 0 e2 = true) :
    ∃ F3 fp3, TmpBack K G F H σ env fp Z L F2 H2 e2 fp2 F3 fp3 := by
  have hT2 : ∀ a, tmpT fp Z a → LD (F2 a) ∧ F2 a = H a := fun a ⟨i, hi, z⟩ => by
    have l := s.ld i a z
    cases e : H a with
    | none => exact absurd e l.some
    | some o =>
      have := fe.same a o (addH_in s.sf ⟨i, hi, z⟩ e)
      rw [this, ← e]
      exact ⟨l, rfl⟩
  have sFF : Same F (lessT F2 (tmpT fp Z)) := fun a o e => by
    unfold lessT
    rw [if_neg (fun ⟨i, hi, z⟩ => by rw [s.nf i a z] at e; cases e)]
    exact fe.same a o (addH_same a o e)
  have keeps : Keeps F2 (lessT F2 (tmpT fp Z)) := fun a xs => by
    have nT : ∀ o, F2 a = some o → ¬ LD (some o) → ¬ tmpT fp Z a := fun o e nl t => nl (by rw [← e]; exact (hT2 a t).1)
    refine ⟨fun e => ?_, fun o e => ?_⟩
    · unfold lessT; rw [if_neg (nT _ e fun z => z)]; exact e
    · unfold lessT; rw [if_neg (nT _ e fun z => z)]; exact e
  have nf : ∀ a, F2 a = none → lessT F2 (tmpT fp Z) a = none := fun a e => by
    unfold lessT; split
    · rfl
    · exact e
  have stand : ∀ i, (Z.contains i = true ∨ L.contains i = false) → ∀ a o, fp i a → H a = some o → H2 a = some o := fun i hi a o z e => by
    by_cases hZ : Z.contains i = true
    · have := fe.same a o (addH_in s.sf ⟨i, hZ, z⟩ e)
      exact s2.sf _ _ this
    · rcases hi with hi | hi
      · exact absurd hi hZ
      · have hZ' : Z.contains i = false := by simpa using hZ
        exact s2.sg _ _ ((tmpG_hid (s.ng i a z) hZ' hi z).trans e)
  refine ⟨lessT F2 (tmpT fp Z), fun i a => (Z.contains i = false ∧ L.contains i = true ∧ fp2 i a) ∨ ((Z.contains i = true ∨ L.contains i = false) ∧ fp i a), ⟨⟨?_, ?_, ?_, ?_, ?_, ?_, ?_, ?_⟩, ?_, keeps, nf, fun a => tmpG_le, ?_⟩⟩
  · rw [backE_length]
    · exact s.len
    · rw [s.len, s2.len]
  · intro i n d q
    obtain ⟨x, y, hx, hy, e⟩ := backE_get Z L 0 env e2 i _ q
    rw [Nat.zero_add] at e
    unfold back1 at e
    have own : (Z.contains i = true ∨ L.contains i = false) → x = some (n, d) → ∃ v, σ[i]? = some (some v) ∧ RepM K (lessT F2 (tmpT fp Z)) H2 n d v (fun a => (Z.contains i = false ∧ L.contains i = true ∧ fp2 i a) ∨ ((Z.contains i = true ∨ L.contains i = false) ∧ fp i a)) := fun hi ex => by
      subst ex
      obtain ⟨v, h1, h2⟩ := s.slot i n d hx
      exact ⟨v, h1, h2.imp sFF (fun a z => .inr ⟨hi, z⟩) fun a o z w => stand i hi a o z w⟩
    by_cases hZ : Z.contains i = true
    · rw [if_pos hZ] at e; exact own (.inl hZ) e.symm
    · rw [if_neg hZ] at e
      have hZ' : Z.contains i = false := by simpa using hZ
      by_cases hL : L.contains i = true
      · rw [if_pos hL] at e
        subst e
        obtain ⟨v, h1, h2⟩ := s2.slot i n d hy
        have o := okL_get Z L 0 e2 i _ ok hy
        rw [Nat.zero_add] at o
        unfold okL1 at o
        rw [if_neg hZ, if_pos hL] at o
        exact ⟨v, h1, (h2.keeps keeps o).wid fun a z => .inl ⟨hZ', hL, z⟩⟩
      · rw [if_neg hL] at e
        exact own (.inr (by simpa using hL)) e.symm
  · intro i j a h p q
    have mix : ∀ i j, L.contains i = true → Z.contains i = false → fp2 i a → (Z.contains j = true ∨ L.contains j = false) → fp j a → False := fun i j hL hZ z hj w => by
      by_cases hZj : Z.contains j = true
      · exact (hT2 a ⟨j, hZj, w⟩).1.some (s2.nf i a z)
      · have hZ' : Z.contains j = false := by simpa using hZj
        rcases hj with hj | hj
        · exact hZj hj
        · have g := tmpG_hid (H := H) (s.ng j a w) hZ' hj w
          rw [s2.ng i a z] at g
          exact (s.ld j a w).some g.symm
    rcases p with ⟨p1, p2, p3⟩ | ⟨p1, p3⟩ <;> rcases q with ⟨q1, q2, q3⟩ | ⟨q1, q3⟩
    · exact s2.dis i j a h p3 q3
    · exact mix i j p2 p1 p3 q1 q3
    · exact mix j i q2 q1 q3 p1 p3
    · exact s.dis i j a h p3 q3
  · intro i a p
    rcases p with ⟨p1, p2, p3⟩ | ⟨p1, p3⟩
    · exact s2.ld i a p3
    · have l := s.ld i a p3
      cases e : H a with
      | none => exact absurd e l.some
      | some o => rw [stand i p1 a o p3 e, ← e]; exact l
  · intro i a p
    rcases p with ⟨p1, p2, p3⟩ | ⟨p1, p3⟩
    · exact nf a (s2.nf i a p3)
    · by_cases hZ : Z.contains i = true
      · unfold lessT; rw [if_pos ⟨i, hZ, p3⟩]
      · have hZ' : Z.contains i = false := by simpa using hZ
        rcases p1 with p1 | p1
        · exact absurd p1 hZ
        · refine nf a (fe.out a ?_ ?_)
          · rw [tmpG_hid (s.ng i a p3) hZ' p1 p3]; exact (s.ld i a p3).some
          · rw [addH_out]
            · exact s.nf i a p3
            · rintro ⟨j, hj, z⟩
              exact s.dis i j a (fun e => by subst e; exact hZ hj) p3 z
  · intro i a p
    rcases p with ⟨p1, p2, p3⟩ | ⟨p1, p3⟩
    · exact tmpG_le (s2.ng i a p3)
    · exact s.ng i a p3
  · intro a o e
    unfold lessT at e
    split at e
    · cases e
    · exact s2.sf _ _ e
  · intro a o e
    exact s2.sg _ _ (tmpG_of e)
  · refine ⟨sFF, fun a hg e => nf a (fe.out a ?_ ?_)⟩
    · cases q : G a with
      | none => exact absurd q hg
      | some o => rw [tmpG_of q]; simp
    · rw [addH_out]
      · exact e
      · rintro ⟨j, hj, z⟩
        exact hg (s.ng j a z)
  · intro a h1 h2 h3 i p
    rcases p with ⟨p1, p2, p3⟩ | ⟨p1, p3⟩
    · exact h3 i p3
    · by_cases hZ : Z.contains i = true
      · exact (hT2 a ⟨i, hZ, p3⟩).1.some h1
      · have hZ' : Z.contains i = false := by simpa using hZ
        rcases p1 with p1 | p1
        · exact hZ p1
        · have g := tmpG_hid (H := H) (s.ng i a p3) hZ' p1 p3
          rw [h2] at g
          exact (s.ld i a p3).some g.symm
end
section
variable {X : Cx} {W : WX} {A : List Nat}
def flatX (x : Exc) : Bool := flatTs (x.args.map (·.2))
theorem RepX.keeps {K : PySem.W.Frag} {mg : Str → Option Value} {F F' H : Hp} {x : Exc} {c : Value} {dd : Option Addr} (h : RepX K mg F H x c dd) (k : Keeps F F') (f : flatX x = true) : RepX K mg F' H x c dd := by
  obtain ⟨C, d, fs, h1, h2, h3, h4, h5, h6⟩ := h
  exact ⟨C, d, fs, h1, h2, h3, h4, h5, Reps.keeps k h6 f⟩
def mTmp (Z L : List Nat) (m : ME) : ME := fun env => match m (tmpE Z L 0 env) with
  | .ok r e2 => if closedM r.1 r.2 && okL Z L 0 e2 then .ok r (backE Z L 0 env e2) else .stuck
  | .exc x e2 => if flatX x && okL Z L 0 e2 then .exc x (backE Z L 0 env e2) else .stuck
  | .stuck => .stuck
def mTmpT (Z L : List Nat) (m : MT) : MT := fun env => match m (tmpE Z L 0 env) with
  | .ok r e2 => if okL Z L 0 e2 then .ok r (backE Z L 0 env e2) else .stuck
  | .exc x e2 => if flatX x && okL Z L 0 e2 then .exc x (backE Z L 0 env e2) else .stuck
  | .stuck => .stuck
theorem de_tmp {e : Expr} {m : ME} (Z L : List Nat) (h : DE X W m e) : DE X W (mTmp Z L m) e := by
  refine PE.to h fun σ H Q ⟨G, F, env, fp, s, q⟩ => ?_
  refine ⟨_, _, _, _, s.temp Z L, ?_⟩
  unfold mTmp at q
  cases em : m (tmpE Z L 0 env) with
  | stuck => rw [em] at q; exact q
  | ok r e2 =>
    rw [em] at q
    simp only at q
    split at q
    · rename_i c
      rw [Bool.and_eq_true] at c
      intro v F' H' fp' S sv fe
      obtain ⟨F3, fp3, b⟩ := s.back Z L sv.ss fe c.2
      exact q v F3 H' fp3 S ⟨b.ss, sv.val.keeps b.keeps c.1, sv.vld, fun a z => b.nf a (sv.vnf a z), fun a z => b.ng a (sv.vng a z), fun i a z => b.out a (sv.vnf a z) (sv.vng a z) (fun i w => sv.vdis i a z w) i⟩ b.fe
    · exact q.elim
  | exc x e2 =>
    rw [em] at q
    simp only at q
    split at q
    · rename_i c
      rw [Bool.and_eq_true] at c
      intro cc dd F' H' fp' s' fe rx
      obtain ⟨F3, fp3, b⟩ := s.back Z L s' fe c.2
      exact q cc dd F3 H' fp3 b.ss b.fe (rx.keeps b.keeps c.1)
    · exact q.elim
theorem dt_tmp {e : Expr} {m : MT} (Z L : List Nat) (h : DT X W m e) : DT X W (mTmpT Z L m) e := by
  refine PT.to h fun σ H Q ⟨G, F, env, fp, s, q⟩ => ?_
  refine ⟨_, _, _, _, s.temp Z L, ?_⟩
  unfold mTmpT at q
  cases em : m (tmpE Z L 0 env) with
  | stuck => rw [em] at q; exact q
  | ok r e2 =>
    rw [em] at q
    simp only at q
    split at q
    · rename_i c
      intro F' H' fp' s' fe
      obtain ⟨F3, fp3, b⟩ := s.back Z L s' fe c
      exact q F3 H' fp3 b.ss b.fe
    · exact q.elim
  | exc x e2 =>
    rw [em] at q
    simp only at q
    split at q
    · rename_i c
      rw [Bool.and_eq_true] at c
      intro cc dd F' H' fp' s' fe rx
      obtain ⟨F3, fp3, b⟩ := s.back Z L s' fe c.2
      exact q cc dd F3 H' fp3 b.ss b.fe (rx.keeps b.keeps c.1)
    · exact q.elim
end
end DL

set_option autoImplicit false
set_option Elab.async false
set_option linter.all false
set_option maxRecDepth 100000
/-! DL: the program's own defs: what they promise over trees, their calls. -/
namespace DL
open PySem PySem.Spec PyProof.Rows L2

inductive FR where
  | ret (n : Nat) (d : D) (ds : List D) | exc (x : Exc) (ds : List D) | stuck
abbrev FSem := List D → FR
def mkEnv : List Nat → List D → DEnv
  | n :: pm, d :: ds => some (n, d) :: mkEnv pm ds
  | _, _ => []
theorem mkEnv_get : ∀ (pm : List Nat) (ds : List D) (i n : Nat) (d : D), (mkEnv pm ds)[i]? = some (some (n, d)) ↔ pm[i]? = some n ∧ ds[i]? = some d
  | [], _, i, n, d => by simp [mkEnv]
  | _ :: _, [], i, n, d => by simp [mkEnv]
  | m :: pm, e :: ds, 0, n, d => by simp [mkEnv]
  | m :: pm, e :: ds, i + 1, n, d => by simpa [mkEnv] using mkEnv_get pm ds i n d
theorem mkEnv_length : ∀ (pm : List Nat) (ds : List D), ds.length = pm.length → (mkEnv pm ds).length = pm.length
  | [], _, _ => by simp [mkEnv]
  | _ :: _, [], h => by simp at h
  | m :: pm, e :: ds, h => by simp [mkEnv, mkEnv_length pm ds (by simpa using h)]
/-- what a def promises over trees: pm the parameters' depths (0: shared; more: lent, handed back changed) -/
def spD (K : PySem.W.Frag) (mg : Str → Option Value) (pm : List Nat) (f : FSem) : Sp := fun vs H Q E => ∃ G F fp ds, ds.length = pm.length ∧ vs.length = pm.length ∧ SS K G F H (vs.map some) (mkEnv pm ds) fp ∧
  match f ds with
  | .ret n d ds' => ∀ v F' H' fp' S, ds'.length = pm.length → SV K G F' H' (vs.map some) (mkEnv pm ds') fp' n d v S → FrExt G F F' → Q v H'
  | .exc x ds' => ∀ c dd F' H' fp', ds'.length = pm.length → SS K G F' H' (vs.map some) (mkEnv pm ds') fp' → FrExt G F F' → RepX K mg F' H' x c dd → E c dd H'
  | .stuck => False

/-! ### from the body -/
def outs : List Nat → List D → DEnv → Option (List D)
  | [], [], _ => some []
  | 0 :: pm, d :: ds, _ :: e => (outs pm ds e).map (d :: ·)
  | (n + 1) :: pm, _ :: ds, some (m, d) :: e => if m = n + 1 then (outs pm ds e).map (d :: ·) else none
  | _, _, _ => none
theorem outs_get : ∀ (pm : List Nat) (ds : List D) (e : DEnv) (ds' : List D), outs pm ds e = some ds' → ds'.length = pm.length ∧ ∀ (i n : Nat) (d : D), pm[i]? = some n → ds'[i]? = some d → (n = 0 ∧ ds[i]? = some d) ∨ (n ≠ 0 ∧ e[i]? = some (some (n, d)))
  | [], [], e, ds', h => by simp only [outs, Option.some.injEq] at h; subst h; exact ⟨rfl, fun i n d h => by simp at h⟩
  | [], _ :: _, e, ds', h => by simp [outs] at h
  | 0 :: pm, [], e, ds', h => by simp [outs] at h
  | (n + 1) :: pm, [], e, ds', h => by simp [outs] at h
  | 0 :: pm, d :: ds, [], ds', h => by simp [outs] at h
  | (n + 1) :: pm, d :: ds, [], ds', h => by simp [outs] at h
  | (n + 1) :: pm, d :: ds, none :: e, ds', h => by simp [outs] at h
  | 0 :: pm, d :: ds, x :: e, ds', h => by
    simp only [outs] at h
    cases q : outs pm ds e with
    | none => rw [q] at h; cases h
    | some l =>
      rw [q] at h
      cases h
      obtain ⟨h1, h2⟩ := outs_get pm ds e l q
      refine ⟨by simp [h1], fun i n d' hn hd => ?_⟩
      cases i with
      | zero => simp at hn hd; subst hn hd; exact .inl ⟨rfl, rfl⟩
      | succ i => simpa using h2 i n d' (by simpa using hn) (by simpa using hd)
  | (k + 1) :: pm, d :: ds, some (m, x) :: e, ds', h => by
    simp only [outs] at h
    split at h
    · rename_i hm
      cases q : outs pm ds e with
      | none => rw [q] at h; cases h
      | some l =>
        rw [q] at h
        cases h
        obtain ⟨h1, h2⟩ := outs_get pm ds e l q
        refine ⟨by simp [h1], fun i n d' hn hd => ?_⟩
        cases i with
        | zero => simp at hn hd; subst hn hd hm; exact .inr ⟨by simp, rfl⟩
        | succ i => simpa using h2 i n d' (by simpa using hn) (by simpa using hd)
    · cases h
def fin (pm : List Nat) (ds : List D) (n : Nat) (d : D) (e : DEnv) : FR := match outs pm ds e with
  | some ds' => .ret n d ds'
  | none => .stuck
/-- a def from its body: nothing is raised -/
def fnSem (pm : List Nat) (k : Nat) (m : MS) : FSem := fun ds => match m (mkEnv pm ds ++ List.replicate k none) with
  | .nx e => fin pm ds 0 .non e
  | .ret n d e => fin pm ds n d e
  | _ => .stuck
abbrev W0 : WX := fun _ _ _ _ => False
theorem start_eq (N : List Str) (vs : List V) : start N vs = vs.map some ++ List.replicate (N.length - vs.length) none := rfl
section
variable {K : PySem.W.Frag} {mg : Str → Option Value} {G F H : Hp} {fp : Fp}
theorem SS.body {vs : List V} {pm : List Nat} {ds : List D} (s : SS K G F H (vs.map some) (mkEnv pm ds) fp) (k : Nat) : SS K G F H (vs.map some ++ List.replicate k none) (mkEnv pm ds ++ List.replicate k none) fp where
  len := by rw [List.length_append, List.length_append, s.len, List.length_replicate, List.length_replicate]
  slot := fun i n d q => by
    by_cases hi : i < (mkEnv pm ds).length
    · rw [List.getElem?_append_left hi] at q
      obtain ⟨v, h1, h2⟩ := s.slot i n d q
      exact ⟨v, by rw [List.getElem?_append_left (by rw [← s.len]; exact hi)]; exact h1, h2⟩
    · rw [List.getElem?_append_right (Nat.le_of_not_lt hi)] at q
      by_cases hk : i - (mkEnv pm ds).length < k
      · rw [List.getElem?_replicate_of_lt hk] at q; cases q
      · rw [List.getElem?_eq_none (by simpa using hk)] at q; cases q
  dis := s.dis
  ld := s.ld
  nf := s.nf
  ng := s.ng
  sf := s.sf
  sg := s.sg
/-- back at the parameters -/
theorem SS.params {vs : List V} {pm : List Nat} {ds ds' : List D} {k : Nat} {A : List Nat} {F' H' : Hp} {σ' : L2.St} {e : DEnv} {fp' : Fp} (s : SS K G F H (vs.map some) (mkEnv pm ds) fp) (hl : ds.length = pm.length) (hA : ∀ i n, pm[i]? = some n → n ≠ 0 → i ∉ A)
    (ag : Agree A (vs.map some ++ List.replicate k none) σ') (s' : SS K G F' H' σ' e fp') (fe : FrExt G F F') (ho : outs pm ds e = some ds') : ds'.length = pm.length ∧ SS K G F' H' (vs.map some) (mkEnv pm ds') fp' := by
  obtain ⟨h1, h2⟩ := outs_get pm ds e ds' ho
  refine ⟨h1, ⟨by rw [mkEnv_length pm ds' h1, ← mkEnv_length pm ds hl, s.len], fun i n d q => ?_, s'.dis, s'.ld, s'.nf, s'.ng, s'.sf, s'.sg⟩⟩
  obtain ⟨q1, q2⟩ := (mkEnv_get pm ds' i n d).mp q
  rcases h2 i n d q1 q2 with ⟨rfl, hd⟩ | ⟨hn, he⟩
  · obtain ⟨v, e1, e2⟩ := s.slot i 0 d ((mkEnv_get pm ds i 0 d).mpr ⟨q1, hd⟩)
    exact ⟨v, e1, Rep.mono fe.same e2⟩
  · obtain ⟨v, e1, e2⟩ := s'.slot i n d he
    have hi : i < (vs.map some).length := by
      rw [← s.len, mkEnv_length pm ds hl]
      exact (List.getElem?_eq_some_iff.mp q1).1
    rw [ag.2 i (hA i n q1 hn), List.getElem?_append_left hi] at e1
    exact ⟨v, e1, e2⟩
end
section
variable {P : Program} {w : World} {K : PySem.W.Frag} {mg : Str → Option Value} {base : Heap}
theorem fn_ok {x qual : Str} {st : Stmt} {f : Addr} {fd : FuncData} {N ps : List Str} {k : Nat} {pm A : List Nat} {m : MS} (Fn : Fun K x qual st f fd) (S : FnScope N ps (defScope st)) (hp : ps.length = pm.length) (kk : Nat) (hk : N.length - pm.length = kk) (hA : (List.range pm.length).all (fun i => pm[i]? == some 0 || !A.contains i) = true)
    (hbody : ∀ (cdv : Value) (Ar : Around) (outer : List PySem.Env) (s : Shared) (H : Hp) (E : XK), Room k (Ar.deeper (envOfC qual (defScope st) s.heap.objs.size f cdv)) →
      DSs (cxOf CX0 P w K mg base N qual (defScope st) f cdv Ar outer s H E).nox W0 A m (defBody st)) : FnOk P w K mg base CX0 (k + 1) f fd ps (spD K mg pm (fnSem pm kk m)) := by
  refine Fn.ok S (fun vs H Q E h => ?_) (fun cdv Ar outer s H vs Q E hr h => ⟨_, hbody cdv Ar outer s H E hr, ?_⟩)
  · obtain ⟨G, F, fp, ds, h1, h2, _⟩ := h
    rw [h2, hp]
  · obtain ⟨G, F, fp, ds, h1, h2, ss, q⟩ := h
    have hA' : ∀ i n, pm[i]? = some n → n ≠ 0 → i ∉ A := fun i n hn h0 hi => by
      have := List.all_eq_true.mp hA i (List.mem_range.mpr (List.getElem?_eq_some_iff.mp hn).1)
      rw [hn] at this
      simp [hi, h0] at this
    refine ⟨G, F, _, fp, (by rw [start_eq, h2, hk]; exact ss.body kk), ?_⟩
    unfold fnSem fin at q
    show RGS K mg W0 G F A (start N vs) _ (m (mkEnv pm ds ++ List.replicate kk none))
    rw [start_eq, h2, hk]
    cases e : m (mkEnv pm ds ++ List.replicate kk none) with
    | nx e1 =>
      rw [e] at q
      dsimp only at q
      cases eo : outs pm ds e1 with
      | none => rw [eo] at q; exact q.elim
      | some ds' =>
        rw [eo] at q
        intro σ' F' H' fp' ag s' fe
        obtain ⟨l, s2⟩ := ss.params h1 hA' ag s' fe eo
        exact q .non F' H' fp' _ l (SV.of_rep s2 .non) fe
    | ret n d e1 =>
      rw [e] at q
      dsimp only at q
      cases eo : outs pm ds e1 with
      | none => rw [eo] at q; exact q.elim
      | some ds' =>
        rw [eo] at q
        intro v σ' F' H' fp' S' ag s' fe
        obtain ⟨l, s2⟩ := ss.params h1 hA' ag s'.ss fe eo
        exact q v F' H' fp' _ l ⟨s2, s'.val, s'.vld, s'.vnf, s'.vng, s'.vdis⟩ fe
    | brk e1 => rw [e] at q; exact q.elim
    | cont e1 => rw [e] at q; exact q.elim
    | exc x e1 => rw [e] at q; exact q.elim
    | stuck => rw [e] at q; exact q.elim
end

/-! ### calls -/
inductive DArg where
  | ex (m : ME) | ln (i : Nat)
def mArgs : List DArg → DEnv → Out (List (Sum D Nat))
  | [], env => .ok [] env
  | .ex m :: r, env => (m env).bind fun a e1 => (mArgs r e1).bind fun l e2 => .ok (.inl a.2 :: l) e2
  | .ln i :: r, env => match env[i]? with
    | some (some _) => (mArgs r env).bind fun l e2 => .ok (.inr i :: l) e2
    | _ => .stuck
def ArgOk (K : PySem.W.Frag) (F : Hp) (σ : L2.St) : List (Sum D Nat) → List V → Prop
  | [], [] => True
  | .inl d :: l, v :: vs => Rep K F d v ∧ ArgOk K F σ l vs
  | .inr i :: l, v :: vs => σ[i]? = some (some v) ∧ ArgOk K F σ l vs
  | _, _ => False
theorem ArgOk.mono {K : PySem.W.Frag} {F F' : Hp} {σ : L2.St} (e : Same F F') : ∀ {l : List (Sum D Nat)} {vs : List V}, ArgOk K F σ l vs → ArgOk K F' σ l vs
  | [], [], _ => trivial
  | .inl _ :: _, _ :: _, h => ⟨h.1.mono e, ArgOk.mono e h.2⟩
  | .inr _ :: _, _ :: _, h => ⟨h.1, ArgOk.mono e h.2⟩
  | [], _ :: _, h => h.elim
  | .inl _ :: _, [], h => h.elim
  | .inr _ :: _, [], h => h.elim
theorem ArgOk.length {K : PySem.W.Frag} {F : Hp} {σ : L2.St} : ∀ {l : List (Sum D Nat)} {vs : List V}, ArgOk K F σ l vs → l.length = vs.length
  | [], [], _ => rfl
  | .inl _ :: _, _ :: _, h => by simp [ArgOk.length h.2]
  | .inr _ :: _, _ :: _, h => by simp [ArgOk.length h.2]
  | [], _ :: _, h => h.elim
  | .inl _ :: _, [], h => h.elim
  | .inr _ :: _, [], h => h.elim
theorem ArgOk.get {K : PySem.W.Frag} {F : Hp} {σ : L2.St} : ∀ {l : List (Sum D Nat)} {vs : List V} {k : Nat} {a : Sum D Nat}, ArgOk K F σ l vs → l[k]? = some a → ∃ v, vs[k]? = some v ∧ (match a with | .inl d => Rep K F d v | .inr i => σ[i]? = some (some v))
  | [], [], _, _, _, e => by simp at e
  | .inl _ :: _, _ :: _, 0, a, h, e => by simp at e; subst e; exact ⟨_, rfl, h.1⟩
  | .inr _ :: _, _ :: _, 0, a, h, e => by simp at e; subst e; exact ⟨_, rfl, h.1⟩
  | .inl _ :: _, _ :: _, k + 1, a, h, e => by
    obtain ⟨v, h1, h2⟩ := ArgOk.get (k := k) (a := a) h.2 (by simpa using e)
    exact ⟨v, by simpa using h1, h2⟩
  | .inr _ :: _, _ :: _, k + 1, a, h, e => by
    obtain ⟨v, h1, h2⟩ := ArgOk.get (k := k) (a := a) h.2 (by simpa using e)
    exact ⟨v, by simpa using h1, h2⟩
  | [], _ :: _, _, _, h, _ => h.elim
  | .inl _ :: _, [], _, _, h, _ => h.elim
  | .inr _ :: _, [], _, _, h, _ => h.elim
def tAr (K : PySem.W.Frag) (mg : Str → Option Value) (W : WX) (l : List DArg) : TA := fun σ H Q => ∃ G F env fp, SS K G F H σ env fp ∧
  RG K mg W G F σ (fun l e => ∀ vs F' H' fp', SS K G F' H' σ e fp' → ArgOk K F' σ l vs → FrExt G F F' → Q vs H') (mArgs l env)
def DAr (X : Cx) (W : WX) (l : List DArg) (es : List Expr) : Prop := PA X es (tAr X.K X.mg W l)
section
variable {X : Cx} {W : WX} {A : List Nat}
theorem dar_nil : DAr X W [] [] := PA.to pa_nil fun σ H Q ⟨G, F, env, fp, s, h⟩ => h [] F H fp s trivial .refl
theorem dar_ex {e : Expr} {es : List Expr} {m : ME} {l : List DArg} (h : DE X W m e) (hs : DAr X W l es) (hst : starEach (e :: es) X.env = (false, eval e X.env) :: starEach es X.env := by rfl) : DAr X W (.ex m :: l) (e :: es) := by
  refine PA.to (pa_cons h hs hst) fun σ H Q ⟨G, F, env, fp, s, h⟩ => ?_
  refine tE.of s h.bind fun r1 e1 F1 H1 fp1 v1 p1 s1 rep1 fe1 => ?_
  refine ⟨G, F1, e1, fp1, s1, RG.imp p1.bind fe1 fun l e p vs F' H' fp' s' a fe => ?_⟩
  exact p _ F' H' fp' s' ⟨rep1.mono fe.same, a⟩ (fe1.trans fe)
theorem dar_ln {i : Nat} {e : Expr} {es : List Expr} {l : List DArg} (h : PE X e (tVar i)) (hs : DAr X W l es) (hst : starEach (e :: es) X.env = (false, eval e X.env) :: starEach es X.env := by rfl) : DAr X W (.ln i :: l) (e :: es) := by
  refine PA.to (pa_cons h hs hst) fun σ H Q ⟨G, F, env, fp, s, h⟩ => ?_
  unfold mArgs at h
  split at h
  · rename_i p hp
    obtain ⟨n, d⟩ := p
    obtain ⟨v, hv, _⟩ := s.slot i n d hp
    refine ⟨v, hv, G, F, env, fp, s, RG.imp h.bind .refl fun l e p vs F' H' fp' s' a fe => ?_⟩
    exact p _ F' H' fp' s' ⟨hv, a⟩ fe
  · exact h.elim
end
def resolve : List Nat → List (Sum D Nat) → DEnv → Option (List D)
  | [], [], _ => some []
  | 0 :: pm, .inl d :: l, e => (resolve pm l e).map (d :: ·)
  | (n + 1) :: pm, .inr i :: l, e => match e[i]? with
    | some (some (m, d)) => if m = n + 1 then (resolve pm l e).map (d :: ·) else none
    | _ => none
  | _, _, _ => none
theorem resolve_get : ∀ (pm : List Nat) (l : List (Sum D Nat)) (e : DEnv) (ds : List D), resolve pm l e = some ds → ds.length = pm.length ∧ l.length = pm.length ∧ ∀ (k n : Nat) (d : D), pm[k]? = some n → ds[k]? = some d →
    (n = 0 ∧ l[k]? = some (Sum.inl d)) ∨ (∃ i : Nat, n ≠ 0 ∧ l[k]? = some (Sum.inr i) ∧ e[i]? = some (some (n, d)))
  | [], [], e, ds, h => by simp only [resolve, Option.some.injEq] at h; subst h; exact ⟨rfl, rfl, fun k n d h => by simp at h⟩
  | [], _ :: _, e, ds, h => by simp [resolve] at h
  | 0 :: pm, [], e, ds, h => by simp [resolve] at h
  | (n + 1) :: pm, [], e, ds, h => by simp [resolve] at h
  | 0 :: pm, .inr _ :: l, e, ds, h => by simp [resolve] at h
  | (n + 1) :: pm, .inl _ :: l, e, ds, h => by simp [resolve] at h
  | 0 :: pm, .inl x :: l, e, ds, h => by
    simp only [resolve] at h
    cases q : resolve pm l e with
    | none => rw [q] at h; cases h
    | some r =>
      rw [q] at h
      cases h
      obtain ⟨h1, h2, h3⟩ := resolve_get pm l e r q
      refine ⟨by simp [h1], by simp [h2], fun k n d hn hd => ?_⟩
      cases k with
      | zero => simp at hn hd; subst hn hd; exact .inl ⟨rfl, rfl⟩
      | succ k => simpa using h3 k n d (by simpa using hn) (by simpa using hd)
  | (j + 1) :: pm, .inr i :: l, e, ds, h => by
    simp only [resolve] at h
    split at h
    · rename_i m x hx
      split at h
      · rename_i hm
        cases q : resolve pm l e with
        | none => rw [q] at h; cases h
        | some r =>
          rw [q] at h
          cases h
          obtain ⟨h1, h2, h3⟩ := resolve_get pm l e r q
          refine ⟨by simp [h1], by simp [h2], fun k n d hn hd => ?_⟩
          cases k with
          | zero => simp at hn hd; subst hn hd hm; exact .inr ⟨i, by simp, rfl, hx⟩
          | succ k => simpa using h3 k n d (by simpa using hn) (by simpa using hd)
      · cases h
    · cases h
/-- what was lent comes back -/
def putBack : List Nat → List (Sum D Nat) → List D → DEnv → DEnv
  | n :: pm, .inr i :: l, d :: ds, e => putBack pm l ds (e.set i (some (n, d)))
  | _ :: pm, .inl _ :: l, _ :: ds, e => putBack pm l ds e
  | _, _, _, e => e
def lentOf : List (Sum D Nat) → List Nat
  | [] => []
  | .inl _ :: l => lentOf l
  | .inr i :: l => i :: lentOf l
theorem lentOf_mem : ∀ {l : List (Sum D Nat)} {i : Nat}, i ∈ lentOf l ↔ ∃ k : Nat, l[k]? = some (Sum.inr i)
  | [], i => by simp [lentOf]
  | .inl d :: l, i => by
    rw [lentOf, lentOf_mem]
    constructor
    · rintro ⟨k, h⟩; exact ⟨k + 1, by simpa using h⟩
    · rintro ⟨k, h⟩
      cases k with
      | zero => simp at h
      | succ k => exact ⟨k, by simpa using h⟩
  | .inr j :: l, i => by
    rw [lentOf, List.mem_cons, lentOf_mem]
    constructor
    · rintro (rfl | ⟨k, h⟩)
      · exact ⟨0, rfl⟩
      · exact ⟨k + 1, by simpa using h⟩
    · rintro ⟨k, h⟩
      cases k with
      | zero => simp at h; exact .inl h.symm
      | succ k => exact .inr ⟨k, by simpa using h⟩
theorem lentOf_inj : ∀ {l : List (Sum D Nat)} {i k k' : Nat}, (lentOf l).Nodup → l[k]? = some (Sum.inr i) → l[k']? = some (Sum.inr i) → k = k'
  | [], i, k, k', _, h, _ => by simp at h
  | .inl d :: l, i, k, k', nd, h, h' => by
    cases k with
    | zero => simp at h
    | succ k =>
      cases k' with
      | zero => simp at h'
      | succ k' => exact congrArg (· + 1) (lentOf_inj (l := l) (i := i) (k := k) (k' := k') nd (by simpa using h) (by simpa using h'))
  | .inr j :: l, i, k, k', nd, h, h' => by
    rw [lentOf, List.nodup_cons] at nd
    cases k with
    | zero =>
      cases k' with
      | zero => rfl
      | succ k' =>
        simp at h; subst h
        exact absurd (lentOf_mem.mpr ⟨k', by simpa using h'⟩) nd.1
    | succ k =>
      cases k' with
      | zero =>
        simp at h'; subst h'
        exact absurd (lentOf_mem.mpr ⟨k, by simpa using h⟩) nd.1
      | succ k' => exact congrArg (· + 1) (lentOf_inj (l := l) (i := i) (k := k) (k' := k') nd.2 (by simpa using h) (by simpa using h'))
theorem putBack_length : ∀ (pm : List Nat) (l : List (Sum D Nat)) (ds : List D) (e : DEnv), (putBack pm l ds e).length = e.length
  | [], _, _, e => by simp [putBack]
  | _ :: _, [], _, e => by simp [putBack]
  | _ :: _, .inl _ :: _, [], e => by simp [putBack]
  | _ :: _, .inr _ :: _, [], e => by simp [putBack]
  | n :: pm, .inl _ :: l, _ :: ds, e => by simp only [putBack]; exact putBack_length pm l ds e
  | n :: pm, .inr i :: l, d :: ds, e => by simp only [putBack]; rw [putBack_length pm l ds]; simp
theorem putBack_out : ∀ (pm : List Nat) (l : List (Sum D Nat)) (ds : List D) (e : DEnv) (i : Nat), i ∉ lentOf l → (putBack pm l ds e)[i]? = e[i]?
  | [], _, _, e, i, _ => by simp [putBack]
  | _ :: _, [], _, e, i, _ => by simp [putBack]
  | _ :: _, .inl _ :: _, [], e, i, _ => by simp [putBack]
  | _ :: _, .inr _ :: _, [], e, i, _ => by simp [putBack]
  | n :: pm, .inl _ :: l, _ :: ds, e, i, h => by simp only [putBack]; exact putBack_out pm l ds e i h
  | n :: pm, .inr j :: l, d :: ds, e, i, h => by
    simp only [lentOf, List.mem_cons, not_or] at h
    simp only [putBack]
    rw [putBack_out pm l ds _ i h.2, List.getElem?_set_ne (Ne.symm h.1)]
theorem putBack_in : ∀ (pm : List Nat) (l : List (Sum D Nat)) (ds : List D) (e : DEnv) (i k n : Nat) (d : D), (lentOf l).Nodup → i < e.length → pm[k]? = some n → l[k]? = some (.inr i) → ds[k]? = some d → (putBack pm l ds e)[i]? = some (some (n, d))
  | [], _, _, e, i, k, n, d, _, _, h, _, _ => by simp at h
  | _ :: _, [], _, e, i, k, n, d, _, _, _, h, _ => by simp at h
  | _ :: _, .inl _ :: _, [], e, i, k, n, d, _, _, _, _, h => by simp at h
  | _ :: _, .inr _ :: _, [], e, i, k, n, d, _, _, _, _, h => by simp at h
  | m :: pm, .inl _ :: l, _ :: ds, e, i, 0, n, d, nd, hi, h1, h2, h3 => by simp at h2
  | m :: pm, .inl _ :: l, _ :: ds, e, i, k + 1, n, d, nd, hi, h1, h2, h3 => by
    simp only [putBack]
    exact putBack_in pm l ds e i k n d nd hi (by simpa using h1) (by simpa using h2) (by simpa using h3)
  | m :: pm, .inr j :: l, x :: ds, e, i, 0, n, d, nd, hi, h1, h2, h3 => by
    simp at h1 h2 h3; subst h1 h2 h3
    rw [lentOf, List.nodup_cons] at nd
    simp only [putBack]
    rw [putBack_out pm l ds _ j nd.1, List.getElem?_set_self hi]
  | m :: pm, .inr j :: l, x :: ds, e, i, k + 1, n, d, nd, hi, h1, h2, h3 => by
    rw [lentOf, List.nodup_cons] at nd
    simp only [putBack]
    exact putBack_in pm l ds _ i k n d nd.2 (by simpa using hi) (by simpa using h1) (by simpa using h2) (by simpa using h3)
/-- a call: the callee's answer; what was lent comes back changed -/
def mCallK (pm : List Nat) (f : FSem) (l : List (Sum D Nat)) (env : DEnv) : Out (Nat × D) :=
  if (lentOf l).Nodup then match resolve pm l env with
    | none => .stuck
    | some ds => match f ds with
      | .ret n d ds' => if ds'.length = pm.length then .ok (n, d) (putBack pm l ds' env) else .stuck
      | .exc x ds' => if ds'.length = pm.length then .exc x (putBack pm l ds' env) else .stuck
      | .stuck => .stuck
  else .stuck
def mCall (pm : List Nat) (f : FSem) (l : List DArg) : ME := fun env => (mArgs l env).bind (mCallK pm f)
open Classical in
noncomputable def lessG (H : Hp) (fp : Fp) (l : List (Sum D Nat)) : Hp := fun a => if (∃ i, i ∈ lentOf l ∧ fp i a) then none else H a
theorem lessG_in {H : Hp} {fp : Fp} {l : List (Sum D Nat)} {a : Addr} (h : ∀ i, i ∈ lentOf l → fp i a → False) : lessG H fp l a = H a := if_neg fun ⟨i, h1, h2⟩ => h i h1 h2
theorem lessG_out {H : Hp} {fp : Fp} {l : List (Sum D Nat)} {a : Addr} {i : Nat} (h1 : i ∈ lentOf l) (h2 : fp i a) : lessG H fp l a = none := if_pos ⟨i, h1, h2⟩
def fpIn (fp : Fp) (l : List (Sum D Nat)) : Fp := fun k a => ∃ i, l[k]? = some (.inr i) ∧ fp i a
/-- behind the call -/
def fpOut (fp fp' : Fp) (l : List (Sum D Nat)) : Fp := fun i a => (∃ k, l[k]? = some (.inr i) ∧ fp' k a) ∨ (i ∉ lentOf l ∧ fp i a)
section
variable {K : PySem.W.Frag} {mg : Str → Option Value} {G F H : Hp} {σ : L2.St} {env : DEnv} {fp : Fp}
theorem SS.callee {l : List (Sum D Nat)} {pm : List Nat} {ds : List D} {vs : List V} (s : SS K G F H σ env fp) (nd : (lentOf l).Nodup) (hr : resolve pm l env = some ds) (ha : ArgOk K F σ l vs) : SS K (lessG H fp l) F H (vs.map some) (mkEnv pm ds) (fpIn fp l) := by
  obtain ⟨h1, h2, h3⟩ := resolve_get pm l env ds hr
  refine ⟨by rw [mkEnv_length pm ds h1, List.length_map, ← ha.length, h2], fun k n d q => ?_, fun k k' a hk p q => ?_, fun k a p => ?_, fun k a p => ?_, fun k a p => ?_, s.sf, fun a o e => ?_⟩
  · obtain ⟨q1, q2⟩ := (mkEnv_get pm ds k n d).mp q
    rcases h3 k n d q1 q2 with ⟨rfl, hl⟩ | ⟨i, hn, hl, he⟩
    · obtain ⟨v, hv, r⟩ := ha.get hl
      exact ⟨v, by rw [List.getElem?_map, hv]; rfl, r⟩
    · obtain ⟨v, hv, r⟩ := ha.get hl
      obtain ⟨v', hv', r'⟩ := s.slot i n d he
      have : v = v' := by
        have z : σ[i]? = some (some v) := r
        rw [z] at hv'; cases hv'; rfl
      subst this
      exact ⟨v, by rw [List.getElem?_map, hv]; rfl, r'.wid fun a z => ⟨i, hl, z⟩⟩
  · obtain ⟨i, hi, z⟩ := p
    obtain ⟨j, hj, w⟩ := q
    by_cases e : i = j
    · subst e; exact hk (lentOf_inj nd hi hj)
    · exact s.dis i j a e z w
  · obtain ⟨i, hi, z⟩ := p; exact s.ld i a z
  · obtain ⟨i, hi, z⟩ := p; exact s.nf i a z
  · obtain ⟨i, hi, z⟩ := p; exact lessG_out (lentOf_mem.mpr ⟨k, hi⟩) z
  · unfold lessG at e
    split at e
    · cases e
    · exact e
theorem SS.caller {l : List (Sum D Nat)} {pm : List Nat} {ds ds' : List D} {vs : List V} {F' H' : Hp} {fp' : Fp} (s : SS K G F H σ env fp) (nd : (lentOf l).Nodup) (hr : resolve pm l env = some ds) (ha : ArgOk K F σ l vs) (hl' : ds'.length = pm.length)
    (s' : SS K (lessG H fp l) F' H' (vs.map some) (mkEnv pm ds') fp') (fe : FrExt (lessG H fp l) F F') :
    SS K G F' H' σ (putBack pm l ds' env) (fpOut fp fp' l) ∧ FrExt G F F' ∧ (∀ a, lessG H fp l a = none → G a = none) ∧ (∀ S : Addr → Prop, (∀ a, S a → lessG H fp l a = none) → (∀ k a, S a → fp' k a → False) → ∀ i a, S a → fpOut fp fp' l i a → False) := by
  obtain ⟨h1, h2, h3⟩ := resolve_get pm l env ds hr
  have gg : ∀ a o, G a = some o → lessG H fp l a = some o := fun a o e => by
    rw [lessG_in fun i hi z => by rw [s.ng i a z] at e; cases e]
    exact s.sg _ _ e
  have gn : ∀ a, lessG H fp l a = none → G a = none := fun a e => by
    cases q : G a with
    | none => rfl
    | some o => rw [gg a o q] at e; cases e
  have stand : ∀ i, i ∉ lentOf l → ∀ a, fp i a → lessG H fp l a = H a := fun i hi a z => lessG_in fun j hj w => s.dis i j a (fun e => hi (e ▸ hj)) z w
  have ddis : ∀ i, i ∉ lentOf l → ∀ a, fp i a → lessG H fp l a ≠ none := fun i hi a z => by rw [stand i hi a z]; exact (s.ld i a z).some
  refine ⟨⟨by rw [putBack_length]; exact s.len, fun i n d q => ?_, fun i j a h p q => ?_, fun i a p => ?_, fun i a p => ?_, fun i a p => ?_, s'.sf, fun a o e => s'.sg _ _ (gg a o e)⟩,
    ⟨fe.same, fun a h e => fe.out a (by cases q : G a with | none => exact absurd q h | some o => rw [gg a o q]; simp) e⟩, gn, fun S hs hd i a z w => ?_⟩
  · by_cases hi : i ∈ lentOf l
    · obtain ⟨k, hk⟩ := lentOf_mem.mp hi
      have hkl : k < pm.length := by rw [← h2]; exact (List.getElem?_eq_some_iff.mp hk).1
      obtain ⟨n', hn'⟩ : ∃ n', pm[k]? = some n' := ⟨_, List.getElem?_eq_getElem hkl⟩
      obtain ⟨d', hd'⟩ : ∃ d', ds'[k]? = some d' := ⟨_, List.getElem?_eq_getElem (by rw [hl']; exact hkl)⟩
      obtain ⟨v, hv, r⟩ := ha.get hk
      have hσ : σ[i]? = some (some v) := r
      have hil : i < env.length := by rw [s.len]; exact (List.getElem?_eq_some_iff.mp hσ).1
      rw [putBack_in pm l ds' env i k n' d' nd hil hn' hk hd'] at q
      cases q
      obtain ⟨v', hv', r'⟩ := s'.slot k n d ((mkEnv_get pm ds' k n d).mpr ⟨hn', hd'⟩)
      rw [List.getElem?_map, hv] at hv'
      cases hv'
      exact ⟨v, hσ, r'.wid fun a z => .inl ⟨k, hk, z⟩⟩
    · rw [putBack_out pm l ds' env i hi] at q
      obtain ⟨v, hv, r⟩ := s.slot i n d q
      exact ⟨v, hv, r.imp fe.same (fun a z => .inr ⟨hi, z⟩) fun a o z e => s'.sg _ _ ((stand i hi a z).trans e)⟩
  · rcases p with ⟨k, hk, p⟩ | ⟨hi, p⟩ <;> rcases q with ⟨k', hk', q⟩ | ⟨hj, q⟩
    · refine s'.dis k k' a (fun e => ?_) p q
      subst e; rw [hk] at hk'; cases hk'; exact h rfl
    · exact ddis j hj a q (s'.ng k a p)
    · exact ddis i hi a p (s'.ng k' a q)
    · exact s.dis i j a h p q
  · rcases p with ⟨k, hk, p⟩ | ⟨hi, p⟩
    · exact s'.ld k a p
    · have ld := s.ld i a p
      cases e : H a with
      | none => exact absurd e ld.some
      | some o => rw [s'.sg a o ((stand i hi a p).trans e), ← e]; exact ld
  · rcases p with ⟨k, hk, p⟩ | ⟨hi, p⟩
    · exact s'.nf k a p
    · exact fe.out a (ddis i hi a p) (s.nf i a p)
  · rcases p with ⟨k, hk, p⟩ | ⟨hi, p⟩
    · exact gn a (s'.ng k a p)
    · exact s.ng i a p
  · rcases w with ⟨k, hk, w⟩ | ⟨hi, w⟩
    · exact hd k a z w
    · exact ddis i hi a w (hs a z)
end
/-- a def of the program that raises nothing -/
def FnD (P : Program) (w : World) (K : PySem.W.Frag) (mg : Str → Option Value) (base : Heap) (k : Nat) (x : Str) (pm : List Nat) (f : FSem) : Prop :=
  ∃ (fa : Addr) (fd : FuncData) (ps : List Str), FnOk P w K mg base CX0 k fa fd ps (spD K mg pm f) ∧ Binds K fd ps [] ∧ mg x = some (.ref fa) ∧ PySem.W.keepIn K (.ref fa) = true
section
variable {X : Cx} {W : WX}
theorem spD_call {pm : List Nat} {f : FSem} {l : List (Sum D Nat)} {G F F1 H1 : Hp} {σ : L2.St} {e1 : DEnv} {fp1 : Fp} {vs : List V} {Q : VK} {E : XK} (s1 : SS X.K G F1 H1 σ e1 fp1) (ha : ArgOk X.K F1 σ l vs) (fe1 : FrExt G F F1)
    (h : RG X.K X.mg W G F σ (PV X.K G F σ Q) (mCallK pm f l e1)) (hE : ∀ c dd H', W c dd σ H' → E c dd H') : spD X.K X.mg pm f vs H1 Q E := by
  unfold mCallK at h
  split at h
  · rename_i nd
    cases hr : resolve pm l e1 with
    | none => rw [hr] at h; exact h.elim
    | some ds =>
      rw [hr] at h
      dsimp only at h
      obtain ⟨h1, h2, h3⟩ := resolve_get pm l e1 ds hr
      refine ⟨lessG H1 fp1 l, F1, fpIn fp1 l, ds, h1, by rw [← ha.length, h2], s1.callee nd hr ha, ?_⟩
      cases hf : f ds with
      | stuck => rw [hf] at h; exact h.elim
      | ret n d ds' =>
        rw [hf] at h
        intro v F' H' fp' S hl sv fe
        dsimp only at h
        rw [if_pos hl] at h
        obtain ⟨s2, f2, gn, dd⟩ := s1.caller nd hr ha hl sv.ss fe
        exact h v F' H' _ S ⟨s2, sv.val, sv.vld, sv.vnf, fun a z => gn a (sv.vng a z), fun i a z w => dd S sv.vng sv.vdis i a z w⟩ (fe1.trans f2)
      | exc x ds' =>
        rw [hf] at h
        intro c dd F' H' fp' hl ss fe rx
        dsimp only at h
        rw [if_pos hl] at h
        obtain ⟨s2, f2, gn, _⟩ := s1.caller nd hr ha hl ss fe
        exact hE _ _ _ (h c dd F' H' _ s2 (fe1.trans f2) rx)
  · exact h.elim
theorem de_call {k : Nat} {x : Str} {pm : List Nat} {f : FSem} {p pos : Pos} {e : Expr} {es : List Expr} {l : List DArg} (C : FnD X.prog X.w X.K X.mg X.base k x pm f) (hf : ∀ ds x ds', f ds ≠ .exc x ds') (hr : Room k X.A) (hg : Gl X x) (ha : DAr X W l (e :: es)) (hdb : (x == ("__debug__" : Str)) = false := by decide) (he : starEach (e :: es) X.env = (false, eval e X.env) :: starEach es X.env := by rfl) (hpl : (backTo pos (starEach es X.env)).any (·.1) = false := by rfl) :
    DE X W (mCall pm f l) (.Call (.Name x p) (e :: es) [] pos) := by
  obtain ⟨fa, fd, ps, F, hb, hm, hk⟩ := C
  refine PE.to (pe_call F hr hg hm hk hb .nil pass0 ha hdb he hpl) fun σ H Q ⟨G, F, env, fp, s, h⟩ => ?_
  refine ⟨G, F, env, fp, s, RG.imp h.bind .refl fun l e1 p vs F' H' fp' s' a fe => ?_⟩
  show spD X.K X.mg pm f (vs ++ []) H' Q E0
  rw [List.append_nil]
  have h' : RG X.K X.mg W0 G F σ (PV X.K G F σ Q) (mCallK pm f l e1) := by
    unfold mCallK at p ⊢
    split at p
    · rename_i nd
      rw [if_pos nd]
      cases hr : resolve pm l e1 with
      | none => rw [hr] at p; exact p.elim
      | some ds =>
        rw [hr] at p
        dsimp only at p ⊢
        cases hf' : f ds with
        | stuck => rw [hf'] at p; exact p.elim
        | exc x ds' => exact absurd hf' (hf ds x ds')
        | ret n d ds' =>
          rw [hf'] at p
          dsimp only at p ⊢
          by_cases hl : ds'.length = pm.length
          · rw [if_pos hl] at p ⊢; exact p
          · rw [if_neg hl] at p; exact p.elim
    · exact p.elim
  exact spD_call (W := W0) s' a fe h' fun _ _ _ z => z
theorem fnSem_noexc (pm : List Nat) (k : Nat) (m : MS) : ∀ ds x ds', fnSem pm k m ds ≠ .exc x ds' := fun ds x ds' h => by
  unfold fnSem fin at h
  split at h
  · split at h <;> cases h
  · split at h <;> cases h
  · cases h
end
end DL

set_option autoImplicit false
set_option Elab.async false
set_option linter.all false
set_option maxRecDepth 100000
/-! DL: comprehensions; stores into what a name owns. -/
namespace DL
open PySem PySem.Spec PyProof.Rows L2

/-! ### comprehensions -/
def compL (g : DTg) (vs : List Nat) (mc : MT) (me : ME) : List D → List D → DEnv → Out (Nat × D)
  | [], acc, e => .ok (1, .lst acc) e
  | d :: ds, acc, e => match g d e with
    | none => .stuck
    | some e1 => match mc e1 with
      | .ok b e2 => if b = true then (match me e2 with
          | .ok r e3 => if acc.length < 16777216 then compL g vs mc me ds (acc ++ [r.2]) (wipeD vs e3) else .stuck
          | _ => .stuck) else compL g vs mc me ds acc (wipeD vs e2)
      | _ => .stuck
def mComp (vs : List Nat) (g : DTg) (mi : MI) (mc : MT) (me : ME) : ME := fun env => (mi env).bind fun ds e => compL g vs mc me ds [] (wipeD vs e)
def mYes : MT := fun env => .ok true env
def DTs (X : Cx) (W : WX) (m : MT) (es : List Expr) : Prop := PTs X es (tT X.K X.mg W m)
section
variable {X : Cx} {W : WX}
theorem PTs.to {X : Cx} {e : List Expr} {t t' : TT} (h : PTs X e t) (i : ∀ σ H Q, t' σ H Q → t σ H Q) : PTs X e t' := ⟨fun pins s σ H Q I q => h.run pins s σ H Q I (i σ H Q q)⟩
theorem dts_nil : DTs X W mYes [] := PTs.to pts_nil fun σ H Q ⟨G, F, env, fp, s, q⟩ => q F H fp s .refl
theorem dts_one {c : Expr} {m : MT} (h : DT X W m c) : DTs X W m [c] := pts_one h
/-- a target in a block -/
def DGB (X : Cx) (A : List Nat) (g : DTg) (tg : Expr) (scope : Scope) : Prop := ∃ t : TG, (∀ (s : Shared) (H : Hp) (C : Addr) (cl : List (Str × Addr)) (fp : List Addr), PG (X.blk s H scope (compEnvC scope cl C X.env) fp) tg t) ∧
  ∀ (G F H : Hp) (σ : L2.St) (env : DEnv) (fp : Fp) (d : D) (v : V) (e' : DEnv), SS X.K G F H σ env fp → Rep X.K F d v → g d env = some e' →
  ∀ Q : L2.St → Hp → Prop, (∀ σ' fp', Agree A σ σ' → SS X.K G F H σ' e' fp' → Q σ' H) → t v σ H Q
theorem dgb_name {i : Nat} {x : Str} {pos : Pos} {scope : Scope} (h : ∀ (s : Shared) (H : Hp) (C : Addr) (cl : List (Str × Addr)) (fp : List Addr), PG (X.blk s H scope (compEnvC scope cl C X.env) fp) (.Name x pos) (gName i)) : DGB X [i] (gN i) (.Name x pos) scope :=
  ⟨gName i, h, fun G F H σ env fp d v e' s r h Q q => by
    cases h
    exact q _ _ (Agree.set σ i _) ((SV.of_rep s r).put i)⟩
def gNames : List Nat → TGs
  | [] => gNil
  | i :: is => gCons (gName i) (gNames is)
theorem gNames_ok {K : PySem.W.Frag} : ∀ (is : List Nat) (G F H : Hp) (σ : L2.St) (env : DEnv) (fp : Fp) (ds : List D) (vs : List V) (e' : DEnv), SS K G F H σ env fp → Reps K F ds vs → setAll is ds env = some e' →
    ∀ Q : L2.St → Hp → Prop, (∀ σ' fp', Agree is σ σ' → SS K G F H σ' e' fp' → Q σ' H) → gNames is vs σ H Q
  | [], G, F, H, σ, env, fp, ds, vs, e', s, r, h, Q, q => by
    cases r with
    | nil => cases h; exact ⟨rfl, q σ fp (Agree.refl _ _) s⟩
    | cons _ _ => cases h
  | i :: is, G, F, H, σ, env, fp, ds, vs, e', s, r, h, Q, q => by
    cases r with
    | nil => cases h
    | cons r1 rs =>
      refine ⟨_, _, rfl, ?_⟩
      refine gNames_ok is G F H _ _ _ _ _ e' ((SV.of_rep s r1).put i) rs h Q fun σ' fp' a s' => q σ' fp' ?_ s'
      exact (Agree.set σ i _).trans a (fun j hj => by rw [List.mem_singleton.mp hj]; exact List.mem_cons_self) fun j hj => List.mem_cons_of_mem _ hj
theorem dgb_tup {is : List Nat} {tgs : List Expr} {pos : Pos} {k : Nat} {scope : Scope} (h : ∀ (s : Shared) (H : Hp) (C : Addr) (cl : List (Str × Addr)) (fp : List Addr), PG (X.blk s H scope (compEnvC scope cl C X.env) fp) (.Tuple tgs k pos) (gTup X.K is.length (gNames is))) : DGB X is (gT is) (.Tuple tgs k pos) scope :=
  ⟨_, h, fun G F H σ env fp d v e' s r h Q q => by
    unfold gT at h
    cases d <;> first | cases h | skip
    obtain ⟨a, vs, rfl, hs, hr⟩ := Rep.tup_inv r
    exact ⟨a, vs, rfl, SqT.mono s.sf hs, by rw [← hr.length]; exact setAll_len _ _ _ _ h, gNames_ok is G F H σ env fp _ _ e' s hr h Q q⟩⟩
end
theorem wipe_get {σ : L2.St} {i : Nat} : ∀ (vs : List Nat), i ∈ vs → i < σ.length → (wipe σ vs)[i]? = some none
  | v :: vs, h, hl => by
    unfold wipe
    by_cases hv : v = i
    · subst hv; rw [List.getElem?_set_self (by rw [wipe_length]; exact hl)]
    · rw [List.getElem?_set_ne hv]
      rcases List.mem_cons.mp h with e | e
      · exact absurd e.symm hv
      · exact wipe_get vs e hl
theorem wipe_agree {σ σ2 : L2.St} {A vs : List Nat} (a : Agree A (wipe σ vs) σ2) (h : ∀ i ∈ A, i ∈ vs) : wipe σ2 vs = wipe σ vs := by
  have hl : σ2.length = σ.length := by rw [a.1, wipe_length]
  apply List.ext_getElem?
  intro i
  by_cases hi : i ∈ vs
  · by_cases hlt : i < σ.length
    · rw [wipe_get vs hi hlt, wipe_get vs hi (by rw [hl]; exact hlt)]
    · rw [List.getElem?_eq_none (by rw [wipe_length, hl]; omega), List.getElem?_eq_none (by rw [wipe_length]; omega)]
  · rw [wipe_out' hi, a.2 i fun z => hi (h i z)]
where
  wipe_out' {σ : L2.St} {i : Nat} {vs : List Nat} (h : i ∉ vs) : (wipe σ vs)[i]? = σ[i]? := by
    induction vs with
    | nil => rfl
    | cons v vs ih =>
      simp only [List.mem_cons, not_or] at h
      unfold wipe
      rw [List.getElem?_set_ne (Ne.symm h.1), ih h.2]
section
variable {K : PySem.W.Frag} {mg : Str → Option Value} {G F H : Hp} {σ : L2.St} {env : DEnv} {fp : Fp}
theorem SS.drop2 (i : Nat) (s : SS K G F H σ env fp) : SS K G F H (σ.set i none) (env.set i none) (fun j a => j ≠ i ∧ fp j a) :=
  { s.drop i with
    len := by rw [List.length_set, List.length_set]; exact s.len
    slot := fun j n d q => by
      obtain ⟨v, h1, h2⟩ := (s.drop i).slot j n d q
      refine ⟨v, ?_, h2⟩
      by_cases h : i = j
      · subst h
        by_cases hl : i < env.length
        · rw [List.getElem?_set_self hl] at q; cases q
        · rw [List.getElem?_eq_none (by simpa using hl)] at q; cases q
      · rw [List.getElem?_set_ne h]; exact h1 }
theorem SS.wipe2 : ∀ (js : List Nat), SS K G F H σ env fp → ∃ fp', SS K G F H (L2.wipe σ js) (wipeD js env) fp'
  | [], s => ⟨_, s⟩
  | j :: js, s => let ⟨_, s'⟩ := SS.wipe2 js s; ⟨_, s'.drop2 j⟩
theorem SS.unwipe {vs : List Nat} (s : SS K G F H (L2.wipe σ vs) env fp) : SS K G F H σ env fp :=
  { s with
    len := by rw [s.len, wipe_length]
    slot := fun j n d q => by
      obtain ⟨v, h1, h2⟩ := s.slot j n d q
      exact ⟨v, (wipe_some h1).1, h2⟩ }
/-- a new object stands aside -/
theorem SS.aside {p : Addr} {o : HO} (s : SS K G F H σ env fp) (hp : H p = none) : SS K (upd G p o) F (upd H p o) σ env fp where
  len := s.len
  slot := fun i n d q => by
    obtain ⟨v, h1, h2⟩ := s.slot i n d q
    exact ⟨v, h1, h2.imp (Same.refl _) (fun _ z => z) fun a u z e => by rw [upd_ne (ne_of_none e hp)]; exact e⟩
  dis := s.dis
  ld := fun i a z => by
    rw [upd_ne (fun e => (s.ld i a z).some (by rw [e]; exact hp))]
    exact s.ld i a z
  nf := s.nf
  ng := fun i a z => by
    rw [upd_ne (fun e => (s.ld i a z).some (by rw [e]; exact hp))]
    exact s.ng i a z
  sf := same_upd2 s.sf (s.sf.free hp)
  sg := fun a u e => by
    by_cases h : a = p
    · subst h; rw [upd_same] at e ⊢; exact e
    · rw [upd_ne h] at e ⊢; exact s.sg _ _ e
/-- .. and is written -/
theorem SS.rewrite {p : Addr} {o o' : HO} (s : SS K (upd G p o) F H σ env fp) (hf : F p = none) : SS K (upd G p o') F (upd H p o') σ env fp := by
  have ne : ∀ i a, fp i a → a ≠ p := fun i a z e => by
    have := s.ng i a z
    rw [e, upd_same] at this; cases this
  exact
  { len := s.len
    slot := fun i n d q => by
      obtain ⟨v, h1, h2⟩ := s.slot i n d q
      exact ⟨v, h1, h2.imp (Same.refl _) (fun _ z => z) fun a u z e => by rw [upd_ne (ne i a z)]; exact e⟩
    dis := s.dis
    ld := fun i a z => by rw [upd_ne (ne i a z)]; exact s.ld i a z
    nf := s.nf
    ng := fun i a z => by
      have := s.ng i a z
      rw [upd_ne (ne i a z)] at this ⊢; exact this
    sf := fun a u e => by
      rw [upd_ne (fun z => by rw [z, hf] at e; cases e)]; exact s.sf _ _ e
    sg := fun a u e => by
      by_cases h : a = p
      · subst h; rw [upd_same] at e ⊢; exact e
      · rw [upd_ne h] at e ⊢
        exact s.sg a u (by rw [upd_ne h]; exact e) }
end
section
variable {X : Cx} {W : WX}
theorem comp_core {tg : Expr} {scope : Scope} {own : List (Str × Nat)} {mi : MI} {mc : MT} {me : ME} {g : DTg} {t : TG} {As : List Nat} {σ : L2.St} {H : Hp} {Q : VK} (hA : ∀ i ∈ As, i ∈ own.map (·.2))
    (hgq : ∀ (G F H : Hp) (σ : L2.St) (env : DEnv) (fp : Fp) (d : D) (v : V) (e' : DEnv), SS X.K G F H σ env fp → Rep X.K F d v → g d env = some e' →
      ∀ Q : L2.St → Hp → Prop, (∀ σ' fp', Agree As σ σ' → SS X.K G F H σ' e' fp' → Q σ' H) → t v σ H Q)
    (hh : tE X.K X.mg W (mComp (own.map (·.2)) g mi mc me) σ H Q) : L2.tLc (tI X.K X.mg W mi) t (tT X.K X.mg W0 mc) (tE X.K X.mg W0 me) (own.map (·.2)) σ H Q := by
  obtain ⟨G, F, env, fp, s, h⟩ := hh
  refine ⟨G, F, env, fp, s, RG.imp h.bind .refl fun ds e p J F' H' fp' s' fe wk Da hDa => ?_⟩
  generalize hvs : own.map (·.2) = vs at *
  have gDa : G Da = none := s'.sg.free hDa
  have fDa : F' Da = none := s'.sf.free hDa
  refine ⟨fun i m H => m = ds.length - i ∧ i ≤ ds.length ∧ ∃ F1 e1 fp1 acc accV, H Da = some (.lst accV) ∧ Reps X.K F1 acc accV ∧ SS X.K (upd G Da (.lst accV)) F1 H (L2.wipe σ vs) e1 fp1 ∧ FrExt G F F1 ∧ Same F' F1 ∧ F1 Da = none ∧
      RG X.K X.mg W G F σ (PV X.K G F σ Q) (compL g vs mc me (ds.drop i) acc e1), ?_, ?_⟩
  · obtain ⟨fpw, sw⟩ := (s'.aside (o := .lst []) hDa).wipe2 vs
    exact ⟨ds.length, by simp, Nat.zero_le _, F', _, fpw, [], [], upd_same, .nil, sw, fe, Same.refl _, fDa, by simpa using p⟩
  rintro i m H1 ⟨rfl, hi, F1, e1, fp1, acc, accV, hD, ra, s1, fe1, sf1, f1Da, q⟩
  by_cases hlt : i < ds.length
  · refine .inr ⟨wk.go i H1 F1 sf1 s1.sf hlt, fun H => i + 1 ≤ ds.length ∧ ∃ F1 e1 fp1 acc accV, H Da = some (.lst accV) ∧ Reps X.K F1 acc accV ∧ SS X.K (upd G Da (.lst accV)) F1 H (L2.wipe σ vs) e1 fp1 ∧ FrExt G F F1 ∧ Same F' F1 ∧ F1 Da = none ∧
      RG X.K X.mg W G F σ (PV X.K G F σ Q) (compL g vs mc me (ds.drop (i + 1)) acc e1), fun H' p' => ⟨ds.length - (i + 1), by omega, rfl, p'⟩, fun x H2 y => ?_⟩
    obtain ⟨d, F3, hd, nv⟩ := wk.yld i H1 x H2 F1 sf1 s1.sf hlt y
    rw [List.drop_eq_getElem_cons hlt] at q
    have ed : ds[i] = d := by rw [List.getElem?_eq_getElem hlt] at hd; exact Option.some.inj hd
    rw [ed] at q
    unfold compL at q
    obtain ⟨sv, f3⟩ := s1.new nv
    have gD : (upd G Da (.lst accV)) Da ≠ none := by rw [upd_same]; simp
    have gOf : ∀ {A B : Hp}, FrExt (upd G Da (.lst accV)) A B → A Da = none → FrExt G A B := fun fx ha => ⟨fx.same, fun a h e => fx.out a (by
      rw [upd_ne (fun z => h (by rw [z]; exact gDa))]; exact h) e⟩
    have f3Da : F3 Da = none := f3.out Da gD f1Da
    cases eg : g d e1 with
    | none => rw [eg] at q; exact q.elim
    | some e2 =>
      rw [eg] at q
      dsimp only at q
      cases ec : mc e2 with
      | stuck => rw [ec] at q; exact q.elim
      | exc _ _ => rw [ec] at q; exact q.elim
      | ok b e3 =>
        rw [ec] at q
        dsimp only at q
        refine hgq _ F3 H2 _ e1 fp1 d x e2 sv.ss sv.val eg _ fun σ2 fp2 a2 s2 => ⟨wipe_agree a2 hA, ?_⟩
        have hw : L2.wipe σ2 vs = L2.wipe σ vs := wipe_agree a2 hA
        refine tT.of (P := fun b' e' => b' = b ∧ e' = e3) s2 (by show RG _ _ _ _ _ _ _ (mc e2); rw [ec]; exact ⟨rfl, rfl⟩) fun b' e' F4 H4 fp4 pe s4 fe4 => ?_
        obtain ⟨rfl, rfl⟩ := pe
        have f4Da : F4 Da = none := fe4.out Da gD f3Da
        have f14 : FrExt G F F4 := (fe1.trans (gOf f3 f1Da)).trans (gOf fe4 f3Da)
        have sf4 : Same F' F4 := (sf1.trans f3.same).trans fe4.same
        have ra4 : Reps X.K F4 acc accV := ra.mono (f3.same.trans fe4.same)
        have hD4 : H4 Da = some (.lst accV) := s4.sg _ _ upd_same
        cases b' with
        | false =>
          simp only [Bool.false_eq_true, if_false] at q ⊢
          obtain ⟨fpw, sw⟩ := s4.wipe2 vs
          rw [hw] at sw
          exact ⟨hlt, F4, _, fpw, acc, accV, hD4, ra4, sw, f14, sf4, f4Da, q⟩
        | true =>
          simp only [if_true] at q ⊢
          cases em : me e' with
          | stuck => rw [em] at q; exact q.elim
          | exc _ _ => rw [em] at q; exact q.elim
          | ok r e5 =>
            rw [em] at q
            dsimp only at q
            split at q
            · rename_i hlen
              refine tE.of (P := fun r' e' => r' = r ∧ e' = e5) s4 (by show RG _ _ _ _ _ _ _ (me e'); rw [em]; exact ⟨rfl, rfl⟩) fun r' e6 F5 H5 fp5 v5 pe s5 rep5 fe5 => ?_
              obtain ⟨rfl, rfl⟩ := pe
              have f5Da : F5 Da = none := fe5.out Da gD f4Da
              obtain ⟨fpw, sw⟩ := (s5.rewrite (o' := .lst (accV ++ [v5])) f5Da).wipe2 vs
              rw [hw] at sw
              exact ⟨accV, s5.sg _ _ upd_same, by rw [← ra.length, sizeLine_eq]; exact hlen, hlt, F5, _, fpw, acc ++ [r'.2], accV ++ [v5], upd_same, (ra4.mono fe5.same).append (.cons rep5 .nil), sw, f14.trans (gOf fe5 f4Da), sf4.trans fe5.same, f5Da, q⟩
            · exact q.elim
  · have e : i = ds.length := by omega
    subst e
    refine .inl ⟨wk.stop H1 F1 sf1 s1.sf, ?_⟩
    rw [List.drop_length] at q
    have su := s1.unwipe
    have gle : ∀ a, (upd G Da (.lst accV)) a = none → G a = none := fun a e => by
      by_cases h : a = Da
      · rw [h]; exact gDa
      · rw [upd_ne h] at e; exact e
    refine q (.ref Da) F1 H1 fp1 (fun a => a = Da) ⟨{ su with ng := fun i a z => gle a (su.ng i a z), sg := fun a o e => su.sg a o (by rw [upd_ne (ne_of_none e gDa)]; exact e) }, ⟨Da, accV, rfl, rfl, hD, RepA.of_reps ra⟩, fun a z => ?_, fun a z => ?_, fun a z => ?_, fun i a z w => ?_⟩ fe1
    · subst z; rw [hD]; trivial
    · subst z; exact f1Da
    · subst z; exact gDa
    · subst z
      have := su.ng i a w
      rw [upd_same] at this; cases this
theorem de_comp {elt tg iter : Expr} {ifs : List Expr} {scope : Scope} {own : List (Str × Nat)} {pos : Pos} {mi : MI} {mc : MT} {me : ME} {g : DTg} {As : List Nat} (hc : X.calm = true) (hN : X.N.Nodup) (hi : DI X W mi tg iter) (ok : BlkOk X.N X.env.scope scope own) (hg : DGB X As g tg scope) (hA : ∀ i ∈ As, i ∈ own.map (·.2))
    (ht : ∀ (s : Shared) (H : Hp) (C : Addr) (cl : List (Str × Addr)) (fp : List Addr), DTs (X.blk s H scope (compEnvC scope cl C X.env) fp) W0 mc ifs) (he : ∀ (s : Shared) (H : Hp) (C : Addr) (cl : List (Str × Addr)) (fp : List Addr), DE (X.blk s H scope (compEnvC scope cl C X.env) fp) W0 me elt)
    (hs : ∀ x, foldedSetIterable iter X.env x = pure x := by intro _; rfl) : DE X W (mComp (own.map (·.2)) g mi mc me) (.ListComp elt [⟨tg, iter, ifs, 0⟩] scope pos) := by
  obtain ⟨t, ht1, hgq⟩ := hg
  exact PE.to (pe_lc (wi := tI X.K X.mg W mi) (g := t) (tt := tT X.K X.mg W0 mc) (te := tE X.K X.mg W0 me) hc hN hi ok ht1 ht he hs) fun σ H Q h => comp_core (tg := tg) (scope := scope) hA hgq h
end
end DL

set_option autoImplicit false
set_option Elab.async false
set_option linter.all false
set_option maxRecDepth 100000
/-! DL: == of trees. -/
namespace DL
open PySem PySem.Spec PyProof.Rows L2

mutual
def eqv : D → D → Bool
  | .non, .non => true
  | .bl a, .bl b => a == b
  | .bl a, .int j => (if a then 1 else 0) == j
  | .int i, .bl b => i == (if b then 1 else 0)
  | .int i, .int j => i == j
  | .str x, .str y => x == y
  | .lst xs, .lst ys => eqvs xs ys
  | .tup xs, .tup ys => eqvs xs ys
  | _, _ => false
def eqvs : List D → List D → Bool
  | [], [] => true
  | x :: xs, y :: ys => eqv x y && eqvs xs ys
  | _, _ => false
end
def okN : Nat → D → Bool
  | _, .non => true
  | _, .bl _ => true
  | _, .int _ => true
  | _, .str _ => true
  | n + 1, .lst ds => ds.all (okN n)
  | n + 1, .tup ds => ds.all (okN n)
  | _, _ => false
abbrev pairE (xs ys : List D) (j : Nat) : Bool := eqv (xs.getD j .non) (ys.getD j .non)
theorem eqvs_all : ∀ xs ys : List D, ((List.range (min xs.length ys.length)).all (pairE xs ys) && xs.length == ys.length) = eqvs xs ys
  | [], [] => by simp [eqvs]
  | [], _ :: _ => by simp [eqvs]
  | _ :: _, [] => by simp [eqvs]
  | x :: xs, y :: ys => by
    have ih := eqvs_all xs ys
    have e1 : min (x :: xs).length (y :: ys).length = min xs.length ys.length + 1 := by simp only [List.length_cons]; omega
    have e2 : ((x :: xs).length == (y :: ys).length) = (xs.length == ys.length) := by simp
    have e3 : (List.range (min xs.length ys.length + 1)).all (pairE (x :: xs) (y :: ys)) = (eqv x y && (List.range (min xs.length ys.length)).all (pairE xs ys)) := by
      rw [List.range_succ_eq_map, List.all_cons, List.all_map]
      first | rfl | simp [pairE, Function.comp_def]
    rw [e1, e2, e3, eqvs, ← ih, Bool.and_assoc]
theorem eqvs_same {xs ys : List D} (h : xs.length = ys.length) : (List.range xs.length).all (pairE xs ys) = eqvs xs ys := by
  have := eqvs_all xs ys
  rw [← h, Nat.min_self] at this
  simpa using this
theorem eqvs_other {xs ys : List D} (h : xs.length ≠ ys.length) : eqvs xs ys = false := by
  rw [← eqvs_all xs ys]
  simp [h]
theorem okN_list {n : Nat} {xs : List D} (h : okN (n + 1) (.lst xs) = true) : ∀ d ∈ xs, okN n d = true := by
  simp only [okN] at h
  exact fun d hd => List.all_eq_true.mp h d hd
theorem okN_tuple {n : Nat} {xs : List D} (h : okN (n + 1) (.tup xs) = true) : ∀ d ∈ xs, okN n d = true := by
  simp only [okN] at h
  exact fun d hd => List.all_eq_true.mp h d hd
theorem eqvs_refl : ∀ (xs : List D), (∀ d ∈ xs, eqv d d = true) → eqvs xs xs = true
  | [], _ => by simp [eqvs]
  | x :: xs, h => by
    rw [eqvs, h x List.mem_cons_self, eqvs_refl xs fun d hd => h d (List.mem_cons_of_mem _ hd)]; rfl
theorem eqv_refl : ∀ (n : Nat) (d : D), okN n d = true → eqv d d = true
  | _, .non, _ => by simp [eqv]
  | _, .bl b, _ => by simp [eqv]
  | _, .int i, _ => by simp [eqv]
  | _, .str x, _ => by simp [eqv]
  | n + 1, .lst ds, h => by rw [eqv]; exact eqvs_refl ds fun d hd => eqv_refl n d (okN_list h d hd)
  | n + 1, .tup ds, h => by rw [eqv]; exact eqvs_refl ds fun d hd => eqv_refl n d (okN_tuple h d hd)
  | 0, .lst _, h => by simp [okN] at h
  | 0, .tup _, h => by simp [okN] at h
  | 0, .dK _, h => by simp [okN] at h
  | 0, .ty _, h => by simp [okN] at h
  | n + 1, .ty _, h => by simp [okN] at h
  | 0, .scr _, h => by simp [okN] at h
  | n + 1, .scr _, h => by simp [okN] at h
  | 0, .dT _, h => by simp [okN] at h
  | n + 1, .dK _, h => by simp [okN] at h
  | n + 1, .dT _, h => by simp [okN] at h
section
variable {X : Cx} {pins : List (Addr × Obj)} {σ : L2.St} {H : Hp} {s : Shared}
theorem not_both (I : Inv X pins σ H s) {a : Addr} {xs ys : List V} (h : SqL X.K H a xs) (h' : SqT X.K H a ys) : False := by
  obtain ⟨its, _, ⟨o, n, e, c, _, _⟩, _⟩ := I.list h
  obtain ⟨its2, _, ⟨o2, e2, c2, _⟩, _⟩ := I.tuple h'
  rw [e] at e2; cases e2
  rw [c] at c2
  injection c2 with c2
  exact absurd c2 (by decide)
theorem reps_uniq {n : Nat} (ih : ∀ (d d' : D) (v : V), okN n d = true → okN n d' = true → Rep X.K H d v → Rep X.K H d' v → d = d') : ∀ {xs ys : List D} {vs : List V}, (∀ d ∈ xs, okN n d = true) → (∀ d ∈ ys, okN n d = true) → Reps X.K H xs vs → Reps X.K H ys vs → xs = ys
  | _, _, _, _, _, .nil, .nil => rfl
  | _, _, _, h, h', .cons r t, .cons r' t' => by
    rw [ih _ _ _ (h _ List.mem_cons_self) (h' _ List.mem_cons_self) r r', reps_uniq ih (fun d hd => h d (List.mem_cons_of_mem _ hd)) (fun d hd => h' d (List.mem_cons_of_mem _ hd)) t t']
theorem rep_uniq (I : Inv X pins σ H s) : ∀ (n : Nat) (d d' : D) (v : V), okN n d = true → okN n d' = true → Rep X.K H d v → Rep X.K H d' v → d = d' := by
  intro n
  induction n with
  | zero =>
    intro d d' v o o' r r'
    cases d <;> simp [okN] at o <;> cases d' <;> simp [okN] at o' <;> cases r <;> cases r' <;> rfl
  | succ n ih =>
    intro d d' v o o' r r'
    cases r with
    | non => cases r'; rfl
    | bl _ => cases r'; rfl
    | int _ => cases r'; rfl
    | str _ => cases r'; rfl
    | dK _ _ _ => simp [okN] at o
    | ty _ => simp [okN] at o
    | scr _ _ => simp [okN] at o
    | dT _ _ _ => simp [okN] at o
    | lst h hr =>
      cases r' with
      | lst h' hr' =>
        rw [I.list_inj (SqL.of h) (SqL.of h')] at hr
        rw [reps_uniq ih (okN_list o) (okN_list o') hr hr']
      | tup h' hr' => exact (not_both I (SqL.of h) (SqT.of h')).elim
      | tupK h' _ hr' => exact (not_both I (SqL.of h) h').elim
      | dK _ _ _ => simp [okN] at o'
      | scr _ _ => simp [okN] at o'
      | dT _ _ _ => simp [okN] at o'
    | tup h hr =>
      cases r' with
      | lst h' hr' => exact (not_both I (SqL.of h') (SqT.of h)).elim
      | tup h' hr' =>
        rw [I.tuple_inj (SqT.of h) (SqT.of h')] at hr
        rw [reps_uniq ih (okN_tuple o) (okN_tuple o') hr hr']
      | tupK h' _ hr' =>
        rw [I.tuple_inj (SqT.of h) h'] at hr
        rw [reps_uniq ih (okN_tuple o) (okN_tuple o') hr hr']
      | dK _ _ _ => simp [okN] at o'
      | scr _ _ => simp [okN] at o'
      | dT _ _ _ => simp [okN] at o'
    | tupK h _ hr =>
      cases r' with
      | lst h' hr' => exact (not_both I (SqL.of h') h).elim
      | tup h' hr' =>
        rw [I.tuple_inj h (SqT.of h')] at hr
        rw [reps_uniq ih (okN_tuple o) (okN_tuple o') hr hr']
      | tupK h' _ hr' =>
        rw [I.tuple_inj h h'] at hr
        rw [reps_uniq ih (okN_tuple o) (okN_tuple o') hr hr']
      | dK _ _ _ => simp [okN] at o'
      | scr _ _ => simp [okN] at o'
      | dT _ _ _ => simp [okN] at o'
theorem items_at {A : Around} {n : Nat} (ih : ∀ (d1 d2 : D) (v1 v2 : V) (u1 u2 : Value), okN n d1 = true → okN n d2 = true → Rep X.K H d1 v1 → Rep X.K H d2 v2 → RelV v1 u1 → RelV v2 u2 → SeqAt.EqAt A s u1 u2 (eqv d1 d2)) :
    ∀ {xs ys : List D} {vs ws : List V} {us zs : List Value}, Reps X.K H xs vs → Reps X.K H ys ws → Vals vs us → Vals ws zs → (∀ d ∈ xs, okN n d = true) → (∀ d ∈ ys, okN n d = true) → ∀ (j : Nat) (h1 : j < us.length) (h2 : j < zs.length), SeqAt.EqAt A s us[j] zs[j] (pairE xs ys j)
  | _, _, _, _, _, _, .nil, _, r, _, _, _, j, h1, _ => by cases r; exact absurd h1 (Nat.not_lt_zero _)
  | _, _, _, _, _, _, .cons _ _, .nil, _, r, _, _, j, _, h2 => by cases r; exact absurd h2 (Nat.not_lt_zero _)
  | _, _, _, _, _, _, .cons a as, .cons b bs, .cons r rs, .cons q qs, o1, o2, 0, _, _ => ih _ _ _ _ _ _ (o1 _ List.mem_cons_self) (o2 _ List.mem_cons_self) a b r q
  | _, _, _, _, _, _, .cons a as, .cons b bs, .cons r rs, .cons q qs, o1, o2, j + 1, h1, h2 => items_at ih as bs rs qs (fun d hd => o1 d (List.mem_cons_of_mem _ hd)) (fun d hd => o2 d (List.mem_cons_of_mem _ hd)) j (Nat.lt_of_succ_lt_succ h1) (Nat.lt_of_succ_lt_succ h2)

abbrev EqIh (X : Cx) (H : Hp) (s : Shared) (n : Nat) : Prop := ∀ (A : Around) (d1 d2 : D) (v1 v2 : V) (u1 u2 : Value), okN n d1 = true → okN n d2 = true → Rep X.K H d1 v1 → Rep X.K H d2 v2 → RelV v1 u1 → RelV v2 u2 → A.units + n < cLine → SeqAt.EqAt A s u1 u2 (eqv d1 d2)
theorem eqAt_step (I : Inv X pins σ H s) {n : Nat} (ih : EqIh X H s n) {A : Around} : ∀ (d1 d2 : D) (v1 v2 : V) (u1 u2 : Value), okN (n + 1) d1 = true → okN (n + 1) d2 = true → Rep X.K H d1 v1 → Rep X.K H d2 v2 → RelV v1 u1 → RelV v2 u2 → A.units + (n + 1) < cLine → SeqAt.EqAt A s u1 u2 (eqv d1 d2)
  | .non, .non, v1, v2, u1, u2, o1, o2, r1, r2, q1, q2, hu => by
    cases Rep.non_inv r1
    cases q1
    cases Rep.non_inv r2
    cases q2
    exact SeqAt.EqAt.same _
  | .non, .bl y, v1, v2, u1, u2, o1, o2, r1, r2, q1, q2, hu => by
    cases Rep.non_inv r1
    cases q1
    cases Rep.bl_inv r2
    cases q2
    exact (by simp only [eqv, Bool.not_false]; exact SeqAt.EqAt.none_bool y)
  | .non, .int y, v1, v2, u1, u2, o1, o2, r1, r2, q1, q2, hu => by
    cases Rep.non_inv r1
    cases q1
    cases Rep.int_inv r2
    obtain ⟨ty, rfl⟩ := q2
    exact (by simp only [eqv, Bool.not_false]; exact SeqAt.EqAt.none_int y ty)
  | .non, .str y, v1, v2, u1, u2, o1, o2, r1, r2, q1, q2, hu => by
    cases Rep.non_inv r1
    cases q1
    cases Rep.str_inv r2
    obtain ⟨ty, rfl⟩ := q2
    exact (by simp only [eqv, Bool.not_false]; exact SeqAt.EqAt.none_str y ty)
  | .non, .lst y, v1, v2, u1, u2, o1, o2, r1, r2, q1, q2, hu => by
    cases Rep.non_inv r1
    cases q1
    obtain ⟨ay, vsy, rfl, sy, rsy⟩ := Rep.lst_inv r2
    cases q2
    obtain ⟨itsy, rvy, ply, _⟩ := I.list sy
    have hy := ply.isList
    have hu0 : A.units < cLine := by omega
    exact (by simp only [eqv, Bool.not_false]; exact SeqAt.EqAt.none_list  hy hu0)
  | .non, .tup y, v1, v2, u1, u2, o1, o2, r1, r2, q1, q2, hu => by
    cases Rep.non_inv r1
    cases q1
    obtain ⟨ay, vsy, rfl, sy, rsy⟩ := Rep.tup_inv r2
    cases q2
    obtain ⟨itsy, rvy, ply, _⟩ := I.tuple sy
    have hy : s.heap.IsTuple ay itsy.toArray := ply
    have hu0 : A.units < cLine := by omega
    exact (by simp only [eqv, Bool.not_false]; exact SeqAt.EqAt.none_tuple  hy hu0)
  | .bl x, .non, v1, v2, u1, u2, o1, o2, r1, r2, q1, q2, hu => by
    cases Rep.bl_inv r1
    cases q1
    cases Rep.non_inv r2
    cases q2
    exact (by simp only [eqv, Bool.not_false]; exact SeqAt.EqAt.bool_none x)
  | .bl x, .bl y, v1, v2, u1, u2, o1, o2, r1, r2, q1, q2, hu => by
    cases Rep.bl_inv r1
    cases q1
    cases Rep.bl_inv r2
    cases q2
    exact (by simp only [eqv]; exact SeqAt.EqAt.bool_bool x y)
  | .bl x, .int y, v1, v2, u1, u2, o1, o2, r1, r2, q1, q2, hu => by
    cases Rep.bl_inv r1
    cases q1
    cases Rep.int_inv r2
    obtain ⟨ty, rfl⟩ := q2
    exact (by simp only [eqv, Bool.not_false]; exact SeqAt.EqAt.bool_int x y ty)
  | .bl x, .str y, v1, v2, u1, u2, o1, o2, r1, r2, q1, q2, hu => by
    cases Rep.bl_inv r1
    cases q1
    cases Rep.str_inv r2
    obtain ⟨ty, rfl⟩ := q2
    exact (by simp only [eqv, Bool.not_false]; exact SeqAt.EqAt.bool_str x y ty)
  | .bl x, .lst y, v1, v2, u1, u2, o1, o2, r1, r2, q1, q2, hu => by
    cases Rep.bl_inv r1
    cases q1
    obtain ⟨ay, vsy, rfl, sy, rsy⟩ := Rep.lst_inv r2
    cases q2
    obtain ⟨itsy, rvy, ply, _⟩ := I.list sy
    have hy := ply.isList
    have hu0 : A.units < cLine := by omega
    exact (by simp only [eqv, Bool.not_false]; exact SeqAt.EqAt.bool_list x hy hu0)
  | .bl x, .tup y, v1, v2, u1, u2, o1, o2, r1, r2, q1, q2, hu => by
    cases Rep.bl_inv r1
    cases q1
    obtain ⟨ay, vsy, rfl, sy, rsy⟩ := Rep.tup_inv r2
    cases q2
    obtain ⟨itsy, rvy, ply, _⟩ := I.tuple sy
    have hy : s.heap.IsTuple ay itsy.toArray := ply
    have hu0 : A.units < cLine := by omega
    exact (by simp only [eqv, Bool.not_false]; exact SeqAt.EqAt.bool_tuple x hy hu0)
  | .int x, .non, v1, v2, u1, u2, o1, o2, r1, r2, q1, q2, hu => by
    cases Rep.int_inv r1
    obtain ⟨tx, rfl⟩ := q1
    cases Rep.non_inv r2
    cases q2
    exact (by simp only [eqv, Bool.not_false]; exact SeqAt.EqAt.int_none x tx)
  | .int x, .bl y, v1, v2, u1, u2, o1, o2, r1, r2, q1, q2, hu => by
    cases Rep.int_inv r1
    obtain ⟨tx, rfl⟩ := q1
    cases Rep.bl_inv r2
    cases q2
    exact (by simp only [eqv, Bool.not_false]; exact SeqAt.EqAt.int_bool x tx y)
  | .int x, .int y, v1, v2, u1, u2, o1, o2, r1, r2, q1, q2, hu => by
    cases Rep.int_inv r1
    obtain ⟨tx, rfl⟩ := q1
    cases Rep.int_inv r2
    obtain ⟨ty, rfl⟩ := q2
    exact (by simp only [eqv]; exact SeqAt.EqAt.int_int x tx y ty)
  | .int x, .str y, v1, v2, u1, u2, o1, o2, r1, r2, q1, q2, hu => by
    cases Rep.int_inv r1
    obtain ⟨tx, rfl⟩ := q1
    cases Rep.str_inv r2
    obtain ⟨ty, rfl⟩ := q2
    exact (by simp only [eqv, Bool.not_false]; exact SeqAt.EqAt.int_str x tx y ty)
  | .int x, .lst y, v1, v2, u1, u2, o1, o2, r1, r2, q1, q2, hu => by
    cases Rep.int_inv r1
    obtain ⟨tx, rfl⟩ := q1
    obtain ⟨ay, vsy, rfl, sy, rsy⟩ := Rep.lst_inv r2
    cases q2
    obtain ⟨itsy, rvy, ply, _⟩ := I.list sy
    have hy := ply.isList
    have hu0 : A.units < cLine := by omega
    exact (by simp only [eqv, Bool.not_false]; exact SeqAt.EqAt.int_list x tx hy hu0)
  | .int x, .tup y, v1, v2, u1, u2, o1, o2, r1, r2, q1, q2, hu => by
    cases Rep.int_inv r1
    obtain ⟨tx, rfl⟩ := q1
    obtain ⟨ay, vsy, rfl, sy, rsy⟩ := Rep.tup_inv r2
    cases q2
    obtain ⟨itsy, rvy, ply, _⟩ := I.tuple sy
    have hy : s.heap.IsTuple ay itsy.toArray := ply
    have hu0 : A.units < cLine := by omega
    exact (by simp only [eqv, Bool.not_false]; exact SeqAt.EqAt.int_tuple x tx hy hu0)
  | .str x, .non, v1, v2, u1, u2, o1, o2, r1, r2, q1, q2, hu => by
    cases Rep.str_inv r1
    obtain ⟨tx, rfl⟩ := q1
    cases Rep.non_inv r2
    cases q2
    exact (by simp only [eqv, Bool.not_false]; exact SeqAt.EqAt.str_none x tx)
  | .str x, .bl y, v1, v2, u1, u2, o1, o2, r1, r2, q1, q2, hu => by
    cases Rep.str_inv r1
    obtain ⟨tx, rfl⟩ := q1
    cases Rep.bl_inv r2
    cases q2
    exact (by simp only [eqv, Bool.not_false]; exact SeqAt.EqAt.str_bool x tx y)
  | .str x, .int y, v1, v2, u1, u2, o1, o2, r1, r2, q1, q2, hu => by
    cases Rep.str_inv r1
    obtain ⟨tx, rfl⟩ := q1
    cases Rep.int_inv r2
    obtain ⟨ty, rfl⟩ := q2
    exact (by simp only [eqv, Bool.not_false]; exact SeqAt.EqAt.str_int x tx y ty)
  | .str x, .str y, v1, v2, u1, u2, o1, o2, r1, r2, q1, q2, hu => by
    cases Rep.str_inv r1
    obtain ⟨tx, rfl⟩ := q1
    cases Rep.str_inv r2
    obtain ⟨ty, rfl⟩ := q2
    exact (by simp only [eqv]; exact SeqAt.EqAt.str_str x tx y ty)
  | .str x, .lst y, v1, v2, u1, u2, o1, o2, r1, r2, q1, q2, hu => by
    cases Rep.str_inv r1
    obtain ⟨tx, rfl⟩ := q1
    obtain ⟨ay, vsy, rfl, sy, rsy⟩ := Rep.lst_inv r2
    cases q2
    obtain ⟨itsy, rvy, ply, _⟩ := I.list sy
    have hy := ply.isList
    have hu0 : A.units < cLine := by omega
    exact (by simp only [eqv, Bool.not_false]; exact SeqAt.EqAt.str_list x tx hy hu0)
  | .str x, .tup y, v1, v2, u1, u2, o1, o2, r1, r2, q1, q2, hu => by
    cases Rep.str_inv r1
    obtain ⟨tx, rfl⟩ := q1
    obtain ⟨ay, vsy, rfl, sy, rsy⟩ := Rep.tup_inv r2
    cases q2
    obtain ⟨itsy, rvy, ply, _⟩ := I.tuple sy
    have hy : s.heap.IsTuple ay itsy.toArray := ply
    have hu0 : A.units < cLine := by omega
    exact (by simp only [eqv, Bool.not_false]; exact SeqAt.EqAt.str_tuple x tx hy hu0)
  | .lst x, .non, v1, v2, u1, u2, o1, o2, r1, r2, q1, q2, hu => by
    obtain ⟨ax, vsx, rfl, sx, rsx⟩ := Rep.lst_inv r1
    cases q1
    obtain ⟨itsx, rvx, plx, _⟩ := I.list sx
    have hx := plx.isList
    cases Rep.non_inv r2
    cases q2
    have hu0 : A.units < cLine := by omega
    exact (by simp only [eqv, Bool.not_false]; exact SeqAt.EqAt.list_none  hx hu0)
  | .lst x, .bl y, v1, v2, u1, u2, o1, o2, r1, r2, q1, q2, hu => by
    obtain ⟨ax, vsx, rfl, sx, rsx⟩ := Rep.lst_inv r1
    cases q1
    obtain ⟨itsx, rvx, plx, _⟩ := I.list sx
    have hx := plx.isList
    cases Rep.bl_inv r2
    cases q2
    have hu0 : A.units < cLine := by omega
    exact (by simp only [eqv, Bool.not_false]; exact SeqAt.EqAt.list_bool y hx hu0)
  | .lst x, .int y, v1, v2, u1, u2, o1, o2, r1, r2, q1, q2, hu => by
    obtain ⟨ax, vsx, rfl, sx, rsx⟩ := Rep.lst_inv r1
    cases q1
    obtain ⟨itsx, rvx, plx, _⟩ := I.list sx
    have hx := plx.isList
    cases Rep.int_inv r2
    obtain ⟨ty, rfl⟩ := q2
    have hu0 : A.units < cLine := by omega
    exact (by simp only [eqv, Bool.not_false]; exact SeqAt.EqAt.list_int y ty hx hu0)
  | .lst x, .str y, v1, v2, u1, u2, o1, o2, r1, r2, q1, q2, hu => by
    obtain ⟨ax, vsx, rfl, sx, rsx⟩ := Rep.lst_inv r1
    cases q1
    obtain ⟨itsx, rvx, plx, _⟩ := I.list sx
    have hx := plx.isList
    cases Rep.str_inv r2
    obtain ⟨ty, rfl⟩ := q2
    have hu0 : A.units < cLine := by omega
    exact (by simp only [eqv, Bool.not_false]; exact SeqAt.EqAt.list_str y ty hx hu0)
  | .lst x, .lst y, v1, v2, u1, u2, o1, o2, r1, r2, q1, q2, hu => by
    obtain ⟨ax, vsx, rfl, sx, rsx⟩ := Rep.lst_inv r1
    cases q1
    obtain ⟨itsx, rvx, plx, _⟩ := I.list sx
    have hx := plx.isList
    obtain ⟨ay, vsy, rfl, sy, rsy⟩ := Rep.lst_inv r2
    cases q2
    obtain ⟨itsy, rvy, ply, _⟩ := I.list sy
    have hy := ply.isList
    have hu0 : A.units < cLine := by omega
    have n1 : itsx.toArray.size = x.length := by rw [List.size_toArray, ← rvx.length, rsx.length]
    have n2 : itsy.toArray.size = y.length := by rw [List.size_toArray, ← rvy.length, rsy.length]
    have ox := okN_list o1
    have oy := okN_list o2
    have he : ∀ j (j1 : j < itsx.toArray.size) (j2 : j < itsy.toArray.size), SeqAt.EqAt A.in1 s itsx.toArray[j] itsy.toArray[j] (pairE x y j) := fun j j1 j2 => items_at (fun a b v w u1 u2 p q r t k l => ih A.in1 a b v w u1 u2 p q r t k l (by show A.units + 1 + n < cLine; omega)) rsx rsy rvx rvy ox oy j (by simpa using j1) (by simpa using j2)
    by_cases hll : ax = ay
    · subst hll
      rw [rep_uniq I (n + 1) _ _ _ o1 o2 r1 r2, eqv_refl (n + 1) _ o2]
      exact SeqAt.EqAt.same _
    · rw [eqv]
      by_cases hsz : itsx.toArray.size = itsy.toArray.size
      · rw [← eqvs_same (by omega : x.length = y.length), ← n1]
        exact SeqAt.EqAt.of_refs hll (SeqAt.RcAt.lists hx hy hsz hu0 he)
      · rw [eqvs_other (by omega : x.length ≠ y.length)]
        exact SeqAt.EqAt.of_refs hll (SeqAt.RcAt.lists_lengths hx hy (by simpa using hsz) hu0)
  | .lst x, .tup y, v1, v2, u1, u2, o1, o2, r1, r2, q1, q2, hu => by
    obtain ⟨ax, vsx, rfl, sx, rsx⟩ := Rep.lst_inv r1
    cases q1
    obtain ⟨itsx, rvx, plx, _⟩ := I.list sx
    have hx := plx.isList
    obtain ⟨ay, vsy, rfl, sy, rsy⟩ := Rep.tup_inv r2
    cases q2
    obtain ⟨itsy, rvy, ply, _⟩ := I.tuple sy
    have hy : s.heap.IsTuple ay itsy.toArray := ply
    have hu0 : A.units < cLine := by omega
    exact (by simp only [eqv, Bool.not_false]; exact SeqAt.EqAt.list_tuple  hx hy hu0)
  | .tup x, .non, v1, v2, u1, u2, o1, o2, r1, r2, q1, q2, hu => by
    obtain ⟨ax, vsx, rfl, sx, rsx⟩ := Rep.tup_inv r1
    cases q1
    obtain ⟨itsx, rvx, plx, _⟩ := I.tuple sx
    have hx : s.heap.IsTuple ax itsx.toArray := plx
    cases Rep.non_inv r2
    cases q2
    have hu0 : A.units < cLine := by omega
    exact (by simp only [eqv, Bool.not_false]; exact SeqAt.EqAt.tuple_none  hx hu0)
  | .tup x, .bl y, v1, v2, u1, u2, o1, o2, r1, r2, q1, q2, hu => by
    obtain ⟨ax, vsx, rfl, sx, rsx⟩ := Rep.tup_inv r1
    cases q1
    obtain ⟨itsx, rvx, plx, _⟩ := I.tuple sx
    have hx : s.heap.IsTuple ax itsx.toArray := plx
    cases Rep.bl_inv r2
    cases q2
    have hu0 : A.units < cLine := by omega
    exact (by simp only [eqv, Bool.not_false]; exact SeqAt.EqAt.tuple_bool y hx hu0)
  | .tup x, .int y, v1, v2, u1, u2, o1, o2, r1, r2, q1, q2, hu => by
    obtain ⟨ax, vsx, rfl, sx, rsx⟩ := Rep.tup_inv r1
    cases q1
    obtain ⟨itsx, rvx, plx, _⟩ := I.tuple sx
    have hx : s.heap.IsTuple ax itsx.toArray := plx
    cases Rep.int_inv r2
    obtain ⟨ty, rfl⟩ := q2
    have hu0 : A.units < cLine := by omega
    exact (by simp only [eqv, Bool.not_false]; exact SeqAt.EqAt.tuple_int y ty hx hu0)
  | .tup x, .str y, v1, v2, u1, u2, o1, o2, r1, r2, q1, q2, hu => by
    obtain ⟨ax, vsx, rfl, sx, rsx⟩ := Rep.tup_inv r1
    cases q1
    obtain ⟨itsx, rvx, plx, _⟩ := I.tuple sx
    have hx : s.heap.IsTuple ax itsx.toArray := plx
    cases Rep.str_inv r2
    obtain ⟨ty, rfl⟩ := q2
    have hu0 : A.units < cLine := by omega
    exact (by simp only [eqv, Bool.not_false]; exact SeqAt.EqAt.tuple_str y ty hx hu0)
  | .tup x, .lst y, v1, v2, u1, u2, o1, o2, r1, r2, q1, q2, hu => by
    obtain ⟨ax, vsx, rfl, sx, rsx⟩ := Rep.tup_inv r1
    cases q1
    obtain ⟨itsx, rvx, plx, _⟩ := I.tuple sx
    have hx : s.heap.IsTuple ax itsx.toArray := plx
    obtain ⟨ay, vsy, rfl, sy, rsy⟩ := Rep.lst_inv r2
    cases q2
    obtain ⟨itsy, rvy, ply, _⟩ := I.list sy
    have hy := ply.isList
    have hu0 : A.units < cLine := by omega
    exact (by simp only [eqv, Bool.not_false]; exact SeqAt.EqAt.tuple_list  hx hy hu0)
  | .tup x, .tup y, v1, v2, u1, u2, o1, o2, r1, r2, q1, q2, hu => by
    obtain ⟨ax, vsx, rfl, sx, rsx⟩ := Rep.tup_inv r1
    cases q1
    obtain ⟨itsx, rvx, plx, _⟩ := I.tuple sx
    have hx : s.heap.IsTuple ax itsx.toArray := plx
    obtain ⟨ay, vsy, rfl, sy, rsy⟩ := Rep.tup_inv r2
    cases q2
    obtain ⟨itsy, rvy, ply, _⟩ := I.tuple sy
    have hy : s.heap.IsTuple ay itsy.toArray := ply
    have hu0 : A.units < cLine := by omega
    have n1 : itsx.toArray.size = x.length := by rw [List.size_toArray, ← rvx.length, rsx.length]
    have n2 : itsy.toArray.size = y.length := by rw [List.size_toArray, ← rvy.length, rsy.length]
    have ox := okN_tuple o1
    have oy := okN_tuple o2
    have he : ∀ j (j1 : j < itsx.toArray.size) (j2 : j < itsy.toArray.size), SeqAt.EqAt A.in1 s itsx.toArray[j] itsy.toArray[j] (pairE x y j) := fun j j1 j2 => items_at (fun a b v w u1 u2 p q r t k l => ih A.in1 a b v w u1 u2 p q r t k l (by show A.units + 1 + n < cLine; omega)) rsx rsy rvx rvy ox oy j (by simpa using j1) (by simpa using j2)
    by_cases hll : ax = ay
    · subst hll
      rw [rep_uniq I (n + 1) _ _ _ o1 o2 r1 r2, eqv_refl (n + 1) _ o2]
      exact SeqAt.EqAt.same _
    · rw [eqv]
      rw [← eqvs_all x y, ← n1, ← n2]
      exact SeqAt.EqAt.of_refs hll (SeqAt.RcAt.tuples hx hy hu0 he)
  | .non, .dK y, v1, v2, u1, u2, o1, o2, r1, r2, q1, q2, hu => by simp [okN] at o2
  | .non, .dT y, v1, v2, u1, u2, o1, o2, r1, r2, q1, q2, hu => by simp [okN] at o2
  | .non, .ty y, v1, v2, u1, u2, o1, o2, r1, r2, q1, q2, hu => by simp [okN] at o2
  | .non, .scr y, v1, v2, u1, u2, o1, o2, r1, r2, q1, q2, hu => by simp [okN] at o2
  | .bl x, .dK y, v1, v2, u1, u2, o1, o2, r1, r2, q1, q2, hu => by simp [okN] at o2
  | .bl x, .dT y, v1, v2, u1, u2, o1, o2, r1, r2, q1, q2, hu => by simp [okN] at o2
  | .bl x, .ty y, v1, v2, u1, u2, o1, o2, r1, r2, q1, q2, hu => by simp [okN] at o2
  | .bl x, .scr y, v1, v2, u1, u2, o1, o2, r1, r2, q1, q2, hu => by simp [okN] at o2
  | .int x, .dK y, v1, v2, u1, u2, o1, o2, r1, r2, q1, q2, hu => by simp [okN] at o2
  | .int x, .dT y, v1, v2, u1, u2, o1, o2, r1, r2, q1, q2, hu => by simp [okN] at o2
  | .int x, .ty y, v1, v2, u1, u2, o1, o2, r1, r2, q1, q2, hu => by simp [okN] at o2
  | .int x, .scr y, v1, v2, u1, u2, o1, o2, r1, r2, q1, q2, hu => by simp [okN] at o2
  | .str x, .dK y, v1, v2, u1, u2, o1, o2, r1, r2, q1, q2, hu => by simp [okN] at o2
  | .str x, .dT y, v1, v2, u1, u2, o1, o2, r1, r2, q1, q2, hu => by simp [okN] at o2
  | .str x, .ty y, v1, v2, u1, u2, o1, o2, r1, r2, q1, q2, hu => by simp [okN] at o2
  | .str x, .scr y, v1, v2, u1, u2, o1, o2, r1, r2, q1, q2, hu => by simp [okN] at o2
  | .lst x, .dK y, v1, v2, u1, u2, o1, o2, r1, r2, q1, q2, hu => by simp [okN] at o2
  | .lst x, .dT y, v1, v2, u1, u2, o1, o2, r1, r2, q1, q2, hu => by simp [okN] at o2
  | .lst x, .ty y, v1, v2, u1, u2, o1, o2, r1, r2, q1, q2, hu => by simp [okN] at o2
  | .lst x, .scr y, v1, v2, u1, u2, o1, o2, r1, r2, q1, q2, hu => by simp [okN] at o2
  | .tup x, .dK y, v1, v2, u1, u2, o1, o2, r1, r2, q1, q2, hu => by simp [okN] at o2
  | .tup x, .dT y, v1, v2, u1, u2, o1, o2, r1, r2, q1, q2, hu => by simp [okN] at o2
  | .tup x, .ty y, v1, v2, u1, u2, o1, o2, r1, r2, q1, q2, hu => by simp [okN] at o2
  | .tup x, .scr y, v1, v2, u1, u2, o1, o2, r1, r2, q1, q2, hu => by simp [okN] at o2
  | .dK x, _, v1, v2, u1, u2, o1, o2, r1, r2, q1, q2, hu => by simp [okN] at o1
  | .dT x, _, v1, v2, u1, u2, o1, o2, r1, r2, q1, q2, hu => by simp [okN] at o1
  | .ty x, _, v1, v2, u1, u2, o1, o2, r1, r2, q1, q2, hu => by simp [okN] at o1
  | .scr x, _, v1, v2, u1, u2, o1, o2, r1, r2, q1, q2, hu => by simp [okN] at o1
theorem rcAt_step (I : Inv X pins σ H s) {n : Nat} (ih : EqIh X H s n) {A : Around} : ∀ (d1 d2 : D) (v1 v2 : V) (u1 u2 : Value), okN (n + 1) d1 = true → okN (n + 1) d2 = true → Rep X.K H d1 v1 → Rep X.K H d2 v2 → RelV v1 u1 → RelV v2 u2 → A.units + (n + 1) < cLine → SeqAt.RcAt A s u1 u2 (eqv d1 d2)
  | .non, .non, v1, v2, u1, u2, o1, o2, r1, r2, q1, q2, hu => by
    cases Rep.non_inv r1
    cases q1
    cases Rep.non_inv r2
    cases q2
    exact SeqAt.RcAt.none_none
  | .non, .bl y, v1, v2, u1, u2, o1, o2, r1, r2, q1, q2, hu => by
    cases Rep.non_inv r1
    cases q1
    cases Rep.bl_inv r2
    cases q2
    exact (by simp only [eqv, Bool.not_false]; exact SeqAt.RcAt.none_bool y)
  | .non, .int y, v1, v2, u1, u2, o1, o2, r1, r2, q1, q2, hu => by
    cases Rep.non_inv r1
    cases q1
    cases Rep.int_inv r2
    obtain ⟨ty, rfl⟩ := q2
    exact (by simp only [eqv, Bool.not_false]; exact SeqAt.RcAt.none_int y ty)
  | .non, .str y, v1, v2, u1, u2, o1, o2, r1, r2, q1, q2, hu => by
    cases Rep.non_inv r1
    cases q1
    cases Rep.str_inv r2
    obtain ⟨ty, rfl⟩ := q2
    exact (by simp only [eqv, Bool.not_false]; exact SeqAt.RcAt.none_str y ty)
  | .non, .lst y, v1, v2, u1, u2, o1, o2, r1, r2, q1, q2, hu => by
    cases Rep.non_inv r1
    cases q1
    obtain ⟨ay, vsy, rfl, sy, rsy⟩ := Rep.lst_inv r2
    cases q2
    obtain ⟨itsy, rvy, ply, _⟩ := I.list sy
    have hy := ply.isList
    have hu0 : A.units < cLine := by omega
    exact (by simp only [eqv, Bool.not_false]; exact SeqAt.RcAt.none_list  hy hu0)
  | .non, .tup y, v1, v2, u1, u2, o1, o2, r1, r2, q1, q2, hu => by
    cases Rep.non_inv r1
    cases q1
    obtain ⟨ay, vsy, rfl, sy, rsy⟩ := Rep.tup_inv r2
    cases q2
    obtain ⟨itsy, rvy, ply, _⟩ := I.tuple sy
    have hy : s.heap.IsTuple ay itsy.toArray := ply
    have hu0 : A.units < cLine := by omega
    exact (by simp only [eqv, Bool.not_false]; exact SeqAt.RcAt.none_tuple  hy hu0)
  | .bl x, .non, v1, v2, u1, u2, o1, o2, r1, r2, q1, q2, hu => by
    cases Rep.bl_inv r1
    cases q1
    cases Rep.non_inv r2
    cases q2
    exact (by simp only [eqv, Bool.not_false]; exact SeqAt.RcAt.bool_none x)
  | .bl x, .bl y, v1, v2, u1, u2, o1, o2, r1, r2, q1, q2, hu => by
    cases Rep.bl_inv r1
    cases q1
    cases Rep.bl_inv r2
    cases q2
    exact (by simp only [eqv]; exact SeqAt.RcAt.bool_bool x y)
  | .bl x, .int y, v1, v2, u1, u2, o1, o2, r1, r2, q1, q2, hu => by
    cases Rep.bl_inv r1
    cases q1
    cases Rep.int_inv r2
    obtain ⟨ty, rfl⟩ := q2
    exact (by simp only [eqv, Bool.not_false]; exact SeqAt.RcAt.bool_int x y ty)
  | .bl x, .str y, v1, v2, u1, u2, o1, o2, r1, r2, q1, q2, hu => by
    cases Rep.bl_inv r1
    cases q1
    cases Rep.str_inv r2
    obtain ⟨ty, rfl⟩ := q2
    exact (by simp only [eqv, Bool.not_false]; exact SeqAt.RcAt.bool_str x y ty)
  | .bl x, .lst y, v1, v2, u1, u2, o1, o2, r1, r2, q1, q2, hu => by
    cases Rep.bl_inv r1
    cases q1
    obtain ⟨ay, vsy, rfl, sy, rsy⟩ := Rep.lst_inv r2
    cases q2
    obtain ⟨itsy, rvy, ply, _⟩ := I.list sy
    have hy := ply.isList
    have hu0 : A.units < cLine := by omega
    exact (by simp only [eqv, Bool.not_false]; exact SeqAt.RcAt.bool_list x hy hu0)
  | .bl x, .tup y, v1, v2, u1, u2, o1, o2, r1, r2, q1, q2, hu => by
    cases Rep.bl_inv r1
    cases q1
    obtain ⟨ay, vsy, rfl, sy, rsy⟩ := Rep.tup_inv r2
    cases q2
    obtain ⟨itsy, rvy, ply, _⟩ := I.tuple sy
    have hy : s.heap.IsTuple ay itsy.toArray := ply
    have hu0 : A.units < cLine := by omega
    exact (by simp only [eqv, Bool.not_false]; exact SeqAt.RcAt.bool_tuple x hy hu0)
  | .int x, .non, v1, v2, u1, u2, o1, o2, r1, r2, q1, q2, hu => by
    cases Rep.int_inv r1
    obtain ⟨tx, rfl⟩ := q1
    cases Rep.non_inv r2
    cases q2
    exact (by simp only [eqv, Bool.not_false]; exact SeqAt.RcAt.int_none x tx)
  | .int x, .bl y, v1, v2, u1, u2, o1, o2, r1, r2, q1, q2, hu => by
    cases Rep.int_inv r1
    obtain ⟨tx, rfl⟩ := q1
    cases Rep.bl_inv r2
    cases q2
    exact (by simp only [eqv, Bool.not_false]; exact SeqAt.RcAt.int_bool x tx y)
  | .int x, .int y, v1, v2, u1, u2, o1, o2, r1, r2, q1, q2, hu => by
    cases Rep.int_inv r1
    obtain ⟨tx, rfl⟩ := q1
    cases Rep.int_inv r2
    obtain ⟨ty, rfl⟩ := q2
    exact (by simp only [eqv]; exact SeqAt.RcAt.int_int x tx y ty)
  | .int x, .str y, v1, v2, u1, u2, o1, o2, r1, r2, q1, q2, hu => by
    cases Rep.int_inv r1
    obtain ⟨tx, rfl⟩ := q1
    cases Rep.str_inv r2
    obtain ⟨ty, rfl⟩ := q2
    exact (by simp only [eqv, Bool.not_false]; exact SeqAt.RcAt.int_str x tx y ty)
  | .int x, .lst y, v1, v2, u1, u2, o1, o2, r1, r2, q1, q2, hu => by
    cases Rep.int_inv r1
    obtain ⟨tx, rfl⟩ := q1
    obtain ⟨ay, vsy, rfl, sy, rsy⟩ := Rep.lst_inv r2
    cases q2
    obtain ⟨itsy, rvy, ply, _⟩ := I.list sy
    have hy := ply.isList
    have hu0 : A.units < cLine := by omega
    exact (by simp only [eqv, Bool.not_false]; exact SeqAt.RcAt.int_list x tx hy hu0)
  | .int x, .tup y, v1, v2, u1, u2, o1, o2, r1, r2, q1, q2, hu => by
    cases Rep.int_inv r1
    obtain ⟨tx, rfl⟩ := q1
    obtain ⟨ay, vsy, rfl, sy, rsy⟩ := Rep.tup_inv r2
    cases q2
    obtain ⟨itsy, rvy, ply, _⟩ := I.tuple sy
    have hy : s.heap.IsTuple ay itsy.toArray := ply
    have hu0 : A.units < cLine := by omega
    exact (by simp only [eqv, Bool.not_false]; exact SeqAt.RcAt.int_tuple x tx hy hu0)
  | .str x, .non, v1, v2, u1, u2, o1, o2, r1, r2, q1, q2, hu => by
    cases Rep.str_inv r1
    obtain ⟨tx, rfl⟩ := q1
    cases Rep.non_inv r2
    cases q2
    exact (by simp only [eqv, Bool.not_false]; exact SeqAt.RcAt.str_none x tx)
  | .str x, .bl y, v1, v2, u1, u2, o1, o2, r1, r2, q1, q2, hu => by
    cases Rep.str_inv r1
    obtain ⟨tx, rfl⟩ := q1
    cases Rep.bl_inv r2
    cases q2
    exact (by simp only [eqv, Bool.not_false]; exact SeqAt.RcAt.str_bool x tx y)
  | .str x, .int y, v1, v2, u1, u2, o1, o2, r1, r2, q1, q2, hu => by
    cases Rep.str_inv r1
    obtain ⟨tx, rfl⟩ := q1
    cases Rep.int_inv r2
    obtain ⟨ty, rfl⟩ := q2
    exact (by simp only [eqv, Bool.not_false]; exact SeqAt.RcAt.str_int x tx y ty)
  | .str x, .str y, v1, v2, u1, u2, o1, o2, r1, r2, q1, q2, hu => by
    cases Rep.str_inv r1
    obtain ⟨tx, rfl⟩ := q1
    cases Rep.str_inv r2
    obtain ⟨ty, rfl⟩ := q2
    exact (by simp only [eqv]; exact SeqAt.RcAt.str_str x tx y ty)
  | .str x, .lst y, v1, v2, u1, u2, o1, o2, r1, r2, q1, q2, hu => by
    cases Rep.str_inv r1
    obtain ⟨tx, rfl⟩ := q1
    obtain ⟨ay, vsy, rfl, sy, rsy⟩ := Rep.lst_inv r2
    cases q2
    obtain ⟨itsy, rvy, ply, _⟩ := I.list sy
    have hy := ply.isList
    have hu0 : A.units < cLine := by omega
    exact (by simp only [eqv, Bool.not_false]; exact SeqAt.RcAt.str_list x tx hy hu0)
  | .str x, .tup y, v1, v2, u1, u2, o1, o2, r1, r2, q1, q2, hu => by
    cases Rep.str_inv r1
    obtain ⟨tx, rfl⟩ := q1
    obtain ⟨ay, vsy, rfl, sy, rsy⟩ := Rep.tup_inv r2
    cases q2
    obtain ⟨itsy, rvy, ply, _⟩ := I.tuple sy
    have hy : s.heap.IsTuple ay itsy.toArray := ply
    have hu0 : A.units < cLine := by omega
    exact (by simp only [eqv, Bool.not_false]; exact SeqAt.RcAt.str_tuple x tx hy hu0)
  | .lst x, .non, v1, v2, u1, u2, o1, o2, r1, r2, q1, q2, hu => by
    obtain ⟨ax, vsx, rfl, sx, rsx⟩ := Rep.lst_inv r1
    cases q1
    obtain ⟨itsx, rvx, plx, _⟩ := I.list sx
    have hx := plx.isList
    cases Rep.non_inv r2
    cases q2
    have hu0 : A.units < cLine := by omega
    exact (by simp only [eqv, Bool.not_false]; exact SeqAt.RcAt.list_none  hx hu0)
  | .lst x, .bl y, v1, v2, u1, u2, o1, o2, r1, r2, q1, q2, hu => by
    obtain ⟨ax, vsx, rfl, sx, rsx⟩ := Rep.lst_inv r1
    cases q1
    obtain ⟨itsx, rvx, plx, _⟩ := I.list sx
    have hx := plx.isList
    cases Rep.bl_inv r2
    cases q2
    have hu0 : A.units < cLine := by omega
    exact (by simp only [eqv, Bool.not_false]; exact SeqAt.RcAt.list_bool y hx hu0)
  | .lst x, .int y, v1, v2, u1, u2, o1, o2, r1, r2, q1, q2, hu => by
    obtain ⟨ax, vsx, rfl, sx, rsx⟩ := Rep.lst_inv r1
    cases q1
    obtain ⟨itsx, rvx, plx, _⟩ := I.list sx
    have hx := plx.isList
    cases Rep.int_inv r2
    obtain ⟨ty, rfl⟩ := q2
    have hu0 : A.units < cLine := by omega
    exact (by simp only [eqv, Bool.not_false]; exact SeqAt.RcAt.list_int y ty hx hu0)
  | .lst x, .str y, v1, v2, u1, u2, o1, o2, r1, r2, q1, q2, hu => by
    obtain ⟨ax, vsx, rfl, sx, rsx⟩ := Rep.lst_inv r1
    cases q1
    obtain ⟨itsx, rvx, plx, _⟩ := I.list sx
    have hx := plx.isList
    cases Rep.str_inv r2
    obtain ⟨ty, rfl⟩ := q2
    have hu0 : A.units < cLine := by omega
    exact (by simp only [eqv, Bool.not_false]; exact SeqAt.RcAt.list_str y ty hx hu0)
  | .lst x, .lst y, v1, v2, u1, u2, o1, o2, r1, r2, q1, q2, hu => by
    obtain ⟨ax, vsx, rfl, sx, rsx⟩ := Rep.lst_inv r1
    cases q1
    obtain ⟨itsx, rvx, plx, _⟩ := I.list sx
    have hx := plx.isList
    obtain ⟨ay, vsy, rfl, sy, rsy⟩ := Rep.lst_inv r2
    cases q2
    obtain ⟨itsy, rvy, ply, _⟩ := I.list sy
    have hy := ply.isList
    have hu0 : A.units < cLine := by omega
    have n1 : itsx.toArray.size = x.length := by rw [List.size_toArray, ← rvx.length, rsx.length]
    have n2 : itsy.toArray.size = y.length := by rw [List.size_toArray, ← rvy.length, rsy.length]
    have ox := okN_list o1
    have oy := okN_list o2
    have he : ∀ j (j1 : j < itsx.toArray.size) (j2 : j < itsy.toArray.size), SeqAt.EqAt A.in1 s itsx.toArray[j] itsy.toArray[j] (pairE x y j) := fun j j1 j2 => items_at (fun a b v w u1 u2 p q r t k l => ih A.in1 a b v w u1 u2 p q r t k l (by show A.units + 1 + n < cLine; omega)) rsx rsy rvx rvy ox oy j (by simpa using j1) (by simpa using j2)
    rw [eqv]
    by_cases hsz : itsx.toArray.size = itsy.toArray.size
    · rw [← eqvs_same (by omega : x.length = y.length), ← n1]
      exact SeqAt.RcAt.lists hx hy hsz hu0 he
    · rw [eqvs_other (by omega : x.length ≠ y.length)]
      exact SeqAt.RcAt.lists_lengths hx hy (by simpa using hsz) hu0
  | .lst x, .tup y, v1, v2, u1, u2, o1, o2, r1, r2, q1, q2, hu => by
    obtain ⟨ax, vsx, rfl, sx, rsx⟩ := Rep.lst_inv r1
    cases q1
    obtain ⟨itsx, rvx, plx, _⟩ := I.list sx
    have hx := plx.isList
    obtain ⟨ay, vsy, rfl, sy, rsy⟩ := Rep.tup_inv r2
    cases q2
    obtain ⟨itsy, rvy, ply, _⟩ := I.tuple sy
    have hy : s.heap.IsTuple ay itsy.toArray := ply
    have hu0 : A.units < cLine := by omega
    exact (by simp only [eqv, Bool.not_false]; exact SeqAt.RcAt.list_tuple  hx hy hu0)
  | .tup x, .non, v1, v2, u1, u2, o1, o2, r1, r2, q1, q2, hu => by
    obtain ⟨ax, vsx, rfl, sx, rsx⟩ := Rep.tup_inv r1
    cases q1
    obtain ⟨itsx, rvx, plx, _⟩ := I.tuple sx
    have hx : s.heap.IsTuple ax itsx.toArray := plx
    cases Rep.non_inv r2
    cases q2
    have hu0 : A.units < cLine := by omega
    exact (by simp only [eqv, Bool.not_false]; exact SeqAt.RcAt.tuple_none  hx hu0)
  | .tup x, .bl y, v1, v2, u1, u2, o1, o2, r1, r2, q1, q2, hu => by
    obtain ⟨ax, vsx, rfl, sx, rsx⟩ := Rep.tup_inv r1
    cases q1
    obtain ⟨itsx, rvx, plx, _⟩ := I.tuple sx
    have hx : s.heap.IsTuple ax itsx.toArray := plx
    cases Rep.bl_inv r2
    cases q2
    have hu0 : A.units < cLine := by omega
    exact (by simp only [eqv, Bool.not_false]; exact SeqAt.RcAt.tuple_bool y hx hu0)
  | .tup x, .int y, v1, v2, u1, u2, o1, o2, r1, r2, q1, q2, hu => by
    obtain ⟨ax, vsx, rfl, sx, rsx⟩ := Rep.tup_inv r1
    cases q1
    obtain ⟨itsx, rvx, plx, _⟩ := I.tuple sx
    have hx : s.heap.IsTuple ax itsx.toArray := plx
    cases Rep.int_inv r2
    obtain ⟨ty, rfl⟩ := q2
    have hu0 : A.units < cLine := by omega
    exact (by simp only [eqv, Bool.not_false]; exact SeqAt.RcAt.tuple_int y ty hx hu0)
  | .tup x, .str y, v1, v2, u1, u2, o1, o2, r1, r2, q1, q2, hu => by
    obtain ⟨ax, vsx, rfl, sx, rsx⟩ := Rep.tup_inv r1
    cases q1
    obtain ⟨itsx, rvx, plx, _⟩ := I.tuple sx
    have hx : s.heap.IsTuple ax itsx.toArray := plx
    cases Rep.str_inv r2
    obtain ⟨ty, rfl⟩ := q2
    have hu0 : A.units < cLine := by omega
    exact (by simp only [eqv, Bool.not_false]; exact SeqAt.RcAt.tuple_str y ty hx hu0)
  | .tup x, .lst y, v1, v2, u1, u2, o1, o2, r1, r2, q1, q2, hu => by
    obtain ⟨ax, vsx, rfl, sx, rsx⟩ := Rep.tup_inv r1
    cases q1
    obtain ⟨itsx, rvx, plx, _⟩ := I.tuple sx
    have hx : s.heap.IsTuple ax itsx.toArray := plx
    obtain ⟨ay, vsy, rfl, sy, rsy⟩ := Rep.lst_inv r2
    cases q2
    obtain ⟨itsy, rvy, ply, _⟩ := I.list sy
    have hy := ply.isList
    have hu0 : A.units < cLine := by omega
    exact (by simp only [eqv, Bool.not_false]; exact SeqAt.RcAt.tuple_list  hx hy hu0)
  | .tup x, .tup y, v1, v2, u1, u2, o1, o2, r1, r2, q1, q2, hu => by
    obtain ⟨ax, vsx, rfl, sx, rsx⟩ := Rep.tup_inv r1
    cases q1
    obtain ⟨itsx, rvx, plx, _⟩ := I.tuple sx
    have hx : s.heap.IsTuple ax itsx.toArray := plx
    obtain ⟨ay, vsy, rfl, sy, rsy⟩ := Rep.tup_inv r2
    cases q2
    obtain ⟨itsy, rvy, ply, _⟩ := I.tuple sy
    have hy : s.heap.IsTuple ay itsy.toArray := ply
    have hu0 : A.units < cLine := by omega
    have n1 : itsx.toArray.size = x.length := by rw [List.size_toArray, ← rvx.length, rsx.length]
    have n2 : itsy.toArray.size = y.length := by rw [List.size_toArray, ← rvy.length, rsy.length]
    have ox := okN_tuple o1
    have oy := okN_tuple o2
    have he : ∀ j (j1 : j < itsx.toArray.size) (j2 : j < itsy.toArray.size), SeqAt.EqAt A.in1 s itsx.toArray[j] itsy.toArray[j] (pairE x y j) := fun j j1 j2 => items_at (fun a b v w u1 u2 p q r t k l => ih A.in1 a b v w u1 u2 p q r t k l (by show A.units + 1 + n < cLine; omega)) rsx rsy rvx rvy ox oy j (by simpa using j1) (by simpa using j2)
    rw [eqv]
    rw [← eqvs_all x y, ← n1, ← n2]
    exact SeqAt.RcAt.tuples hx hy hu0 he
  | .non, .dK y, v1, v2, u1, u2, o1, o2, r1, r2, q1, q2, hu => by simp [okN] at o2
  | .non, .dT y, v1, v2, u1, u2, o1, o2, r1, r2, q1, q2, hu => by simp [okN] at o2
  | .non, .ty y, v1, v2, u1, u2, o1, o2, r1, r2, q1, q2, hu => by simp [okN] at o2
  | .non, .scr y, v1, v2, u1, u2, o1, o2, r1, r2, q1, q2, hu => by simp [okN] at o2
  | .bl x, .dK y, v1, v2, u1, u2, o1, o2, r1, r2, q1, q2, hu => by simp [okN] at o2
  | .bl x, .dT y, v1, v2, u1, u2, o1, o2, r1, r2, q1, q2, hu => by simp [okN] at o2
  | .bl x, .ty y, v1, v2, u1, u2, o1, o2, r1, r2, q1, q2, hu => by simp [okN] at o2
  | .bl x, .scr y, v1, v2, u1, u2, o1, o2, r1, r2, q1, q2, hu => by simp [okN] at o2
  | .int x, .dK y, v1, v2, u1, u2, o1, o2, r1, r2, q1, q2, hu => by simp [okN] at o2
  | .int x, .dT y, v1, v2, u1, u2, o1, o2, r1, r2, q1, q2, hu => by simp [okN] at o2
  | .int x, .ty y, v1, v2, u1, u2, o1, o2, r1, r2, q1, q2, hu => by simp [okN] at o2
  | .int x, .scr y, v1, v2, u1, u2, o1, o2, r1, r2, q1, q2, hu => by simp [okN] at o2
  | .str x, .dK y, v1, v2, u1, u2, o1, o2, r1, r2, q1, q2, hu => by simp [okN] at o2
  | .str x, .dT y, v1, v2, u1, u2, o1, o2, r1, r2, q1, q2, hu => by simp [okN] at o2
  | .str x, .ty y, v1, v2, u1, u2, o1, o2, r1, r2, q1, q2, hu => by simp [okN] at o2
  | .str x, .scr y, v1, v2, u1, u2, o1, o2, r1, r2, q1, q2, hu => by simp [okN] at o2
  | .lst x, .dK y, v1, v2, u1, u2, o1, o2, r1, r2, q1, q2, hu => by simp [okN] at o2
  | .lst x, .dT y, v1, v2, u1, u2, o1, o2, r1, r2, q1, q2, hu => by simp [okN] at o2
  | .lst x, .ty y, v1, v2, u1, u2, o1, o2, r1, r2, q1, q2, hu => by simp [okN] at o2
  | .lst x, .scr y, v1, v2, u1, u2, o1, o2, r1, r2, q1, q2, hu => by simp [okN] at o2
  | .tup x, .dK y, v1, v2, u1, u2, o1, o2, r1, r2, q1, q2, hu => by simp [okN] at o2
  | .tup x, .dT y, v1, v2, u1, u2, o1, o2, r1, r2, q1, q2, hu => by simp [okN] at o2
  | .tup x, .ty y, v1, v2, u1, u2, o1, o2, r1, r2, q1, q2, hu => by simp [okN] at o2
  | .tup x, .scr y, v1, v2, u1, u2, o1, o2, r1, r2, q1, q2, hu => by simp [okN] at o2
  | .dK x, _, v1, v2, u1, u2, o1, o2, r1, r2, q1, q2, hu => by simp [okN] at o1
  | .dT x, _, v1, v2, u1, u2, o1, o2, r1, r2, q1, q2, hu => by simp [okN] at o1
  | .ty x, _, v1, v2, u1, u2, o1, o2, r1, r2, q1, q2, hu => by simp [okN] at o1
  | .scr x, _, v1, v2, u1, u2, o1, o2, r1, r2, q1, q2, hu => by simp [okN] at o1
theorem rcNe_step (I : Inv X pins σ H s) {n : Nat} (ih : EqIh X H s n) {A : Around} : ∀ (d1 d2 : D) (v1 v2 : V) (u1 u2 : Value), okN (n + 1) d1 = true → okN (n + 1) d2 = true → Rep X.K H d1 v1 → Rep X.K H d2 v2 → RelV v1 u1 → RelV v2 u2 → A.units + (n + 1) < cLine → SeqAt.RcNeAt A s u1 u2 (!eqv d1 d2)
  | .non, .non, v1, v2, u1, u2, o1, o2, r1, r2, q1, q2, hu => by
    cases Rep.non_inv r1
    cases q1
    cases Rep.non_inv r2
    cases q2
    exact SeqAt.RcNeAt.none_none
  | .non, .bl y, v1, v2, u1, u2, o1, o2, r1, r2, q1, q2, hu => by
    cases Rep.non_inv r1
    cases q1
    cases Rep.bl_inv r2
    cases q2
    exact (by simp only [eqv, Bool.not_false]; exact SeqAt.RcNeAt.none_bool y)
  | .non, .int y, v1, v2, u1, u2, o1, o2, r1, r2, q1, q2, hu => by
    cases Rep.non_inv r1
    cases q1
    cases Rep.int_inv r2
    obtain ⟨ty, rfl⟩ := q2
    exact (by simp only [eqv, Bool.not_false]; exact SeqAt.RcNeAt.none_int y ty)
  | .non, .str y, v1, v2, u1, u2, o1, o2, r1, r2, q1, q2, hu => by
    cases Rep.non_inv r1
    cases q1
    cases Rep.str_inv r2
    obtain ⟨ty, rfl⟩ := q2
    exact (by simp only [eqv, Bool.not_false]; exact SeqAt.RcNeAt.none_str y ty)
  | .non, .lst y, v1, v2, u1, u2, o1, o2, r1, r2, q1, q2, hu => by
    cases Rep.non_inv r1
    cases q1
    obtain ⟨ay, vsy, rfl, sy, rsy⟩ := Rep.lst_inv r2
    cases q2
    obtain ⟨itsy, rvy, ply, _⟩ := I.list sy
    have hy := ply.isList
    have hu0 : A.units < cLine := by omega
    exact (by simp only [eqv, Bool.not_false]; exact SeqAt.RcNeAt.none_list  hy hu0)
  | .non, .tup y, v1, v2, u1, u2, o1, o2, r1, r2, q1, q2, hu => by
    cases Rep.non_inv r1
    cases q1
    obtain ⟨ay, vsy, rfl, sy, rsy⟩ := Rep.tup_inv r2
    cases q2
    obtain ⟨itsy, rvy, ply, _⟩ := I.tuple sy
    have hy : s.heap.IsTuple ay itsy.toArray := ply
    have hu0 : A.units < cLine := by omega
    exact (by simp only [eqv, Bool.not_false]; exact SeqAt.RcNeAt.none_tuple  hy hu0)
  | .bl x, .non, v1, v2, u1, u2, o1, o2, r1, r2, q1, q2, hu => by
    cases Rep.bl_inv r1
    cases q1
    cases Rep.non_inv r2
    cases q2
    exact (by simp only [eqv, Bool.not_false]; exact SeqAt.RcNeAt.bool_none x)
  | .bl x, .bl y, v1, v2, u1, u2, o1, o2, r1, r2, q1, q2, hu => by
    cases Rep.bl_inv r1
    cases q1
    cases Rep.bl_inv r2
    cases q2
    exact (by simp only [eqv]; exact SeqAt.RcNeAt.bool_bool x y)
  | .bl x, .int y, v1, v2, u1, u2, o1, o2, r1, r2, q1, q2, hu => by
    cases Rep.bl_inv r1
    cases q1
    cases Rep.int_inv r2
    obtain ⟨ty, rfl⟩ := q2
    exact (by simp only [eqv, Bool.not_false]; exact SeqAt.RcNeAt.bool_int x y ty)
  | .bl x, .str y, v1, v2, u1, u2, o1, o2, r1, r2, q1, q2, hu => by
    cases Rep.bl_inv r1
    cases q1
    cases Rep.str_inv r2
    obtain ⟨ty, rfl⟩ := q2
    exact (by simp only [eqv, Bool.not_false]; exact SeqAt.RcNeAt.bool_str x y ty)
  | .bl x, .lst y, v1, v2, u1, u2, o1, o2, r1, r2, q1, q2, hu => by
    cases Rep.bl_inv r1
    cases q1
    obtain ⟨ay, vsy, rfl, sy, rsy⟩ := Rep.lst_inv r2
    cases q2
    obtain ⟨itsy, rvy, ply, _⟩ := I.list sy
    have hy := ply.isList
    have hu0 : A.units < cLine := by omega
    exact (by simp only [eqv, Bool.not_false]; exact SeqAt.RcNeAt.bool_list x hy hu0)
  | .bl x, .tup y, v1, v2, u1, u2, o1, o2, r1, r2, q1, q2, hu => by
    cases Rep.bl_inv r1
    cases q1
    obtain ⟨ay, vsy, rfl, sy, rsy⟩ := Rep.tup_inv r2
    cases q2
    obtain ⟨itsy, rvy, ply, _⟩ := I.tuple sy
    have hy : s.heap.IsTuple ay itsy.toArray := ply
    have hu0 : A.units < cLine := by omega
    exact (by simp only [eqv, Bool.not_false]; exact SeqAt.RcNeAt.bool_tuple x hy hu0)
  | .int x, .non, v1, v2, u1, u2, o1, o2, r1, r2, q1, q2, hu => by
    cases Rep.int_inv r1
    obtain ⟨tx, rfl⟩ := q1
    cases Rep.non_inv r2
    cases q2
    exact (by simp only [eqv, Bool.not_false]; exact SeqAt.RcNeAt.int_none x tx)
  | .int x, .bl y, v1, v2, u1, u2, o1, o2, r1, r2, q1, q2, hu => by
    cases Rep.int_inv r1
    obtain ⟨tx, rfl⟩ := q1
    cases Rep.bl_inv r2
    cases q2
    exact (by simp only [eqv, Bool.not_false]; exact SeqAt.RcNeAt.int_bool x tx y)
  | .int x, .int y, v1, v2, u1, u2, o1, o2, r1, r2, q1, q2, hu => by
    cases Rep.int_inv r1
    obtain ⟨tx, rfl⟩ := q1
    cases Rep.int_inv r2
    obtain ⟨ty, rfl⟩ := q2
    exact (by simp only [eqv]; exact SeqAt.RcNeAt.int_int x tx y ty)
  | .int x, .str y, v1, v2, u1, u2, o1, o2, r1, r2, q1, q2, hu => by
    cases Rep.int_inv r1
    obtain ⟨tx, rfl⟩ := q1
    cases Rep.str_inv r2
    obtain ⟨ty, rfl⟩ := q2
    exact (by simp only [eqv, Bool.not_false]; exact SeqAt.RcNeAt.int_str x tx y ty)
  | .int x, .lst y, v1, v2, u1, u2, o1, o2, r1, r2, q1, q2, hu => by
    cases Rep.int_inv r1
    obtain ⟨tx, rfl⟩ := q1
    obtain ⟨ay, vsy, rfl, sy, rsy⟩ := Rep.lst_inv r2
    cases q2
    obtain ⟨itsy, rvy, ply, _⟩ := I.list sy
    have hy := ply.isList
    have hu0 : A.units < cLine := by omega
    exact (by simp only [eqv, Bool.not_false]; exact SeqAt.RcNeAt.int_list x tx hy hu0)
  | .int x, .tup y, v1, v2, u1, u2, o1, o2, r1, r2, q1, q2, hu => by
    cases Rep.int_inv r1
    obtain ⟨tx, rfl⟩ := q1
    obtain ⟨ay, vsy, rfl, sy, rsy⟩ := Rep.tup_inv r2
    cases q2
    obtain ⟨itsy, rvy, ply, _⟩ := I.tuple sy
    have hy : s.heap.IsTuple ay itsy.toArray := ply
    have hu0 : A.units < cLine := by omega
    exact (by simp only [eqv, Bool.not_false]; exact SeqAt.RcNeAt.int_tuple x tx hy hu0)
  | .str x, .non, v1, v2, u1, u2, o1, o2, r1, r2, q1, q2, hu => by
    cases Rep.str_inv r1
    obtain ⟨tx, rfl⟩ := q1
    cases Rep.non_inv r2
    cases q2
    exact (by simp only [eqv, Bool.not_false]; exact SeqAt.RcNeAt.str_none x tx)
  | .str x, .bl y, v1, v2, u1, u2, o1, o2, r1, r2, q1, q2, hu => by
    cases Rep.str_inv r1
    obtain ⟨tx, rfl⟩ := q1
    cases Rep.bl_inv r2
    cases q2
    exact (by simp only [eqv, Bool.not_false]; exact SeqAt.RcNeAt.str_bool x tx y)
  | .str x, .int y, v1, v2, u1, u2, o1, o2, r1, r2, q1, q2, hu => by
    cases Rep.str_inv r1
    obtain ⟨tx, rfl⟩ := q1
    cases Rep.int_inv r2
    obtain ⟨ty, rfl⟩ := q2
    exact (by simp only [eqv, Bool.not_false]; exact SeqAt.RcNeAt.str_int x tx y ty)
  | .str x, .str y, v1, v2, u1, u2, o1, o2, r1, r2, q1, q2, hu => by
    cases Rep.str_inv r1
    obtain ⟨tx, rfl⟩ := q1
    cases Rep.str_inv r2
    obtain ⟨ty, rfl⟩ := q2
    exact (by simp only [eqv]; exact SeqAt.RcNeAt.str_str x tx y ty)
  | .str x, .lst y, v1, v2, u1, u2, o1, o2, r1, r2, q1, q2, hu => by
    cases Rep.str_inv r1
    obtain ⟨tx, rfl⟩ := q1
    obtain ⟨ay, vsy, rfl, sy, rsy⟩ := Rep.lst_inv r2
    cases q2
    obtain ⟨itsy, rvy, ply, _⟩ := I.list sy
    have hy := ply.isList
    have hu0 : A.units < cLine := by omega
    exact (by simp only [eqv, Bool.not_false]; exact SeqAt.RcNeAt.str_list x tx hy hu0)
  | .str x, .tup y, v1, v2, u1, u2, o1, o2, r1, r2, q1, q2, hu => by
    cases Rep.str_inv r1
    obtain ⟨tx, rfl⟩ := q1
    obtain ⟨ay, vsy, rfl, sy, rsy⟩ := Rep.tup_inv r2
    cases q2
    obtain ⟨itsy, rvy, ply, _⟩ := I.tuple sy
    have hy : s.heap.IsTuple ay itsy.toArray := ply
    have hu0 : A.units < cLine := by omega
    exact (by simp only [eqv, Bool.not_false]; exact SeqAt.RcNeAt.str_tuple x tx hy hu0)
  | .lst x, .non, v1, v2, u1, u2, o1, o2, r1, r2, q1, q2, hu => by
    obtain ⟨ax, vsx, rfl, sx, rsx⟩ := Rep.lst_inv r1
    cases q1
    obtain ⟨itsx, rvx, plx, _⟩ := I.list sx
    have hx := plx.isList
    cases Rep.non_inv r2
    cases q2
    have hu0 : A.units < cLine := by omega
    exact (by simp only [eqv, Bool.not_false]; exact SeqAt.RcNeAt.list_none  hx hu0)
  | .lst x, .bl y, v1, v2, u1, u2, o1, o2, r1, r2, q1, q2, hu => by
    obtain ⟨ax, vsx, rfl, sx, rsx⟩ := Rep.lst_inv r1
    cases q1
    obtain ⟨itsx, rvx, plx, _⟩ := I.list sx
    have hx := plx.isList
    cases Rep.bl_inv r2
    cases q2
    have hu0 : A.units < cLine := by omega
    exact (by simp only [eqv, Bool.not_false]; exact SeqAt.RcNeAt.list_bool y hx hu0)
  | .lst x, .int y, v1, v2, u1, u2, o1, o2, r1, r2, q1, q2, hu => by
    obtain ⟨ax, vsx, rfl, sx, rsx⟩ := Rep.lst_inv r1
    cases q1
    obtain ⟨itsx, rvx, plx, _⟩ := I.list sx
    have hx := plx.isList
    cases Rep.int_inv r2
    obtain ⟨ty, rfl⟩ := q2
    have hu0 : A.units < cLine := by omega
    exact (by simp only [eqv, Bool.not_false]; exact SeqAt.RcNeAt.list_int y ty hx hu0)
  | .lst x, .str y, v1, v2, u1, u2, o1, o2, r1, r2, q1, q2, hu => by
    obtain ⟨ax, vsx, rfl, sx, rsx⟩ := Rep.lst_inv r1
    cases q1
    obtain ⟨itsx, rvx, plx, _⟩ := I.list sx
    have hx := plx.isList
    cases Rep.str_inv r2
    obtain ⟨ty, rfl⟩ := q2
    have hu0 : A.units < cLine := by omega
    exact (by simp only [eqv, Bool.not_false]; exact SeqAt.RcNeAt.list_str y ty hx hu0)
  | .lst x, .lst y, v1, v2, u1, u2, o1, o2, r1, r2, q1, q2, hu => by
    obtain ⟨ax, vsx, rfl, sx, rsx⟩ := Rep.lst_inv r1
    cases q1
    obtain ⟨itsx, rvx, plx, _⟩ := I.list sx
    have hx := plx.isList
    obtain ⟨ay, vsy, rfl, sy, rsy⟩ := Rep.lst_inv r2
    cases q2
    obtain ⟨itsy, rvy, ply, _⟩ := I.list sy
    have hy := ply.isList
    have hu0 : A.units < cLine := by omega
    have n1 : itsx.toArray.size = x.length := by rw [List.size_toArray, ← rvx.length, rsx.length]
    have n2 : itsy.toArray.size = y.length := by rw [List.size_toArray, ← rvy.length, rsy.length]
    have ox := okN_list o1
    have oy := okN_list o2
    have he : ∀ j (j1 : j < itsx.toArray.size) (j2 : j < itsy.toArray.size), SeqAt.EqAt A.in1 s itsx.toArray[j] itsy.toArray[j] (pairE x y j) := fun j j1 j2 => items_at (fun a b v w u1 u2 p q r t k l => ih A.in1 a b v w u1 u2 p q r t k l (by show A.units + 1 + n < cLine; omega)) rsx rsy rvx rvy ox oy j (by simpa using j1) (by simpa using j2)
    rw [eqv]
    by_cases hsz : itsx.toArray.size = itsy.toArray.size
    · rw [← eqvs_same (by omega : x.length = y.length), ← n1]
      exact SeqAt.RcNeAt.lists hx hy hsz hu0 he
    · rw [eqvs_other (by omega : x.length ≠ y.length)]
      exact SeqAt.RcNeAt.lists_lengths hx hy (by simpa using hsz) hu0
  | .lst x, .tup y, v1, v2, u1, u2, o1, o2, r1, r2, q1, q2, hu => by
    obtain ⟨ax, vsx, rfl, sx, rsx⟩ := Rep.lst_inv r1
    cases q1
    obtain ⟨itsx, rvx, plx, _⟩ := I.list sx
    have hx := plx.isList
    obtain ⟨ay, vsy, rfl, sy, rsy⟩ := Rep.tup_inv r2
    cases q2
    obtain ⟨itsy, rvy, ply, _⟩ := I.tuple sy
    have hy : s.heap.IsTuple ay itsy.toArray := ply
    have hu0 : A.units < cLine := by omega
    exact (by simp only [eqv, Bool.not_false]; exact SeqAt.RcNeAt.list_tuple  hx hy hu0)
  | .tup x, .non, v1, v2, u1, u2, o1, o2, r1, r2, q1, q2, hu => by
    obtain ⟨ax, vsx, rfl, sx, rsx⟩ := Rep.tup_inv r1
    cases q1
    obtain ⟨itsx, rvx, plx, _⟩ := I.tuple sx
    have hx : s.heap.IsTuple ax itsx.toArray := plx
    cases Rep.non_inv r2
    cases q2
    have hu0 : A.units < cLine := by omega
    exact (by simp only [eqv, Bool.not_false]; exact SeqAt.RcNeAt.tuple_none  hx hu0)
  | .tup x, .bl y, v1, v2, u1, u2, o1, o2, r1, r2, q1, q2, hu => by
    obtain ⟨ax, vsx, rfl, sx, rsx⟩ := Rep.tup_inv r1
    cases q1
    obtain ⟨itsx, rvx, plx, _⟩ := I.tuple sx
    have hx : s.heap.IsTuple ax itsx.toArray := plx
    cases Rep.bl_inv r2
    cases q2
    have hu0 : A.units < cLine := by omega
    exact (by simp only [eqv, Bool.not_false]; exact SeqAt.RcNeAt.tuple_bool y hx hu0)
  | .tup x, .int y, v1, v2, u1, u2, o1, o2, r1, r2, q1, q2, hu => by
    obtain ⟨ax, vsx, rfl, sx, rsx⟩ := Rep.tup_inv r1
    cases q1
    obtain ⟨itsx, rvx, plx, _⟩ := I.tuple sx
    have hx : s.heap.IsTuple ax itsx.toArray := plx
    cases Rep.int_inv r2
    obtain ⟨ty, rfl⟩ := q2
    have hu0 : A.units < cLine := by omega
    exact (by simp only [eqv, Bool.not_false]; exact SeqAt.RcNeAt.tuple_int y ty hx hu0)
  | .tup x, .str y, v1, v2, u1, u2, o1, o2, r1, r2, q1, q2, hu => by
    obtain ⟨ax, vsx, rfl, sx, rsx⟩ := Rep.tup_inv r1
    cases q1
    obtain ⟨itsx, rvx, plx, _⟩ := I.tuple sx
    have hx : s.heap.IsTuple ax itsx.toArray := plx
    cases Rep.str_inv r2
    obtain ⟨ty, rfl⟩ := q2
    have hu0 : A.units < cLine := by omega
    exact (by simp only [eqv, Bool.not_false]; exact SeqAt.RcNeAt.tuple_str y ty hx hu0)
  | .tup x, .lst y, v1, v2, u1, u2, o1, o2, r1, r2, q1, q2, hu => by
    obtain ⟨ax, vsx, rfl, sx, rsx⟩ := Rep.tup_inv r1
    cases q1
    obtain ⟨itsx, rvx, plx, _⟩ := I.tuple sx
    have hx : s.heap.IsTuple ax itsx.toArray := plx
    obtain ⟨ay, vsy, rfl, sy, rsy⟩ := Rep.lst_inv r2
    cases q2
    obtain ⟨itsy, rvy, ply, _⟩ := I.list sy
    have hy := ply.isList
    have hu0 : A.units < cLine := by omega
    exact (by simp only [eqv, Bool.not_false]; exact SeqAt.RcNeAt.tuple_list  hx hy hu0)
  | .tup x, .tup y, v1, v2, u1, u2, o1, o2, r1, r2, q1, q2, hu => by
    obtain ⟨ax, vsx, rfl, sx, rsx⟩ := Rep.tup_inv r1
    cases q1
    obtain ⟨itsx, rvx, plx, _⟩ := I.tuple sx
    have hx : s.heap.IsTuple ax itsx.toArray := plx
    obtain ⟨ay, vsy, rfl, sy, rsy⟩ := Rep.tup_inv r2
    cases q2
    obtain ⟨itsy, rvy, ply, _⟩ := I.tuple sy
    have hy : s.heap.IsTuple ay itsy.toArray := ply
    have hu0 : A.units < cLine := by omega
    have n1 : itsx.toArray.size = x.length := by rw [List.size_toArray, ← rvx.length, rsx.length]
    have n2 : itsy.toArray.size = y.length := by rw [List.size_toArray, ← rvy.length, rsy.length]
    have ox := okN_tuple o1
    have oy := okN_tuple o2
    have he : ∀ j (j1 : j < itsx.toArray.size) (j2 : j < itsy.toArray.size), SeqAt.EqAt A.in1 s itsx.toArray[j] itsy.toArray[j] (pairE x y j) := fun j j1 j2 => items_at (fun a b v w u1 u2 p q r t k l => ih A.in1 a b v w u1 u2 p q r t k l (by show A.units + 1 + n < cLine; omega)) rsx rsy rvx rvy ox oy j (by simpa using j1) (by simpa using j2)
    rw [eqv]
    rw [← eqvs_all x y, ← n1, ← n2]
    exact SeqAt.RcNeAt.tuples hx hy hu0 he
  | .non, .dK y, v1, v2, u1, u2, o1, o2, r1, r2, q1, q2, hu => by simp [okN] at o2
  | .non, .dT y, v1, v2, u1, u2, o1, o2, r1, r2, q1, q2, hu => by simp [okN] at o2
  | .non, .ty y, v1, v2, u1, u2, o1, o2, r1, r2, q1, q2, hu => by simp [okN] at o2
  | .non, .scr y, v1, v2, u1, u2, o1, o2, r1, r2, q1, q2, hu => by simp [okN] at o2
  | .bl x, .dK y, v1, v2, u1, u2, o1, o2, r1, r2, q1, q2, hu => by simp [okN] at o2
  | .bl x, .dT y, v1, v2, u1, u2, o1, o2, r1, r2, q1, q2, hu => by simp [okN] at o2
  | .bl x, .ty y, v1, v2, u1, u2, o1, o2, r1, r2, q1, q2, hu => by simp [okN] at o2
  | .bl x, .scr y, v1, v2, u1, u2, o1, o2, r1, r2, q1, q2, hu => by simp [okN] at o2
  | .int x, .dK y, v1, v2, u1, u2, o1, o2, r1, r2, q1, q2, hu => by simp [okN] at o2
  | .int x, .dT y, v1, v2, u1, u2, o1, o2, r1, r2, q1, q2, hu => by simp [okN] at o2
  | .int x, .ty y, v1, v2, u1, u2, o1, o2, r1, r2, q1, q2, hu => by simp [okN] at o2
  | .int x, .scr y, v1, v2, u1, u2, o1, o2, r1, r2, q1, q2, hu => by simp [okN] at o2
  | .str x, .dK y, v1, v2, u1, u2, o1, o2, r1, r2, q1, q2, hu => by simp [okN] at o2
  | .str x, .dT y, v1, v2, u1, u2, o1, o2, r1, r2, q1, q2, hu => by simp [okN] at o2
  | .str x, .ty y, v1, v2, u1, u2, o1, o2, r1, r2, q1, q2, hu => by simp [okN] at o2
  | .str x, .scr y, v1, v2, u1, u2, o1, o2, r1, r2, q1, q2, hu => by simp [okN] at o2
  | .lst x, .dK y, v1, v2, u1, u2, o1, o2, r1, r2, q1, q2, hu => by simp [okN] at o2
  | .lst x, .dT y, v1, v2, u1, u2, o1, o2, r1, r2, q1, q2, hu => by simp [okN] at o2
  | .lst x, .ty y, v1, v2, u1, u2, o1, o2, r1, r2, q1, q2, hu => by simp [okN] at o2
  | .lst x, .scr y, v1, v2, u1, u2, o1, o2, r1, r2, q1, q2, hu => by simp [okN] at o2
  | .tup x, .dK y, v1, v2, u1, u2, o1, o2, r1, r2, q1, q2, hu => by simp [okN] at o2
  | .tup x, .dT y, v1, v2, u1, u2, o1, o2, r1, r2, q1, q2, hu => by simp [okN] at o2
  | .tup x, .ty y, v1, v2, u1, u2, o1, o2, r1, r2, q1, q2, hu => by simp [okN] at o2
  | .tup x, .scr y, v1, v2, u1, u2, o1, o2, r1, r2, q1, q2, hu => by simp [okN] at o2
  | .dK x, _, v1, v2, u1, u2, o1, o2, r1, r2, q1, q2, hu => by simp [okN] at o1
  | .dT x, _, v1, v2, u1, u2, o1, o2, r1, r2, q1, q2, hu => by simp [okN] at o1
  | .ty x, _, v1, v2, u1, u2, o1, o2, r1, r2, q1, q2, hu => by simp [okN] at o1
  | .scr x, _, v1, v2, u1, u2, o1, o2, r1, r2, q1, q2, hu => by simp [okN] at o1
theorem okN_up : ∀ (n : Nat) (d : D), okN n d = true → okN (n + 1) d = true
  | _, .non, _ => by simp [okN]
  | _, .bl _, _ => by simp [okN]
  | _, .int _, _ => by simp [okN]
  | _, .str _, _ => by simp [okN]
  | n + 1, .lst ds, h => by
    simp only [okN]
    exact List.all_eq_true.mpr fun d hd => okN_up n d (okN_list h d hd)
  | n + 1, .tup ds, h => by
    simp only [okN]
    exact List.all_eq_true.mpr fun d hd => okN_up n d (okN_tuple h d hd)
  | 0, .lst _, h => by simp [okN] at h
  | 0, .tup _, h => by simp [okN] at h
  | 0, .dK _, h => by simp [okN] at h
  | 0, .ty _, h => by simp [okN] at h
  | n + 1, .ty _, h => by simp [okN] at h
  | 0, .scr _, h => by simp [okN] at h
  | n + 1, .scr _, h => by simp [okN] at h
  | 0, .dT _, h => by simp [okN] at h
  | n + 1, .dK _, h => by simp [okN] at h
  | n + 1, .dT _, h => by simp [okN] at h
theorem eqAt_zero (I : Inv X pins σ H s) : EqIh X H s 0 := by
  intro A d1 d2 v1 v2 u1 u2 o1 o2 r1 r2 q1 q2 hu
  cases d1 <;> simp [okN] at o1 <;> cases d2 <;> simp [okN] at o2 <;> cases r1 <;> cases r2 <;> (have h := eqAt_V (A := A) (s := s) q1 q2 rfl rfl; simp only [eqv]; exact h)
theorem eqAt_rep (I : Inv X pins σ H s) : ∀ n : Nat, EqIh X H s n
  | 0 => eqAt_zero I
  | n + 1 => fun A d1 d2 v1 v2 u1 u2 o1 o2 r1 r2 q1 q2 hu => eqAt_step I (eqAt_rep I n) d1 d2 v1 v2 u1 u2 o1 o2 r1 r2 q1 q2 hu
end
end DL

set_option autoImplicit false
set_option Elab.async false
set_option linter.all false
set_option maxRecDepth 100000
/-! DL: the operations. -/
namespace DL
open PySem PySem.Spec PyProof.Rows L2

/-- the largest length that is let grow -/
def LIM : Nat := 16777216
theorem LIM_eq : LIM = sizeLine := by rw [sizeLine_eq]; rfl
section
variable {X : Cx}
theorem OpD.of {g : Value → Value → Sem Value} {f : D → D → Option (Nat × D)} {r : R2} (h : OpR X g r) (q : ∀ d1 d2 n d, f d1 d2 = some (n, d) → ∀ (F H : Hp) (x y : V) (Q : VK), Same F H → Rep X.K F d1 x → Rep X.K F d2 y → (∀ v F' H' S, NewV X.K F H F' H' n d v S → Q v H') → r x y H Q) : OpD X g f := ⟨r, h, q⟩
/-- by cases of the values -/
theorem OpR.or {g : Value → Value → Sem Value} {r r' : R2} (h : OpR X g r) (h' : OpR X g r') : OpR X g (fun x y H Q => r x y H Q ∨ r' x y H Q) := by
  intro pins s σ H x y v u Q I rx ry q
  rcases q with q | q
  · exact h pins s σ H x y v u Q I rx ry q
  · exact h' pins s σ H x y v u Q I rx ry q

/-! ### + - * // % ** -/
def addD : D → D → Option (Nat × D)
  | .int i, .int j => some (0, .int (i + j))
  | .lst xs, .lst ys => if xs.length + ys.length ≤ LIM then some (1, .lst (xs ++ ys)) else none
  | .tup xs, .tup ys => if xs.length + ys.length ≤ LIM then some (0, .tup (xs ++ ys)) else none
  | .str x, .str y => if x.length + y.length ≤ LIM then some (0, .str (x ++ y)) else none
  | _, _ => none
theorem addTup {F H : Hp} {a b : Addr} {vs ws : List V} {xs ys : List D} {Q : VK} (sf : Same F H) (h1 : SqT X.K F a vs) (h2 : SqT X.K F b ws) (k1 : Reps X.K F xs vs) (k2 : Reps X.K F ys ws) (r1 : Rep X.K F (.tup xs) (.ref a)) (r2 : Rep X.K F (.tup ys) (.ref b)) (hl : xs.length + ys.length ≤ LIM)
      (q : ∀ v F' H' S, NewV X.K F H F' H' 0 (.tup (xs ++ ys)) v S → Q v H') : rCatA X.K (.ref a) (.ref b) H Q := by
  refine ⟨a, b, vs, ws, rfl, rfl, SqT.mono sf h1, SqT.mono sf h2, by rw [← k1.length, ← k2.length, ← LIM_eq]; exact hl, fun e => ?_, fun _ e => ?_, fun _ _ p hp => ?_⟩
  · subst e
    have e' : xs = [] := List.eq_nil_of_length_eq_zero k1.length
    subst e'
    exact q _ F H _ (NewV.of_rep sf r2)
  · subst e
    have e' : ys = [] := List.eq_nil_of_length_eq_zero k2.length
    subst e'
    rw [List.append_nil] at q
    exact q _ F H _ (NewV.of_rep sf r1)
  · exact q _ _ _ _ (NewV.tup sf hp (k1.append k2))
theorem op_addD : OpD X (binaryOp .Add) addD := by
  refine OpD.of ((((op_add (X := X)).or op_cat).or op_catA).or op_add_str) fun d1 d2 n d h F H x y Q sf r1 r2 q => ?_
  unfold addD at h
  split at h
  · cases h
    cases Rep.int_inv r1
    cases Rep.int_inv r2
    exact .inl (.inl (.inl ⟨_, _, rfl, rfl, q _ F H _ (NewV.of_rep sf (.int _))⟩))
  · split at h
    · rename_i hl
      cases h
      obtain ⟨a, vs, rfl, h1, k1⟩ := Rep.lst_inv' r1
      obtain ⟨b, ws, rfl, h2, k2⟩ := Rep.lst_inv' r2
      exact .inl (.inl (.inr ⟨a, b, vs, ws, rfl, rfl, sf _ _ h1, sf _ _ h2, by rw [← k1.length, ← k2.length, ← LIM_eq]; exact hl, fun p hp => q _ _ _ _ (NewV.lst sf hp (k1.append k2))⟩))
    · cases h
  · split at h
    · rename_i hl
      cases h
      obtain ⟨a, vs, rfl, h1, k1⟩ := Rep.tup_inv r1
      obtain ⟨b, ws, rfl, h2, k2⟩ := Rep.tup_inv r2
      exact .inl (.inr (addTup sf h1 h2 k1 k2 r1 r2 hl q))
    · cases h
  · split at h
    · rename_i hl
      cases h
      cases Rep.str_inv r1
      cases Rep.str_inv r2
      exact .inr ⟨_, _, rfl, rfl, by rw [← LIM_eq]; exact hl, q _ F H _ (NewV.of_rep sf (.str _))⟩
    · cases h
  · cases h
def subD : D → D → Option (Nat × D)
  | .int i, .int j => some (0, .int (i - j))
  | _, _ => none
theorem op_subD : OpD X (binaryOp .Sub) subD := by
  refine OpD.of (op_sub (X := X)) fun d1 d2 n d h F H x y Q sf r1 r2 q => ?_
  unfold subD at h
  split at h
  · cases h
    cases Rep.int_inv r1
    cases Rep.int_inv r2
    exact ⟨_, _, rfl, rfl, q _ F H _ (NewV.of_rep sf (.int _))⟩
  · cases h
/-- within the small products -/
def mulOk (i j : Int) : Bool := decide (-(2 ^ 64) < i ∧ i < 2 ^ 64) || decide (-(2 ^ 64) < j ∧ j < 2 ^ 64)
def repD (k : Nat) (xs : List D) : List D := (List.replicate k xs).flatten
theorem Reps.rep {K : PySem.W.Frag} {F : Hp} {xs : List D} {vs : List V} (r : Reps K F xs vs) : ∀ k : Nat, Reps K F (repD k xs) (List.replicate k vs).flatten
  | 0 => .nil
  | k + 1 => by
    show Reps K F ((List.replicate (k + 1) xs).flatten) _
    rw [List.replicate_succ, List.replicate_succ, List.flatten_cons, List.flatten_cons]
    exact r.append (Reps.rep r k)
def mulD : D → D → Option (Nat × D)
  | .int i, .int j => if mulOk i j = true then some (0, .int (i * j)) else none
  | .lst xs, .int k => if -(2 ^ 63) ≤ k ∧ k < 2 ^ 63 ∧ xs.length * k.toNat ≤ LIM then some (1, .lst (repD k.toNat xs)) else none
  | _, _ => none
theorem op_mulD : OpD X (binaryOp .Mult) mulD := by
  refine OpD.of ((op_mul (X := X)).or op_rep) fun d1 d2 n d h F H x y Q sf r1 r2 q => ?_
  unfold mulD at h
  split at h
  · split at h
    · rename_i hm
      cases h
      cases Rep.int_inv r1
      cases Rep.int_inv r2
      refine .inl ⟨_, _, rfl, rfl, ?_, q _ F H _ (NewV.of_rep sf (.int _))⟩
      unfold mulOk at hm
      rw [Bool.or_eq_true, decide_eq_true_eq, decide_eq_true_eq] at hm
      exact hm
    · cases h
  · split at h
    · rename_i hm
      cases h
      obtain ⟨a, vs, rfl, h1, k1⟩ := Rep.lst_inv' r1
      cases Rep.int_inv r2
      exact .inr ⟨a, _, vs, rfl, rfl, sf _ _ h1, hm.1, hm.2.1, by rw [← k1.length, ← LIM_eq]; exact hm.2.2, fun p hp => q _ _ _ _ (NewV.lst sf hp (k1.rep _))⟩
    · cases h
  · cases h
def fdivD : D → D → Option (Nat × D)
  | .int i, .int j => if 0 < j ∧ j < 1073741824 then some (0, .int (i / j)) else none
  | _, _ => none
theorem op_fdivD : OpD X (binaryOp .FloorDiv) fdivD := by
  refine OpD.of (op_fdiv (X := X)) fun d1 d2 n d h F H x y Q sf r1 r2 q => ?_
  unfold fdivD at h
  split at h
  · split at h
    · rename_i hm
      cases h
      cases Rep.int_inv r1
      cases Rep.int_inv r2
      exact ⟨_, _, rfl, rfl, hm, q _ F H _ (NewV.of_rep sf (.int _))⟩
    · cases h
  · cases h
def modD : D → D → Option (Nat × D)
  | .int i, .int j => if 0 < j then some (0, .int (i % j)) else none
  | _, _ => none
theorem op_modD : OpD X (binaryOp .Mod) modD := by
  refine OpD.of (op_mod (X := X)) fun d1 d2 n d h F H x y Q sf r1 r2 q => ?_
  unfold modD at h
  split at h
  · split at h
    · rename_i hm
      cases h
      cases Rep.int_inv r1
      cases Rep.int_inv r2
      exact ⟨_, _, rfl, rfl, hm, q _ F H _ (NewV.of_rep sf (.int _))⟩
    · cases h
  · cases h
def powD : D → D → Option (Nat × D)
  | .int i, .int j => if 0 ≤ j ∧ j ≤ 1000000 ∧ i.natAbs < 2 ^ 64 then some (0, .int (i ^ j.toNat)) else none
  | _, _ => none
theorem op_powD : OpD X (binaryOp .Pow) powD := by
  refine OpD.of (op_pow (X := X)) fun d1 d2 n d h F H x y Q sf r1 r2 q => ?_
  unfold powD at h
  split at h
  · split at h
    · rename_i hm
      cases h
      cases Rep.int_inv r1
      cases Rep.int_inv r2
      exact ⟨_, _, rfl, rfl, hm, q _ F H _ (NewV.of_rep sf (.int _))⟩
    · cases h
  · cases h
def negD : D → Option (Nat × D)
  | .int i => some (0, .int (-i))
  | _ => none
theorem un_negD : UnD X (unaryOp .USub) negD := by
  refine ⟨_, un_neg (X := X), fun d1 n d h F H x Q sf r1 q => ?_⟩
  unfold negD at h
  split at h
  · cases h
    cases Rep.int_inv r1
    exact ⟨_, rfl, q _ F H _ (NewV.of_rep sf (.int _))⟩
  · cases h

/-! ### comparisons -/
def eqD (a b : D) : Option Bool := if okN 40 a && okN 40 b then some (eqv a b) else none
def neD (a b : D) : Option Bool := if okN 40 a && okN 40 b then some (!eqv a b) else none
theorem op_eqDD (hu : X.A.units + 64 < cLine) : CmpD X .Eq eqD := by
  refine ⟨fun x y H Q => ∃ d1 d2, okN 40 d1 = true ∧ okN 40 d2 = true ∧ Rep X.K H d1 x ∧ Rep X.K H d2 y ∧ Q (.bl (eqv d1 d2)) H, fun pins s σ H x y v u Q I rx ry ⟨d1, d2, o1, o2, r1, r2, q⟩ => ?_, fun d1 d2 k h F H x y Q sf r1 r2 q => ?_⟩
  · exact rcAt_step I (eqAt_rep I 39) d1 d2 x y v u o1 o2 r1 r2 rx ry (by omega) _ _ _ _ ⟨.bl _, H, I, rfl, q⟩
  · unfold eqD at h
    split at h
    · rename_i c
      rw [Bool.and_eq_true] at c
      cases h
      exact ⟨d1, d2, c.1, c.2, r1.mono sf, r2.mono sf, q⟩
    · cases h
theorem op_neDD (hu : X.A.units + 64 < cLine) : CmpD X .NotEq neD := by
  refine ⟨fun x y H Q => ∃ d1 d2, okN 40 d1 = true ∧ okN 40 d2 = true ∧ Rep X.K H d1 x ∧ Rep X.K H d2 y ∧ Q (.bl (!eqv d1 d2)) H, fun pins s σ H x y v u Q I rx ry ⟨d1, d2, o1, o2, r1, r2, q⟩ => ?_, fun d1 d2 k h F H x y Q sf r1 r2 q => ?_⟩
  · exact rcNe_step I (eqAt_rep I 39) d1 d2 x y v u o1 o2 r1 r2 rx ry (by omega) _ _ _ _ ⟨.bl _, H, I, rfl, q⟩
  · unfold neD at h
    split at h
    · rename_i c
      rw [Bool.and_eq_true] at c
      cases h
      exact ⟨d1, d2, c.1, c.2, r1.mono sf, r2.mono sf, q⟩
    · cases h
def intsOf : List D → Option (List Int)
  | [] => some []
  | .int i :: ds => (intsOf ds).map (i :: ·)
  | _ :: _ => none
theorem intsOf_eq : ∀ {ds : List D} {ns : List Int}, intsOf ds = some ns → ds = ns.map D.int
  | [], ns, h => by cases h; rfl
  | .int i :: ds, ns, h => by
    simp only [intsOf] at h
    cases q : intsOf ds with
    | none => rw [q] at h; cases h
    | some l => rw [q] at h; cases h; rw [intsOf_eq q]; rfl
  | .non :: _, _, h => nomatch h
  | .bl _ :: _, _, h => nomatch h
  | .str _ :: _, _, h => nomatch h
  | .ty _ :: _, _, h => nomatch h
  | .lst _ :: _, _, h => nomatch h
  | .tup _ :: _, _, h => nomatch h
  | .scr _ :: _, _, h => nomatch h
  | .dK _ :: _, _, h => nomatch h
  | .dT _ :: _, _, h => nomatch h
theorem intsOf_map (ns : List Int) : intsOf (ns.map D.int) = some ns := by
  induction ns with
  | nil => rfl
  | cons n ns ih => simp only [List.map_cons, intsOf, ih]; rfl
theorem CmpD.of {op : CmpOp} {f : D → D → Option Bool} {r : R2} (h : OpR X (compareOp op) r) (q : ∀ d1 d2 k, f d1 d2 = some k → ∀ (F H : Hp) (x y : V) (Q : VK), Same F H → Rep X.K F d1 x → Rep X.K F d2 y → Q (.bl k) H → r x y H Q) : CmpD X op f := ⟨r, h, q⟩
def ltD : D → D → Option Bool
  | .int i, .int j => some (decide (i < j))
  | .str i, .str j => some (decide (i.cps.toList < j.cps.toList))
  | _, _ => none
theorem op_ltD : CmpD X .Lt ltD := by
  refine CmpD.of ((op_lt (X := X)).or op_lt_str) fun d1 d2 k h F H x y Q sf r1 r2 q => ?_
  unfold ltD at h
  split at h
  · cases h; cases Rep.int_inv r1; cases Rep.int_inv r2; exact .inl ⟨_, _, rfl, rfl, q⟩
  · cases h; cases Rep.str_inv r1; cases Rep.str_inv r2; exact .inr ⟨_, _, rfl, rfl, q⟩
  · cases h
/-- the order of tuples of ints -/
def leTup (ns ms : List Int) : Bool := Ob.lexAt (fun j => decide (ns.getD j 0 = ms.getD j 0)) (fun j => decide (ns.getD j 0 ≤ ms.getD j 0)) (decide (ns.length ≤ ms.length)) 0 (min ns.length ms.length)
def leD : D → D → Option Bool
  | .int i, .int j => some (decide (i ≤ j))
  | .tup xs, .tup ys => match intsOf xs, intsOf ys with
    | some ns, some ms => some (leTup ns ms)
    | _, _ => none
  | _, _ => none
theorem op_leD (hu : X.A.units + 64 < cLine) : CmpD X .LtE leD := by
  refine CmpD.of ((op_le (X := X)).or (op_leT (by omega))) fun d1 d2 k h F H x y Q sf r1 r2 q => ?_
  unfold leD at h
  split at h
  · cases h; cases Rep.int_inv r1; cases Rep.int_inv r2; exact .inl ⟨_, _, rfl, rfl, q⟩
  · split at h
    · rename_i ns ms h1 h2
      cases h
      obtain ⟨a, vs, rfl, s1, k1⟩ := Rep.tup_inv r1
      obtain ⟨b, ws, rfl, s2, k2⟩ := Rep.tup_inv r2
      rw [intsOf_eq h1] at k1
      rw [intsOf_eq h2] at k2
      rw [Reps.ints k1] at s1
      rw [Reps.ints k2] at s2
      exact .inr ⟨a, b, ns, ms, rfl, rfl, SqT.mono sf s1, SqT.mono sf s2, q⟩
    · cases h
  · cases h
def gtD : D → D → Option Bool
  | .int i, .int j => some (decide (j < i))
  | _, _ => none
theorem op_gtD : CmpD X .Gt gtD := by
  refine CmpD.of (op_gt (X := X)) fun d1 d2 k h F H x y Q sf r1 r2 q => ?_
  unfold gtD at h
  split at h
  · cases h; cases Rep.int_inv r1; cases Rep.int_inv r2; exact ⟨_, _, rfl, rfl, q⟩
  · cases h
def geD : D → D → Option Bool
  | .int i, .int j => some (decide (j ≤ i))
  | _, _ => none
theorem op_geD : CmpD X .GtE geD := by
  refine CmpD.of (op_ge (X := X)) fun d1 d2 k h F H x y Q sf r1 r2 q => ?_
  unfold geD at h
  split at h
  · cases h; cases Rep.int_inv r1; cases Rep.int_inv r2; exact ⟨_, _, rfl, rfl, q⟩
  · cases h
def isNonD : D → Bool
  | .non => true
  | _ => false
def isD : D → D → Option Bool
  | .bl a, .bl b => some (decide (a = b))
  | a, .non => some (isNonD a)
  | _, _ => none
def isntD : D → D → Option Bool
  | .bl a, .bl b => some (!decide (a = b))
  | a, .non => some (!isNonD a)
  | _, _ => none
theorem isNonD_ok {K : PySem.W.Frag} {F : Hp} {d : D} {x : V} (r : Rep K F d x) : decide (x = .non) = isNonD d := by
  cases r <;> rfl
theorem op_isD : CmpD X .Is isD := by
  refine CmpD.of ((op_is_bl (X := X)).or op_isN) fun d1 d2 k h F H x y Q sf r1 r2 q => ?_
  unfold isD at h
  split at h
  · cases h; cases Rep.bl_inv r1; cases Rep.bl_inv r2; exact .inl ⟨_, _, rfl, rfl, q⟩
  · cases h; cases Rep.non_inv r2; exact .inr ⟨rfl, by rw [isNonD_ok r1]; exact q⟩
  · cases h
theorem op_isntD : CmpD X .IsNot isntD := by
  refine CmpD.of ((op_isnot_bl (X := X)).or op_notN) fun d1 d2 k h F H x y Q sf r1 r2 q => ?_
  unfold isntD at h
  split at h
  · cases h; cases Rep.bl_inv r1; cases Rep.bl_inv r2; exact .inl ⟨_, _, rfl, rfl, q⟩
  · cases h; cases Rep.non_inv r2; exact .inr ⟨rfl, by rw [isNonD_ok r1]; exact q⟩
  · cases h

/-! ### dicts as tables -/
section
variable {κ : Type} [DecidableEq κ] {α : Type}
def dlook (kvs : List (κ × α)) (k : κ) : Option α := (kvs.find? fun kv => decide (kv.1 = k)).map (·.2)
def dput (kvs : List (κ × α)) (k : κ) (v : α) : List (κ × α) :=
  if (kvs.any fun kv => decide (kv.1 = k)) = true then kvs.map (fun kv => if kv.1 = k then (kv.1, v) else kv) else kvs ++ [(k, v)]
theorem dlook_cons (p : κ × α) (r : List (κ × α)) (k : κ) : dlook (p :: r) k = if p.1 = k then some p.2 else dlook r k := by
  by_cases h : p.1 = k <;> simp [dlook, List.find?_cons, h]
end
theorem dlook_some {K : PySem.W.Frag} {F : Hp} {κ : Type} [DecidableEq κ] : ∀ {kvs : List (κ × D)} {kws : List (κ × V)} {k : κ}, kvs.map (·.1) = kws.map (·.1) → Reps K F (kvs.map (·.2)) (kws.map (·.2)) → match dlook kvs k with
    | some d => ∃ v, valV kws k = some v ∧ Rep K F d v
    | none => valV kws k = none
  | [], [], k, _, _ => rfl
  | [], _ :: _, k, h, _ => by simp at h
  | _ :: _, [], k, h, _ => by simp at h
  | p :: kvs, q :: kws, k, h, r => by
    simp only [List.map_cons, List.cons.injEq] at h r
    cases r with
    | cons r1 rs =>
      rw [dlook_cons]
      by_cases e : p.1 = k
      · rw [if_pos e]
        exact ⟨q.2, valV_pos (by rw [← h.1]; exact e), r1⟩
      · rw [if_neg e]
        have := dlook_some (k := k) h.2 rs
        rw [valV_neg (by rw [← h.1]; exact e)]
        exact this
theorem dput_keys {κ : Type} [DecidableEq κ] {kvs : List (κ × D)} {kws : List (κ × V)} (k : κ) (d : D) (v : V) (h : kvs.map (·.1) = kws.map (·.1)) : (dput kvs k d).map (·.1) = (putK kws k v).map (·.1) := by
  have ha : (kvs.any fun kv => decide (kv.1 = k)) = (kws.any fun kv => decide (kv.1 = k)) := by
    have e1 : (kvs.any fun kv => decide (kv.1 = k)) = (kvs.map (·.1)).any (fun z => decide (z = k)) := by rw [List.any_map]; rfl
    have e2 : (kws.any fun kv => decide (kv.1 = k)) = (kws.map (·.1)).any (fun z => decide (z = k)) := by rw [List.any_map]; rfl
    rw [e1, e2, h]
  unfold dput putK
  rw [ha]
  split
  · rw [List.map_map, List.map_map]
    have e1 : ((fun x : κ × D => x.1) ∘ fun kv => if kv.1 = k then (kv.1, d) else kv) = (fun x : κ × D => x.1) := by
      funext p; show (if p.1 = k then (p.1, d) else p).1 = p.1; split <;> rfl
    have e2 : ((fun x : κ × V => x.1) ∘ fun kv => if kv.1 = k then (kv.1, v) else kv) = (fun x : κ × V => x.1) := by
      funext p; show (if p.1 = k then (p.1, v) else p).1 = p.1; split <;> rfl
    rw [e1, e2]; exact h
  · simp [h]
theorem dput_vals {K : PySem.W.Frag} {F : Hp} {κ : Type} [DecidableEq κ] {k : κ} {d : D} {v : V} (rd : Rep K F d v) {kvs : List (κ × D)} {kws : List (κ × V)} (h : kvs.map (·.1) = kws.map (·.1)) (r : Reps K F (kvs.map (·.2)) (kws.map (·.2))) : Reps K F ((dput kvs k d).map (·.2)) ((putK kws k v).map (·.2)) := by
  have ha : (kvs.any fun kv => decide (kv.1 = k)) = (kws.any fun kv => decide (kv.1 = k)) := by
    have e1 : (kvs.any fun kv => decide (kv.1 = k)) = (kvs.map (·.1)).any (fun z => decide (z = k)) := by rw [List.any_map]; rfl
    have e2 : (kws.any fun kv => decide (kv.1 = k)) = (kws.map (·.1)).any (fun z => decide (z = k)) := by rw [List.any_map]; rfl
    rw [e1, e2, h]
  unfold dput putK
  rw [ha]
  split
  · rename_i hh
    clear ha hh
    induction kvs generalizing kws with
    | nil =>
      cases kws with
      | nil => exact .nil
      | cons _ _ => simp at h
    | cons p kvs ih =>
      cases kws with
      | nil => simp at h
      | cons q kws =>
        simp only [List.map_cons, List.cons.injEq] at h r ⊢
        cases r with
        | cons r1 rs =>
          refine .cons ?_ (ih h.2 rs)
          rw [h.1]
          split
          · exact rd
          · exact r1
  · rw [List.map_append, List.map_append]
    exact r.append (.cons rd .nil)
def keyD : D → Option Key
  | .int i => some (.inl i)
  | .str x => some (.inr x)
  | _ => none
theorem keyD_ok {K : PySem.W.Frag} {F : Hp} {d : D} {k : Key} {x : V} (r : Rep K F d x) (h : keyD d = some k) : x = kV k := by
  cases r <;> first | (cases h; done) | (cases h; rfl)
def keyT : D → Option (List Key)
  | .tup ds => (intsOf ds).map (·.map Sum.inl)
  | _ => none
theorem keyT_ok {K : PySem.W.Frag} {F : Hp} {d : D} {k : List Key} {x : V} (r : Rep K F d x) (h : keyT d = some k) : ∃ b, x = .ref b ∧ F b = some (.tup (k.map kV)) := by
  unfold keyT at h
  cases d <;> first | cases h | skip
  rename_i ds
  simp only at h
  cases q : intsOf ds with
  | none => rw [q] at h; cases h
  | some ns =>
    rw [q] at h
    cases h
    have e := intsOf_eq q
    subst e
    obtain ⟨a, vs, rfl, h1, k1⟩ := Rep.tup_ints r (by
      rw [List.all_map, List.all_eq_true]
      exact fun _ _ => rfl)
    rw [Reps.ints k1] at h1
    refine ⟨a, rfl, ?_⟩
    rw [h1, List.map_map]
    rfl

/-! ### in -/
open Classical in
/-- whether the value y is of a tree that equals d -/
noncomputable def eqVal (K : PySem.W.Frag) (H : Hp) (d : D) (y : Value) : Bool := decide (∃ d' v, okN 40 d' = true ∧ Rep K H d' v ∧ RelV v y ∧ eqv d' d = true)
open Classical in
theorem eqVal_ok {pins : List (Addr × Obj)} {σ : L2.St} {H : Hp} {s : Shared} (I : Inv X pins σ H s) {d d' : D} {v : V} {y : Value} (o : okN 40 d' = true) (r : Rep X.K H d' v) (q : RelV v y) : eqVal X.K H d y = eqv d' d := by
  unfold eqVal
  cases e : eqv d' d with
  | true => exact decide_eq_true ⟨d', v, o, r, q, e⟩
  | false =>
    refine decide_eq_false fun ⟨d2, v2, o2, r2, q2, e2⟩ => ?_
    have hv := q.inj q2
    subst hv
    rw [rep_uniq I 40 d' d2 v o o2 r r2] at e
    rw [e] at e2; cases e2
theorem any_eqVal {pins : List (Addr × Obj)} {σ : L2.St} {H : Hp} {s : Shared} (I : Inv X pins σ H s) (d : D) : ∀ {ds : List D} {vs : List V} {us : List Value}, ds.all (okN 40) = true → Reps X.K H ds vs → Vals vs us → us.any (eqVal X.K H d) = ds.any fun z => eqv z d
  | _, _, _, _, .nil, .nil => rfl
  | _, _, _, h, .cons r t, .cons q qs => by
    rw [List.all_cons, Bool.and_eq_true] at h
    rw [List.any_cons, List.any_cons, eqVal_ok I h.1 r q, any_eqVal I d h.2 t qs]
theorem mem_eqVal {pins : List (Addr × Obj)} {σ : L2.St} {H : Hp} {s : Shared} (I : Inv X pins σ H s) {A : Around} (hu : A.units + 40 < cLine) {d : D} {x : V} {u : Value} (od : okN 40 d = true) (rd : Rep X.K H d x) (qd : RelV x u) : ∀ {ds : List D} {vs : List V} {us : List Value}, ds.all (okN 40) = true → Reps X.K H ds vs → Vals vs us → ∀ y ∈ us, SeqAt.EqAt A s y u (eqVal X.K H d y)
  | _, _, _, _, .nil, .nil, y, hy => nomatch hy
  | _, _, _, h, .cons r t, .cons q qs, y, hy => by
    rw [List.all_cons, Bool.and_eq_true] at h
    rcases List.mem_cons.mp hy with rfl | hy
    · rw [eqVal_ok I h.1 r q]
      exact eqAt_rep I 40 A _ _ _ _ _ _ h.1 od r rd q qd hu
    · exact mem_eqVal I hu od rd qd h.2 t qs y hy
def rInA (X : Cx) (neg : Bool) : R2 := fun x y H Q => ∃ d ds a vs, okN 40 d = true ∧ ds.all (okN 40) = true ∧ y = .ref a ∧ (SqL X.K H a vs ∨ SqT X.K H a vs) ∧ Rep X.K H d x ∧ Reps X.K H ds vs ∧ Q (.bl (if neg then !ds.any (fun z => eqv z d) else ds.any (fun z => eqv z d))) H
theorem op_inA (hu : X.A.units + 64 < cLine) : OpR X (compareOp .In) (rInA X false) := by
  intro pins s σ H x y v u Q I rx ry ⟨d, ds, a, vs, od, os, ey, hs, rd, rs, q⟩
  subst ey
  cases ry
  have hu' : X.A.in1.units + 40 < cLine := by show X.A.units + 1 + 40 < cLine; omega
  rcases hs with hs | hs
  · obtain ⟨its, rv, pl, _⟩ := I.list hs
    refine SeqAt.in_listAt (eqVal X.K H d) pl.isList (fun y hy => mem_eqVal I hu' od rd rx os rs rv y (by simpa using hy)) ?_
    refine ⟨.bl _, H, I, ?_, q⟩
    show Value.bool _ = Value.bool _
    rw [← any_eqVal I d os rs rv, List.any_toArray]; rfl
  · obtain ⟨its, rv, pl, _⟩ := I.tuple hs
    refine SeqAt.in_tupleAt (eqVal X.K H d) pl (fun y hy => mem_eqVal I hu' od rd rx os rs rv y (by simpa using hy)) ?_
    refine ⟨.bl _, H, I, ?_, q⟩
    show Value.bool _ = Value.bool _
    rw [← any_eqVal I d os rs rv, List.any_toArray]; rfl
theorem op_notInA (hu : X.A.units + 64 < cLine) : OpR X (compareOp .NotIn) (rInA X true) := by
  intro pins s σ H x y v u Q I rx ry ⟨d, ds, a, vs, od, os, ey, hs, rd, rs, q⟩
  subst ey
  cases ry
  have hu' : X.A.in1.units + 40 < cLine := by show X.A.units + 1 + 40 < cLine; omega
  rcases hs with hs | hs
  · obtain ⟨its, rv, pl, _⟩ := I.list hs
    refine SeqAt.notIn_listAt (eqVal X.K H d) pl.isList (fun y hy => mem_eqVal I hu' od rd rx os rs rv y (by simpa using hy)) ?_
    refine ⟨.bl _, H, I, ?_, q⟩
    show Value.bool _ = Value.bool _
    rw [← any_eqVal I d os rs rv, List.any_toArray]; rfl
  · obtain ⟨its, rv, pl, _⟩ := I.tuple hs
    refine SeqAt.notIn_tupleAt (eqVal X.K H d) pl (fun y hy => mem_eqVal I hu' od rd rx os rs rv y (by simpa using hy)) ?_
    refine ⟨.bl _, H, I, ?_, q⟩
    show Value.bool _ = Value.bool _
    rw [← any_eqVal I d os rs rv, List.any_toArray]; rfl
def rInDict (neg : Bool) : R2 := fun x y H Q => ∃ a o, y = .ref a ∧ DGet H a x o ∧ Q (.bl (if neg then !o.isSome else o.isSome)) H
theorem op_inDict (hu : X.A.units + 64 < cLine) : OpR X (compareOp .In) (rInDict false) := by
  intro pins s σ H x y v u Q I rx ry ⟨a, o, ey, g, q⟩
  subst ey
  cases ry
  exact d_in (by omega) I g rx fun s3 I3 => ⟨.bl o.isSome, H, I3, rfl, q⟩
theorem op_notInDict (hu : X.A.units + 64 < cLine) : OpR X (compareOp .NotIn) (rInDict true) := by
  intro pins s σ H x y v u Q I rx ry ⟨a, o, ey, g, q⟩
  subst ey
  cases ry
  exact d_notIn (by omega) I g rx fun s3 I3 => ⟨.bl (!o.isSome), H, I3, rfl, q⟩
def inD (d c : D) : Option Bool := match c with
  | .lst ds => if okN 40 d && ds.all (okN 40) then some (ds.any fun z => eqv z d) else none
  | .tup ds => if okN 40 d && ds.all (okN 40) then some (ds.any fun z => eqv z d) else none
  | .dK kvs => (keyD d).map fun k => (dlook kvs k).isSome
  | .dT kvs => (keyT d).map fun k => (dlook kvs k).isSome
  | .str z => match d with
    | .str x => match x.cps.toList with
      | [c] => some (decide (c ∈ z.cps.toList))
      | _ => none
    | _ => none
  | _ => none
def notInD (d c : D) : Option Bool := (inD d c).map (!·)
theorem str_one {x : Str} {c : Nat} (h : x.cps.toList = [c]) : x = ⟨#[c]⟩ := by
  cases x with
  | mk a =>
    have e : a = #[c] := by
      apply Array.toList_inj.mp
      exact h
    rw [e]
theorem DGet.ofK {K : PySem.W.Frag} {F H : Hp} {kvs : List (Key × D)} {d : D} {k : Key} {x y : V} (sf : Same F H) (r : Rep K F (.dK kvs) y) (rd : Rep K F d x) (hk : keyD d = some k) : ∃ a o, y = .ref a ∧ DGet H a x o ∧ match dlook kvs k with
    | some e => ∃ v, o = some v ∧ Rep K F e v
    | none => o = none := by
  obtain ⟨a, kws, rfl, h1, h2, h3⟩ := Rep.dK_inv r
  have e := keyD_ok rd hk
  subst e
  exact ⟨a, valV kws k, rfl, DGet.k (sf _ _ h1), dlook_some h2 h3⟩
theorem DGet.ofT {K : PySem.W.Frag} {F H : Hp} {kvs : List (List Key × D)} {d : D} {k : List Key} {x y : V} (sf : Same F H) (r : Rep K F (.dT kvs) y) (rd : Rep K F d x) (hk : keyT d = some k) : ∃ a o, y = .ref a ∧ DGet H a x o ∧ match dlook kvs k with
    | some e => ∃ v, o = some v ∧ Rep K F e v
    | none => o = none := by
  obtain ⟨a, kws, rfl, h1, h2, h3⟩ := Rep.dT_inv r
  obtain ⟨b, e, eb⟩ := keyT_ok rd hk
  subst e
  exact ⟨a, valV kws k, rfl, DGet.t (sf _ _ h1) (sf _ _ eb), dlook_some h2 h3⟩
theorem isSome_of {K : PySem.W.Frag} {F : Hp} {o' : Option D} {o : Option V} (h : match o' with
    | some e => ∃ v, o = some v ∧ Rep K F e v
    | none => o = none) : o.isSome = o'.isSome := by
  cases o' with
  | none => simp only at h; rw [h]; rfl
  | some e => obtain ⟨v, h, _⟩ := h; rw [h]; rfl
theorem inD_ok (neg : Bool) {d1 d2 : D} {k : Bool} (h : inD d1 d2 = some k) {F H : Hp} {x y : V} {Q : VK} (sf : Same F H) (r1 : Rep X.K F d1 x) (r2 : Rep X.K F d2 y) (q : Q (.bl (if neg then !k else k)) H) :
    rInA X neg x y H Q ∨ rInDict neg x y H Q ∨ ∃ (c : Nat) (z : Str), x = .str ⟨#[c]⟩ ∧ y = .str z ∧ Q (.bl (if neg then !decide (c ∈ z.cps.toList) else decide (c ∈ z.cps.toList))) H := by
  unfold inD at h
  split at h
  · split at h
    · rename_i c
      rw [Bool.and_eq_true] at c
      cases h
      obtain ⟨a, vs, rfl, h1, k1⟩ := Rep.lst_inv r2
      exact .inl ⟨d1, _, a, vs, c.1, c.2, rfl, .inl (sf.seq h1), r1.mono sf, k1.mono sf, q⟩
    · cases h
  · split at h
    · rename_i c
      rw [Bool.and_eq_true] at c
      cases h
      obtain ⟨a, vs, rfl, h1, k1⟩ := Rep.tup_inv r2
      exact .inl ⟨d1, _, a, vs, c.1, c.2, rfl, .inr (SqT.mono sf h1), r1.mono sf, k1.mono sf, q⟩
    · cases h
  · cases hk : keyD d1 with
    | none => rw [hk] at h; cases h
    | some kk =>
      rw [hk] at h
      cases h
      obtain ⟨a, o, rfl, g, ho⟩ := DGet.ofK sf r2 r1 hk
      exact .inr (.inl ⟨a, o, rfl, g, by rw [isSome_of ho]; exact q⟩)
  · cases hk : keyT d1 with
    | none => rw [hk] at h; cases h
    | some kk =>
      rw [hk] at h
      cases h
      obtain ⟨a, o, rfl, g, ho⟩ := DGet.ofT sf r2 r1 hk
      exact .inr (.inl ⟨a, o, rfl, g, by rw [isSome_of ho]; exact q⟩)
  · split at h
    · split at h
      · rename_i c hc
        cases h
        cases Rep.str_inv r1
        cases Rep.str_inv r2
        rw [str_one hc]
        exact .inr (.inr ⟨c, _, rfl, rfl, q⟩)
      · cases h
    · cases h
  · cases h
theorem op_inDD (hu : X.A.units + 64 < cLine) : CmpD X .In inD := by
  refine CmpD.of ((op_inA hu).or ((op_inDict hu).or op_in_sign)) fun d1 d2 k h F H x y Q sf r1 r2 q => inD_ok false h sf r1 r2 q
theorem op_notInDD (hu : X.A.units + 64 < cLine) : CmpD X .NotIn notInD := by
  refine CmpD.of ((op_notInA hu).or ((op_notInDict hu).or op_notIn_sign)) fun d1 d2 k h F H x y Q sf r1 r2 q => ?_
  unfold notInD at h
  cases e : inD d1 d2 with
  | none => rw [e] at h; cases h
  | some b =>
    rw [e] at h
    cases h
    exact inD_ok true e sf r1 r2 q
end
end DL

set_option autoImplicit false
set_option Elab.async false
set_option linter.all false
set_option maxRecDepth 100000
/-! DL: items, slices, built-in calls, methods, stores. -/
namespace DL
open PySem PySem.Spec PyProof.Rows L2
section
variable {X : Cx}

/-! ### items -/
theorem IxD.of {f : D → D → Option (Nat × D)} {r : R2} (h : IxR X r) (q : ∀ d1 d2 n d, f d1 d2 = some (n, d) → ∀ (F H : Hp) (x y : V) (Q : VK), Same F H → Rep X.K F d1 x → Rep X.K F d2 y → (∀ v F' H' S, NewV X.K F H F' H' n d v S → Q v H') → r x y H Q) : IxD X f := ⟨r, h, q⟩
def rIxDict : R2 := fun x y H Q => ∃ a v, x = .ref a ∧ DGet H a y (some v) ∧ Q v H
theorem ix_dict (hu : X.A.units + 1 < cLine) : IxR X rIxDict := by
  intro value slice pins s σ H x y v u Q I rx ry h hs
  obtain ⟨a, w, rfl, g, q⟩ := h
  cases rx
  exact tail_any (dict_typeIs I g) PySem.F.slot_dict_getitem.lookup (d_getItem hu I g ry fun w' s3 I3 rw' => ⟨w, H, I3, rw', q⟩) hs
theorem Reps.atI {K : PySem.W.Frag} {F : Hp} {ds : List D} {vs : List V} {i : Int} {d : D} (r : Reps K F ds vs) (h : L2.atI ds i = some d) : ∃ v, L2.atI vs i = some v ∧ Rep K F d v := by
  unfold L2.atI at h ⊢
  rw [r.length] at h
  cases e : ixN vs.length i with
  | none => rw [e] at h; cases h
  | some j =>
    rw [e] at h
    exact r.get h
def idxD : D → D → Option (Nat × D)
  | .lst ds, .int i => (L2.atI ds i).map fun d => (0, d)
  | .tup ds, .int i => (L2.atI ds i).map fun d => (0, d)
  | .scr ds, .int i => (L2.atI ds i).map fun d => (0, d)
  | .str z, .int i => if z.length ≤ LIM then (L2.atI z.cps.toList i).map fun c => (0, .str ⟨#[c]⟩) else none
  | .dK kvs, k => match keyD k with
    | some k => (dlook kvs k).map fun d => (0, d)
    | none => none
  | .dT kvs, k => match keyT k with
    | some k => (dlook kvs k).map fun d => (0, d)
    | none => none
  | _, _ => none
theorem ix_D (hu : X.A.units + 64 < cLine) : IxD X idxD := by
  refine IxD.of ((ix_list (X := X)).or (ix_tup.or (ix_str.or (ix_dict (by omega))))) fun d1 d2 n d h F H x y Q sf r1 r2 q => ?_
  unfold idxD at h
  split at h
  · obtain ⟨d', hd, e⟩ := Option.map_eq_some_iff.mp h
    cases e
    obtain ⟨a, vs, rfl, h1, k1⟩ := Rep.lst_inv r1
    cases Rep.int_inv r2
    obtain ⟨v, hv, rv⟩ := k1.atI hd
    exact .inl ⟨a, vs, _, v, rfl, rfl, sf.seq h1, hv, q _ F H _ (NewV.of_rep sf rv)⟩
  · obtain ⟨d', hd, e⟩ := Option.map_eq_some_iff.mp h
    cases e
    obtain ⟨a, vs, rfl, h1, k1⟩ := Rep.tup_inv r1
    cases Rep.int_inv r2
    obtain ⟨v, hv, rv⟩ := k1.atI hd
    exact .inr (.inl ⟨a, vs, _, v, rfl, rfl, SqT.mono sf h1, hv, q _ F H _ (NewV.of_rep sf rv)⟩)
  · obtain ⟨d', hd, e⟩ := Option.map_eq_some_iff.mp h
    cases e
    obtain ⟨a, vs, rfl, h1, k1⟩ := Rep.scr_inv r1
    cases Rep.int_inv r2
    obtain ⟨v, hv, rv⟩ := k1.atI hd
    exact .inl ⟨a, vs, _, v, rfl, rfl, sf.seq h1, hv, q _ F H _ (NewV.of_rep sf rv)⟩
  · split at h
    · rename_i hz
      obtain ⟨c, hd, e⟩ := Option.map_eq_some_iff.mp h
      cases e
      cases Rep.str_inv r1
      cases Rep.int_inv r2
      exact .inr (.inr (.inl ⟨_, _, c, rfl, rfl, by rw [← LIM_eq]; exact hz, hd, q _ F H _ (NewV.of_rep sf (.str _))⟩))
    · cases h
  · split at h
    · rename_i k hk
      obtain ⟨d', hd, e⟩ := Option.map_eq_some_iff.mp h
      cases e
      obtain ⟨a, o, rfl, g, ho⟩ := DGet.ofK sf r1 r2 hk
      rw [hd] at ho
      obtain ⟨v, rfl, rv⟩ := ho
      exact .inr (.inr (.inr ⟨a, v, rfl, g, q _ F H _ (NewV.of_rep sf rv)⟩))
    · cases h
  · split at h
    · rename_i k hk
      obtain ⟨d', hd, e⟩ := Option.map_eq_some_iff.mp h
      cases e
      obtain ⟨a, o, rfl, g, ho⟩ := DGet.ofT sf r1 r2 hk
      rw [hd] at ho
      obtain ⟨v, rfl, rv⟩ := ho
      exact .inr (.inr (.inr ⟨a, v, rfl, g, q _ F H _ (NewV.of_rep sf rv)⟩))
    · cases h
  · cases h

/-! ### slices -/
def cutD (ds : List D) (lo hi : Option Int) : List D := (ds.drop (HT.sIx ds.length 0 lo)).take (HT.sIx ds.length ds.length hi - HT.sIx ds.length 0 lo)
theorem Reps.cut {K : PySem.W.Frag} {F : Hp} {ds : List D} {vs : List V} (r : Reps K F ds vs) (lo hi : Option Int) : Reps K F (cutD ds lo hi) (cutV vs lo hi) := by
  unfold cutD cutV
  rw [r.length]
  exact (r.drop _).take _
def sliceD : D → Option Int → Option Int → Option (Nat × D)
  | .lst ds, lo, hi => some (1, .lst (cutD ds lo hi))
  | .scr ds, lo, hi => some (1, .lst (cutD ds lo hi))
  | .tup ds, lo, hi => some (0, .tup (cutD ds lo hi))
  | .str z, lo, hi => if z.length ≤ LIM then some (0, .str (Txt.slice z lo hi)) else none
  | _, _, _ => none
theorem cut_whole {ds : List D} {lo hi : Option Int} (h : HT.sIx ds.length 0 lo = 0 ∧ HT.sIx ds.length ds.length hi = ds.length) : cutD ds lo hi = ds := by
  unfold cutD
  rw [h.1, h.2]
  simp
theorem sl_D : SlD X sliceD := by
  refine ⟨_, ((sl_list (X := X)).or (sl_tupA.or C8.sl_txt)), fun d1 lo hi n d h F H x Q sf r1 q => ?_⟩
  unfold sliceD at h
  split at h
  · cases h
    obtain ⟨a, vs, rfl, h1, k1⟩ := Rep.lst_inv r1
    exact .inl ⟨a, vs, rfl, sf.seq h1, fun p hp => q _ _ _ _ (NewV.lst sf hp (k1.cut lo hi))⟩
  · cases h
    obtain ⟨a, vs, rfl, h1, k1⟩ := Rep.scr_inv r1
    exact .inl ⟨a, vs, rfl, sf.seq h1, fun p hp => q _ _ _ _ (NewV.lst sf hp (k1.cut lo hi))⟩
  · cases h
    obtain ⟨a, vs, rfl, h1, k1⟩ := Rep.tup_inv r1
    refine .inr (.inl ⟨a, vs, rfl, SqT.mono sf h1, fun e => ?_, fun _ p hp => q _ _ _ _ (NewV.tup sf hp (k1.cut lo hi))⟩)
    rw [← k1.length] at e
    rw [cut_whole e] at q
    exact q _ F H _ (NewV.of_rep sf r1)
  · split at h
    · rename_i hz
      cases h
      cases Rep.str_inv r1
      exact .inr (.inr ⟨_, rfl, by rw [← LIM_eq]; exact hz, q _ F H _ (NewV.of_rep sf (.str _))⟩)
    · cases h
  · cases h

/-! ### calls -/
theorem CallD.of {g : Value} {f : List D → Option (Nat × D)} {r : List V → Hp → VK → Prop} (h : CallR X g r) (q : ∀ ds n d, f ds = some (n, d) → ∀ (F H : Hp) (xs : List V) (Q : VK), Same F H → Reps X.K F ds xs → (∀ v F' H' S, NewV X.K F H F' H' n d v S → Q v H') → r xs H Q) : CallD X g f := ⟨r, h, q⟩
theorem Reps.one {K : PySem.W.Frag} {F : Hp} {d : D} {xs : List V} (r : Reps K F [d] xs) : ∃ x, xs = [x] ∧ Rep K F d x := by
  cases r with
  | cons a b => cases b; exact ⟨_, rfl, a⟩
theorem Reps.two {K : PySem.W.Frag} {F : Hp} {d e : D} {xs : List V} (r : Reps K F [d, e] xs) : ∃ x y, xs = [x, y] ∧ Rep K F d x ∧ Rep K F e y := by
  cases r with
  | cons a b => obtain ⟨y, rfl, h⟩ := b.one; exact ⟨_, y, rfl, a, h⟩
def lenD : List D → Option (Nat × D)
  | [.lst ds] => some (0, .int ds.length)
  | [.tup ds] => some (0, .int ds.length)
  | [.scr ds] => some (0, .int ds.length)
  | [.dK kvs] => some (0, .int kvs.length)
  | [.str z] => if z.length ≤ LIM then some (0, .int z.length) else none
  | _ => none
theorem call_lenDD : CallD X (.builtin "len") lenD := by
  refine CallD.of ((call_len_seq (X := X)).or (call_len_str.or call_lenD)) fun ds n d h F H xs Q sf rs q => ?_
  unfold lenD at h
  split at h
  · cases h
    obtain ⟨x, rfl, r⟩ := rs.one
    obtain ⟨a, vs, rfl, h1, k1⟩ := Rep.lst_inv r
    refine .inl ⟨a, vs, rfl, .inl (sf.seq h1), ?_⟩
    rw [← k1.length]
    exact q _ F H _ (NewV.of_rep sf (.int _))
  · cases h
    obtain ⟨x, rfl, r⟩ := rs.one
    obtain ⟨a, vs, rfl, h1, k1⟩ := Rep.tup_inv r
    refine .inl ⟨a, vs, rfl, .inr (SqT.mono sf h1), ?_⟩
    rw [← k1.length]
    exact q _ F H _ (NewV.of_rep sf (.int _))
  · cases h
    obtain ⟨x, rfl, r⟩ := rs.one
    obtain ⟨a, vs, rfl, h1, k1⟩ := Rep.scr_inv r
    refine .inl ⟨a, vs, rfl, .inl (sf.seq h1), ?_⟩
    rw [← k1.length]
    exact q _ F H _ (NewV.of_rep sf (.int _))
  · cases h
    obtain ⟨x, rfl, r⟩ := rs.one
    obtain ⟨a, kws, rfl, h1, h2, _⟩ := Rep.dK_inv r
    refine .inr (.inr ⟨a, kws, rfl, sf _ _ h1, ?_⟩)
    have e := congrArg List.length h2
    rw [List.length_map, List.length_map] at e
    rw [← e]
    exact q _ F H _ (NewV.of_rep sf (.int _))
  · split at h
    · rename_i hz
      cases h
      obtain ⟨x, rfl, r⟩ := rs.one
      cases Rep.str_inv r
      exact .inr (.inl ⟨_, rfl, by rw [← LIM_eq]; exact hz, q _ F H _ (NewV.of_rep sf (.int _))⟩)
    · cases h
  · cases h
def listD : List D → Option (Nat × D)
  | [.lst ds] => some (1, .lst ds)
  | [.tup ds] => some (1, .lst ds)
  | [.scr ds] => some (1, .lst ds)
  | _ => none
theorem call_listDD : CallD X (.type "list") listD := by
  refine CallD.of (call_list_of (X := X)) fun ds n d h F H xs Q sf rs q => ?_
  unfold listD at h
  split at h
  · cases h
    obtain ⟨x, rfl, r⟩ := rs.one
    obtain ⟨a, vs, rfl, h1, k1⟩ := Rep.lst_inv r
    exact ⟨a, vs, rfl, .inl (sf.seq h1), fun p hp => q _ _ _ _ (NewV.lst sf hp k1)⟩
  · cases h
    obtain ⟨x, rfl, r⟩ := rs.one
    obtain ⟨a, vs, rfl, h1, k1⟩ := Rep.tup_inv r
    exact ⟨a, vs, rfl, .inr (SqT.mono sf h1), fun p hp => q _ _ _ _ (NewV.lst sf hp k1)⟩
  · cases h
    obtain ⟨x, rfl, r⟩ := rs.one
    obtain ⟨a, vs, rfl, h1, k1⟩ := Rep.scr_inv r
    exact ⟨a, vs, rfl, .inl (sf.seq h1), fun p hp => q _ _ _ _ (NewV.lst sf hp k1)⟩
  · cases h
def tupleD : List D → Option (Nat × D)
  | [.lst ds] => some (0, .tup ds)
  | [.tup ds] => some (0, .tup ds)
  | _ => none
theorem call_tupleDD : CallD X (.type "tuple") tupleD := by
  refine CallD.of (call_tuple_of (X := X)) fun ds n d h F H xs Q sf rs q => ?_
  unfold tupleD at h
  split at h
  · cases h
    obtain ⟨x, rfl, r⟩ := rs.one
    obtain ⟨a, vs, rfl, h1, k1⟩ := Rep.lst_inv r
    exact ⟨a, vs, rfl, .inl ⟨sf.seq h1, fun p hp => q _ _ _ _ (NewV.tup sf hp k1)⟩⟩
  · cases h
    obtain ⟨x, rfl, r⟩ := rs.one
    obtain ⟨a, vs, e, h1, k1⟩ := Rep.tup_inv r
    subst e
    exact ⟨a, vs, rfl, .inr ⟨SqT.mono sf h1, q _ F H _ (NewV.of_rep sf r)⟩⟩
  · cases h
def intD : List D → Option (Nat × D)
  | [.int i] => some (0, .int i)
  | [.bl b] => some (0, .int (if b then 1 else 0))
  | _ => none
theorem call_intDD : CallD X (.type "int") intD := by
  refine CallD.of (call_int1 (X := X)) fun ds n d h F H xs Q sf rs q => ?_
  unfold intD at h
  split at h
  · cases h
    obtain ⟨x, rfl, r⟩ := rs.one
    cases Rep.int_inv r
    exact .inl ⟨_, rfl, q _ F H _ (NewV.of_rep sf (.int _))⟩
  · cases h
    obtain ⟨x, rfl, r⟩ := rs.one
    cases Rep.bl_inv r
    exact .inr ⟨_, rfl, q _ F H _ (NewV.of_rep sf (.int _))⟩
  · cases h
def strD : List D → Option (Nat × D)
  | [.int i] => if i.natAbs.log2 < 1920 then some (0, .str (toString i)) else none
  | _ => none
theorem call_strDD : CallD X (.type "str") strD := by
  refine CallD.of (call_str_int (X := X)) fun ds n d h F H xs Q sf rs q => ?_
  unfold strD at h
  split at h
  · split at h
    · rename_i hi
      cases h
      obtain ⟨x, rfl, r⟩ := rs.one
      cases Rep.int_inv r
      exact ⟨_, rfl, hi, q _ F H _ (NewV.of_rep sf (.str _))⟩
    · cases h
  · cases h
def maxD : List D → Option (Nat × D)
  | [.int i, .int j] => some (0, .int (if j > i then j else i))
  | _ => none
theorem call_maxDD (hc : X.calm = true) : CallD X (.builtin "max") maxD := by
  refine CallD.of (call_max2 hc) fun ds n d h F H xs Q sf rs q => ?_
  unfold maxD at h
  split at h
  · cases h
    obtain ⟨x, y, rfl, r1, r2⟩ := rs.two
    cases Rep.int_inv r1
    cases Rep.int_inv r2
    exact ⟨_, _, rfl, q _ F H _ (NewV.of_rep sf (.int _))⟩
  · cases h
def minD : List D → Option (Nat × D)
  | [.int i, .int j] => some (0, .int (if j < i then j else i))
  | _ => none
theorem call_minDD (hc : X.calm = true) : CallD X (.builtin "min") minD := by
  refine CallD.of (call_min2 hc) fun ds n d h F H xs Q sf rs q => ?_
  unfold minD at h
  split at h
  · cases h
    obtain ⟨x, y, rfl, r1, r2⟩ := rs.two
    cases Rep.int_inv r1
    cases Rep.int_inv r2
    exact ⟨_, _, rfl, q _ F H _ (NewV.of_rep sf (.int _))⟩
  · cases h
def sumD : List D → Option (Nat × D)
  | [.lst ds] => (intsOf ds).map fun ns => (0, .int ns.sum)
  | _ => none
theorem call_sumDD (hc : X.calm = true) : CallD X (.builtin "sum") sumD := by
  refine CallD.of (cr_sum hc) fun ds n d h F H xs Q sf rs q => ?_
  unfold sumD at h
  split at h
  · obtain ⟨ns, hn, e⟩ := Option.map_eq_some_iff.mp h
    cases e
    obtain ⟨x, rfl, r⟩ := rs.one
    obtain ⟨a, vs, rfl, h1, k1⟩ := Rep.lst_inv r
    rw [intsOf_eq hn] at k1
    rw [Reps.ints k1] at h1
    exact ⟨a, ns, rfl, sf.seq h1, q _ F H _ (NewV.of_rep sf (.int _))⟩
  · cases h
def absD : List D → Option (Nat × D)
  | [.int i] => some (0, .int (if i < 0 then -i else i))
  | _ => none
theorem call_absDD : CallD X (.builtin "abs") absD := by
  refine CallD.of (call_abs (X := X)) fun ds n d h F H xs Q sf rs q => ?_
  unfold absD at h
  split at h
  · cases h
    obtain ⟨x, rfl, r⟩ := rs.one
    cases Rep.int_inv r
    exact ⟨_, rfl, q _ F H _ (NewV.of_rep sf (.int _))⟩
  · cases h

/-! ### isinstance -/
def tyOfD : D → Option String
  | .non => some "NoneType"
  | .bl _ => some "bool"
  | .int _ => some "int"
  | .str _ => some "str"
  | .lst _ => some "list"
  | .tup _ => some "tuple"
  | .dK _ => some "dict"
  | .dT _ => some "dict"
  | _ => none
/-- is a value of the type a of the type b (types that are written here) -/
def isTyB (a b : String) : Bool := a == b || (a == "bool" && b == "int")
def knownTy (b : String) : Bool := b == "int" || b == "bool" || b == "str" || b == "list" || b == "tuple" || b == "dict"
theorem kit_known {K : PySem.W.Frag} {d : D} {a b : String} (ha : tyOfD d = some a) (hb : knownTy b = true) : PySem.W.kitOne K (.type a) (.type b) = some (isTyB a b) := by
  unfold knownTy at hb
  simp only [Bool.or_eq_true, beq_iff_eq] at hb
  refine kit_ty ?_
  cases d <;> cases ha <;> rcases hb with ((((rfl | rfl) | rfl) | rfl) | rfl) | rfl <;> decide +kernel
theorem tyX_of {K : PySem.W.Frag} {F H : Hp} {d : D} {x : V} {a : String} (sf : Same F H) (r : Rep K F d x) (h : tyOfD d = some a) : TyX K H x (.type a) := by
  cases r with
  | non => cases h; exact .base .non
  | bl b => cases h; exact .base (.bl b)
  | int i => cases h; exact .base (.int i)
  | str x => cases h; exact .base (.str x)
  | lst hs _ => cases h; exact .base (.lst (sf _ _ hs))
  | tup hs _ => cases h; exact .base (.tup (sf _ _ hs))
  | tupK hs _ _ =>
    cases h
    rcases hs with (hs | ⟨o, hs⟩) | ⟨o, its, n, h1, h2, _⟩
    · exact .base (.tup (sf _ _ hs))
    · exact .fTuple (sf _ _ hs)
    · exact .kTuple h1 h2
  | dK hs _ _ => cases h; exact .base (.dK (sf _ _ hs))
  | dT hs _ _ => cases h; exact .base (.dT (sf _ _ hs))
  | scr _ _ => cases h
  | ty _ => cases h
def tysOf : List D → Option (List String)
  | [] => some []
  | .ty n :: ds => if knownTy n then (tysOf ds).map (n :: ·) else none
  | _ :: _ => none
def isInstD : List D → Option (Nat × D)
  | [d, .ty n] => match tyOfD d with
    | some a => if knownTy n then some (0, .bl (isTyB a n)) else none
    | none => none
  | [d, .tup ts] => match tyOfD d, tysOf ts with
    | some a, some ns => some (0, .bl (ns.any (isTyB a)))
    | _, _ => none
  | _ => none
theorem tys_bad : ∀ {ts : List D} {ns : List String}, tysOf ts = some ns → badK ts = true
  | [], _, _ => rfl
  | .ty n :: ts, ns, h => by
    unfold badK
    rw [List.any_cons]
    show (_ || (true || _)) = true
    simp
  | .non :: _, _, h => nomatch h
  | .bl _ :: _, _, h => nomatch h
  | .int _ :: _, _, h => nomatch h
  | .str _ :: _, _, h => nomatch h
  | .lst _ :: _, _, h => nomatch h
  | .tup _ :: _, _, h => nomatch h
  | .scr _ :: _, _, h => nomatch h
  | .dK _ :: _, _, h => nomatch h
  | .dT _ :: _, _, h => nomatch h
theorem tys_paired {K : PySem.W.Frag} {F : Hp} : ∀ {ts : List D} {ns : List String} {vs : List V}, tysOf ts = some ns → Reps K F ts vs → Paired ClsV vs (ns.map Value.type)
  | [], _, _, h, .nil => by cases h; exact .nil
  | .ty n :: ts, ns, _, h, .cons r rs => by
    simp only [tysOf] at h
    split at h
    · cases q : tysOf ts with
      | none => rw [q] at h; cases h
      | some l =>
        rw [q] at h
        cases h
        cases Rep.ty_inv r
        exact .cons (.ty n) (tys_paired q rs)
    · cases h
  | .non :: _, _, _, h, _ => nomatch h
  | .bl _ :: _, _, _, h, _ => nomatch h
  | .int _ :: _, _, _, h, _ => nomatch h
  | .str _ :: _, _, _, h, _ => nomatch h
  | .lst _ :: _, _, _, h, _ => nomatch h
  | .tup _ :: _, _, _, h, _ => nomatch h
  | .scr _ :: _, _, _, h, _ => nomatch h
  | .dK _ :: _, _, _, h, _ => nomatch h
  | .dT _ :: _, _, _, h, _ => nomatch h
theorem kitAny_tys {K : PySem.W.Frag} {d : D} {a : String} (ha : tyOfD d = some a) : ∀ {ts : List D} {ns : List String}, tysOf ts = some ns → PySem.W.kitAny K (.type a) (ns.map Value.type) = some (ns.any (isTyB a))
  | [], _, h => by cases h; exact kitAny_nil
  | .ty n :: ts, ns, h => by
    simp only [tysOf] at h
    split at h
    · rename_i hn
      cases q : tysOf ts with
      | none => rw [q] at h; cases h
      | some l =>
        rw [q] at h
        cases h
        refine kitAny_cons (kit_known ha hn) (fun e => ?_) (fun e => ?_)
        · rw [List.any_cons, e, Bool.false_or]; exact kitAny_tys ha q
        · rw [List.any_cons, e, Bool.true_or]
    · cases h
  | .non :: _, _, h => nomatch h
  | .bl _ :: _, _, h => nomatch h
  | .int _ :: _, _, h => nomatch h
  | .str _ :: _, _, h => nomatch h
  | .lst _ :: _, _, h => nomatch h
  | .tup _ :: _, _, h => nomatch h
  | .scr _ :: _, _, h => nomatch h
  | .dK _ :: _, _, h => nomatch h
  | .dT _ :: _, _, h => nomatch h
theorem call_isInstDD : CallD X (.builtin "isinstance") isInstD := by
  refine CallD.of ((call_isi (X := X)).or call_isiT) fun ds n d h F H xs Q sf rs q => ?_
  unfold isInstD at h
  split at h
  · split at h
    · rename_i a ha
      split at h
      · rename_i hn
        cases h
        obtain ⟨x, y, rfl, r1, r2⟩ := rs.two
        cases Rep.ty_inv r2
        exact .inl ⟨x, _, _, _, _, rfl, .ty _, tyX_of sf r1 ha, kit_known ha hn, q _ F H _ (NewV.of_rep sf (.bl _))⟩
      · cases h
    · cases h
  · split at h
    · rename_i a ns ha hn
      cases h
      obtain ⟨x, y, rfl, r1, r2⟩ := rs.two
      obtain ⟨b, ws, rfl, hs, hr⟩ := r2.tup_strict (tys_bad hn)
      exact .inr ⟨x, _, _, _, _, _, rfl, sf _ _ hs, tys_paired hn hr, tyX_of sf r1 ha, kitAny_tys ha hn, q _ F H _ (NewV.of_rep sf (.bl _))⟩
    · cases h
  · cases h
end
end DL

set_option autoImplicit false
set_option Elab.async false
set_option linter.all false
set_option maxRecDepth 100000
/-! DL: stores into what a name owns; methods that change it. -/
namespace DL
open PySem PySem.Spec PyProof.Rows L2
section
variable {K : PySem.W.Frag} {mg : Str → Option Value} {G F H : Hp} {σ : L2.St} {env : DEnv} {fp : Fp}
theorem SS.write {i n' : Nat} {d' : D} {p : Addr} {o' : HO} (s : SS K G F H σ env fp) (hi : σ[i]? = some (some (.ref p))) (hp : fp i p) (ho : LD (some o')) (hr : RepM K F (upd H p o') n' d' (.ref p) (fp i)) : SS K G F (upd H p o') σ (env.set i (some (n', d'))) fp where
  len := by rw [List.length_set]; exact s.len
  slot := fun j n d q => by
    by_cases h : i = j
    · subst h
      by_cases hl : i < env.length
      · rw [List.getElem?_set_self hl] at q
        cases q
        exact ⟨_, hi, hr⟩
      · rw [List.getElem?_eq_none (by simpa using hl)] at q; cases q
    · rw [List.getElem?_set_ne h] at q
      obtain ⟨v, h1, h2⟩ := s.slot j n d q
      exact ⟨v, h1, h2.imp (Same.refl _) (fun _ z => z) fun a u z e => by rw [upd_ne (fun e' => s.dis i j a h (by rw [e']; exact hp) z)]; exact e⟩
  dis := s.dis
  ld := fun j a z => by
    by_cases h : a = p
    · subst h; rw [upd_same]; exact ho
    · rw [upd_ne h]; exact s.ld j a z
  nf := s.nf
  ng := s.ng
  sf := fun a u e => by rw [upd_ne (fun h => by have := s.nf i p hp; rw [← h, e] at this; cases this)]; exact s.sf _ _ e
  sg := fun a u e => by rw [upd_ne (fun h => by have := s.ng i p hp; rw [← h, e] at this; cases this)]; exact s.sg _ _ e
end
section
variable {X : Cx} {W : WX}
theorem agree0 {A : List Nat} {σ : L2.St} : Agree A σ σ := Agree.refl _ _
/-- x.append(e) -/
def mApp (i : Nat) (m : ME) : MS := fun env => match env[i]? with
  | some (some (1, .lst _)) => (m env).bindS fun r e => match e[i]? with
    | some (some (1, .lst ds)) => if ds.length < LIM then .nx (e.set i (some (1, .lst (ds ++ [r.2])))) else .stuck
    | _ => .stuck
  | _ => .stuck
theorem ds_app {i : Nat} {o e : Expr} {m : ME} {apos cpos pos : Pos} (ho : PE X o (tVar i)) (he : DE X W m e)
    (hbase : attributeBase o "append" X.env (eval o X.env) = eval o X.env := by rfl)
    (hfew : ((backTo cpos (starEach (e :: []) X.env)).all (fun x => !x.1) && (backToKw cpos (keywordEach [] X.env)).all (fun x => x.1.isSome)
      && decide ((e :: []).length + ([] : List Keyword).length + (if ([] : List Keyword).isEmpty then 0 else 1) < 30)) = true := by rfl)
    (hline : (apos.endLine == cpos.line) = true := by rfl) (hst : starEach (e :: []) X.env = (false, eval e X.env) :: starEach [] X.env := by rfl) (hplain : (backTo cpos (starEach [] X.env)).any (·.1) = false := by rfl)
    (hs : swapsWith (.Call (.Attribute o "append" apos) [e] [] cpos) none pos.line X.env = pure false := by rfl) :
    DS X W [] (mApp i m) (.Expr (.Call (.Attribute o "append" apos) [e] [] cpos) pos) := by
  refine PS.to (ps_expr (pe_bm PySem.F.plainAttrs_list PySem.F.slot_list_append PySem.F.type_list_append mt_append ho (pa_cons he pa_nil hst) hbase hfew hline hst hplain) hs) fun De σ H ⟨G, F, env, fp, s, h⟩ => ?_
  unfold mApp at h
  split at h
  · rename_i ds0 h0
    obtain ⟨v, hv, p, vs, rfl, _, hp, _⟩ := s.slot i 1 _ h0
    refine ⟨_, hv, .inl ⟨rfl, vs, SqL.of hp⟩, ?_⟩
    refine tE.of s h.ofO fun r e1 F1 H1 fp1 y p1 s1 rep1 fe1 => ?_
    split at p1
    · rename_i ds h1
      obtain ⟨v', hv', p', vs', rfl, hfp, hp', hra⟩ := s1.slot i 1 _ h1
      rw [hv] at hv'
      cases hv'
      split at p1
      · rename_i hl
        have rds := RepA.reps hra
        refine ⟨p, vs', y, rfl, rfl, hp', by rw [← rds.length, ← LIM_eq]; exact hl, ?_⟩
        exact p1 σ F1 _ fp1 agree0 (s1.write hv hfp trivial ⟨p, vs' ++ [y], rfl, hfp, upd_same, RepA.of_reps (rds.append (.cons rep1 .nil))⟩) fe1
      · exact p1.elim
    · exact p1.elim
  · exact h.elim
/-- x[k] = e, a list's place or a dict's key -/
def putD (d k r : D) : Option D := match d with
  | .lst ds => match k with
    | .int i => (ixN ds.length i).map fun j => .lst (ds.set j r)
    | _ => none
  | .dK kvs => match keyD k with
    | some k => if kvs.length < LIM then some (.dK (dput kvs k r)) else none
    | none => none
  | .dT kvs => match keyT k with
    | some k => if kvs.length < LIM then some (.dT (dput kvs k r)) else none
    | none => none
  | _ => none
def mPut (i : Nat) (mk m : ME) : MS := fun env => (m env).bindS fun r e1 => match e1[i]? with
  | some (some (1, _)) => (mk e1).bindS fun k e2 => match e2[i]? with
    | some (some (1, d)) => match putD d k.2 r.2 with
      | some d' => .nx (e2.set i (some (1, d')))
      | none => .stuck
    | _ => .stuck
  | _ => .stuck
def rSetD : V → V → V → Hp → (Hp → Prop) → Prop := fun o i v H Q => ∃ a H', o = .ref a ∧ DPut H a i v H' ∧ Q H'
theorem set_dict (hu : X.A.units + 1 < cLine) : PSet X rSetD := by
  intro pins s σ H o i v ov iv u Q I ro ri rv ⟨a, H', ho, g, q⟩
  subst ho
  cases ro
  exact d_setItem hu I g ri rv fun s' I' => ⟨H', I', q⟩
theorem PSet.or {t t' : TSet} (h : PSet X t) (h' : PSet X t') : PSet X (fun o i v H Q => t o i v H Q ∨ t' o i v H Q) := by
  intro pins s σ H o i v ov iv u Q I ro ri rv q
  rcases q with q | q
  · exact h pins s σ H o i v ov iv u Q I ro ri rv q
  · exact h' pins s σ H o i v ov iv u Q I ro ri rv q
theorem ds_put {i : Nat} {o k e : Expr} {mk m : ME} {pos' pos : Pos} (hu : X.A.units + 64 < cLine) (ho : PE X o (tVar i)) (hk : DE X W mk k) (he : DE X W m e)
    (hs : swapsWithSole [.Subscript o k pos'] e pos.line X.env = pure false := by rfl) (hw : swappedStores [.Subscript o k pos'] e X.env = pure none := by rfl)
    (h1 : (assignEach [.Subscript o k pos'] X.env).map (·.2) = [assign (.Subscript o k pos') X.env] := by rfl)
    (ha : ∀ v, assign (.Subscript o k pos') X.env v = (do
      let ov ← holding [v] (eval o X.env)
      let iv ← holding [v, ov] (eval k X.env)
      standAt pos'
      holding [v, ov, iv] (setItem ov iv v)
      release [v, ov, iv] []) := by intro _; rfl) : DS X W [] (mPut i mk m) (.Assign [.Subscript o k pos'] e pos) := by
  refine PS.to (ps_asg he (pg_sub ho hk (PSet.or set_list (set_dict (by omega))) ha) hs hw h1) fun De σ H ⟨G, F, env, fp, s, h⟩ => ?_
  refine tE.of s h.ofO fun r e1 F1 H1 fp1 y p1 s1 rep1 fe1 => ?_
  split at p1
  · rename_i d1 h1
    obtain ⟨v, hv, _⟩ := s1.slot i 1 _ h1
    refine ⟨v, hv, ?_⟩
    refine tE.of s1 (RG.imp p1.ofO fe1 fun _ _ q => q) fun k e2 F2 H2 fp2 z p2 s2 rep2 fe2 => ?_
    split at p2
    · rename_i d2 h2
      obtain ⟨v', hv', hm⟩ := s2.slot i 1 _ h2
      rw [hv] at hv'
      cases hv'
      have ry := rep1.mono fe2.same
      cases hp : putD d2 k.2 r.2 with
      | none => rw [hp] at p2; exact p2.elim
      | some d' =>
        rw [hp] at p2
        unfold putD at hp
        split at hp
        · rename_i ds
          obtain ⟨p, vs, rfl, hfp, hpp, hra⟩ := hm
          split at hp
          · rename_i j hj
            rw [hj] at rep2
            have ez := rep2.int_inv
            cases hx : ixN ds.length j with
            | none => rw [hx] at hp; cases hp
            | some t =>
              rw [hx] at hp
              cases hp
              have rds := RepA.reps hra
              refine .inl ⟨p, vs, j, t, rfl, ez, hpp, by rw [← rds.length]; exact hx, ?_⟩
              exact p2 σ F2 _ fp2 agree0 (s2.write hv hfp trivial ⟨p, vs.set t y, rfl, hfp, upd_same, RepA.of_reps (rds.set ry t)⟩) (fe1.trans fe2)
          · cases hp
        · rename_i kvs
          obtain ⟨p, kws, rfl, hfp, hpp, hks, hra⟩ := hm
          split at hp
          · rename_i k' hk'
            split at hp
            · rename_i hl
              cases hp
              have hl' : kws.length < sizeLine := by
                have := congrArg List.length hks
                simp only [List.length_map] at this
                rw [← this, ← LIM_eq]; exact hl
              refine .inr ⟨p, _, rfl, .inl ⟨kws, k', hpp, keyD_ok rep2 hk', hl', rfl⟩, ?_⟩
              exact p2 σ F2 _ fp2 agree0 (s2.write hv hfp trivial ⟨p, putK kws k' y, rfl, hfp, upd_same, dput_keys k' _ y hks, RepA.of_reps (dput_vals ry hks (RepA.reps hra))⟩) (fe1.trans fe2)
            · cases hp
          · cases hp
        · rename_i kvs
          obtain ⟨p, kws, rfl, hfp, hpp, hks, hra⟩ := hm
          split at hp
          · rename_i k' hk'
            split at hp
            · rename_i hl
              cases hp
              have hl' : kws.length < sizeLine := by
                have := congrArg List.length hks
                simp only [List.length_map] at this
                rw [← this, ← LIM_eq]; exact hl
              obtain ⟨b, eb, hb⟩ := keyT_ok rep2 hk'
              refine .inr ⟨p, _, rfl, .inr ⟨kws, k', b, hpp, eb, s2.sf _ _ hb, hl', rfl⟩, ?_⟩
              exact p2 σ F2 _ fp2 agree0 (s2.write hv hfp trivial ⟨p, putK kws k' y, rfl, hfp, upd_same, dput_keys k' _ y hks, RepA.of_reps (dput_vals ry hks (RepA.reps hra))⟩) (fe1.trans fe2)
            · cases hp
          · cases hp
        · cases hp
    · exact p2.elim
  · exact p1.elim
end
end DL

set_option Elab.async false
set_option autoImplicit false
set_option linter.all false
set_option maxRecDepth 100000
/-! KX1: set(list of ints) with its table's rise; min(list of ints, default=int). Both turned from the library's rules for set(tuple) and min(list). -/
namespace KX
open PySem PySem.Spec PyProof.Rows L2
section
variable {P : Program} {w : World} {A : Around} {E : Value → Shared → Prop} {s : Shared}
set_option maxHeartbeats 3200000 in
theorem call_set_lstI {l : Addr} {items : Array Value} (ns : List Int) {Q : Value → Shared → Prop} (hh : A.handled = none) (hl : s.heap.IsList l items) (hit : IntsAre items.toList ns) (hb : ns.length + 1 < scanBound)
    (h : ∀ (h' : Heap) (tk c : Nat), SetR w h' s.heap.objs.size (fun j => decide (j ∈ ns)) c → c ≤ ns.length → (∀ b o, s.heap.get? b = some o → h'.get? b = some o) → Q (.ref s.heap.objs.size) { s with heap := h', toks := tk }) :
    wpAny (model P w) A (call (.type "set") [.ref l]) Q E s := by
  have hisz : items.size = ns.length := by
    have q := IntsAre.length hit
    rw [Array.length_toList] at q
    exact q
  obtain ⟨c, tl, hmro⟩ := F.called_set.mro
  have hmade := F.called_set.made
  have hsub := F.called_set.sub
  refine wpAny_call (codeAny_of_tree ?_)
  show wpAny _ _ (callAny (.type "set") _) _ _ _
  refine wpAny_pure ⟨Code.quiet_builtin _ (by decide +kernel), codeAny_builtin F.entry_type_call ?_⟩
  rw [Around.under_plain (weight_type_call_type "set" [.ref l] []) rfl]
  have h1 := F.called_set.notType
  have h2 := F.called_set.canCreate
  have hct := F.typeCall_set_1 (.ref l)
  repeat (any_goals (first | assumption | wp_step))

  refine codeAny_mono (code_set_led1 (.ref l) (E := E) (Q₁ := fun obj s₁ => obj = .ref s.heap.objs.size ∧ s₁ = { s with heap := s.heap.push { cls := .type "set", dict := none, data := .set #[] 0 (.fresh 0 0 (!w.params.followText "set-order")) } }) ⟨rfl, rfl⟩) fun r s₁ hr => ?_
  cases r with
  | error e => exact hr
  | ok fl =>
    cases fl with
    | ret obj =>
      obtain ⟨rfl, rfl⟩ := hr
      have hS : (s.heap.push { cls := .type "set", dict := none, data := .set #[] 0 (.fresh 0 0 (!w.params.followText "set-order")) }).get? s.heap.objs.size = some { cls := .type "set", dict := none, data := .set #[] 0 (.fresh 0 0 (!w.params.followText "set-order")) } := Heap.get?_push_size _ rfl
      have hT : Shared.TypeIs { s with heap := s.heap.push { cls := .type "set", dict := none, data := .set #[] 0 (.fresh 0 0 (!w.params.followText "set-order")) } } (.ref s.heap.objs.size) "set" := ⟨_, hS, rfl⟩
      have hli := F.called_set.init.lookup
      have hbi := F.called_set.init.bind (.ref s.heap.objs.size)
      repeat (any_goals (first | assumption | wp_step))

      refine codeAny_mono (codeAny_call_builtin (R := wants (fun r s₂ => r = .none ∧ ∃ h' tk c, s₂ = { s with heap := h', toks := tk } ∧ SetR w h' s.heap.objs.size (fun j => decide (j ∈ ns)) c ∧ c ≤ ns.length ∧
          (∀ b o, s.heap.get? b = some o → h'.get? b = some o)) E) F.called_set.init.plain F.entry_set_init (check_set_init_1 hT ?_)) fun r₂ s₂ hr₂ => ?_
      · obtain ⟨ol, hol, hcl, nl, hdl⟩ := hl
        obtain ⟨ocls, odict, odata, oslots⟩ := ol
        simp only at hcl hdl
        subst hcl; subst hdl
        have hol' : (s.heap.push { cls := .type "set", dict := none, data := .set #[] 0 (.fresh 0 0 (!w.params.followText "set-order")) }).get? l = some { cls := .type "list", dict := odict, data := .seq items nl, slots := oslots } := Heap.get?_push_of_some _ hol
        have hsls := F.sub_list_set
        have hslf := F.sub_list_frozenset
        have hne : (Value.type "list" == Value.type "dict") = false := by decide
        have hl1 : (s.heap.push { cls := .type "set", dict := none, data := .set #[] 0 (.fresh 0 0 (!w.params.followText "set-order")) }).IsList l items := ⟨_, hol', rfl, nl, rfl⟩
        unfold Builtin.«set.__init__» noKeywords Builtin.Frozenset.updateFrom
        generalize hPI : pyIter = PI
        wp_walk
        subst hPI

        refine wpAny_pyIter_list hl1 ?_
        refine wpAny_bind (wpAny_runValue ?_)
        have hlS : l < s.heap.objs.size := Heap.lt_size hol
        have hh3 : A.in1.in1.in1.handled = none := by simp [hh]
        have hz1 : (s.heap.push { cls := .type "set", dict := none, data := .set #[] 0 (.fresh 0 0 (!w.params.followText "set-order")) }).objs.size = s.heap.objs.size + 1 := Heap.size_push ..
        have hneI : l ≠ (s.heap.push { cls := .type "set", dict := none, data := .set #[] 0 (.fresh 0 0 (!w.params.followText "set-order")) }).objs.size := by
          rw [Heap.size_push]; exact Nat.ne_of_lt (Nat.lt_succ_of_lt hlS)
        have hSf : s.heap.objs.size ∉ [(s.heap.push { cls := .type "set", dict := none, data := .set #[] 0 (.fresh 0 0 (!w.params.followText "set-order")) }).objs.size, l] := by
          rw [Heap.size_push]; simp only [List.mem_cons, List.mem_singleton, List.not_mem_nil, or_false, not_or]
          exact ⟨Nat.ne_of_lt (Nat.lt_succ_self _), Nat.ne_of_gt hlS⟩
        have hval : ∀ (i : Nat) (v : Value), items[i]? = some v → ∃ k t, ns[i]? = some k ∧ v = .int k t := fun i v hv => by
          have hi : i < ns.length := by rw [← hisz]; exact (Array.getElem?_eq_some_iff.mp hv).1
          obtain ⟨t, e⟩ := PyProof.Rows.IntsAre.int_at hit i v (by rw [Array.getElem?_toList]; exact hv)
          refine ⟨ns[i], t, List.getElem?_eq_getElem hi, ?_⟩
          rw [e, List.getD_eq_getElem?_getD, List.getElem?_eq_getElem hi] <;> rfl
        refine set_update_ints ((Walks.list hh3 _ l hneI items).toS) s.heap.objs.size
          hSf ns hisz hb hval (items.size - 0) 0 _ (by omega) (Nat.zero_le _)
          ⟨⟨_, Heap.get?_push_size _ rfl, rfl, rfl⟩, (hl1.push _)⟩ ?hS0 ?hR
        case hS0 =>
          have hget : ((s.heap.push { cls := .type "set", dict := none, data := .set #[] 0 (.fresh 0 0 (!w.params.followText "set-order")) }).push { cls := .type "list_iterator", data := .fields #[.ref l, .int 0 0] }).get? s.heap.objs.size
              = some { cls := .type "set", dict := none, data := .set #[] 0 (.fresh 0 0 (!w.params.followText "set-order")) } := Heap.get?_push_of_some _ hS
          exact ⟨0, Nat.le_refl 0, setR_new_at hget⟩
        case hR =>
          intro s' c' hm hc' hS'
          obtain ⟨h', g2, d', tk', os'⟩ := s'
          have eg : g2 = s.gens := hm.gens
          have ed : d' = s.drawn := hm.drawn
          have eo : os' = s.os := hm.os
          subst eg; subst ed; subst eo
          show wpAny _ _ _ _ _ _
          refine wpAny_pure ?_
          show wpAny _ _ (ret Value.none) _ _ _
          rw [hisz] at hc'
          refine wpAny_pure ⟨rfl, h', tk', c', rfl, hS', hc', fun b o e => ?_⟩
          have hb0 : b < s.heap.objs.size := Heap.lt_size e
          have hb1 : b ≠ s.heap.objs.size := Nat.ne_of_lt hb0
          have hb2 : b ≠ (s.heap.push { cls := .type "set", dict := none, data := .set #[] 0 (.fresh 0 0 (!w.params.followText "set-order")) }).objs.size := by
            rw [Heap.size_push]; exact Nat.ne_of_lt (Nat.lt_succ_of_lt hb0)
          exact hm.heap b o (by simp only [List.mem_cons, List.mem_singleton, List.not_mem_nil, or_false, not_or]; exact ⟨hb1, hb2⟩) (Heap.get?_push_of_some _ (Heap.get?_push_of_some _ e))

      · cases r₂ with
        | error e => exact hr₂
        | ok fl₂ =>
          cases fl₂ with
          | ret r =>
            obtain ⟨rfl, h', tk, c', rfl, hS', hc', hk'⟩ := hr₂
            repeat (any_goals (first | assumption | wp_step))
            exact h _ _ _ hS' hc' hk'
          | _ => exact hr₂.elim
    | _ => exact hr.elim

end
section
variable {prog : Program} {w : World} {A : Around} {R : Result → Shared → Prop} {I : Addr} {fp wr : List Addr} {n : Nat} {P : Nat → Value → Prop} {St : Nat → Heap → Prop} {d : Value}
theorem min_loop_d (W : Walks prog w A.in1 I fp wr n P St) (bt : Nat → Nat → Bool) (hcmp : CmpOf prog w A.in1 .Lt P bt) (S : Addr) (hSf : S ∉ fp) :
    ∀ (k j : Nat) (s : Shared) (vb : Value) (c : Nat), n - (j + 1) = k → j + 1 ≤ n → St (j + 1) s.heap → P (argBest bt j) vb →
    s.heap.get? S = some { cls := .type "list", dict := none, data := .seq #[vb, vb] c, slots := #[] } →
    (∀ v h' tk, P (argBest bt (n - 1)) v → (∀ b o, b ∉ wr → b ≠ S → s.heap.get? b = some o → h'.get? b = some o) → R (.ok (.ret v)) { s with heap := h', toks := tk }) →
    codeAny (model prog w) A (.builtin "min.loop" ⟨[.ref I, .none, .ref S], [("default", d)]⟩) R s := by
  have hSw : S ∉ wr := fun h => hSf (W.sub _ h)
  have hname : (toString "min" ++ toString ".loop" : String) = "min.loop" := by decide
  intro k
  induction k with
  | zero =>
    intro j s vb c hk hj hst hPb hS hR
    have hin : j + 1 = n := by omega
    refine codeAny_builtin F.entry_min_loop ?_
    rw [Around.under_plainId F.plain_min_loop _]
    show wpAny _ A.in1 (seqItems? (.ref S) >>= _) _ _ s
    refine wpAny_bind (wpAny_seqItems hS rfl ?_)
    show wpAny _ A.in1 (tryCatch (pyNext (.ref I)) _ >>= _) _ _ s
    refine wpAny_bind (wpAny_tryCatch (W.done s _ _ (hin ▸ hst) fun h' tk hk' => ?_))
    have hS' := hk' S _ hSw hS
    show wpAny _ A.in1 (updateSeq S (fun _ => #[]) >>= _) _ _ _
    refine wpAny_bind ?_
    refine wpAny_updateSeq hS' rfl (wpAny_bind (wpAny_letGo (wpAny_pure ?_)))
    refine hR vb _ tk (by rw [← hin]; exact hPb) fun b o hbw hbS e => (Heap.get?_update_other _ _ (Ne.symm hbS)).trans (hk' b o hbw e)
  | succ k ih =>
    intro j s vb c hk hj hst hPb hS hR
    have hlt : j + 1 < n := by omega
    refine codeAny_builtin F.entry_min_loop ?_
    rw [Around.under_plainId F.plain_min_loop _]
    show wpAny _ A.in1 (seqItems? (.ref S) >>= _) _ _ s
    refine wpAny_bind (wpAny_seqItems hS rfl ?_)
    show wpAny _ A.in1 (tryCatch (pyNext (.ref I)) _ >>= _) _ _ s
    refine wpAny_bind (wpAny_tryCatch (W.item (j + 1) s _ _ hlt hst fun v h' tk hP hst' hk' => ?_))
    have hS' := hk' S _ hSw hS
    show wpAny _ A.in1 (tryCatch (holding [v, v] (richCompare .Lt v vb >>= _)) _ >>= _) _ _ _
    refine wpAny_bind (wpAny_tryCatch (wpAny_holding (wpAny_bind (hcmp (j + 1) (argBest bt j) v vb _ _ _ hP hPb ?_))))
    refine wpAny_bind (wpAny_holding (wpAny_truthy_bool ?_))
    refine wpAny_bind (wpAny_letGo (wpAny_pure ?_))
    cases hb : bt (j + 1) (argBest bt j) with
    | true =>
      simp only [if_true]
      refine wpAny_bind ?_
      refine wpAny_updateSeq hS' rfl (wpAny_bind (wpAny_letGo ?_))
      rw [hname]
      refine wpAny_pure ⟨plainId_quiet F.plain_min_loop _, ih (j + 1) _ v _ (by omega) hlt (W.frame _ _ _ hst' fun b hbf o e => ?_) (by simp only [argBest, hb, if_true]; exact hP) (Heap.get?_update_self _ hS' rfl)
        fun v' h'' tk'' hP' hk'' => ?_⟩
      · exact (Heap.get?_update_other _ _ (fun h : S = b => hSf (by rw [h]; exact hbf))).trans e
      · exact hR v' h'' tk'' hP' fun b o hbw hbS e => hk'' b o hbw hbS ((Heap.get?_update_other _ _ (Ne.symm hbS)).trans (hk' b o hbw e))
    | false =>
      simp only [Bool.false_eq_true, if_false]
      refine wpAny_bind (wpAny_letGo ?_)
      rw [hname]
      refine wpAny_pure ⟨plainId_quiet F.plain_min_loop _, ih (j + 1) _ vb c (by omega) hlt hst' (by simp only [argBest, hb, Bool.false_eq_true, if_false]; exact hPb) hS' fun v' h'' tk'' hP' hk'' => ?_⟩
      exact hR v' h'' tk'' hP' fun b o hbw hbS e => hk'' b o hbw hbS (hk' b o hbw e)

theorem min_loopF_d (W : Walks prog w A.in1 I fp wr n P St) (bt : Nat → Nat → Bool) (hcmp : CmpOf prog w A.in1 .Lt P bt) (S : Addr) (hSf : S ∉ fp) (hn : 0 < n) {s : Shared} {c : Nat} (hst : St 0 s.heap)
    (hS : s.heap.get? S = some { cls := .type "list", dict := none, data := .seq #[] c, slots := #[] })
    (hR : ∀ v h' tk, P (argBest bt (n - 1)) v → (∀ b o, b ∉ wr → b ≠ S → s.heap.get? b = some o → h'.get? b = some o) → R (.ok (.ret v)) { s with heap := h', toks := tk }) :
    codeAny (model prog w) A (.builtin "min.loop" ⟨[.ref I, .none, .ref S], [("default", d)]⟩) R s := by
  have hSw : S ∉ wr := fun h => hSf (W.sub _ h)
  have hname : (toString "min" ++ toString ".loop" : String) = "min.loop" := by decide
  refine codeAny_builtin F.entry_min_loop ?_
  rw [Around.under_plainId F.plain_min_loop _]
  show wpAny _ A.in1 (seqItems? (.ref S) >>= _) _ _ s
  refine wpAny_bind (wpAny_seqItems hS rfl ?_)
  show wpAny _ A.in1 (tryCatch (pyNext (.ref I)) _ >>= _) _ _ s
  refine wpAny_bind (wpAny_tryCatch (W.item 0 s _ _ hn hst fun v h' tk hP hst' hk' => ?_))
  have hS' := hk' S _ hSw hS
  show wpAny _ A.in1 (updateSeq S (fun _ => #[v, v]) >>= _) _ _ _
  refine wpAny_bind ?_
  refine wpAny_updateSeq hS' rfl ?_
  rw [hname]
  refine wpAny_pure ⟨plainId_quiet F.plain_min_loop _, min_loop_d W bt hcmp S hSf _ 0 _ v _ rfl hn (W.frame _ _ _ hst' fun b hbf o e => ?_) hP (Heap.get?_update_self _ hS' rfl) fun v' h'' tk'' hP' hk'' => ?_⟩
  · exact (Heap.get?_update_other _ _ (fun h : S = b => hSf (by rw [h]; exact hbf))).trans e
  · exact hR v' h'' tk'' hP' fun b o hbw hbS e => hk'' b o hbw hbS ((Heap.get?_update_other _ _ (Ne.symm hbS)).trans (hk' b o hbw e))
end
theorem args_min_d (a d : Value) : argsOk "min" ⟨[a], [(Str.ofString "default", d)]⟩ := by unfold argsOk; kernel_rfl
section
variable {prog : Program} {w : World} {A : Around} {E : Value → Shared → Prop} {s : Shared} {d : Value}
theorem call_min_walk_d {x : Value} {Q : Value → Shared → Prop}
    (h : wpAny (model prog w) A.in1 (pyIter x) (fun it s₂ => ∃ I fp wr n P St bt, it = .ref I ∧ Walks prog w A.in1 I fp wr n P St ∧ St 0 s₂.heap ∧ (∀ b ∈ fp, b < s₂.heap.objs.size) ∧ 0 < n ∧ CmpOf prog w A.in1 .Lt P bt ∧
      ∀ v h' tk, P (argBest bt (n - 1)) v → (∀ b o, b ∉ wr → s₂.heap.get? b = some o → h'.get? b = some o) → Q v { s₂ with heap := h', toks := tk }) E s) :
    wpAny (model prog w) A (call (.builtin "min") [x] [(Str.ofString "default", d)]) Q E s := by
  have hname : (toString "min" ++ toString ".loop" : String) = "min.loop" := by decide
  refine PyProof.Rows.kmk_tree PySem.F.kind_min PySem.F.plain_min PySem.F.entry_min (args_min_d _ _) ?_
  show wpAny _ A.in1 (Builtin.Builtins.bindParams "min" ["key", "default"] 0 ⟨[], [(Str.ofString "default", d)]⟩ >>= _) _ _ s
  refine wpAny_bind (wpAny_of_eq (show Builtin.Builtins.bindParams "min" ["key", "default"] 0 ⟨[], [(Str.ofString "default", d)]⟩ = pure [none, some d] from rfl) ?_)
  refine wpAny_bind (wpAny_pure ?_)
  refine wpAny_bind (wpAny_mono h (fun it s₂ h₂ => ?_) fun _ _ e => e)
  obtain ⟨I, fp, wr, n, P, St, bt, rfl, W, hst, hfp, hn, hcmp, hQ⟩ := h₂
  refine wpAny_bind (wpAny_newObj_type ?_)
  have hSf : s₂.heap.objs.size ∉ fp := fun hm => Nat.lt_irrefl _ (hfp _ hm)
  rw [hname]
  refine wpAny_pure ⟨plainId_quiet F.plain_min_loop _, min_loopF_d W bt hcmp s₂.heap.objs.size hSf hn (W.frame _ _ _ hst fun b _ o e => Heap.get?_push_of_some _ e) (Heap.get?_push_size _ rfl) fun v h' tk hP hk => ?_⟩
  exact hQ v h' tk hP fun b o hbw e => hk b o hbw (Nat.ne_of_lt (Heap.lt_size e)) (Heap.get?_push_of_some _ e)
/-- nothing to look at: the default -/
theorem min_loopE_d {R : Result → Shared → Prop} {I : Addr} {fp wr : List Addr} {Pn : Nat → Value → Prop} {St : Nat → Heap → Prop} (W : Walks prog w A.in1 I fp wr 0 Pn St) (S : Addr) (hSf : S ∉ fp) {c : Nat} (hst : St 0 s.heap)
    (hS : s.heap.get? S = some { cls := .type "list", dict := none, data := .seq #[] c, slots := #[] })
    (hR : ∀ h' tk, (∀ b o, b ∉ wr → b ≠ S → s.heap.get? b = some o → h'.get? b = some o) → R (.ok (.ret d)) { s with heap := h', toks := tk }) :
    codeAny (model prog w) A (.builtin "min.loop" ⟨[.ref I, .none, .ref S], [("default", d)]⟩) R s := by
  have hSw : S ∉ wr := fun h => hSf (W.sub _ h)
  refine codeAny_builtin PySem.F.entry_min_loop ?_
  rw [Around.under_plainId PySem.F.plain_min_loop _]
  show wpAny _ A.in1 (seqItems? (.ref S) >>= _) _ _ s
  refine wpAny_bind (wpAny_seqItems hS rfl ?_)
  show wpAny _ A.in1 (tryCatch (pyNext (.ref I)) _ >>= _) _ _ s
  refine wpAny_bind (wpAny_tryCatch (W.done s _ _ hst fun h' tk hk' => ?_))
  refine wpAny_bind (wpAny_rule ?_)
  exact wpAny_pure (hR h' tk fun b o hbw _ e => hk' b o hbw e)
theorem call_minE_d {x : Value} {Q : Value → Shared → Prop}
    (h : wpAny (model prog w) A.in1 (pyIter x) (fun it s₂ => ∃ I fp wr P St, it = .ref I ∧ Walks prog w A.in1 I fp wr 0 P St ∧ St 0 s₂.heap ∧ (∀ b ∈ fp, b < s₂.heap.objs.size) ∧
      ∀ h' tk, (∀ b o, b ∉ wr → s₂.heap.get? b = some o → h'.get? b = some o) → Q d { s₂ with heap := h', toks := tk }) E s) :
    wpAny (model prog w) A (call (.builtin "min") [x] [(Str.ofString "default", d)]) Q E s := by
  have hname : (toString "min" ++ toString ".loop" : String) = "min.loop" := by decide
  refine PyProof.Rows.kmk_tree PySem.F.kind_min PySem.F.plain_min PySem.F.entry_min (args_min_d _ _) ?_
  show wpAny _ A.in1 (Builtin.Builtins.bindParams "min" ["key", "default"] 0 ⟨[], [(Str.ofString "default", d)]⟩ >>= _) _ _ s
  refine wpAny_bind (wpAny_of_eq (show Builtin.Builtins.bindParams "min" ["key", "default"] 0 ⟨[], [(Str.ofString "default", d)]⟩ = pure [none, some d] from rfl) ?_)
  refine wpAny_bind (wpAny_pure ?_)
  refine wpAny_bind (wpAny_mono h (fun it s₂ h₂ => ?_) fun _ _ e => e)
  obtain ⟨I, fp, wr, P, St, rfl, W, hst, hfp, hQ⟩ := h₂
  refine wpAny_bind (wpAny_newObj_type ?_)
  have hSf : s₂.heap.objs.size ∉ fp := fun hm => Nat.lt_irrefl _ (hfp _ hm)
  rw [hname]
  refine wpAny_pure ⟨plainId_quiet PySem.F.plain_min_loop _, min_loopE_d W s₂.heap.objs.size hSf (W.frame _ _ _ hst fun b _ o e => Heap.get?_push_of_some _ e) (Heap.get?_push_size _ rfl) fun h' tk hk => ?_⟩
  exact hQ h' tk fun b o hbw e => hk b o hbw (Nat.ne_of_lt (Heap.lt_size e)) (Heap.get?_push_of_some _ e)
end
/-- min(list of ints, default=int) -/
def minDef (ns : List Int) (d : Int) : Int := match ns with
  | [] => d
  | n :: r => r.foldl min n
def rMinDef (K : PySem.W.Frag) : List V → List V → Hp → VK → Prop := fun vs zs H Q => ∃ (a : Addr) (ns : List Int) (d : Int), vs = [V.ref a] ∧ zs = [.int d] ∧ SqL K H a (ns.map V.int) ∧ Q (.int (minDef ns d)) H
theorem foldl_min : ∀ (r : List Int) (n : Int), (r.foldl min n = n ∨ r.foldl min n ∈ r) ∧ r.foldl min n ≤ n ∧ ∀ a ∈ r, r.foldl min n ≤ a
  | [], n => ⟨.inl rfl, Int.le_refl _, fun a h => by cases h⟩
  | b :: r, n => by
    obtain ⟨h1, h2, h3⟩ := foldl_min r (min n b)
    rw [List.foldl_cons]
    refine ⟨?_, by omega, fun a h => ?_⟩
    · rcases h1 with h1 | h1
      · rw [h1]
        rcases Int.le_total n b with h | h
        · exact .inl (by omega)
        · exact .inr (by rw [Int.min_eq_right h]; exact List.mem_cons_self)
      · exact .inr (List.mem_cons_of_mem _ h1)
    · rcases List.mem_cons.mp h with rfl | h
      · omega
      · exact h3 a h
theorem minDef_is {ns : List Int} {d m : Int} (h : m ∈ ns) (hm : ∀ a, a ∈ ns → m ≤ a) : minDef ns d = m := by
  cases ns with
  | nil => cases h
  | cons n r =>
    obtain ⟨h1, h2, h3⟩ := foldl_min r n
    have le : r.foldl min n ≤ m := by
      rcases List.mem_cons.mp h with rfl | h
      · exact h2
      · exact h3 m h
    have ge : m ≤ r.foldl min n := by
      rcases h1 with e | e
      · rw [e]; exact hm n List.mem_cons_self
      · exact hm _ (List.mem_cons_of_mem _ e)
    exact Int.le_antisymm le ge
section
variable {X : Cx}
theorem cr_minDef (hc : X.calm = true) : CallRK X (.builtin "min") [Str.ofString "default"] (rMinDef X.K) := by
  intro pins s σ H vs zs us ws Q I r rz h
  obtain ⟨a, ns, d, rfl, rfl, hs, q⟩ := h
  obtain rfl := Vals.ref1 r
  obtain ⟨w1, rfl, e1⟩ := vals1 rz
  obtain ⟨td, rfl⟩ : ∃ t, w1 = Value.int d t := e1
  obtain ⟨its, rv, hl0, _⟩ := I.list hs
  have hl := hl0.isList
  have hi := rv.ints
  have hh : X.A.handled = none := I.ok.hd hc
  show wpAny _ X.A (call (.builtin "min") [.ref a] [(Str.ofString "default", .int d td)]) _ _ s
  obtain ⟨xs, e⟩ := hi.allInts.items
  have hn : numsOf (intItems xs).toList = ns := by rw [← e]; exact hi.numsOf
  rw [nums_intItems] at hn
  subst hn
  rw [e] at hl
  by_cases hne : 0 < xs.size
  · refine call_min_walk_d (iter_intList hl fun s₂ e st hfp hlI => ?_)
    subst e
    refine ⟨_, _, _, _, _, _, _, rfl, Walks.list (A := X.A.in1) hh _ a hlI (intItems xs), st, hfp, by simpa [intItems] using hne, CmpOf.ints_lt (numAt xs) (fun _ _ => intItems_at), fun v h' tk hP hk => ?_⟩
    have hk' := old_kept hk
    have hv : (intItems xs)[argBest (fun i j => decide (numAt xs i < numAt xs j)) (xs.size - 1)]? = some v := by simpa [intItems] using hP
    obtain ⟨t, rfl⟩ := intItems_at hv
    obtain ⟨h1, h2⟩ := argBest_lt (numAt xs) (xs.size - 1)
    have em : minDef (xs.toList.map Prod.fst) d = numAt xs (argBest (fun i j => decide (numAt xs i < numAt xs j)) (xs.size - 1)) := by
      refine minDef_is ?_ fun a ha => ?_
      · rw [numAt_eq]; exact PySem.getD_mem (by rw [List.length_map, Array.length_toList]; omega)
      · obtain ⟨j, hj, rfl⟩ := mem_getD ha
        rw [List.length_map, Array.length_toList] at hj
        rw [← numAt_eq]; exact h2 j (by omega)
    exact ⟨.int _, H, I.kept hk', ⟨_, rfl⟩, by rw [← em]; exact q⟩
  · refine call_minE_d (iter_intList hl fun s₂ e st hfp hlI => ?_)
    subst e
    have x0 : xs.size = 0 := Nat.eq_zero_of_not_pos hne
    have z : (intItems xs).size = 0 := by simpa [intItems] using x0
    have W := Walks.list (prog := X.prog) (w := X.w) (A := X.A.in1) hh s.heap.objs.size a hlI (intItems xs)
    rw [z] at W
    refine ⟨_, _, _, _, _, rfl, W, st, hfp, fun h' tk hk => ?_⟩
    have hk' := old_kept hk
    have ez : xs.toList.map Prod.fst = [] := by
      have : xs.toList.length = 0 := by rw [Array.length_toList]; exact x0
      rw [List.length_eq_zero_iff.mp this]; rfl
    rw [ez] at q
    exact ⟨.int d, H, I.kept hk', ⟨_, rfl⟩, q⟩
end
end KX

set_option autoImplicit false
set_option Elab.async false
set_option linter.all false
set_option maxRecDepth 100000
/-! DL: sorted, sorted(set(..)), min(.., default=..), list(range(..)), list.index, names of built-in types. -/
namespace DL
open PySem PySem.Spec PyProof.Rows L2
/-! ### sorting ints, plainly -/
def insI (x : Int) : List Int → List Int
  | [] => [x]
  | y :: r => if x ≤ y then x :: y :: r else y :: insI x r
def sortI : List Int → List Int
  | [] => []
  | x :: r => insI x (sortI r)
def insU (x : Int) : List Int → List Int
  | [] => [x]
  | y :: r => if x < y then x :: y :: r else if x = y then y :: r else y :: insU x r
def sortU : List Int → List Int
  | [] => []
  | x :: r => insU x (sortU r)
theorem insI_perm (x : Int) : ∀ l : List Int, (insI x l).Perm (x :: l)
  | [] => .refl _
  | y :: r => by
    unfold insI
    split
    · exact .refl _
    · exact ((insI_perm x r).cons y).trans (.swap x y r)
theorem sortI_perm : ∀ l : List Int, (sortI l).Perm l
  | [] => .refl _
  | x :: r => (insI_perm x (sortI r)).trans ((sortI_perm r).cons x)
theorem insI_sorted (x : Int) : ∀ l : List Int, l.Pairwise (· ≤ ·) → (insI x l).Pairwise (· ≤ ·)
  | [], _ => by simp [insI]
  | y :: r, h => by
    obtain ⟨h1, h2⟩ := List.pairwise_cons.mp h
    unfold insI
    split
    · rename_i hxy
      refine List.pairwise_cons.mpr ⟨fun a ha => ?_, h⟩
      rcases List.mem_cons.mp ha with rfl | ha
      · exact hxy
      · exact Int.le_trans hxy (h1 a ha)
    · rename_i hxy
      refine List.pairwise_cons.mpr ⟨fun a ha => ?_, insI_sorted x r h2⟩
      rcases List.mem_cons.mp ((insI_perm x r).mem_iff.mp ha) with rfl | ha
      · exact Int.le_of_lt (Int.not_le.mp hxy)
      · exact h1 a ha
theorem sortI_sorted : ∀ l : List Int, (sortI l).Pairwise (· ≤ ·)
  | [] => .nil
  | x :: r => insI_sorted x _ (sortI_sorted r)
theorem insU_mem (x k : Int) : ∀ l : List Int, k ∈ insU x l ↔ k = x ∨ k ∈ l
  | [] => by simp [insU]
  | y :: r => by
    unfold insU
    split
    · simp
    · split
      · rename_i h; subst h; simp
      · rw [List.mem_cons, insU_mem x k r, List.mem_cons]
        constructor
        · rintro (h | h | h)
          · exact .inr (.inl h)
          · exact .inl h
          · exact .inr (.inr h)
        · rintro (h | h | h)
          · exact .inr (.inl h)
          · exact .inl h
          · exact .inr (.inr h)
theorem insU_sorted (x : Int) : ∀ l : List Int, l.Pairwise (· < ·) → (insU x l).Pairwise (· < ·)
  | [], _ => by simp [insU]
  | y :: r, h => by
    obtain ⟨h1, h2⟩ := List.pairwise_cons.mp h
    unfold insU
    split
    · rename_i hxy
      refine List.pairwise_cons.mpr ⟨fun a ha => ?_, h⟩
      rcases List.mem_cons.mp ha with rfl | ha
      · exact hxy
      · exact Int.lt_trans hxy (h1 a ha)
    · split
      · exact h
      · rename_i hxy hne
        refine List.pairwise_cons.mpr ⟨fun a ha => ?_, insU_sorted x r h2⟩
        rcases (insU_mem x a r).mp ha with rfl | ha
        · omega
        · exact h1 a ha
theorem sortU_mem (k : Int) : ∀ l : List Int, k ∈ sortU l ↔ k ∈ l
  | [] => Iff.rfl
  | x :: r => by
    show k ∈ insU x (sortU r) ↔ _
    rw [insU_mem, sortU_mem k r, List.mem_cons]
theorem sortU_sorted : ∀ l : List Int, (sortU l).Pairwise (· < ·)
  | [] => .nil
  | x :: r => insU_sorted x _ (sortU_sorted r)
theorem sorted_uniq : ∀ (l r : List Int), l.Perm r → l.Pairwise (· ≤ ·) → r.Pairwise (· ≤ ·) → l = r
  | [], r, p, _, _ => (List.nil_perm.mp p).symm
  | x :: l, [], p, _, _ => absurd p.length_eq (by simp)
  | x :: l, y :: r, p, h, k => by
    obtain ⟨h1, h2⟩ := List.pairwise_cons.mp h
    obtain ⟨k1, k2⟩ := List.pairwise_cons.mp k
    have e : x = y := by
      have a : x ∈ y :: r := p.mem_iff.mp List.mem_cons_self
      have b : y ∈ x :: l := p.mem_iff.mpr List.mem_cons_self
      rcases List.mem_cons.mp a with a | a
      · exact a
      rcases List.mem_cons.mp b with b | b
      · exact b.symm
      · exact Int.le_antisymm (h1 y b) (k1 x a)
    subst e
    rw [sorted_uniq l r (List.Perm.cons_inv p) h2 k2]
theorem strict_uniq : ∀ (l r : List Int), l.Pairwise (· < ·) → r.Pairwise (· < ·) → (∀ k, k ∈ l ↔ k ∈ r) → l = r
  | [], [], _, _, _ => rfl
  | [], y :: r, _, _, h => absurd ((h y).mpr List.mem_cons_self) (by simp)
  | x :: l, [], _, _, h => absurd ((h x).mp List.mem_cons_self) (by simp)
  | x :: l, y :: r, h, k, m => by
    obtain ⟨h1, h2⟩ := List.pairwise_cons.mp h
    obtain ⟨k1, k2⟩ := List.pairwise_cons.mp k
    have e : x = y := by
      have a : x ∈ y :: r := (m x).mp List.mem_cons_self
      have b : y ∈ x :: l := (m y).mpr List.mem_cons_self
      rcases List.mem_cons.mp a with a | a
      · exact a
      rcases List.mem_cons.mp b with b | b
      · exact b.symm
      · have := h1 y b; have := k1 x a; omega
    subst e
    rw [strict_uniq l r h2 k2 fun j => ?_]
    constructor
    · intro hj
      rcases List.mem_cons.mp ((m j).mp (List.mem_cons_of_mem _ hj)) with e | e
      · subst e; exact absurd (h1 j hj) (Int.lt_irrefl _)
      · exact e
    · intro hj
      rcases List.mem_cons.mp ((m j).mpr (List.mem_cons_of_mem _ hj)) with e | e
      · subst e; exact absurd (k1 j hj) (Int.lt_irrefl _)
      · exact e
section
variable {X : Cx} {W : WX}
/-! ### sorted -/
def sortedD : List D → Option (Nat × D)
  | [.lst ds] => (intsOf ds).map fun ns => (1, .lst ((sortI ns).map .int))
  | _ => none
theorem call_sortedDD : CallD X (.builtin "sorted") sortedD := by
  refine CallD.of (cr_sortedI (X := X)) fun ds n d h F H xs Q sf rs q => ?_
  unfold sortedD at h
  split at h
  · obtain ⟨ns, hn, e⟩ := Option.map_eq_some_iff.mp h
    cases e
    obtain ⟨x, rfl, r⟩ := rs.one
    obtain ⟨a, vs, rfl, h1, k1⟩ := Rep.lst_inv r
    rw [intsOf_eq hn] at k1
    rw [Reps.ints k1] at h1
    refine ⟨a, ns, rfl, sf.seq h1, fun ns' p hp hs hf => ?_⟩
    rw [sorted_uniq ns' (sortI ns) (hp.trans (sortI_perm ns).symm) hs (sortI_sorted ns)]
    exact q _ _ _ _ (NewV.lst sf hf (reps_ints _))
  · cases h
/-! ### sorted(set(xs)), xs a list of ints, fewer than 64 of them -/
def tSortSet (K : PySem.W.Frag) (ta : TE) : TE := fun σ H Q => ta σ H fun x H1 => ∃ (l : Addr) (ns : List Int), x = .ref l ∧ SqL K H1 l (ns.map V.int) ∧ (sortU ns).length < 64 ∧ ns.length < 4000 ∧ ∀ p, H1 p = none → Q (.ref p) (upd H1 p (.lst ((sortU ns).map V.int)))
theorem pe_sortSet {a : Expr} {ta : TE} {p p2 q pos : Pos} (hc : X.calm = true) (hg : Gl X "sorted") (hm : X.mg "sorted" = none) (hg2 : Gl X "set") (hm2 : X.mg "set" = none) (ha : PE X a ta)
    (na : starEach [a] X.env = (false, eval a X.env) :: starEach [] X.env := by rfl) : PE X (.Call (.Name "sorted" p) [.Call (.Name "set" p2) [a] [] q] [] pos) (tSortSet X.K ta) := by
  refine ⟨fun pins s σ H Q I h => ?_⟩
  refine Call_ (ld_blt I hg hm PyProof.Rows.boot_sorted ?_)
  refine PyProof.Rows.callWith_builtin1 (PyProof.Rows.args_cons ?_ rfl) rfl rfl
  refine Call_ (ld_blt I hg2 hm2 PyProof.Rows.boot_set ?_)
  refine PyProof.Rows.callWith_type1 (PyProof.Rows.args_cons (thn (ha.run pins s σ H _ I h) fun v s1 ⟨x, H1, I1, r1, q1⟩ => PyProof.Rows.args_nil ?_) na) na rfl
  obtain ⟨l, ns, rfl, hq, h64, h4k, q1⟩ := q1
  cases r1
  obtain ⟨its, r, pl, hz⟩ := I1.list hq
  refine KX.call_set_lstI ns (I1.ok.hd hc) pl.isList (by simpa using r.ints) (by unfold scanBound; omega) fun h' tk c R hcn hk => ?_
  refine PyProof.Rows.args_nil ?_
  have I2 : Inv X pins σ (upd H1 s1.heap.objs.size (SetO X.w s1.heap.objs.size (fun j => decide (j ∈ ns)) c)) { s1 with heap := h', toks := tk } :=
    I1.laid (t' := tk) hk (Nat.le_refl _) (setO_new R)
  have h0 : H1 s1.heap.objs.size = none := I1.hok.fresh (Nat.le_refl _)
  have I3 : Inv X pins σ H1 { s1 with heap := h', toks := tk } := I1.kept hk
  have hc64 : c < 64 := by
    have ⟨o1, es, ep, t, _, _, _, _, nd, hm, _, _, hn, _, _⟩ := R
    have sub : es.toList.map keyOf ⊆ sortU ns := fun k hk => by
      have := (hm k).mpr hk
      exact (sortU_mem k ns).mpr (by simpa using this)
    have := List.Nodup.length_le_of_subset nd sub
    rw [List.length_map, Array.length_toList, hn] at this
    omega
  -- the sorted list is laid over the heap without the set
  refine sorted_set R (I1.ok.hd hc) hc64 fun s' p out c ns' k g o hp hg' hi hs hmem hl => ?_
  have hu : ns' = sortU ns := strict_uniq _ _ hs (sortU_sorted ns) fun k => by rw [hmem, sortU_mem]; simp
  subst hu
  have hlen : ((sortU ns).map V.int).length ≤ sizeLine := by rw [List.length_map, hl, sizeLine_eq]; omega
  have hn : H1 p = none := I3.hok.fresh hp
  have hp' : s1.heap.objs.size ≤ p := by
    have ⟨o1, _, _, _, ho1, _⟩ := R
    exact Nat.le_trans (Nat.le_of_lt (Heap.lt_size ho1)) hp
  have k' : ∀ b o, s1.heap.get? b = some o → s'.heap.get? b = some o := fun b o q => k b o (hk b o q)
  have J : Inv X pins σ (upd H1 p (.lst ((sortU ns).map V.int))) { s1 with heap := s'.heap, gens := s'.gens, drawn := s'.drawn, toks := s'.toks } :=
    I1.call (ch := []) (Un.laid k' hp' hn) (I1.hok.laid k' hp' ⟨hlen, out.toList, c, vals_of_ints hi, hg'⟩) (by rw [g]; exact I1.bare) (fun _ z => nomatch z)
  have e : s' = { s1 with heap := s'.heap, gens := s'.gens, drawn := s'.drawn, toks := s'.toks } := by
    cases s'
    cases s1
    cases o
    rfl
  rw [e]
  exact ⟨.ref p, _, J, rfl, q1 p hn⟩
def sortSetD : D → Option (Nat × D)
  | .lst ds => match intsOf ds with
    | some ns => if (sortU ns).length < 64 ∧ ns.length < 4000 then some (1, .lst ((sortU ns).map .int)) else none
    | none => none
  | _ => none
theorem de_sortSet {a : Expr} {m : ME} {p p2 q pos : Pos} (hc : X.calm = true) (hg : Gl X "sorted") (hm : X.mg "sorted" = none) (hg2 : Gl X "set") (hm2 : X.mg "set" = none) (ha : DE X W m a)
    (na : starEach [a] X.env = (false, eval a X.env) :: starEach [] X.env := by rfl) : DE X W (mOp1 sortSetD m) (.Call (.Name "sorted" p) [.Call (.Name "set" p2) [a] [] q] [] pos) := by
  refine PE.to (pe_sortSet hc hg hm hg2 hm2 ha na) fun σ H Q ⟨G, F, env, fp, s, h⟩ => ?_
  refine tE.of s h.bind fun r1 e1 F1 H1 fp1 v1 p1 s1 rep1 fe1 => ?_
  obtain ⟨n, d, ho, hk⟩ := RG.end s1 fe1 p1
  unfold sortSetD at ho
  split at ho
  · rename_i ds hd
    split at ho
    · rename_i ns hn
      split at ho
      · rename_i h64
        cases ho
        rw [hd] at rep1
        obtain ⟨a, vs, rfl, h1, k1⟩ := Rep.lst_inv rep1
        rw [intsOf_eq hn] at k1
        rw [Reps.ints k1] at h1
        exact ⟨a, ns, rfl, s1.sf.seq h1, h64.1, h64.2, fun p hp => hk _ _ _ _ (NewV.lst s1.sf hp (reps_ints _))⟩
      · cases ho
    · cases ho
  · cases ho
/-! ### min(xs, default=k) -/
def minDefD : D → D → Option (Nat × D)
  | .lst ds, .int d => (intsOf ds).map fun ns => (0, .int (KX.minDef ns d))
  | _, _ => none
theorem de_minDef {a b : Expr} {ma mb : ME} {p kp pos : Pos} (hc : X.calm = true) (hg : Gl X "min") (hm : X.mg "min" = none) (ha : DE X W ma a) (hb : DE X W mb b)
    (na : starEach [a] X.env = (false, eval a X.env) :: starEach [] X.env := by rfl) (he : backTo pos (starEach [a] X.env) = (false, eval a X.env) :: backTo pos (starEach [] X.env) := by rfl) (hpl : (backTo pos (starEach [a] X.env)).any (·.1) = false := by rfl)
    (hall : (backToKw pos (keywordEach [⟨some "default", b, kp⟩] X.env)).all (·.1.isSome) = true := by rfl) (hnone : (backToKw pos (keywordEach [⟨some "default", b, kp⟩] X.env)).any (·.1.isNone) = false := by rfl) (hks : (backToKw pos (keywordEach [⟨some "default", b, kp⟩] X.env)).filterMap (·.1) = [Str.ofString "default"] := by rfl) :
    DE X W (mOp2 minDefD ma mb) (.Call (.Name "min" p) [a] [⟨some "default", b, kp⟩] pos) := by
  refine PE.to (pe_callBK (KX.cr_minDef hc) hg hm PyProof.Rows.boot_min (pa_cons ha pa_nil na) (pk_cons hb pk_nil) (by decide) (by decide) he hpl hall hnone hks) fun σ H Q ⟨G, F, env, fp, s, h⟩ => ?_
  refine tE.of s h.bind fun r1 e1 F1 H1 fp1 v1 p1 s1 rep1 fe1 => ?_
  refine tE.of s1 (RG.imp p1.bind fe1 fun _ _ q => q) fun r2 e2 F2 H2 fp2 v2 p2 s2 rep2 fe2 => ?_
  obtain ⟨n, d, ho, hk⟩ := RG.end s2 (fe1.trans fe2) p2
  unfold minDefD at ho
  split at ho
  · rename_i ds dd hd hd2
    obtain ⟨ns, hn, e⟩ := Option.map_eq_some_iff.mp ho
    cases e
    have rep1' := rep1.mono fe2.same
    rw [hd] at rep1'
    rw [hd2] at rep2
    obtain ⟨a, vs, rfl, h1, k1⟩ := Rep.lst_inv rep1'
    cases Rep.int_inv rep2
    rw [intsOf_eq hn] at k1
    rw [Reps.ints k1] at h1
    exact ⟨a, ns, _, rfl, rfl, s2.sf.seq h1, hk _ _ _ _ (NewV.of_rep s2.sf (.int _))⟩
  · cases ho
/-! ### list(range(n)) -/
def lstRgD : D → Option (Nat × D)
  | .int n => if n ≤ 16777216 ∧ -(2 ^ 62) ≤ n then some (1, .lst ((List.range n.toNat).map fun i => .int (i : Nat))) else none
  | _ => none
theorem reps_rg {K : PySem.W.Frag} {F : Hp} (n : Int) : Reps K F ((List.range n.toNat).map fun i => D.int (i : Nat)) (rgV 0 n) := by
  have e : rgV 0 n = ((List.range n.toNat).map fun i => ((i : Nat) : Int)).map V.int := by
    unfold rgV
    rw [Int.sub_zero, List.map_map]
    exact List.map_congr_left fun i _ => by simp
  have e2 : ((List.range n.toNat).map fun i => D.int (i : Nat)) = ((List.range n.toNat).map fun i => ((i : Nat) : Int)).map D.int := by rw [List.map_map]; rfl
  rw [e, e2]
  exact reps_ints _
theorem de_lstRg {a : Expr} {m : ME} {p p2 q pos : Pos} (hc : X.calm = true) (hg : Gl X "list") (hm : X.mg "list" = none) (hg2 : Gl X "range") (hm2 : X.mg "range" = none) (ha : DE X W m a)
    (na : starEach [.Call (.Name "range" p2) [a] [] q] X.env = (false, eval (.Call (.Name "range" p2) [a] [] q) X.env) :: starEach [] X.env := by rfl) (na2 : starEach [a] X.env = (false, eval a X.env) :: starEach [] X.env := by rfl) : DE X W (mOp1 lstRgD m) (.Call (.Name "list" p) [.Call (.Name "range" p2) [a] [] q] [] pos) := by
  refine PE.to (pe_listRg hc hg hm (prg_1 hg2 hm2 ha na2) na) fun σ H Q ⟨G, F, env, fp, s, h⟩ => ?_
  refine tE.of s h.bind fun r1 e1 F1 H1 fp1 v1 p1 s1 rep1 fe1 => ?_
  obtain ⟨n, d, ho, hk⟩ := RG.end s1 fe1 p1
  unfold lstRgD at ho
  split at ho
  · rename_i i hd
    split at ho
    · rename_i hb
      cases ho
      rw [hd] at rep1
      cases Rep.int_inv rep1
      refine ⟨i, rfl, ⟨by decide, by decide, hb.2, by omega, by omega⟩, fun p hp => hk _ _ _ _ (NewV.lst s1.sf hp (reps_rg i))⟩
    · cases ho
  · cases ho
/-! ### l.index(x) -/
def idxOf (d : D) : List D → Option Nat
  | [] => none
  | y :: r => if eqv y d = true then some 0 else (idxOf d r).map (· + 1)
theorem idxOf_some {d : D} : ∀ {ds : List D} {j : Nat}, idxOf d ds = some j → (∃ z, ds[j]? = some z ∧ eqv z d = true) ∧ ∀ (m : Nat) (z : D), m < j → ds[m]? = some z → eqv z d = false
  | [], j, h => by cases h
  | y :: r, j, h => by
    unfold idxOf at h
    split at h
    · rename_i e
      cases h
      exact ⟨⟨y, rfl, e⟩, fun m z hm => absurd hm (Nat.not_lt_zero _)⟩
    · rename_i e
      obtain ⟨k, hk, rfl⟩ := Option.map_eq_some_iff.mp h
      obtain ⟨h1, h2⟩ := idxOf_some hk
      refine ⟨h1, fun m z hm hz => ?_⟩
      cases m with
      | zero => cases hz; simpa using e
      | succ m => exact h2 m z (by omega) hz
def indexD : D → List D → Option (Nat × D)
  | .lst ds, [d] => if okN 40 d && ds.all (okN 40) && decide (ds.length ≤ LIM) then (idxOf d ds).map fun j => (0, .int (j : Nat)) else none
  | _, _ => none
def rIdxA (X : Cx) : V → List V → Hp → VK → Prop := fun x xs H Q => ∃ d ds a vs y j, okN 40 d = true ∧ ds.all (okN 40) = true ∧ x = .ref a ∧ xs = [y] ∧ SqL X.K H a vs ∧ Rep X.K H d y ∧ Reps X.K H ds vs ∧ idxOf d ds = some j ∧ Q (.int (j : Nat)) H
theorem mt_indexA (hu : X.A.units + 64 < cLine) : MtR X "list.index" (rIdxA X) := by
  intro pins s σ H x xs v us Q I rx rxs ⟨d, ds, a, vs, y, j, od, os, ex, exs, hs, rd, rs, hj, q⟩
  subst ex
  subst exs
  cases rx
  obtain ⟨uy, rfl, ry⟩ := rxs.one
  have hu' : X.A.in1.units + 40 < cLine := by show X.A.units + 1 + 40 < cLine; omega
  obtain ⟨its, rv, ⟨⟨cls, dd, data, sls⟩, n, ho, hc, hdn, hdt⟩, hlen⟩ := I.list hs
  simp only at hc hdt
  subst hc hdt
  obtain ⟨⟨z, hz, ez⟩, hno⟩ := idxOf_some hj
  have l1 := rs.length
  have l2 := rv.length
  have hjd : j < ds.length := (List.getElem?_eq_some_iff.mp hz).1
  have hjl : j < its.length := by omega
  have at_ : ∀ (m : Nat) (hm : m < its.toArray.size) (z' : D), ds[m]? = some z' → eqVal X.K H d its.toArray[m] = eqv z' d := by
    intro m hm z' hz'
    obtain ⟨w, hw, rw'⟩ := rs.get hz'
    obtain ⟨u, hu1, ru⟩ := rv.get hw
    have hml : m < its.length := by simpa using hm
    have e1 : its[m] = u := by rw [List.getElem?_eq_getElem hml] at hu1; exact Option.some.inj hu1
    have e2 : its.toArray[m] = u := by simpa using e1
    rw [e2]
    exact eqVal_ok I (List.all_eq_true.mp os z' (List.mem_of_getElem? hz')) rw' ru
  have hsl := sizeLine_eq
  refine call_meets PySem.F.slot_list_index ⟨_, ho, rfl⟩ PySem.F.entry_list_index (PySem.F.args_list_index_2 _ _)
    (SeqAt.list_indexAt a its.toArray n dd sls uy (eqVal X.K H d) j (by simpa using hjl) (by omega) ?_ ?_) ⟨ho, fun y hy => mem_eqVal I hu' od rd ry os rs rv y (by simpa using hy), ?_⟩
  · rw [at_ j (by simpa using hjl) z hz]; exact ez
  · intro m hm hmj
    have hmd : m < ds.length := by omega
    rw [at_ m hm _ (List.getElem?_eq_getElem hmd)]
    exact hno m _ hmj (List.getElem?_eq_getElem hmd)
  · exact ⟨.int (j : Nat), H, I.tok _, ⟨_, rfl⟩, q⟩
theorem mt_indexDD (hu : X.A.units + 64 < cLine) : MtD' X "list.index" indexD := by
  refine ⟨_, mt_indexA hu, fun d0 ds n d h F H x xs Q sf r rs q => ?_⟩
  unfold indexD at h
  split at h
  · rename_i ds0 d1
    split at h
    · rename_i hb
      obtain ⟨j, hj, e⟩ := Option.map_eq_some_iff.mp h
      cases e
      simp only [Bool.and_eq_true, decide_eq_true_eq] at hb
      obtain ⟨y, rfl, ry⟩ := rs.one
      obtain ⟨a, vs, rfl, h1, k1⟩ := Rep.lst_inv r
      exact ⟨_, _, a, vs, y, j, hb.1.1, hb.1.2, rfl, rfl, sf.seq h1, ry.mono sf, k1.mono sf, hj, q _ _ _ _ (NewV.of_rep sf (.int _))⟩
    · cases h
  · cases h
/-! ### a built-in type by its name -/
theorem de_ty {x : Str} {T : String} {pos : Pos} (hg : Gl X x) (hm : X.mg x = none) (hv : bootBuiltins x = some (.type T)) (hn : x ≠ "__name__" := by decide) (hd : (x == ("__debug__" : Str)) = false := by decide) : DE X W (mC (.ty T)) (.Name x pos) :=
  de_const (v := .ty T) (pe_bltn hg hm hv rfl hn hd) fun _ _ => .ty T
end
end DL

set_option autoImplicit false
set_option Elab.async false
set_option linter.all false
set_option maxRecDepth 100000
/-! DL: more assignments. -/
namespace DL
open PySem PySem.Spec PyProof.Rows L2
section
variable {X : Cx} {W : WX}
/-- target = value, any target -/
def mAsgG (g : DTg) (m : ME) : MS := fun env => (m env).bindS fun r e => match g r.2 e with
  | some e2 => .nx e2
  | none => .stuck
theorem ds_asgG {A : List Nat} {tg e : Expr} {g : DTg} {m : ME} {pos : Pos} (hg : DG X A g tg) (he : DE X W m e) (hs : swapsWithSole [tg] e pos.line X.env = pure false := by rfl) (hw : swappedStores [tg] e X.env = pure none := by rfl)
    (h1 : (assignEach [tg] X.env).map (·.2) = [assign tg X.env] := by rfl) : DS X W A (mAsgG g m) (.Assign [tg] e pos) := by
  obtain ⟨t, ht, hq⟩ := hg
  refine PS.to (ps_asg he ht hs hw h1) fun De σ H ⟨G, F, env, fp, s, h⟩ => ?_
  refine tE.of s h.ofO fun r e1 F1 H1 fp1 v p1 s1 rep1 fe1 => ?_
  cases eg : g r.2 e1 with
  | none => rw [eg] at p1; exact p1.elim
  | some e2 =>
    rw [eg] at p1
    exact hq G F1 H1 σ e1 fp1 r.2 v e2 s1 rep1 eg _ fun σ' fp' a s2 => p1 σ' F1 H1 fp' a s2 fe1
/-- name = [.. for ..] on one line -/
theorem ds_setLc {i : Nat} {y : Str} {py : Pos} {elt tg iter : Expr} {ifs : List Expr} {scope : Scope} {own : List (Str × Nat)} {pos spos : Pos} {mi : MI} {mc : MT} {me : ME} {g : DTg} {As : List Nat} (hc : X.calm = true) (hN : X.N.Nodup) (hy : X.N[i]? = some y) (hyl : X.env.scope.names.lookup y = some .local)
    (hi : DI X W mi tg iter) (ok : BlkOk X.N X.env.scope scope own) (hg : DGB X As g tg scope) (hA : ∀ i ∈ As, i ∈ own.map (·.2))
    (ht : ∀ (s : Shared) (H : Hp) (C : Addr) (cl : List (Str × Addr)) (fp : List Addr), DTs (X.blk s H scope (compEnvC scope cl C X.env) fp) W0 mc ifs) (he : ∀ (s : Shared) (H : Hp) (C : Addr) (cl : List (Str × Addr)) (fp : List Addr), DE (X.blk s H scope (compEnvC scope cl C X.env) fp) W0 me elt)
    (hsw : swapsWith (.ListComp elt [⟨tg, iter, ifs, 0⟩] scope pos) (some (.Name y py)) spos.line X.env = pure true := by rfl)
    (hs : ∀ x, foldedSetIterable iter X.env x = pure x := by intro _; rfl) :
    DS X W [i] (mSet i (mComp (own.map (·.2)) g mi mc me)) (.Assign [.Name y py] (.ListComp elt [⟨tg, iter, ifs, 0⟩] scope pos) spos) := by
  obtain ⟨t, ht1, hgq⟩ := hg
  refine PS.to (ps_setLc (wi := tI X.K X.mg W mi) (g := t) (tt := tT X.K X.mg W0 mc) (te := tE X.K X.mg W0 me) hc hN hy hyl hsw hi ok ht1 ht he hs) fun De σ H ⟨G, F, env, fp, s, h⟩ => ?_
  refine comp_core (tg := tg) (scope := scope) hA hgq ⟨G, F, env, fp, s, h.ofO.imp .refl fun r e p v F' H' fp' S sv fe => ?_⟩
  exact p _ F' H' _ (Agree.set σ i _) (sv.put i) fe
/-- name = [.. for ..] on one line -/
theorem ds_setLcF {i : Nat} {y : Str} {py : Pos} {elt tg iter : Expr} {ifs : List Expr} {scope : Scope} {own : List (Str × Nat)} {pos spos : Pos} {mi : MI} {mc : MT} {me : ME} {g : DTg} {As : List Nat} (hc : X.calm = true) (hN : X.N.Nodup) (hy : X.N[i]? = some y) (hyl : X.env.scope.names.lookup y = some .local)
    (hi : DI X W mi tg iter) (ok : BlkOk X.N X.env.scope scope own) (hg : DGB X As g tg scope) (hA : ∀ i ∈ As, i ∈ own.map (·.2))
    (ht : ∀ (s : Shared) (H : Hp) (C : Addr) (cl : List (Str × Addr)) (fp : List Addr), DTs (X.blk s H scope (compEnvC scope cl C X.env) fp) W0 mc ifs) (he : ∀ (s : Shared) (H : Hp) (C : Addr) (cl : List (Str × Addr)) (fp : List Addr), DE (X.blk s H scope (compEnvC scope cl C X.env) fp) W0 me elt)
    (hsw : swapsWith (.ListComp elt [⟨tg, iter, ifs, 0⟩] scope pos) (some (.Name y py)) spos.line X.env = pure true := by rfl)
    (hs : ∀ x, foldedSetIterable iter X.env x = pure x := by intro _; rfl) :
    DS X W [i] (mSetF i (mComp (own.map (·.2)) g mi mc me)) (.Assign [.Name y py] (.ListComp elt [⟨tg, iter, ifs, 0⟩] scope pos) spos) := by
  obtain ⟨t, ht1, hgq⟩ := hg
  refine PS.to (ps_setLc (wi := tI X.K X.mg W mi) (g := t) (tt := tT X.K X.mg W0 mc) (te := tE X.K X.mg W0 me) hc hN hy hyl hsw hi ok ht1 ht he hs) fun De σ H ⟨G, F, env, fp, s, h⟩ => ?_
  refine comp_core (tg := tg) (scope := scope) hA hgq ⟨G, F, env, fp, s, h.ofO.imp .refl fun r e p v F' H' fp' S sv fe => ?_⟩
  obtain ⟨s1, r1, f1⟩ := sv.share
  exact p _ _ H' _ (Agree.set σ i _) ((SV.of_rep s1 r1).put i) (fe.trans f1)
end
/-- a def of which nothing is promised -/
theorem fnD_stuck {P : Program} {w : World} {K : PySem.W.Frag} {mg : Str → Option Value} {base : Heap} {CX : CXT} {k : Nat} {f : Addr} {fd : FuncData} {ps : List Str} {pm : List Nat} (hp : ps.length = pm.length) : FnOk P w K mg base CX k f fd ps (spD K mg pm fun _ => .stuck) :=
  ⟨fun _ _ _ _ h => by obtain ⟨_, _, _, _, _, _, _, h⟩ := h; exact h.elim, fun _ _ _ _ _ _ _ _ _ _ _ _ _ h => by obtain ⟨_, _, _, _, _, _, _, h⟩ := h; exact h.elim⟩
end DL

set_option autoImplicit false
set_option Elab.async false
set_option linter.all false
set_option maxRecDepth 100000
/-! DL: the law's own head. -/
namespace DL
open PySem PySem.Spec PyProof.Rows L2
/-- what is asked of law, with no word of the program's names -/
def spL (K : PySem.W.Frag) : Sp := fun vs H Q _ => ∃ (a : Addr) (ns : List Int), vs = [.ref a] ∧ SqL K H a (ns.map V.int) ∧ ns.length ≤ 63 ∧ (∀ z ∈ ns, Builtin.Int.intBits z ≤ 1048576) ∧ ∀ H', Q (.bl true) H'
/-- the law's plain sense -/
def LawD (f : FSem) : Prop := ∀ ns : List Int, ns.length ≤ 63 → (∀ z ∈ ns, Builtin.Int.intBits z ≤ 1048576) → ∃ n ds', f [.scr (ns.map .int)] = .ret n (.bl true) ds'
theorem repM_bl {K : PySem.W.Frag} {F H : Hp} {n : Nat} {b : Bool} {v : V} {S : Addr → Prop} (r : RepM K F H n (.bl b) v S) : v = .bl b := by
  cases n with
  | zero => exact Rep.bl_inv r
  | succ n => exact Rep.bl_inv r
theorem spL_spD {K : PySem.W.Frag} {mg : Str → Option Value} {f : FSem} (hf : LawD f) : ∀ vs H Q E, spL K vs H Q E → spD K mg [0] f vs H Q E := by
  rintro vs H Q E ⟨a, ns, rfl, hS, hl, hb, q⟩
  obtain ⟨n, ds', e⟩ := hf ns hl hb
  refine ⟨fun _ => none, H, fun _ _ => False, [.scr (ns.map .int)], rfl, rfl, ⟨rfl, fun i n d h => ?_, fun _ _ _ _ z => z.elim, fun _ _ z => z.elim, fun _ _ z => z.elim, fun _ _ z => z.elim, Same.refl _, fun _ _ z => by cases z⟩, ?_⟩
  · cases i with
    | zero =>
      cases h
      exact ⟨_, rfl, .scr hS (reps_ints ns)⟩
    | succ i => simp [mkEnv] at h
  · rw [e]
    intro v F' H' fp' S _ sv _
    rw [repM_bl sv.val]
    exact q H'
theorem walkL {l : PySem.W.OpenLaw} {q : Program} {loose : List Str} {XP : (Str → Option Value) → Heap → Prop} {YP : World → Heap → Prop} {d : DefRec} {K : Params → PySem.W.Frag} {k : Nat} (hn : l.most = some 63) (hdf : d.params.defaults = []) (hr : Room k callerA)
    (hY : ∀ (w : World) (h : Heap), YP w h → (K w.params).In h)
    (F : ∀ (w : World) (mg : Str → Option Value) (fa : Addr) (h : Heap), (K w.params).In h → h.Ns mainGlobals mg → mg d.name = some (.ref fa) →
      ∃ fd : FuncData, (∀ (s : Shared) (u : Value), BindsTo s fd ⟨[u], []⟩ [("script", u)]) ∧ ∀ base : Heap, (K w.params).In base → base.Ns mainGlobals mg → FnOk l.prog w (K w.params) mg base CX0 k fa fd ["script"] (spL (K w.params))) :
    PySem.W.WalkO q loose XP YP l.row.toRowW d [] (fun f vs => PySem.call f vs) :=
  L2.walk_ofB (n := 63) (k := k) (x := "script") (CX := fun _ => CX0) (sp := fun w => spL (K w.params)) hn (by decide) hdf hr hY F (fun _ _ a ns hl hb _ hS => ⟨a, ns, rfl, hS, hl, hb, fun _ => rfl⟩) fun _ _ _ _ _ z => z
structure FHas (K : PySem.W.Frag) (mg : Str → Option Value) (x : Str) (st : Stmt) (ps : List Str) : Prop where
  ex : ∃ fa fd, Fun K x x st fa fd ∧ Binds K fd ps [] ∧ mg x = some (.ref fa) ∧ PySem.W.keepIn K (.ref fa) = true
end DL

set_option autoImplicit false
set_option Elab.async false
set_option linter.all false
set_option maxRecDepth 100000
/-! DL: what a denotation does, forwards: rules for simp. -/
namespace DL
open PySem PySem.Spec PyProof.Rows L2
structure Post where
  nx : DEnv → Prop
  rt : Nat → D → DEnv → Prop
  bk : DEnv → Prop
  ct : DEnv → Prop
  ex : Exc → DEnv → Prop
/-- a shared name's value; an owned one's -/
def get0 : DEnv → Nat → Option D
  | some (0, d) :: _, 0 => some d
  | _ :: e, i + 1 => get0 e i
  | _, _ => none
def get1 : DEnv → Nat → Option D
  | some (1, d) :: _, 0 => some d
  | _ :: e, i + 1 => get1 e i
  | _, _ => none
def getA : DEnv → Nat → Option (Nat × D)
  | some r :: _, 0 => some r
  | _ :: e, i + 1 => getA e i
  | _, _ => none
@[simp] theorem get0_z {d : D} {e : DEnv} : get0 (some (0, d) :: e) 0 = some d := rfl
@[simp] theorem get0_s {x : Option (Nat × D)} {e : DEnv} {i : Nat} : get0 (x :: e) (i + 1) = get0 e i := by rcases x with _ | ⟨_ | n, d⟩ <;> rfl
@[simp] theorem get1_z {d : D} {e : DEnv} : get1 (some (1, d) :: e) 0 = some d := rfl
@[simp] theorem get1_s {x : Option (Nat × D)} {e : DEnv} {i : Nat} : get1 (x :: e) (i + 1) = get1 e i := by rcases x with _ | ⟨_ | _ | n, d⟩ <;> rfl
@[simp] theorem getA_z {r : Nat × D} {e : DEnv} : getA (some r :: e) 0 = some r := rfl
@[simp] theorem getA_s {x : Option (Nat × D)} {e : DEnv} {i : Nat} : getA (x :: e) (i + 1) = getA e i := by cases x <;> rfl
theorem get0_eq : ∀ (e : DEnv) (i : Nat) (d : D), get0 e i = some d ↔ e[i]? = some (some (0, d))
  | [], i, d => by simp [get0]
  | none :: e, 0, d => by simp [get0]
  | some (0, x) :: e, 0, d => by simp
  | some (n + 1, x) :: e, 0, d => by simp [get0]
  | x :: e, i + 1, d => by rw [get0_s, get0_eq e i d]; simp
theorem get1_eq : ∀ (e : DEnv) (i : Nat) (d : D), get1 e i = some d ↔ e[i]? = some (some (1, d))
  | [], i, d => by simp [get1]
  | none :: e, 0, d => by simp [get1]
  | some (0, x) :: e, 0, d => by simp [get1]
  | some (1, x) :: e, 0, d => by simp
  | some (n + 2, x) :: e, 0, d => by simp [get1]
  | x :: e, i + 1, d => by rw [get1_s, get1_eq e i d]; simp
theorem getA_eq : ∀ (e : DEnv) (i : Nat) (r : Nat × D), getA e i = some r ↔ e[i]? = some (some r)
  | [], i, d => by simp [getA]
  | none :: e, 0, d => by simp [getA]
  | some x :: e, 0, d => by simp
  | x :: e, i + 1, d => by rw [getA_s, getA_eq e i d]; simp
def getL (e : DEnv) (i : Nat) : Option (List D) := match get1 e i with
  | some (.lst ds) => some ds
  | _ => none
@[simp] theorem getL_z {ds : List D} {e : DEnv} : getL (some (1, .lst ds) :: e) 0 = some ds := rfl
@[simp] theorem getL_s {x : Option (Nat × D)} {e : DEnv} {i : Nat} : getL (x :: e) (i + 1) = getL e i := by unfold getL; rw [get1_s]
theorem getL_eq {e : DEnv} {i : Nat} {ds : List D} : getL e i = some ds ↔ e[i]? = some (some (1, .lst ds)) := by
  rw [← get1_eq]
  unfold getL
  split
  · rename_i h; rw [h]; simp
  · rename_i h
    constructor
    · intro z; cases z
    · intro z; exact (h _ z).elim
def isBl : D → Option Bool
  | .bl b => some b
  | _ => none
def isIn : D → Option Int
  | .int i => some i
  | _ => none
def isSq : D → Option (List D)
  | .lst ds => some ds
  | .tup ds => some ds
  | .scr ds => some ds
  | _ => none
@[simp] theorem isBl_bl {b : Bool} : isBl (.bl b) = some b := rfl
@[simp] theorem isIn_int {i : Int} : isIn (.int i) = some i := rfl
@[simp] theorem isSq_lst {ds : List D} : isSq (.lst ds) = some ds := rfl
@[simp] theorem isSq_tup {ds : List D} : isSq (.tup ds) = some ds := rfl
@[simp] theorem isSq_scr {ds : List D} : isSq (.scr ds) = some ds := rfl
namespace U
def WE {α : Type} (X : Exc → DEnv → Prop) (o : Out α) (P : α → DEnv → Prop) : Prop := match o with
  | .ok a e => P a e
  | .exc x e => X x e
  | .stuck => False
def WS (o : OutS) (P : Post) : Prop := match o with
  | .nx e => P.nx e
  | .ret n d e => P.rt n d e
  | .brk e => P.bk e
  | .cont e => P.ct e
  | .exc x e => P.ex x e
  | .stuck => False
/-- something is there, and P of it -/
def oP {α : Type} (o : Option α) (P : α → Prop) : Prop := match o with
  | some a => P a
  | none => False
@[simp] theorem oP_some {α : Type} {a : α} {P : α → Prop} : oP (some a) P ↔ P a := Iff.rfl
@[simp] theorem oP_none {α : Type} {P : α → Prop} : oP (none : Option α) P ↔ False := Iff.rfl
theorem oP_ex {α : Type} {o : Option α} {P : α → Prop} : oP o P ↔ ∃ a, o = some a ∧ P a := by cases o <;> simp [oP]
theorem oP.mk {α : Type} {o : Option α} {P : α → Prop} {a : α} (h : o = some a) (p : P a) : oP o P := by rw [h]; exact p
def WF (X : Exc → DEnv → Prop) (o : FR) (k : Nat) (e : DEnv) (P : Nat × D → DEnv → Prop) : Prop := match o with
  | .ret n d ds' => ds'.length = k ∧ P (n, d) e
  | .exc x ds' => ds'.length = k ∧ X x e
  | .stuck => False
theorem WE.mono {α : Type} {X X' : Exc → DEnv → Prop} {o : Out α} {P P' : α → DEnv → Prop} (h : WE X o P) (i : ∀ a e, P a e → P' a e) (j : ∀ x e, X x e → X' x e) : WE X' o P' := by
  cases o with
  | ok a e => exact i _ _ h
  | exc x e => exact j _ _ h
  | stuck => exact h
theorem WS.mono {o : OutS} {P P' : Post} (h : WS o P) (h1 : ∀ e, P.nx e → P'.nx e) (h2 : ∀ n d e, P.rt n d e → P'.rt n d e) (h3 : ∀ e, P.bk e → P'.bk e) (h4 : ∀ e, P.ct e → P'.ct e) (h5 : ∀ x e, P.ex x e → P'.ex x e) : WS o P' := by
  cases o with
  | nx e => exact h1 _ h
  | ret n d e => exact h2 _ _ _ h
  | brk e => exact h3 _ h
  | cont e => exact h4 _ h
  | exc x e => exact h5 _ _ h
  | stuck => exact h
section
variable {α β : Type} {X : Exc → DEnv → Prop} {env e : DEnv} {P : Nat × D → DEnv → Prop} {PB : Bool → DEnv → Prop} {PA : List D → DEnv → Prop} {PO : Option Int → DEnv → Prop} {Q : Post} {ma mb mc : ME} {ta tb : MT} {sa sb : MS} {ms : MA}
@[simp] theorem WE_ok {a : α} {P : α → DEnv → Prop} : WE X (.ok a e) P ↔ P a e := Iff.rfl
@[simp] theorem WE_stuck {P : α → DEnv → Prop} : WE X .stuck P ↔ False := Iff.rfl
@[simp] theorem WE_exc {x : Exc} {P : α → DEnv → Prop} : WE X (.exc x e) P ↔ X x e := Iff.rfl
theorem WE_bind {o : Out α} {f : α → DEnv → Out β} {P : β → DEnv → Prop} : WE X (o.bind f) P ↔ WE X o fun a e => WE X (f a e) P := by cases o <;> rfl
theorem WS_bind {o : Out α} {f : α → DEnv → OutS} : WS (o.bindS f) Q ↔ WE Q.ex o fun a e => WS (f a e) Q := by cases o <;> rfl
@[simp] theorem WE_oB {o : Option α} {P : α → DEnv → Prop} : WE X (oB o e) P ↔ oP o fun k => P k e := by cases o <;> simp [oB, WE]
@[simp] theorem WE_C {d : D} : WE X (mC d env) P ↔ P (0, d) env := Iff.rfl
@[simp] theorem WE_var {i : Nat} : WE X (mVar i env) P ↔ oP (get0 env i) fun d => P (0, d) env := by
  rw [oP_ex]
  simp only [get0_eq]
  unfold mVar
  split
  · rename_i d h; rw [h]; simp
  · rename_i h
    constructor
    · intro z; exact z.elim
    · rintro ⟨d, h1, _⟩; exact (h d h1).elim
@[simp] theorem WE_move {i : Nat} : WE X (mMove i env) P ↔ oP (getA env i) fun r => P r (env.set i none) := by
  have : (oP (getA env i) fun r => P r (env.set i none)) ↔ ∃ n d, env[i]? = some (some (n, d)) ∧ P (n, d) (env.set i none) := by
    rw [oP_ex]
    simp only [getA_eq]
    exact ⟨fun ⟨⟨n, d⟩, h⟩ => ⟨n, d, h⟩, fun ⟨n, d, h⟩ => ⟨(n, d), h⟩⟩
  rw [this]
  unfold mMove
  split
  · rename_i n d h; rw [h]; exact ⟨fun h => ⟨n, d, rfl, h⟩, fun ⟨_, _, e, h⟩ => by cases e; exact h⟩
  · rename_i h
    constructor
    · intro z; exact z.elim
    · rintro ⟨n, d, h1, _⟩; exact (h n d h1).elim
@[simp] theorem WE_op2 {f : D → D → Option (Nat × D)} : WE X (mOp2 f ma mb env) P ↔ WE X (ma env) fun a e1 => WE X (mb e1) fun b e2 => oP (f a.2 b.2) fun r => P r e2 := by
  unfold mOp2
  simp only [WE_bind]
  refine iff_of_eq (congrArg _ (funext fun a => funext fun e1 => congrArg _ (funext fun b => funext fun e2 => ?_)))
  cases f a.2 b.2 <;> simp [WE]
@[simp] theorem WE_op1 {f : D → Option (Nat × D)} : WE X (mOp1 f ma env) P ↔ WE X (ma env) fun a e1 => oP (f a.2) fun r => P r e1 := by
  unfold mOp1
  simp only [WE_bind]
  refine iff_of_eq (congrArg _ (funext fun a => funext fun e1 => ?_))
  cases f a.2 <;> simp [WE]
@[simp] theorem WE_cmp {f : D → D → Option Bool} : WE X (mCmp f ma mb env) PB ↔ WE X (ma env) fun a e1 => WE X (mb e1) fun b e2 => oP (f a.2 b.2) fun r => PB r e2 := by
  unfold mCmp
  simp only [WE_bind, WE_oB]
theorem WE_ite {c : Bool} {o o' : Out α} {P : α → DEnv → Prop} : WE X (if c = true then o else o') P ↔ (c = true → WE X o P) ∧ (c = false → WE X o' P) := by cases c <;> simp
@[simp] theorem WE_chain {f g : D → D → Option Bool} : WE X (mChain f g ma mb mc env) PB ↔ WE X (ma env) fun a e1 => WE X (mb e1) fun b e2 => oP (f a.2 b.2) fun r => (r = true → WE X (mc e2) fun c e3 => oP (g b.2 c.2) fun r => PB r e3) ∧ (r = false → PB false e2) := by
  unfold mChain
  simp only [WE_bind, WE_oB, WE_ite, WE_ok]
@[simp] theorem WE_bool : WE X (mBool ta env) P ↔ WE X (ta env) fun b e => P (0, .bl b) e := by
  unfold mBool; simp only [WE_bind, WE_ok]
@[simp] theorem WE_and : WE X (mAnd ta tb env) PB ↔ WE X (ta env) fun b e => (b = true → WE X (tb e) PB) ∧ (b = false → PB false e) := by
  unfold mAnd; simp only [WE_bind, WE_ite, WE_ok]
@[simp] theorem WE_or : WE X (mOr ta tb env) PB ↔ WE X (ta env) fun b e => (b = true → PB true e) ∧ (b = false → WE X (tb e) PB) := by
  unfold mOr; simp only [WE_bind, WE_ite, WE_ok]
@[simp] theorem WE_not : WE X (mNot ta env) PB ↔ WE X (ta env) fun b e => PB (!b) e := by
  unfold mNot; simp only [WE_bind, WE_ok]
@[simp] theorem WE_isB : WE X (mIsB ma env) PB ↔ WE X (ma env) fun r e => oP (isBl r.2) fun b => PB b e := by
  unfold mIsB
  simp only [WE_bind]
  refine iff_of_eq (congrArg _ (funext fun a => funext fun e1 => ?_))
  obtain ⟨n, d⟩ := a
  cases d <;> rfl
@[simp] theorem WE_tru : WE X (mTru ma env) PB ↔ WE X (ma env) fun r e => oP (truthD r.2) fun b => PB b e := by
  unfold mTru; simp only [WE_bind, WE_oB]
@[simp] theorem WE_ifE {tc : MT} : WE X (mIfE tc ma mb env) P ↔ WE X (tc env) fun b e => (b = true → WE X (ma e) P) ∧ (b = false → WE X (mb e) P) := by
  unfold mIfE; simp only [WE_bind, WE_ite]
@[simp] theorem WE_ONone : WE X (mONone env) PO ↔ PO none env := Iff.rfl
@[simp] theorem WE_OSome : WE X (mOSome ma env) PO ↔ WE X (ma env) fun r e => oP (isIn r.2) fun i => PO (some i) e := by
  unfold mOSome
  simp only [WE_bind]
  refine iff_of_eq (congrArg _ (funext fun a => funext fun e1 => ?_))
  obtain ⟨n, d⟩ := a
  cases d <;> rfl
@[simp] theorem WE_slice {f : D → Option Int → Option Int → Option (Nat × D)} {ml mh : MO} : WE X (mSlice f ma ml mh env) P ↔ WE X (ma env) fun a e1 => WE X (ml e1) fun lo e2 => WE X (mh e2) fun hi e3 => oP (f a.2 lo hi) fun r => P r e3 := by
  unfold mSlice; simp only [WE_bind, WE_oB]
@[simp] theorem WE_nil : WE X (mNil env) PA ↔ PA [] env := Iff.rfl
@[simp] theorem WE_cons : WE X (mCons ma ms env) PA ↔ WE X (ma env) fun a e1 => WE X (ms e1) fun ds e2 => PA (a.2 :: ds) e2 := by
  unfold mCons; simp only [WE_bind, WE_ok]
theorem WE_ite' {c : Prop} [Decidable c] {o : Out α} {P : α → DEnv → Prop} : WE X (if c then o else .stuck) P ↔ c ∧ WE X o P := by
  by_cases h : c <;> simp [h]
@[simp] theorem WE_tup : WE X (mTup ms env) P ↔ WE X (ms env) fun ds e => ds.length ≤ 1000 ∧ P (0, .tup ds) e := by
  unfold mTup; simp only [WE_bind, WE_ite', WE_ok]
@[simp] theorem WE_lst : WE X (mLst ms env) P ↔ WE X (ms env) fun ds e => ds.length ≤ 1000 ∧ P (1, .lst ds) e := by
  unfold mLst; simp only [WE_bind, WE_ite', WE_ok]
@[simp] theorem WE_callB {g : List D → Option (Nat × D)} : WE X (mCallB g ms env) P ↔ WE X (ms env) fun ds e => oP (g ds) fun r => P r e := by
  unfold mCallB; simp only [WE_bind, WE_oB]
@[simp] theorem WE_meth {ok : D → Bool} {g : D → List D → Option (Nat × D)} : WE X (mMeth ok g ma ms env) P ↔ WE X (ma env) fun o e1 => ok o.2 = true ∧ WE X (ms e1) fun ds e => oP (g o.2 ds) fun r => P r e := by
  unfold mMeth; simp only [WE_bind, WE_ite', WE_oB]
@[simp] theorem WE_frz {is : List Nat} : WE X (mFrz is ma env) P ↔ WE X (ma (frzE is env)) P := Iff.rfl
@[simp] theorem WS_frz {is : List Nat} : WS (mFrzS is sa env) Q ↔ WS (sa (frzE is env)) Q := Iff.rfl
@[simp] theorem WE_tmp {Z L : List Nat} : WE X (mTmp Z L ma env) P ↔ WE (fun x e2 => flatX x = true ∧ okL Z L 0 e2 = true ∧ X x (backE Z L 0 env e2)) (ma (tmpE Z L 0 env)) fun r e2 => closedM r.1 r.2 = true ∧ okL Z L 0 e2 = true ∧ P r (backE Z L 0 env e2) := by
  unfold mTmp
  cases ma (tmpE Z L 0 env) with
  | ok r e2 =>
    simp only [WE_ok]
    by_cases h : (closedM r.1 r.2 && okL Z L 0 e2) = true
    · rw [if_pos h]; simp only [Bool.and_eq_true] at h; simp [h.1, h.2]
    · rw [if_neg h]; simp only [Bool.and_eq_true] at h; simp only [WE_stuck, false_iff]; exact fun z => h ⟨z.1, z.2.1⟩
  | exc x e2 =>
    simp only [WE_exc]
    by_cases h : (flatX x && okL Z L 0 e2) = true
    · rw [if_pos h]; simp only [Bool.and_eq_true] at h; simp [h.1, h.2]
    · rw [if_neg h]; simp only [Bool.and_eq_true] at h; simp only [WE_stuck, false_iff]; exact fun z => h ⟨z.1, z.2.1⟩
  | stuck => rfl
@[simp] theorem WE_tmpT {Z L : List Nat} : WE X (mTmpT Z L ta env) PB ↔ WE (fun x e2 => flatX x = true ∧ okL Z L 0 e2 = true ∧ X x (backE Z L 0 env e2)) (ta (tmpE Z L 0 env)) fun r e2 => okL Z L 0 e2 = true ∧ PB r (backE Z L 0 env e2) := by
  unfold mTmpT
  cases ta (tmpE Z L 0 env) with
  | ok r e2 =>
    simp only [WE_ok]
    by_cases h : okL Z L 0 e2 = true
    · rw [if_pos h]; simp [h]
    · rw [if_neg h]; simp only [WE_stuck, false_iff]; exact fun z => h z.1
  | exc x e2 =>
    simp only [WE_exc]
    by_cases h : (flatX x && okL Z L 0 e2) = true
    · rw [if_pos h]; simp only [Bool.and_eq_true] at h; simp [h.1, h.2]
    · rw [if_neg h]; simp only [Bool.and_eq_true] at h; simp only [WE_stuck, false_iff]; exact fun z => h ⟨z.1, z.2.1⟩
  | stuck => rfl
/-! calls, nothing lent -/
@[simp] theorem WF_ret {n : Nat} {d : D} {ds : List D} {k : Nat} : WF X (.ret n d ds) k e P ↔ ds.length = k ∧ P (n, d) e := Iff.rfl
@[simp] theorem WF_exc {x : Exc} {ds : List D} {k : Nat} : WF X (.exc x ds) k e P ↔ ds.length = k ∧ X x e := Iff.rfl
theorem WF_mk {f : FSem} {pm : List Nat} {l : List (Sum D Nat)} {ds : List D} (hl : (lentOf l).Nodup) (hr : resolve pm l e = some ds) (hp : ∀ ds' e, putBack pm l ds' e = e) : WE X (mCallK pm f l e) P ↔ WF X (f ds) pm.length e P := by
  unfold mCallK
  rw [if_pos hl, hr]
  dsimp only
  cases f ds with
  | ret n d ds' => by_cases h : ds'.length = pm.length <;> simp [h, hp]
  | exc x ds' => by_cases h : ds'.length = pm.length <;> simp [h, hp]
  | stuck => rfl
@[simp] theorem WE_call1 {f : FSem} {m1 : ME} : WE X (mCall [0] f [.ex m1] env) P ↔ WE X (m1 env) fun a e => WF X (f [a.2]) 1 e P := by
  unfold mCall; simp only [mArgs, WE_bind, WE_ok]
  refine iff_of_eq (congrArg _ (funext fun a => funext fun e1 => propext (WF_mk (by simp [lentOf]) rfl fun ds' e => ?_)))
  cases ds' <;> rfl
@[simp] theorem WE_call2 {f : FSem} {m1 m2 : ME} : WE X (mCall [0, 0] f [.ex m1, .ex m2] env) P ↔ WE X (m1 env) fun a e => WE X (m2 e) fun b e => WF X (f [a.2, b.2]) 2 e P := by
  unfold mCall; simp only [mArgs, WE_bind, WE_ok]
  refine iff_of_eq (congrArg _ (funext fun a => funext fun e1 => congrArg _ (funext fun b => funext fun e2 => propext (WF_mk (by simp [lentOf]) rfl fun ds' e => ?_))))
  rcases ds' with _ | ⟨_, _ | ⟨_, _⟩⟩ <;> rfl
@[simp] theorem WE_call3 {f : FSem} {m1 m2 m3 : ME} : WE X (mCall [0, 0, 0] f [.ex m1, .ex m2, .ex m3] env) P ↔ WE X (m1 env) fun a e => WE X (m2 e) fun b e => WE X (m3 e) fun c e => WF X (f [a.2, b.2, c.2]) 3 e P := by
  unfold mCall; simp only [mArgs, WE_bind, WE_ok]
  refine iff_of_eq (congrArg _ (funext fun a => funext fun e1 => congrArg _ (funext fun b => funext fun e2 => congrArg _ (funext fun c => funext fun e3 => propext (WF_mk (by simp [lentOf]) rfl fun ds' e => ?_)))))
  rcases ds' with _ | ⟨_, _ | ⟨_, _ | ⟨_, _⟩⟩⟩ <;> rfl
@[simp] theorem WE_call4 {f : FSem} {m1 m2 m3 m4 : ME} : WE X (mCall [0, 0, 0, 0] f [.ex m1, .ex m2, .ex m3, .ex m4] env) P ↔ WE X (m1 env) fun a e => WE X (m2 e) fun b e => WE X (m3 e) fun c e => WE X (m4 e) fun d e => WF X (f [a.2, b.2, c.2, d.2]) 4 e P := by
  unfold mCall; simp only [mArgs, WE_bind, WE_ok]
  refine iff_of_eq (congrArg _ (funext fun a => funext fun e1 => congrArg _ (funext fun b => funext fun e2 => congrArg _ (funext fun c => funext fun e3 => congrArg _ (funext fun d => funext fun e4 => propext (WF_mk (by simp [lentOf]) rfl fun ds' e => ?_))))))
  rcases ds' with _ | ⟨_, _ | ⟨_, _ | ⟨_, _ | ⟨_, _⟩⟩⟩⟩ <;> rfl
@[simp] theorem WE_call5 {f : FSem} {m1 m2 m3 m4 m5 : ME} : WE X (mCall [0, 0, 0, 0, 0] f [.ex m1, .ex m2, .ex m3, .ex m4, .ex m5] env) P ↔ WE X (m1 env) fun a e => WE X (m2 e) fun b e => WE X (m3 e) fun c e => WE X (m4 e) fun d e => WE X (m5 e) fun d' e => WF X (f [a.2, b.2, c.2, d.2, d'.2]) 5 e P := by
  unfold mCall; simp only [mArgs, WE_bind, WE_ok]
  refine iff_of_eq (congrArg _ (funext fun a => funext fun e1 => congrArg _ (funext fun b => funext fun e2 => congrArg _ (funext fun c => funext fun e3 => congrArg _ (funext fun d => funext fun e4 => congrArg _ (funext fun d5 => funext fun e5 => propext (WF_mk (by simp [lentOf]) rfl fun ds' e => ?_)))))))
  rcases ds' with _ | ⟨_, _ | ⟨_, _ | ⟨_, _ | ⟨_, _ | ⟨_, _⟩⟩⟩⟩⟩ <;> rfl
/-! statements -/
@[simp] theorem WS_nx : WS (.nx e) Q ↔ Q.nx e := Iff.rfl
@[simp] theorem WS_skip : WS (mSkip env) Q ↔ Q.nx env := Iff.rfl
@[simp] theorem WS_seq : WS (mSeq sa sb env) Q ↔ WS (sa env) { Q with nx := fun e => WS (sb e) Q } := by
  unfold mSeq
  cases sa env <;> rfl
@[simp] theorem WS_set {i : Nat} : WS (mSet i ma env) Q ↔ WE Q.ex (ma env) fun r e => Q.nx (e.set i (some r)) := by unfold mSet; simp only [WS_bind, WS_nx]
@[simp] theorem WS_setF {i : Nat} : WS (mSetF i ma env) Q ↔ WE Q.ex (ma env) fun r e => Q.nx (e.set i (some (0, r.2))) := by unfold mSetF; simp only [WS_bind, WS_nx]
@[simp] theorem WS_drop : WS (mDrop ma env) Q ↔ WE Q.ex (ma env) fun _ e => Q.nx e := by unfold mDrop; simp only [WS_bind, WS_nx]
@[simp] theorem WS_ret : WS (mRet ma env) Q ↔ WE Q.ex (ma env) fun r e => Q.rt r.1 r.2 e := by unfold mRet; simp only [WS_bind]; rfl
@[simp] theorem WS_retN : WS (mRetN env) Q ↔ Q.rt 0 .non env := Iff.rfl
@[simp] theorem WS_if : WS (mIf ta sa sb env) Q ↔ WE Q.ex (ta env) fun b e => (b = true → WS (sa e) Q) ∧ (b = false → WS (sb e) Q) := by
  unfold mIf; simp only [WS_bind]
  refine iff_of_eq (congrArg _ (funext fun b => funext fun e1 => ?_))
  cases b <;> simp
@[simp] theorem WS_brk : WS (mBrk env) Q ↔ Q.bk env := Iff.rfl
@[simp] theorem WS_cnt : WS (mCnt env) Q ↔ Q.ct env := Iff.rfl
@[simp] theorem WS_asgG {g : DTg} : WS (mAsgG g ma env) Q ↔ WE Q.ex (ma env) fun r e => oP (g r.2 e) fun e2 => Q.nx e2 := by
  unfold mAsgG; simp only [WS_bind]
  refine iff_of_eq (congrArg _ (funext fun b => funext fun e1 => ?_))
  cases g b.2 e1 <;> simp [WS]
@[simp] theorem WS_app {i : Nat} : WS (mApp i ma env) Q ↔ oP (getL env i) fun ds0 => WE Q.ex (ma env) fun r e => oP (getL e i) fun ds => ds.length < LIM ∧ Q.nx (e.set i (some (1, .lst (ds ++ [r.2])))) := by
  simp only [oP_ex, getL_eq]
  unfold mApp
  split
  · rename_i ds0 h0
    rw [h0]; simp only [WS_bind]
    constructor
    · intro h
      refine ⟨ds0, rfl, WE.mono h (fun r e h => ?_) fun _ _ z => z⟩
      split at h
      · rename_i ds hd
        split at h
        · rename_i hl; exact ⟨ds, hd, hl, h⟩
        · exact h.elim
      · exact h.elim
    · rintro ⟨_, _, h⟩
      refine WE.mono h (fun r e h => ?_) fun _ _ z => z
      obtain ⟨ds, hd, hl, h⟩ := h
      rw [hd]
      simp only [hl, if_true]; exact h
  · rename_i h
    constructor
    · intro z; exact z.elim
    · rintro ⟨d, h1, _⟩; exact (h d h1).elim
@[simp] theorem WS_put {i : Nat} : WS (mPut i mb ma env) Q ↔ WE Q.ex (ma env) fun r e1 => oP (get1 e1 i) fun d0 => WE Q.ex (mb e1) fun k e2 => oP (get1 e2 i) fun d => oP (putD d k.2 r.2) fun d' => Q.nx (e2.set i (some (1, d'))) := by
  simp only [oP_ex, get1_eq]
  unfold mPut; simp only [WS_bind]
  refine iff_of_eq (congrArg _ (funext fun r => funext fun e1 => propext ?_))
  split
  · rename_i d0 h0
    rw [h0]; simp only [WS_bind]
    constructor
    · intro h
      refine ⟨d0, rfl, WE.mono h (fun k e h => ?_) fun _ _ z => z⟩
      split at h
      · rename_i d hd
        refine ⟨d, hd, ?_⟩
        cases hp : putD d k.2 r.2 with
        | none => rw [hp] at h; exact h.elim
        | some d' => rw [hp] at h; exact ⟨d', rfl, h⟩
      · exact h.elim
    · rintro ⟨_, _, h⟩
      refine WE.mono h (fun k e h => ?_) fun _ _ z => z
      obtain ⟨d, hd, d', hp, h⟩ := h
      rw [hd]
      simp only [hp]; exact h
  · rename_i h
    constructor
    · intro z; exact z.elim
    · rintro ⟨d, h1, _⟩; exact (h d h1).elim
/-! loops -/
@[simp] theorem WE_items : WE X (mItems ma env) PA ↔ WE X (ma env) fun r e => oP (isSq r.2) fun ds => PA ds e := by
  unfold mItems; simp only [WE_bind]
  refine iff_of_eq (congrArg _ (funext fun r => funext fun e1 => ?_))
  obtain ⟨n, d⟩ := r
  cases d <;> rfl
@[simp] theorem WE_rng {f : List D → Option (List D)} : WE X (mRng f ms env) PA ↔ WE X (ms env) fun ds e => oP (f ds) fun l => PA l e := by
  unfold mRng; simp only [WE_bind, WE_oB]
@[simp] theorem WS_for {js : List Nat} {g : DTg} {mi : MI} : WS (mFor js g mi sa env) Q ↔ WE Q.ex (mi env) fun ds e => WS (mForL g js sa ds e) Q := by
  unfold mFor; simp only [WS_bind]
/-- a loop by its invariant: k turns are done -/
theorem WS_forL {g : DTg} {js : List Nat} {b : MS} {Q : Post} (I : Nat → DEnv → Prop) : ∀ (ds : List D) (k : Nat) (e : DEnv), I k e →
    (∀ j d e, ds[j]? = some d → I (k + j) e → ∃ e1, g d e = some e1 ∧ WS (b e1) { Q with nx := fun e2 => I (k + j + 1) (wipeD js e2), bk := fun e2 => Q.nx (wipeD js e2), ct := fun e2 => I (k + j + 1) (wipeD js e2) }) →
    (∀ e, I (k + ds.length) e → Q.nx e) → WS (mForL g js b ds e) Q
  | [], k, e, h, _, hd => hd e h
  | d :: ds, k, e, h, hs, hd => by
    obtain ⟨e1, h1, h2⟩ := hs 0 d e rfl h
    unfold mForL
    rw [h1]
    dsimp only
    have go : ∀ e2, I (k + 0 + 1) (wipeD js e2) → WS (mForL g js b ds (wipeD js e2)) Q := fun e2 hi =>
      WS_forL I ds (k + 1) _ hi (fun j d' e' hj hi' => by
        have := hs (j + 1) d' e' hj (by rw [show k + (j + 1) = k + 1 + j by omega]; exact hi')
        rw [show k + (j + 1) = k + 1 + j by omega] at this
        exact this) (fun e' hi' => hd e' (by rw [show k + (d :: ds).length = k + 1 + ds.length by simp only [List.length_cons]; omega]; exact hi'))
    cases hb : b e1 with
    | nx e2 => rw [hb] at h2; exact go e2 h2
    | cont e2 => rw [hb] at h2; exact go e2 h2
    | brk e2 => rw [hb] at h2; exact h2
    | ret n d e2 => rw [hb] at h2; exact h2
    | exc x e2 => rw [hb] at h2; exact h2
    | stuck => rw [hb] at h2; exact h2
theorem WS_forI {g : DTg} {js : List Nat} {b : MS} {Q : Post} {ds : List D} {e : DEnv} (I : Nat → DEnv → Prop) (h0 : I 0 e)
    (hs : ∀ j d e, ds[j]? = some d → I j e → ∃ e1, g d e = some e1 ∧ WS (b e1) { Q with nx := fun e2 => I (j + 1) (wipeD js e2), bk := fun e2 => Q.nx (wipeD js e2), ct := fun e2 => I (j + 1) (wipeD js e2) })
    (hd : ∀ e, I ds.length e → Q.nx e) : WS (mForL g js b ds e) Q :=
  WS_forL I ds 0 e h0 (fun j d e hj hi => by rw [Nat.zero_add] at hi ⊢; exact hs j d e hj hi) fun e hi => hd e (by rw [Nat.zero_add] at hi; exact hi)
theorem WS_whileN {tc : MT} {js : List Nat} {b : MS} {Q : Post} (I : Nat → DEnv → Prop)
    (hs : ∀ n e, I n e → WE Q.ex (tc e) fun k e1 => (k = true → ∃ m, n = m + 1 ∧ WS (b e1) { Q with nx := fun e2 => I m (wipeD js e2), bk := fun e2 => Q.nx (wipeD js e2), ct := fun e2 => I m (wipeD js e2) }) ∧ (k = false → Q.nx e1)) :
    ∀ (F n : Nat) (e : DEnv), n < F → I n e → WS (mWhileN tc js b F e) Q
  | 0, n, e, h, _ => absurd h (Nat.not_lt_zero _)
  | F + 1, n, e, h, hi => by
    unfold mWhileN
    have q := hs n e hi
    cases hc : tc e with
    | stuck => rw [hc] at q; exact q.elim
    | exc x e1 => rw [hc] at q; exact q
    | ok k e1 =>
      rw [hc] at q
      show WS (if k = true then _ else _) Q
      cases k with
      | false => exact q.2 rfl
      | true =>
        obtain ⟨m, rfl, h2⟩ := q.1 rfl
        simp only [if_true]
        cases hb : b e1 with
        | nx e2 => rw [hb] at h2; exact WS_whileN I hs F m _ (by omega) h2
        | cont e2 => rw [hb] at h2; exact WS_whileN I hs F m _ (by omega) h2
        | brk e2 => rw [hb] at h2; exact h2
        | ret n d e2 => rw [hb] at h2; exact h2
        | exc x e2 => rw [hb] at h2; exact h2
        | stuck => rw [hb] at h2; exact h2
theorem FUEL_eq : FUEL = 1000000 := by unfold FUEL; rfl
theorem WS_while {tc : MT} {js : List Nat} {b : MS} {Q : Post} {e : DEnv} (I : Nat → DEnv → Prop) (n : Nat) (hn : n < 1000000) (h0 : I n e)
    (hs : ∀ n e, I n e → WE Q.ex (tc e) fun k e1 => (k = true → ∃ m, n = m + 1 ∧ WS (b e1) { Q with nx := fun e2 => I m (wipeD js e2), bk := fun e2 => Q.nx (wipeD js e2), ct := fun e2 => I m (wipeD js e2) }) ∧ (k = false → Q.nx e1)) : WS (mWhile js tc b e) Q :=
  WS_whileN I hs FUEL n e (by rw [FUEL_eq]; exact hn) h0
/-- a comprehension, item by item -/
theorem WE_compL {g : DTg} {vs : List Nat} {tc : MT} {me : ME} {e0 : DEnv} {P : Nat × D → DEnv → Prop} (F : D → Option D) : ∀ (ds acc : List D), acc.length + ds.length ≤ 16777216 →
    (∀ d, d ∈ ds → ∃ e1, g d e0 = some e1 ∧ WE X (tc e1) fun b e2 => (b = true → WE X (me e2) fun r e3 => F d = some r.2 ∧ wipeD vs e3 = e0) ∧ (b = false → F d = none ∧ wipeD vs e2 = e0)) →
    P (1, .lst (acc ++ ds.filterMap F)) e0 → (∀ x e, ¬ X x e) → WE X (compL g vs tc me ds acc e0) P
  | [], acc, _, _, hp, _ => by
    have : acc ++ ([] : List D).filterMap F = acc := by simp
    rw [this] at hp; exact hp
  | d :: ds, acc, hl, hs, hp, hx => by
    obtain ⟨e1, h1, h2⟩ := hs d List.mem_cons_self
    have hl' : acc.length < 16777216 := by simp only [List.length_cons] at hl; omega
    have hr := fun d' hd' => hs d' (List.mem_cons_of_mem _ hd')
    unfold compL
    rw [h1]
    dsimp only
    cases hc : tc e1 with
    | stuck => rw [hc] at h2; exact h2.elim
    | exc x e2 => rw [hc] at h2; exact (hx _ _ h2).elim
    | ok b e2 =>
      rw [hc] at h2
      dsimp only
      cases b with
      | false =>
        obtain ⟨hf, hw⟩ := h2.2 rfl
        simp only [Bool.false_eq_true, if_false]
        rw [hw]
        refine WE_compL F ds acc (by simp only [List.length_cons] at hl; omega) hr ?_ hx
        rw [List.filterMap_cons_none hf] at hp; exact hp
      | true =>
        have h3 := h2.1 rfl
        simp only [if_true]
        cases hm : me e2 with
        | stuck => rw [hm] at h3; exact h3.elim
        | exc x e2 => rw [hm] at h3; exact (hx _ _ h3).elim
        | ok r e3 =>
          rw [hm] at h3
          obtain ⟨hf, hw⟩ := h3
          dsimp only
          rw [if_pos hl', hw]
          refine WE_compL F ds (acc ++ [r.2]) (by simp only [List.length_append, List.length_cons, List.length_nil] at hl ⊢; omega) hr ?_ hx
          rw [List.filterMap_cons_some hf] at hp
          rw [List.append_assoc]; exact hp
@[simp] theorem WE_comp {vs : List Nat} {g : DTg} {mi : MI} {tc : MT} {me : ME} : WE X (mComp vs g mi tc me env) P ↔ WE X (mi env) fun ds e => WE X (compL g vs tc me ds [] (wipeD vs e)) P := by
  unfold mComp; simp only [WE_bind]
@[simp] theorem WE_yes : WE X (mYes env) PB ↔ PB true env := Iff.rfl
end
end U
/-- what hangs on P: simp then leaves P as it is -/
inductive Tag {α : Sort _} (a : α) : Type where
  | mk
def WE {α : Type} (X : Exc → DEnv → Prop) (o : Out α) (P : α → DEnv → Prop) (_ : Tag P := .mk) : Prop := U.WE X o P
def WS (o : OutS) (P : Post) (_ : Tag P := .mk) : Prop := U.WS o P
/-- something is there, and P of it -/
def oP {α : Type} (o : Option α) (P : α → Prop) (_ : Tag P := .mk) : Prop := U.oP o P
@[simp] theorem oP_some {α : Type} {a : α} {P : α → Prop} : oP (some a) P ↔ P a := U.oP_some
@[simp] theorem oP_none {α : Type} {P : α → Prop} : oP (none : Option α) P ↔ False := U.oP_none
theorem oP_ex {α : Type} {o : Option α} {P : α → Prop} : oP o P ↔ ∃ a, o = some a ∧ P a := U.oP_ex
theorem oP.mk {α : Type} {o : Option α} {P : α → Prop} {a : α} (h : o = some a) (p : P a) : oP o P := by rw [h]; exact p
def WF (X : Exc → DEnv → Prop) (o : FR) (k : Nat) (e : DEnv) (P : Nat × D → DEnv → Prop) (_ : Tag P := .mk) : Prop := U.WF X o k e P
theorem WE.mono {α : Type} {X X' : Exc → DEnv → Prop} {o : Out α} {P P' : α → DEnv → Prop} (h : WE X o P) (i : ∀ a e, P a e → P' a e) (j : ∀ x e, X x e → X' x e) : WE X' o P' := by
  cases o with
  | ok a e => exact i _ _ h
  | exc x e => exact j _ _ h
  | stuck => exact h
theorem WS.mono {o : OutS} {P P' : Post} (h : WS o P) (h1 : ∀ e, P.nx e → P'.nx e) (h2 : ∀ n d e, P.rt n d e → P'.rt n d e) (h3 : ∀ e, P.bk e → P'.bk e) (h4 : ∀ e, P.ct e → P'.ct e) (h5 : ∀ x e, P.ex x e → P'.ex x e) : WS o P' := by
  cases o with
  | nx e => exact h1 _ h
  | ret n d e => exact h2 _ _ _ h
  | brk e => exact h3 _ h
  | cont e => exact h4 _ h
  | exc x e => exact h5 _ _ h
  | stuck => exact h
section
variable {α β : Type} {X : Exc → DEnv → Prop} {env e : DEnv} {P : Nat × D → DEnv → Prop} {PB : Bool → DEnv → Prop} {PA : List D → DEnv → Prop} {PO : Option Int → DEnv → Prop} {Q : Post} {ma mb mc : ME} {ta tb : MT} {sa sb : MS} {ms : MA}
@[simp] theorem WE_ok {a : α} {P : α → DEnv → Prop} : WE X (.ok a e) P ↔ P a e := U.WE_ok
@[simp] theorem WE_stuck {P : α → DEnv → Prop} : WE X .stuck P ↔ False := U.WE_stuck
@[simp] theorem WE_exc {x : Exc} {P : α → DEnv → Prop} : WE X (.exc x e) P ↔ X x e := U.WE_exc
theorem WE_bind {o : Out α} {f : α → DEnv → Out β} {P : β → DEnv → Prop} : WE X (o.bind f) P ↔ WE X o fun a e => WE X (f a e) P := U.WE_bind
theorem WS_bind {o : Out α} {f : α → DEnv → OutS} : WS (o.bindS f) Q ↔ WE Q.ex o fun a e => WS (f a e) Q := U.WS_bind
@[simp] theorem WE_oB {o : Option α} {P : α → DEnv → Prop} : WE X (oB o e) P ↔ oP o fun k => P k e := U.WE_oB
@[simp] theorem WE_C {d : D} : WE X (mC d env) P ↔ P (0, d) env := U.WE_C
@[simp] theorem WE_var {i : Nat} : WE X (mVar i env) P ↔ oP (get0 env i) fun d => P (0, d) env := U.WE_var
@[simp] theorem WE_move {i : Nat} : WE X (mMove i env) P ↔ oP (getA env i) fun r => P r (env.set i none) := U.WE_move
@[simp] theorem WE_op2 {f : D → D → Option (Nat × D)} : WE X (mOp2 f ma mb env) P ↔ WE X (ma env) fun a e1 => WE X (mb e1) fun b e2 => oP (f a.2 b.2) fun r => P r e2 := U.WE_op2
@[simp] theorem WE_op1 {f : D → Option (Nat × D)} : WE X (mOp1 f ma env) P ↔ WE X (ma env) fun a e1 => oP (f a.2) fun r => P r e1 := U.WE_op1
@[simp] theorem WE_cmp {f : D → D → Option Bool} : WE X (mCmp f ma mb env) PB ↔ WE X (ma env) fun a e1 => WE X (mb e1) fun b e2 => oP (f a.2 b.2) fun r => PB r e2 := U.WE_cmp
theorem WE_ite {c : Bool} {o o' : Out α} {P : α → DEnv → Prop} : WE X (if c = true then o else o') P ↔ (c = true → WE X o P) ∧ (c = false → WE X o' P) := U.WE_ite
@[simp] theorem WE_chain {f g : D → D → Option Bool} : WE X (mChain f g ma mb mc env) PB ↔ WE X (ma env) fun a e1 => WE X (mb e1) fun b e2 => oP (f a.2 b.2) fun r => (r = true → WE X (mc e2) fun c e3 => oP (g b.2 c.2) fun r => PB r e3) ∧ (r = false → PB false e2) := U.WE_chain
@[simp] theorem WE_bool : WE X (mBool ta env) P ↔ WE X (ta env) fun b e => P (0, .bl b) e := U.WE_bool
@[simp] theorem WE_and : WE X (mAnd ta tb env) PB ↔ WE X (ta env) fun b e => (b = true → WE X (tb e) PB) ∧ (b = false → PB false e) := U.WE_and
@[simp] theorem WE_or : WE X (mOr ta tb env) PB ↔ WE X (ta env) fun b e => (b = true → PB true e) ∧ (b = false → WE X (tb e) PB) := U.WE_or
@[simp] theorem WE_not : WE X (mNot ta env) PB ↔ WE X (ta env) fun b e => PB (!b) e := U.WE_not
@[simp] theorem WE_isB : WE X (mIsB ma env) PB ↔ WE X (ma env) fun r e => oP (isBl r.2) fun b => PB b e := U.WE_isB
@[simp] theorem WE_tru : WE X (mTru ma env) PB ↔ WE X (ma env) fun r e => oP (truthD r.2) fun b => PB b e := U.WE_tru
@[simp] theorem WE_ifE {tc : MT} : WE X (mIfE tc ma mb env) P ↔ WE X (tc env) fun b e => (b = true → WE X (ma e) P) ∧ (b = false → WE X (mb e) P) := U.WE_ifE
@[simp] theorem WE_ONone : WE X (mONone env) PO ↔ PO none env := U.WE_ONone
@[simp] theorem WE_OSome : WE X (mOSome ma env) PO ↔ WE X (ma env) fun r e => oP (isIn r.2) fun i => PO (some i) e := U.WE_OSome
@[simp] theorem WE_slice {f : D → Option Int → Option Int → Option (Nat × D)} {ml mh : MO} : WE X (mSlice f ma ml mh env) P ↔ WE X (ma env) fun a e1 => WE X (ml e1) fun lo e2 => WE X (mh e2) fun hi e3 => oP (f a.2 lo hi) fun r => P r e3 := U.WE_slice
@[simp] theorem WE_nil : WE X (mNil env) PA ↔ PA [] env := U.WE_nil
@[simp] theorem WE_cons : WE X (mCons ma ms env) PA ↔ WE X (ma env) fun a e1 => WE X (ms e1) fun ds e2 => PA (a.2 :: ds) e2 := U.WE_cons
theorem WE_ite' {c : Prop} [Decidable c] {o : Out α} {P : α → DEnv → Prop} : WE X (if c then o else .stuck) P ↔ c ∧ WE X o P := U.WE_ite'
@[simp] theorem WE_tup : WE X (mTup ms env) P ↔ WE X (ms env) fun ds e => ds.length ≤ 1000 ∧ P (0, .tup ds) e := U.WE_tup
@[simp] theorem WE_lst : WE X (mLst ms env) P ↔ WE X (ms env) fun ds e => ds.length ≤ 1000 ∧ P (1, .lst ds) e := U.WE_lst
@[simp] theorem WE_callB {g : List D → Option (Nat × D)} : WE X (mCallB g ms env) P ↔ WE X (ms env) fun ds e => oP (g ds) fun r => P r e := U.WE_callB
@[simp] theorem WE_meth {ok : D → Bool} {g : D → List D → Option (Nat × D)} : WE X (mMeth ok g ma ms env) P ↔ WE X (ma env) fun o e1 => ok o.2 = true ∧ WE X (ms e1) fun ds e => oP (g o.2 ds) fun r => P r e := U.WE_meth
@[simp] theorem WE_frz {is : List Nat} : WE X (mFrz is ma env) P ↔ WE X (ma (frzE is env)) P := U.WE_frz
@[simp] theorem WS_frz {is : List Nat} : WS (mFrzS is sa env) Q ↔ WS (sa (frzE is env)) Q := U.WS_frz
@[simp] theorem WE_tmp {Z L : List Nat} : WE X (mTmp Z L ma env) P ↔ WE (fun x e2 => flatX x = true ∧ okL Z L 0 e2 = true ∧ X x (backE Z L 0 env e2)) (ma (tmpE Z L 0 env)) fun r e2 => closedM r.1 r.2 = true ∧ okL Z L 0 e2 = true ∧ P r (backE Z L 0 env e2) := U.WE_tmp
@[simp] theorem WE_tmpT {Z L : List Nat} : WE X (mTmpT Z L ta env) PB ↔ WE (fun x e2 => flatX x = true ∧ okL Z L 0 e2 = true ∧ X x (backE Z L 0 env e2)) (ta (tmpE Z L 0 env)) fun r e2 => okL Z L 0 e2 = true ∧ PB r (backE Z L 0 env e2) := U.WE_tmpT
/-! calls, nothing lent -/
@[simp] theorem WF_ret {n : Nat} {d : D} {ds : List D} {k : Nat} : WF X (.ret n d ds) k e P ↔ ds.length = k ∧ P (n, d) e := U.WF_ret
@[simp] theorem WF_exc {x : Exc} {ds : List D} {k : Nat} : WF X (.exc x ds) k e P ↔ ds.length = k ∧ X x e := U.WF_exc
theorem WF_mk {f : FSem} {pm : List Nat} {l : List (Sum D Nat)} {ds : List D} (hl : (lentOf l).Nodup) (hr : resolve pm l e = some ds) (hp : ∀ ds' e, putBack pm l ds' e = e) : WE X (mCallK pm f l e) P ↔ WF X (f ds) pm.length e P := by
  unfold mCallK
  rw [if_pos hl, hr]
  dsimp only
  cases f ds with
  | ret n d ds' => by_cases h : ds'.length = pm.length <;> simp [h, hp]
  | exc x ds' => by_cases h : ds'.length = pm.length <;> simp [h, hp]
  | stuck => rfl
@[simp] theorem WE_call1 {f : FSem} {m1 : ME} : WE X (mCall [0] f [.ex m1] env) P ↔ WE X (m1 env) fun a e => WF X (f [a.2]) 1 e P := U.WE_call1
@[simp] theorem WE_call2 {f : FSem} {m1 m2 : ME} : WE X (mCall [0, 0] f [.ex m1, .ex m2] env) P ↔ WE X (m1 env) fun a e => WE X (m2 e) fun b e => WF X (f [a.2, b.2]) 2 e P := U.WE_call2
@[simp] theorem WE_call3 {f : FSem} {m1 m2 m3 : ME} : WE X (mCall [0, 0, 0] f [.ex m1, .ex m2, .ex m3] env) P ↔ WE X (m1 env) fun a e => WE X (m2 e) fun b e => WE X (m3 e) fun c e => WF X (f [a.2, b.2, c.2]) 3 e P := U.WE_call3
@[simp] theorem WE_call4 {f : FSem} {m1 m2 m3 m4 : ME} : WE X (mCall [0, 0, 0, 0] f [.ex m1, .ex m2, .ex m3, .ex m4] env) P ↔ WE X (m1 env) fun a e => WE X (m2 e) fun b e => WE X (m3 e) fun c e => WE X (m4 e) fun d e => WF X (f [a.2, b.2, c.2, d.2]) 4 e P := U.WE_call4
@[simp] theorem WE_call5 {f : FSem} {m1 m2 m3 m4 m5 : ME} : WE X (mCall [0, 0, 0, 0, 0] f [.ex m1, .ex m2, .ex m3, .ex m4, .ex m5] env) P ↔ WE X (m1 env) fun a e => WE X (m2 e) fun b e => WE X (m3 e) fun c e => WE X (m4 e) fun d e => WE X (m5 e) fun d' e => WF X (f [a.2, b.2, c.2, d.2, d'.2]) 5 e P := U.WE_call5
/-! statements -/
@[simp] theorem WS_nx : WS (.nx e) Q ↔ Q.nx e := U.WS_nx
@[simp] theorem WS_skip : WS (mSkip env) Q ↔ Q.nx env := U.WS_skip
@[simp] theorem WS_seq : WS (mSeq sa sb env) Q ↔ WS (sa env) { Q with nx := fun e => WS (sb e) Q } := U.WS_seq
@[simp] theorem WS_set {i : Nat} : WS (mSet i ma env) Q ↔ WE Q.ex (ma env) fun r e => Q.nx (e.set i (some r)) := U.WS_set
@[simp] theorem WS_setF {i : Nat} : WS (mSetF i ma env) Q ↔ WE Q.ex (ma env) fun r e => Q.nx (e.set i (some (0, r.2))) := U.WS_setF
@[simp] theorem WS_drop : WS (mDrop ma env) Q ↔ WE Q.ex (ma env) fun _ e => Q.nx e := U.WS_drop
@[simp] theorem WS_ret : WS (mRet ma env) Q ↔ WE Q.ex (ma env) fun r e => Q.rt r.1 r.2 e := U.WS_ret
@[simp] theorem WS_retN : WS (mRetN env) Q ↔ Q.rt 0 .non env := U.WS_retN
@[simp] theorem WS_if : WS (mIf ta sa sb env) Q ↔ WE Q.ex (ta env) fun b e => (b = true → WS (sa e) Q) ∧ (b = false → WS (sb e) Q) := U.WS_if
@[simp] theorem WS_brk : WS (mBrk env) Q ↔ Q.bk env := U.WS_brk
@[simp] theorem WS_cnt : WS (mCnt env) Q ↔ Q.ct env := U.WS_cnt
@[simp] theorem WS_asgG {g : DTg} : WS (mAsgG g ma env) Q ↔ WE Q.ex (ma env) fun r e => oP (g r.2 e) fun e2 => Q.nx e2 := U.WS_asgG
@[simp] theorem WS_app {i : Nat} : WS (mApp i ma env) Q ↔ oP (getL env i) fun ds0 => WE Q.ex (ma env) fun r e => oP (getL e i) fun ds => ds.length < LIM ∧ Q.nx (e.set i (some (1, .lst (ds ++ [r.2])))) := U.WS_app
@[simp] theorem WS_put {i : Nat} : WS (mPut i mb ma env) Q ↔ WE Q.ex (ma env) fun r e1 => oP (get1 e1 i) fun d0 => WE Q.ex (mb e1) fun k e2 => oP (get1 e2 i) fun d => oP (putD d k.2 r.2) fun d' => Q.nx (e2.set i (some (1, d'))) := U.WS_put
/-! loops -/
@[simp] theorem WE_items : WE X (mItems ma env) PA ↔ WE X (ma env) fun r e => oP (isSq r.2) fun ds => PA ds e := U.WE_items
@[simp] theorem WE_rng {f : List D → Option (List D)} : WE X (mRng f ms env) PA ↔ WE X (ms env) fun ds e => oP (f ds) fun l => PA l e := U.WE_rng
@[simp] theorem WS_for {js : List Nat} {g : DTg} {mi : MI} : WS (mFor js g mi sa env) Q ↔ WE Q.ex (mi env) fun ds e => WS (mForL g js sa ds e) Q := U.WS_for
/-- a loop by its invariant: k turns are done -/
theorem WS_forL {g : DTg} {js : List Nat} {b : MS} {Q : Post} (I : Nat → DEnv → Prop) : ∀ (ds : List D) (k : Nat) (e : DEnv), I k e →
    (∀ j d e, ds[j]? = some d → I (k + j) e → ∃ e1, g d e = some e1 ∧ WS (b e1) { Q with nx := fun e2 => I (k + j + 1) (wipeD js e2), bk := fun e2 => Q.nx (wipeD js e2), ct := fun e2 => I (k + j + 1) (wipeD js e2) }) →
    (∀ e, I (k + ds.length) e → Q.nx e) → WS (mForL g js b ds e) Q
  | [], k, e, h, _, hd => hd e h
  | d :: ds, k, e, h, hs, hd => by
    obtain ⟨e1, h1, h2⟩ := hs 0 d e rfl h
    unfold mForL
    rw [h1]
    dsimp only
    have go : ∀ e2, I (k + 0 + 1) (wipeD js e2) → WS (mForL g js b ds (wipeD js e2)) Q := fun e2 hi =>
      WS_forL I ds (k + 1) _ hi (fun j d' e' hj hi' => by
        have := hs (j + 1) d' e' hj (by rw [show k + (j + 1) = k + 1 + j by omega]; exact hi')
        rw [show k + (j + 1) = k + 1 + j by omega] at this
        exact this) (fun e' hi' => hd e' (by rw [show k + (d :: ds).length = k + 1 + ds.length by simp only [List.length_cons]; omega]; exact hi'))
    cases hb : b e1 with
    | nx e2 => rw [hb] at h2; exact go e2 h2
    | cont e2 => rw [hb] at h2; exact go e2 h2
    | brk e2 => rw [hb] at h2; exact h2
    | ret n d e2 => rw [hb] at h2; exact h2
    | exc x e2 => rw [hb] at h2; exact h2
    | stuck => rw [hb] at h2; exact h2
theorem WS_forI {g : DTg} {js : List Nat} {b : MS} {Q : Post} {ds : List D} {e : DEnv} (I : Nat → DEnv → Prop) (h0 : I 0 e)
    (hs : ∀ j d e, ds[j]? = some d → I j e → ∃ e1, g d e = some e1 ∧ WS (b e1) { Q with nx := fun e2 => I (j + 1) (wipeD js e2), bk := fun e2 => Q.nx (wipeD js e2), ct := fun e2 => I (j + 1) (wipeD js e2) })
    (hd : ∀ e, I ds.length e → Q.nx e) : WS (mForL g js b ds e) Q :=
  WS_forL I ds 0 e h0 (fun j d e hj hi => by rw [Nat.zero_add] at hi ⊢; exact hs j d e hj hi) fun e hi => hd e (by rw [Nat.zero_add] at hi; exact hi)
theorem WS_whileN {tc : MT} {js : List Nat} {b : MS} {Q : Post} (I : Nat → DEnv → Prop)
    (hs : ∀ n e, I n e → WE Q.ex (tc e) fun k e1 => (k = true → ∃ m, n = m + 1 ∧ WS (b e1) { Q with nx := fun e2 => I m (wipeD js e2), bk := fun e2 => Q.nx (wipeD js e2), ct := fun e2 => I m (wipeD js e2) }) ∧ (k = false → Q.nx e1)) :
    ∀ (F n : Nat) (e : DEnv), n < F → I n e → WS (mWhileN tc js b F e) Q
  | 0, n, e, h, _ => absurd h (Nat.not_lt_zero _)
  | F + 1, n, e, h, hi => by
    unfold mWhileN
    have q := hs n e hi
    cases hc : tc e with
    | stuck => rw [hc] at q; exact q.elim
    | exc x e1 => rw [hc] at q; exact q
    | ok k e1 =>
      rw [hc] at q
      show WS (if k = true then _ else _) Q
      cases k with
      | false => exact q.2 rfl
      | true =>
        obtain ⟨m, rfl, h2⟩ := q.1 rfl
        simp only [if_true]
        cases hb : b e1 with
        | nx e2 => rw [hb] at h2; exact WS_whileN I hs F m _ (by omega) h2
        | cont e2 => rw [hb] at h2; exact WS_whileN I hs F m _ (by omega) h2
        | brk e2 => rw [hb] at h2; exact h2
        | ret n d e2 => rw [hb] at h2; exact h2
        | exc x e2 => rw [hb] at h2; exact h2
        | stuck => rw [hb] at h2; exact h2
theorem FUEL_eq : FUEL = 1000000 := U.FUEL_eq
theorem WS_while {tc : MT} {js : List Nat} {b : MS} {Q : Post} {e : DEnv} (I : Nat → DEnv → Prop) (n : Nat) (hn : n < 1000000) (h0 : I n e)
    (hs : ∀ n e, I n e → WE Q.ex (tc e) fun k e1 => (k = true → ∃ m, n = m + 1 ∧ WS (b e1) { Q with nx := fun e2 => I m (wipeD js e2), bk := fun e2 => Q.nx (wipeD js e2), ct := fun e2 => I m (wipeD js e2) }) ∧ (k = false → Q.nx e1)) : WS (mWhile js tc b e) Q :=
  WS_whileN I hs FUEL n e (by rw [FUEL_eq]; exact hn) h0
/-- a comprehension, item by item -/
theorem WE_compL {g : DTg} {vs : List Nat} {tc : MT} {me : ME} {e0 : DEnv} {P : Nat × D → DEnv → Prop} (F : D → Option D) : ∀ (ds acc : List D), acc.length + ds.length ≤ 16777216 →
    (∀ d, d ∈ ds → ∃ e1, g d e0 = some e1 ∧ WE X (tc e1) fun b e2 => (b = true → WE X (me e2) fun r e3 => F d = some r.2 ∧ wipeD vs e3 = e0) ∧ (b = false → F d = none ∧ wipeD vs e2 = e0)) →
    P (1, .lst (acc ++ ds.filterMap F)) e0 → (∀ x e, ¬ X x e) → WE X (compL g vs tc me ds acc e0) P
  | [], acc, _, _, hp, _ => by
    have : acc ++ ([] : List D).filterMap F = acc := by simp
    rw [this] at hp; exact hp
  | d :: ds, acc, hl, hs, hp, hx => by
    obtain ⟨e1, h1, h2⟩ := hs d List.mem_cons_self
    have hl' : acc.length < 16777216 := by simp only [List.length_cons] at hl; omega
    have hr := fun d' hd' => hs d' (List.mem_cons_of_mem _ hd')
    unfold compL
    rw [h1]
    dsimp only
    cases hc : tc e1 with
    | stuck => rw [hc] at h2; exact h2.elim
    | exc x e2 => rw [hc] at h2; exact (hx _ _ h2).elim
    | ok b e2 =>
      rw [hc] at h2
      dsimp only
      cases b with
      | false =>
        obtain ⟨hf, hw⟩ := h2.2 rfl
        simp only [Bool.false_eq_true, if_false]
        rw [hw]
        refine WE_compL F ds acc (by simp only [List.length_cons] at hl; omega) hr ?_ hx
        rw [List.filterMap_cons_none hf] at hp; exact hp
      | true =>
        have h3 := h2.1 rfl
        simp only [if_true]
        cases hm : me e2 with
        | stuck => rw [hm] at h3; exact h3.elim
        | exc x e2 => rw [hm] at h3; exact (hx _ _ h3).elim
        | ok r e3 =>
          rw [hm] at h3
          obtain ⟨hf, hw⟩ := h3
          dsimp only
          rw [if_pos hl', hw]
          refine WE_compL F ds (acc ++ [r.2]) (by simp only [List.length_append, List.length_cons, List.length_nil] at hl ⊢; omega) hr ?_ hx
          rw [List.filterMap_cons_some hf] at hp
          rw [List.append_assoc]; exact hp
@[simp] theorem WE_comp {vs : List Nat} {g : DTg} {mi : MI} {tc : MT} {me : ME} : WE X (mComp vs g mi tc me env) P ↔ WE X (mi env) fun ds e => WE X (compL g vs tc me ds [] (wipeD vs e)) P := U.WE_comp
@[simp] theorem WE_yes : WE X (mYes env) PB ↔ PB true env := U.WE_yes
end
/-! functions -/
def NoX : Exc → DEnv → Prop := fun _ _ => False
/-- what a body must bring about -/
def bodyP (pm : List Nat) (ds : List D) (R : Nat → D → Prop) : Post := ⟨fun e => outs pm ds e = some ds ∧ R 0 .non, fun n d e => outs pm ds e = some ds ∧ R n d, fun _ => False, fun _ => False, fun _ _ => False⟩
theorem fn_ret {pm : List Nat} {kk : Nat} {m : MS} {ds : List D} {R : Nat → D → Prop} (h : WS (m (mkEnv pm ds ++ List.replicate kk none)) (bodyP pm ds R)) : ∃ n d, fnSem pm kk m ds = .ret n d ds ∧ R n d := by
  unfold fnSem
  cases hm : m (mkEnv pm ds ++ List.replicate kk none) with
  | nx e => rw [hm] at h; obtain ⟨h1, h2⟩ := h; exact ⟨0, .non, by simp only [fin, h1], h2⟩
  | ret n d e => rw [hm] at h; obtain ⟨h1, h2⟩ := h; exact ⟨n, d, by simp only [fin, h1], h2⟩
  | brk e => rw [hm] at h; exact h.elim
  | cont e => rw [hm] at h; exact h.elim
  | exc x e => rw [hm] at h; exact h.elim
  | stuck => rw [hm] at h; exact h.elim
section
variable {i j : Int} {xs ys : List D}
@[simp] theorem addD_int : addD (.int i) (.int j) = some (0, .int (i + j)) := rfl
@[simp] theorem subD_int : subD (.int i) (.int j) = some (0, .int (i - j)) := rfl
@[simp] theorem negD_int : negD (.int i) = some (0, .int (-i)) := rfl
@[simp] theorem ltD_int : ltD (.int i) (.int j) = some (decide (i < j)) := rfl
@[simp] theorem leD_int : leD (.int i) (.int j) = some (decide (i ≤ j)) := rfl
@[simp] theorem gtD_int : gtD (.int i) (.int j) = some (decide (j < i)) := rfl
@[simp] theorem geD_int : geD (.int i) (.int j) = some (decide (j ≤ i)) := rfl
@[simp] theorem intD_int : DL.intD [.int i] = some (0, .int i) := rfl
@[simp] theorem eqD_int : eqD (.int i) (.int j) = some (decide (i = j)) := by
  show some (i == j) = _
  rfl
@[simp] theorem neD_int : neD (.int i) (.int j) = some (!decide (i = j)) := by
  show some (!(i == j)) = _
  rfl
@[simp] theorem gN_eq {i : Nat} {d : D} {e : DEnv} : gN i d e = some (e.set i (some (0, d))) := rfl
@[simp] theorem gT_tup {is : List Nat} {e : DEnv} : gT is (.tup xs) e = setAll is xs e := rfl
@[simp] theorem setAll_nil {e : DEnv} : setAll [] [] e = some e := rfl
@[simp] theorem setAll_cons {i : Nat} {is : List Nat} {d : D} {e : DEnv} : setAll (i :: is) (d :: xs) e = setAll is xs (e.set i (some (0, d))) := rfl
@[simp] theorem wipeD_nil {e : DEnv} : wipeD [] e = e := rfl
@[simp] theorem wipeD_cons {j : Nat} {js : List Nat} {e : DEnv} : wipeD (j :: js) e = (wipeD js e).set j none := rfl
@[simp] theorem frzE_nil {e : DEnv} : frzE [] e = e := rfl
@[simp] theorem frzE_cons {i : Nat} {is : List Nat} {e : DEnv} : frzE (i :: is) e = frzE is (frz1 i e) := rfl
end
theorem mulD_int {i j : Int} (h : mulOk i j = true) : mulD (.int i) (.int j) = some (0, .int (i * j)) := by simp [mulD, h]
theorem modD_int {i j : Int} (h : 0 < j) : modD (.int i) (.int j) = some (0, .int (i % j)) := by
  simp [modD, h]
  try omega
theorem fdivD_int {i j : Int} (h : 0 < j) (h2 : j < 2 ^ 30) : fdivD (.int i) (.int j) = some (0, .int (i / j)) := by
  simp [fdivD, h]
  try omega
@[simp] theorem mulD_lit {i j : Int} (h : -18446744073709551616 < j) (h2 : j < 18446744073709551616) : mulD (.int i) (.int j) = some (0, .int (i * j)) :=
  mulD_int (by unfold mulOk; simp; omega)
@[simp] theorem mulD_litL {i j : Int} (h : -18446744073709551616 < i) (h2 : i < 18446744073709551616) : mulD (.int i) (.int j) = some (0, .int (i * j)) :=
  mulD_int (by unfold mulOk; simp; omega)
@[simp] theorem mulD_mod {i j c : Int} (h : 0 < c) (h2 : c < 18446744073709551616) : mulD (.int (i % c)) (.int j) = some (0, .int (i % c * j)) := by
  have := Int.emod_nonneg i (show c ≠ 0 by omega)
  have := Int.emod_lt_of_pos i h
  exact mulD_litL (by omega) (by omega)
@[simp] theorem modD_lit {i j : Int} (h : 0 < j) : modD (.int i) (.int j) = some (0, .int (i % j)) := modD_int h
@[simp] theorem fdivD_lit {i j : Int} (h : 0 < j) (h2 : j < 1073741824) : fdivD (.int i) (.int j) = some (0, .int (i / j)) := fdivD_int h (by omega)
@[simp] theorem powD_lit {i j : Int} (h : 0 ≤ j) (h1 : j ≤ 1000000) (h2 : i.natAbs < 18446744073709551616) : powD (.int i) (.int j) = some (0, .int (i ^ j.toNat)) := by
  show (if _ then _ else _) = _
  exact if_pos ⟨h, h1, by omega⟩
theorem atI_nat {α : Type} {xs : List α} {k : Nat} (h : k < xs.length) : L2.atI xs (k : Int) = some xs[k] := by
  unfold L2.atI L2.ixN
  rw [if_pos (by omega), if_pos (by omega)]
  simp [h]
theorem atI_int {α : Type} {xs : List α} {i : Int} (h0 : 0 ≤ i) (h : i < xs.length) : L2.atI xs i = xs[i.toNat]? := by
  unfold L2.atI L2.ixN
  rw [if_pos h0, if_pos h]
  rfl
@[simp] theorem idxD_lst {ds : List D} {i : Int} : idxD (.lst ds) (.int i) = (L2.atI ds i).map fun d => (0, d) := rfl
@[simp] theorem idxD_tup {ds : List D} {i : Int} : idxD (.tup ds) (.int i) = (L2.atI ds i).map fun d => (0, d) := rfl
@[simp] theorem idxD_scr {ds : List D} {i : Int} : idxD (.scr ds) (.int i) = (L2.atI ds i).map fun d => (0, d) := rfl
@[simp] theorem oP_map {α β : Type} {o : Option α} {f : α → β} {P : β → Prop} : oP (o.map f) P ↔ oP o fun a => P (f a) := by cases o <;> rfl
@[simp] theorem atI_scr {ns : List Int} {k : Int} : L2.atI (ns.map D.int) k = (L2.atI ns k).map D.int := by
  unfold L2.atI
  rw [List.length_map]
  cases L2.ixN ns.length k <;> simp
theorem atI_in {α : Type} {xs : List α} {i : Int} (h0 : 0 ≤ i) (h : i < xs.length) : ∃ a, L2.atI xs i = some a ∧ a ∈ xs ∧ xs[i.toNat]? = some a := by
  have hl : i.toNat < xs.length := by omega
  exact ⟨xs[i.toNat], by rw [atI_int h0 h, List.getElem?_eq_getElem hl], List.getElem_mem hl, List.getElem?_eq_getElem hl⟩
@[simp] theorem outs_nil {e : DEnv} : outs [] [] e = some [] := rfl
@[simp] theorem outs_z {pm : List Nat} {d : D} {ds : List D} {x : Option (Nat × D)} {e : DEnv} : outs (0 :: pm) (d :: ds) (x :: e) = (outs pm ds e).map (d :: ·) := rfl
@[simp] theorem mkEnv_nil : mkEnv [] [] = [] := rfl
@[simp] theorem mkEnv_cons {n : Nat} {pm : List Nat} {d : D} {ds : List D} : mkEnv (n :: pm) (d :: ds) = some (n, d) :: mkEnv pm ds := rfl
@[simp] theorem lenD_lst {ds : List D} : lenD [.lst ds] = some (0, .int ds.length) := rfl
@[simp] theorem lenD_tup {ds : List D} : lenD [.tup ds] = some (0, .int ds.length) := rfl
@[simp] theorem lenD_scr {ds : List D} : lenD [.scr ds] = some (0, .int ds.length) := rfl
@[simp] theorem listD_lst {ds : List D} : listD [.lst ds] = some (1, .lst ds) := rfl
@[simp] theorem listD_tup {ds : List D} : listD [.tup ds] = some (1, .lst ds) := rfl
@[simp] theorem tupleD_lst {ds : List D} : tupleD [.lst ds] = some (0, .tup ds) := rfl
@[simp] theorem truthD_bl {b : Bool} : truthD (.bl b) = some b := rfl
@[simp] theorem truthD_lst {ds : List D} : truthD (.lst ds) = some (!ds.isEmpty) := rfl
@[simp] theorem isD_bl {a b : Bool} : isD (.bl a) (.bl b) = some (decide (a = b)) := rfl
@[simp] theorem isntD_bl {a b : Bool} : isntD (.bl a) (.bl b) = some (!decide (a = b)) := rfl
@[simp] theorem bodyP_nx {pm : List Nat} {ds : List D} {R : Nat → D → Prop} : (bodyP pm ds R).nx = fun e => outs pm ds e = some ds ∧ R 0 .non := rfl
@[simp] theorem bodyP_rt {pm : List Nat} {ds : List D} {R : Nat → D → Prop} : (bodyP pm ds R).rt = fun n d e => outs pm ds e = some ds ∧ R n d := rfl
@[simp] theorem bodyP_ex {pm : List Nat} {ds : List D} {R : Nat → D → Prop} : (bodyP pm ds R).ex = fun _ _ => False := rfl
theorem WS_cut {sa sb : MS} {env : DEnv} {Q : Post} (M : DEnv → Prop) (h : WS (sa env) { Q with nx := M }) (k : ∀ e, M e → WS (sb e) Q) : WS (mSeq sa sb env) Q := by
  rw [WS_seq]
  exact WS.mono h k (fun _ _ _ z => z) (fun _ z => z) (fun _ z => z) fun _ _ z => z
theorem WS_assoc {sa sb sc : MS} {env : DEnv} {Q : Post} : WS (mSeq sa (mSeq sb sc) env) Q ↔ WS (mSeq (mSeq sa sb) sc env) Q := by
  show U.WS (mSeq sa (mSeq sb sc) env) Q ↔ U.WS (mSeq (mSeq sa sb) sc env) Q
  simp only [U.WS_seq]
theorem map_get {α : Type} {f : α → D} {xs : List α} {j : Nat} {d : D} (h : (xs.map f)[j]? = some d) : ∃ x, xs[j]? = some x ∧ d = f x := by
  rw [List.getElem?_map] at h
  obtain ⟨x, hx, e⟩ := Option.map_eq_some_iff.mp h
  exact ⟨x, hx, e.symm⟩
theorem drop_get {α : Type} {xs : List α} {j : Nat} {x : α} (h : xs[j]? = some x) : xs.drop j = x :: xs.drop (j + 1) := by
  obtain ⟨h1, h2⟩ := List.getElem?_eq_some_iff.mp h
  rw [List.drop_eq_getElem_cons h1, h2]
theorem take_get {α : Type} {xs : List α} {j : Nat} {x : α} (h : xs[j]? = some x) : xs.take (j + 1) = xs.take j ++ [x] := by
  rw [List.take_add_one, h]; rfl
theorem rangeD_get {lo : Int} {n j : Nat} {d : D} (h : (rangeD lo n)[j]? = some d) : j < n ∧ d = .int (lo + j) := by
  obtain ⟨x, hx, rfl⟩ := map_get h
  obtain ⟨h1, h2⟩ := List.getElem?_eq_some_iff.mp hx
  rw [List.length_range] at h1
  rw [List.getElem_range] at h2
  subst h2
  exact ⟨h1, rfl⟩
@[simp] theorem rangeD_length {lo : Int} {n : Nat} : (rangeD lo n).length = n := by simp [rangeD]
theorem rangeD_mem {lo : Int} {n : Nat} {d : D} (h : d ∈ rangeD lo n) : ∃ j, j < n ∧ d = .int (lo + (j : Nat)) := by
  obtain ⟨j, hj⟩ := List.mem_iff_getElem?.mp h
  exact ⟨j, rangeD_get hj⟩
theorem rng1_nat {n : Int} (h0 : 0 ≤ n) (h : n < 4611686018427387904) : rng1 [.int n] = some (rangeD 0 n.toNat) := by
  show (if _ then _ else _) = _
  exact if_pos ⟨by omega, by omega⟩
@[simp] theorem rng1_lit {n : Int} (h0 : 0 ≤ n) (h : n < 4611686018427387904) : rng1 [.int n] = some (rangeD 0 n.toNat) := rng1_nat h0 h
@[simp] theorem frz1_z {n : Nat} {d : D} {e : DEnv} : frz1 0 (some (n, d) :: e) = some (0, d) :: e := rfl
@[simp] theorem frz1_n {e : DEnv} : frz1 0 (none :: e) = none :: e := rfl
@[simp] theorem frz1_s {i : Nat} {x : Option (Nat × D)} {e : DEnv} : frz1 (i + 1) (x :: e) = x :: frz1 i e := by
  rcases h : e[i]? with _ | _ | ⟨n, d⟩ <;> simp [frz1, h]
theorem LIMn : LIM = 16777216 := rfl
/-- with a name for the invariant that simp can't look into -/
theorem WS_forB {g : DTg} {js : List Nat} {b : MS} {Q : Post} {ds : List D} {e : DEnv} (I : Nat → DEnv → Prop) (h0 : I 0 e)
    (hs : ∀ J : Nat → DEnv → Prop, (∀ k e, I k e → J k e) → ∀ j d e, ds[j]? = some d → I j e → ∃ e1, g d e = some e1 ∧ WS (b e1) { Q with nx := fun e2 => J (j + 1) (wipeD js e2), bk := fun e2 => Q.nx (wipeD js e2), ct := fun e2 => J (j + 1) (wipeD js e2) })
    (hd : ∀ e, I ds.length e → Q.nx e) : WS (mForL g js b ds e) Q := WS_forI I h0 (fun j d e hj hi => hs I (fun _ _ z => z) j d e hj hi) hd
theorem WS_cutB {sa sb : MS} {env : DEnv} {Q : Post} (M : DEnv → Prop) (h : ∀ J : DEnv → Prop, (∀ e, M e → J e) → WS (sa env) { Q with nx := J }) (k : ∀ e, M e → WS (sb e) Q) : WS (mSeq sa sb env) Q := WS_cut M (h M fun _ z => z) k
theorem WS_whileB {tc : MT} {js : List Nat} {b : MS} {Q : Post} {e : DEnv} (I : Nat → DEnv → Prop) (n : Nat) (hn : n < 1000000) (h0 : I n e)
    (hs : ∀ J : Nat → DEnv → Prop, (∀ k e, I k e → J k e) → ∀ n e, I n e → WE Q.ex (tc e) fun k e1 => (k = true → ∃ m, n = m + 1 ∧ WS (b e1) { Q with nx := fun e2 => J m (wipeD js e2), bk := fun e2 => Q.nx (wipeD js e2), ct := fun e2 => J m (wipeD js e2) }) ∧ (k = false → Q.nx e1)) : WS (mWhile js tc b e) Q :=
  WS_while I n hn h0 fun n e hi => hs I (fun _ _ z => z) n e hi
theorem fn_retB {pm : List Nat} {kk : Nat} {m : MS} {ds : List D} (R : Nat → D → Prop) (h : ∀ J : Nat → D → Prop, (∀ n d, R n d → J n d) → WS (m (mkEnv pm ds ++ List.replicate kk none)) (bodyP pm ds J)) : ∃ n d, fnSem pm kk m ds = .ret n d ds ∧ R n d :=
  fn_ret (h R fun _ _ z => z)
end DL

set_option autoImplicit false
set_option Elab.async false
set_option linter.all false
set_option maxRecDepth 100000
/-! DL: typed values for the plain laws. -/
namespace DL
open PySem PySem.Spec PyProof.Rows L2
@[simp] theorem isInstD_ty {d : D} {n : String} : isInstD [d, .ty n] = match tyOfD d with
    | some a => if knownTy n then some (0, .bl (isTyB a n)) else none
    | none => none := rfl
@[simp] theorem isInstD_tup {d : D} {ts : List D} : isInstD [d, .tup ts] = match tyOfD d, tysOf ts with
    | some a, some ns => some (0, .bl (ns.any (isTyB a)))
    | _, _ => none := rfl
@[simp] theorem known_int : knownTy "int" = true := by decide
@[simp] theorem known_bool : knownTy "bool" = true := by decide
@[simp] theorem known_str : knownTy "str" = true := by decide
@[simp] theorem known_list : knownTy "list" = true := by decide
@[simp] theorem known_tuple : knownTy "tuple" = true := by decide
@[simp] theorem known_dict : knownTy "dict" = true := by decide
@[simp] theorem tysOf_nil : tysOf [] = some [] := rfl
@[simp] theorem tysOf_cons {n : String} {ds : List D} : tysOf (.ty n :: ds) = if knownTy n then (tysOf ds).map (n :: ·) else none := rfl
@[simp] theorem tyOf_non : tyOfD .non = some "NoneType" := rfl
@[simp] theorem tyOf_bl {b : Bool} : tyOfD (.bl b) = some "bool" := rfl
@[simp] theorem tyOf_int {b : Int} : tyOfD (.int b) = some "int" := rfl
@[simp] theorem tyOf_str {b : Str} : tyOfD (.str b) = some "str" := rfl
@[simp] theorem tyOf_lst {b : List D} : tyOfD (.lst b) = some "list" := rfl
@[simp] theorem tyOf_tup {b : List D} : tyOfD (.tup b) = some "tuple" := rfl
@[simp] theorem tyOf_dK {b : List (Key × D)} : tyOfD (.dK b) = some "dict" := rfl
@[simp] theorem tyOf_dT {b : List (List Key × D)} : tyOfD (.dT b) = some "dict" := rfl
@[simp] theorem tyOf_ty {b : String} : tyOfD (.ty b) = none := rfl
@[simp] theorem tyOf_scr {b : List D} : tyOfD (.scr b) = none := rfl
/-- isTyB, by its words -/
theorem isTyB_eq (a b : String) : isTyB a b = (a == b || (a == "bool" && b == "int")) := rfl
theorem okN_int {n : Nat} {i : Int} : okN n (.int i) = true := by cases n <;> simp [okN]
theorem okN_ints {n : Nat} {ns : List Int} : (ns.map D.int).all (okN n) = true := by
  rw [List.all_map]
  exact List.all_eq_true.mpr fun i _ => okN_int
theorem eqv_int {i j : Int} : eqv (.int i) (.int j) = decide (i = j) := rfl
@[simp] theorem inD_ints {i : Int} {ns : List Int} : inD (.int i) (.lst (ns.map .int)) = some (decide (i ∈ ns)) := by
  show (if (okN 40 (.int i) && (ns.map D.int).all (okN 40)) = true then _ else _) = _
  rw [okN_int, okN_ints]
  show some ((ns.map D.int).any fun z => eqv z (.int i)) = _
  rw [List.any_map]
  congr 1
  induction ns with
  | nil => rfl
  | cons n ns ih =>
    rw [List.any_cons, ih]
    show (decide (n = i) || decide (i ∈ ns)) = _
    rw [Bool.eq_iff_iff]
    simp only [Bool.or_eq_true, decide_eq_true_eq, List.mem_cons]
    constructor
    · rintro (h | h)
      · exact .inl h.symm
      · exact .inr h
    · rintro (h | h)
      · exact .inl h.symm
      · exact .inr h
@[simp] theorem notInD_ints {i : Int} {ns : List Int} : notInD (.int i) (.lst (ns.map .int)) = some (!decide (i ∈ ns)) := by
  unfold notInD
  rw [inD_ints]; rfl
/-- pairs of ints -/
def ipD (p : Int × Int) : D := .tup [.int p.1, .int p.2]
def isPr : D → Option (Int × Int)
  | .tup [.int a, .int b] => some (a, b)
  | _ => none
theorem okN_pr {n : Nat} {p : Int × Int} : okN (n + 1) (ipD p) = true := by simp [ipD, okN, okN_int]
theorem okN_prs {n : Nat} {ps : List (Int × Int)} : (ps.map ipD).all (okN (n + 1)) = true := by
  rw [List.all_map]
  exact List.all_eq_true.mpr fun i _ => okN_pr
theorem eqv_pr {p q : Int × Int} : eqv (ipD p) (ipD q) = decide (p = q) := by
  show (decide (p.1 = q.1) && (decide (p.2 = q.2) && true)) = _
  rw [Bool.eq_iff_iff]
  simp [Prod.ext_iff]
theorem inD_prs {p : Int × Int} {ps : List (Int × Int)} : inD (ipD p) (.lst (ps.map ipD)) = some (decide (p ∈ ps)) := by
  show (if (okN 40 (ipD p) && (ps.map ipD).all (okN 40)) = true then _ else _) = _
  rw [show okN 40 (ipD p) = true from okN_pr, show (ps.map ipD).all (okN 40) = true from okN_prs]
  show some ((ps.map ipD).any fun z => eqv z (ipD p)) = _
  rw [List.any_map]
  congr 1
  induction ps with
  | nil => rfl
  | cons n ns ih =>
    rw [List.any_cons, ih]
    show (eqv (ipD n) (ipD p) || decide (p ∈ ns)) = _
    rw [eqv_pr, Bool.eq_iff_iff]
    simp only [Bool.or_eq_true, decide_eq_true_eq, List.mem_cons]
    constructor
    · rintro (h | h)
      · exact .inl h.symm
      · exact .inr h
    · rintro (h | h)
      · exact .inl h.symm
      · exact .inr h
@[simp] theorem notInD_prs {a b : Int} {ps : List (Int × Int)} : notInD (.tup [.int a, .int b]) (.lst (ps.map ipD)) = some (!decide ((a, b) ∈ ps)) := by
  unfold notInD
  rw [show inD (.tup [.int a, .int b]) (.lst (ps.map ipD)) = some (decide ((a, b) ∈ ps)) from inD_prs (p := (a, b))]; rfl
/-- the order of pairs -/
def le2 (p q : Int × Int) : Bool := if p.1 = q.1 then decide (p.2 ≤ q.2) else decide (p.1 ≤ q.1)
@[simp] theorem leD_pr {a b c d : Int} : leD (.tup [.int a, .int b]) (.tup [.int c, .int d]) = some (le2 (a, b) (c, d)) := by
  show some (leTup [a, b] [c, d]) = _
  congr 1
  unfold leTup le2
  show Ob.lexAt _ _ _ 0 2 = _
  simp only [Ob.lexAt_succ, Ob.lexAt_zero]
  by_cases h : a = c
  · by_cases h2 : b = d
    · simp [h, h2]
    · simp [h, h2]
  · simp [h]
@[simp] theorem mulD_zeros {n : Nat} (h : n ≤ 16777216) : mulD (.lst [.int 0]) (.int n) = some (1, .lst ((List.replicate n (0 : Int)).map .int)) := by
  have hc : -(2 ^ 63) ≤ (n : Int) ∧ (n : Int) < 2 ^ 63 ∧ [D.int 0].length * (n : Int).toNat ≤ LIM := ⟨by omega, by omega, by simp only [List.length_singleton, Int.toNat_natCast, LIMn]; omega⟩
  have hr : ∀ m : Nat, repD m [D.int 0] = (List.replicate m (0 : Int)).map .int := fun m => by
    unfold repD
    induction m with
    | zero => rfl
    | succ m ih => rw [List.replicate_succ, List.flatten_cons, ih, List.replicate_succ]; rfl
  unfold mulD
  dsimp only
  rw [if_pos hc, hr, Int.toNat_natCast]
@[simp] theorem putD_ints {ns : List Int} {i v : Int} (h : 0 ≤ i) (h2 : i < ns.length) : putD (.lst (ns.map .int)) (.int i) (.int v) = some (.lst ((ns.set i.toNat v).map .int)) := by
  show (L2.ixN (ns.map D.int).length i).map (fun j => D.lst ((ns.map D.int).set j (.int v))) = _
  unfold L2.ixN
  rw [if_pos h, if_pos (by simpa using h2), List.map_set]
  rfl
@[simp] theorem sliceD_lst {ds : List D} {lo hi : Option Int} : sliceD (.lst ds) lo hi = some (1, .lst (cutD ds lo hi)) := rfl
@[simp] theorem sliceD_tup {ds : List D} {lo hi : Option Int} : sliceD (.tup ds) lo hi = some (0, .tup (cutD ds lo hi)) := rfl
theorem cut_sub {ds : List D} {lo hi : Option Int} {d : D} (h : d ∈ cutD ds lo hi) : d ∈ ds := List.mem_of_mem_drop (List.mem_of_mem_take h)
theorem cut_len {ds : List D} {lo hi : Option Int} : (cutD ds lo hi).length ≤ ds.length := by
  unfold cutD
  simp
  omega
@[simp] theorem addD_lst {xs ys : List D} (h : xs.length + ys.length ≤ 16777216) : addD (.lst xs) (.lst ys) = some (1, .lst (xs ++ ys)) := if_pos h
@[simp] theorem addD_tup {xs ys : List D} (h : xs.length + ys.length ≤ 16777216) : addD (.tup xs) (.tup ys) = some (0, .tup (xs ++ ys)) := if_pos h
@[simp] theorem maxD_int {i j : Int} : maxD [.int i, .int j] = some (0, .int (if j > i then j else i)) := rfl
@[simp] theorem minD_int {i j : Int} : minD [.int i, .int j] = some (0, .int (if j < i then j else i)) := rfl
@[simp] theorem sumD_ints {ns : List Int} : sumD [.lst (ns.map .int)] = some (0, .int ns.sum) := by
  show (intsOf (ns.map D.int)).map _ = _
  rw [intsOf_map]; rfl
@[simp] theorem minDefD_ints {ns : List Int} {d : Int} : minDefD (.lst (ns.map .int)) (.int d) = some (0, .int (KX.minDef ns d)) := by
  show (intsOf (ns.map D.int)).map _ = _
  rw [intsOf_map]; rfl
theorem sortSetD_ints {ns : List Int} (h : (sortU ns).length < 64) (h2 : ns.length < 4000) : sortSetD (.lst (ns.map .int)) = some (1, .lst ((sortU ns).map .int)) := by
  unfold sortSetD
  simp only [intsOf_map, if_pos (And.intro h h2)]
/-- ints in order within a range are few -/
theorem asc_len {n : Nat} : ∀ (l : List Int) (lo : Int), l.Pairwise (· < ·) → (∀ x ∈ l, lo ≤ x ∧ x < lo + n) → l.length ≤ n
  | [], _, _, _ => Nat.zero_le _
  | x :: l, lo, h, hb => by
    obtain ⟨h1, h2⟩ := List.pairwise_cons.mp h
    have hx := hb x List.mem_cons_self
    cases n with
    | zero => omega
    | succ n =>
      have := asc_len (n := n) l (lo + 1) h2 fun y hy => by
        have := h1 y hy
        have := hb y (List.mem_cons_of_mem _ hy)
        omega
      simp only [List.length_cons]
      omega
theorem map_int_inj : ∀ {as bs : List Int}, as.map D.int = bs.map D.int → as = bs
  | [], [], _ => rfl
  | [], _ :: _, h => by cases h
  | _ :: _, [], h => by cases h
  | a :: as, b :: bs, h => by
    simp only [List.map_cons, List.cons.injEq, D.int.injEq] at h
    rw [h.1, map_int_inj h.2]
theorem fm_eq {α β : Type} {f : α → Option β} {c : α → Bool} {g : α → β} : ∀ {xs : List α}, (∀ x ∈ xs, f x = if c x = true then some (g x) else none) → xs.filterMap f = (xs.filter c).map g
  | [], _ => rfl
  | x :: xs, h => by
    have hx := h x List.mem_cons_self
    have ih := fm_eq (xs := xs) fun y hy => h y (List.mem_cons_of_mem _ hy)
    cases hc : c x with
    | true => rw [List.filterMap_cons_some (by rw [hx, if_pos hc]), List.filter_cons_of_pos hc, List.map_cons, ih]
    | false => rw [List.filterMap_cons_none (by rw [hx]; simp [hc]), List.filter_cons_of_neg (by simp [hc]), ih]
theorem fm_all {α β : Type} {f : α → Option β} {g : α → β} {xs : List α} (h : ∀ x ∈ xs, f x = some (g x)) : xs.filterMap f = xs.map g := by
  rw [fm_eq (c := fun _ => true) fun x hx => by rw [h x hx]; rfl, List.filter_eq_self.mpr (fun _ _ => rfl)]
/-- a comprehension of which one wants to know a bound and a property of the items alone -/
theorem WE_compR {X : Exc → DEnv → Prop} {g : DTg} {vs : List Nat} {tc : MT} {me : ME} {e0 : DEnv} {P : Nat × D → DEnv → Prop} (R : D → Prop) : ∀ (ds acc : List D), acc.length + ds.length ≤ 16777216 → (∀ x ∈ acc, R x) →
    (∀ d, d ∈ ds → ∃ e1, g d e0 = some e1 ∧ WE X (tc e1) fun b e2 => (b = true → WE X (me e2) fun r e3 => R r.2 ∧ wipeD vs e3 = e0) ∧ (b = false → wipeD vs e2 = e0)) →
    (∀ out : List D, (∀ x ∈ out, R x) → out.length ≤ acc.length + ds.length → P (1, .lst out) e0) → (∀ x e, ¬ X x e) → WE X (compL g vs tc me ds acc e0) P
  | [], acc, _, ha, _, hp, _ => hp acc ha (by simp)
  | d :: ds, acc, hl, ha, hs, hp, hx => by
    obtain ⟨e1, h1, h2⟩ := hs d List.mem_cons_self
    have hl' : acc.length < 16777216 := by simp only [List.length_cons] at hl; omega
    have hr := fun d' hd' => hs d' (List.mem_cons_of_mem _ hd')
    unfold compL
    rw [h1]
    dsimp only
    cases hc : tc e1 with
    | stuck => rw [hc] at h2; exact h2.elim
    | exc x e2 => rw [hc] at h2; exact (hx _ _ h2).elim
    | ok b e2 =>
      rw [hc] at h2
      dsimp only
      cases b with
      | false =>
        simp only [Bool.false_eq_true, if_false]
        rw [h2.2 rfl]
        exact WE_compR R ds acc (by simp only [List.length_cons] at hl; omega) ha hr (fun out h k => hp out h (by simp only [List.length_cons]; omega)) hx
      | true =>
        have h3 := h2.1 rfl
        simp only [if_true]
        cases hm : me e2 with
        | stuck => rw [hm] at h3; exact h3.elim
        | exc x e2 => rw [hm] at h3; exact (hx _ _ h3).elim
        | ok r e3 =>
          rw [hm] at h3
          obtain ⟨hf, hw⟩ := h3
          dsimp only
          rw [if_pos hl', hw]
          refine WE_compR R ds (acc ++ [r.2]) (by simp only [List.length_append, List.length_cons, List.length_nil] at hl ⊢; omega) (fun x hx => ?_) hr (fun out h k => hp out h (by simp only [List.length_append, List.length_cons, List.length_nil] at k ⊢; omega)) hx
          rcases List.mem_append.mp hx with hx | hx
          · exact ha x hx
          · simp at hx; subst hx; exact hf
theorem WE_compC {X : Exc → DEnv → Prop} {g : DTg} {vs : List Nat} {tc : MT} {me : ME} {e0 : DEnv} {P : Nat × D → DEnv → Prop} {ds : List D} (R : D → Prop) (hl : ds.length ≤ 16777216)
    (hs : ∀ d, d ∈ ds → ∃ e1, g d e0 = some e1 ∧ WE X (tc e1) fun b e2 => (b = true → WE X (me e2) fun r e3 => R r.2 ∧ wipeD vs e3 = e0) ∧ (b = false → wipeD vs e2 = e0))
    (hp : ∀ out : List D, (∀ x ∈ out, R x) → out.length ≤ ds.length → P (1, .lst out) e0) (hx : ∀ x e, ¬ X x e) : WE X (compL g vs tc me ds [] e0) P :=
  WE_compR R ds [] (by simpa using hl) (by simp) hs (fun out h k => hp out h (by simpa using k)) hx
end DL

set_option autoImplicit false
set_option Elab.async false
set_option linter.all false
set_option maxRecDepth 100000
/-! DL: exceptions of own classes: defs that raise, raise, try .. except X as e. -/
namespace DL
open PySem PySem.Spec PyProof.Rows L2
/-- a def from its body, what is raised goes out -/
def fnSemX (pm : List Nat) (k : Nat) (m : MS) : FSem := fun ds => match m (mkEnv pm ds ++ List.replicate k none) with
  | .nx e => fin pm ds 0 .non e
  | .ret n d e => fin pm ds n d e
  | .exc x e => match outs pm ds e with
    | some ds' => .exc x ds'
    | none => .stuck
  | _ => .stuck
section
variable {P : Program} {w : World} {K : PySem.W.Frag} {mg : Str → Option Value} {base : Heap}
abbrev WOf (E : XK) : WX := fun c d _ H => E c d H
theorem fn_okX {x qual : Str} {st : Stmt} {f : Addr} {fd : FuncData} {N ps : List Str} {k : Nat} {pm A : List Nat} {m : MS} (Fn : Fun K x qual st f fd) (S : FnScope N ps (defScope st)) (hp : ps.length = pm.length) (kk : Nat) (hk : N.length - pm.length = kk) (hA : (List.range pm.length).all (fun i => pm[i]? == some 0 || !A.contains i) = true)
    (hbody : ∀ (cdv : Value) (Ar : Around) (outer : List PySem.Env) (s : Shared) (H : Hp) (E : XK), Room k (Ar.deeper (envOfC qual (defScope st) s.heap.objs.size f cdv)) →
      DSs (cxOf (L2.CX P w) P w K mg base N qual (defScope st) f cdv Ar outer s H E) (WOf E) A m (defBody st)) : FnOk P w K mg base (L2.CX P w) (k + 1) f fd ps (spD K mg pm (fnSemX pm kk m)) := by
  refine Fn.okX S (fun vs H Q E h => ?_) (fun cdv Ar outer s H vs Q E hr h => ⟨_, hbody cdv Ar outer s H E hr, ?_⟩)
  · obtain ⟨G, F, fp, ds, h1, h2, _⟩ := h
    rw [h2, hp]
  · obtain ⟨G, F, fp, ds, h1, h2, ss, q⟩ := h
    have hA' : ∀ i n, pm[i]? = some n → n ≠ 0 → i ∉ A := fun i n hn h0 hi => by
      have := List.all_eq_true.mp hA i (List.mem_range.mpr (List.getElem?_eq_some_iff.mp hn).1)
      rw [hn] at this
      simp [hi, h0] at this
    refine ⟨G, F, _, fp, (by rw [start_eq, h2, hk]; exact ss.body kk), ?_⟩
    unfold fnSemX fin at q
    show RGS K mg (WOf E) G F A (start N vs) _ (m (mkEnv pm ds ++ List.replicate kk none))
    rw [start_eq, h2, hk]
    cases e : m (mkEnv pm ds ++ List.replicate kk none) with
    | nx e1 =>
      rw [e] at q
      dsimp only at q
      cases eo : outs pm ds e1 with
      | none => rw [eo] at q; exact q.elim
      | some ds' =>
        rw [eo] at q
        intro σ' F' H' fp' ag s' fe
        obtain ⟨l, s2⟩ := ss.params h1 hA' ag s' fe eo
        exact q .non F' H' fp' _ l (SV.of_rep s2 .non) fe
    | ret n d e1 =>
      rw [e] at q
      dsimp only at q
      cases eo : outs pm ds e1 with
      | none => rw [eo] at q; exact q.elim
      | some ds' =>
        rw [eo] at q
        intro v σ' F' H' fp' S' ag s' fe
        obtain ⟨l, s2⟩ := ss.params h1 hA' ag s'.ss fe eo
        exact q v F' H' fp' _ l ⟨s2, s'.val, s'.vld, s'.vnf, s'.vng, s'.vdis⟩ fe
    | exc x e1 =>
      rw [e] at q
      dsimp only at q
      cases eo : outs pm ds e1 with
      | none => rw [eo] at q; exact q.elim
      | some ds' =>
        rw [eo] at q
        intro c dd σ' F' H' fp' ag s' fe rx
        obtain ⟨l, s2⟩ := ss.params h1 hA' ag s' fe eo
        exact q c dd F' H' fp' l s2 fe rx
    | brk e1 => rw [e] at q; exact q.elim
    | cont e1 => rw [e] at q; exact q.elim
    | stuck => rw [e] at q; exact q.elim
/-- a def of the program that may raise -/
def FnX (P : Program) (w : World) (K : PySem.W.Frag) (mg : Str → Option Value) (base : Heap) (k : Nat) (x : Str) (pm : List Nat) (f : FSem) : Prop :=
  ∃ (fa : Addr) (fd : FuncData) (ps : List Str), FnOk P w K mg base (L2.CX P w) k fa fd ps (spD K mg pm f) ∧ Binds K fd ps [] ∧ mg x = some (.ref fa) ∧ PySem.W.keepIn K (.ref fa) = true
end
section
variable {X : Cx} {W : WX}
theorem de_callX {k : Nat} {x : Str} {pm : List Nat} {f : FSem} {p pos : Pos} {e : Expr} {es : List Expr} {l : List DArg} (C : FnX X.prog X.w X.K X.mg X.base k x pm f) (tk : Takes X W) (hr : Room k X.A) (hg : Gl X x) (ha : DAr X W l (e :: es)) (hdb : (x == ("__debug__" : Str)) = false := by decide) (he : starEach (e :: es) X.env = (false, eval e X.env) :: starEach es X.env := by rfl) (hpl : (backTo pos (starEach es X.env)).any (·.1) = false := by rfl) :
    DE X W (mCall pm f l) (.Call (.Name x p) (e :: es) [] pos) := by
  obtain ⟨fa, fd, ps, F, hb, hm, hk⟩ := C
  refine PE.to (pe_callS F hr hg hm hk hb (fun σ => passAt tk σ) ha hdb he hpl) fun σ H Q ⟨G, F, env, fp, s, h⟩ => ?_
  refine ⟨G, F, env, fp, s, RG.imp h.bind .refl fun l e1 p vs F' H' fp' s' a fe => ?_⟩
  exact spD_call s' a fe p fun _ _ _ z => z
/-! ### raise C(e, ..), C of one's own with an __init__ that keeps its arguments -/
def putBk (fs : List Str) (ys : List V) : List (Str × V) := (fs.zip ys).reverse
/-- what __init__ does -/
def spIni (C : Addr) (fs : List Str) : Sp := fun vs H Q _ => ∃ (a : Addr) (ys : List V), vs = .ref a :: ys ∧ ys.length = fs.length ∧ H a = some (exo a C none) ∧
  ∀ (d : Addr) (H' : Hp), H d = none → d ≠ a → H' a = some (exo a C (some d)) → H' d = some (exd d (putBk fs ys)) → (∀ b, b ≠ a → b ≠ d → H' b = H b) → Q .non H'
/-- a class of errors, its maker held -/
def ExD (P : Program) (w : World) (K : PySem.W.Frag) (mg : Str → Option Value) (base : Heap) (k : Nat) (x : Str) (fs : List Str) : Prop :=
  ∃ (C fI : Addr) (fd : FuncData) (ps : List Str), OexC K C ∧ mg x = some (.ref C) ∧ PySem.W.findIn K (.ref C) "__init__" = some (some (.ref fI)) ∧ PySem.W.typeIn K (.ref fI) = some (.type "function") ∧
    FnOk P w K mg base CX0 k fI fd ps (spIni C fs) ∧ Binds K fd ps []
def mRaise (cn : Str) (fs : List Str) (ms : MA) : MS := fun env => (ms env).bindS fun ds e => if ds.length = fs.length ∧ ds.length ≤ 100 then .exc ⟨cn, (fs.zip ds).reverse⟩ e else .stuck
theorem Reps.zipR {K : PySem.W.Frag} {F : Hp} : ∀ {ds : List D} {vs : List V} (fs : List Str), Reps K F ds vs → ((fs.zip ds).reverse).map (·.1) = ((fs.zip vs).reverse).map (·.1) ∧ Reps K F (((fs.zip ds).reverse).map (·.2)) (((fs.zip vs).reverse).map (·.2))
  | [], [], fs, _ => by simp; exact .nil
  | _ :: _, _ :: _, [], _ => by simp; exact .nil
  | d :: ds, v :: vs, f :: fs, r => by
    obtain ⟨a, b⟩ : Rep K F d v ∧ Reps K F ds vs := by
      cases r with
      | cons a b => exact ⟨a, b⟩
    obtain ⟨h1, h2⟩ := Reps.zipR fs b
    simp only [List.zip_cons_cons, List.reverse_cons, List.map_append, List.map_cons, List.map_nil]
    exact ⟨by rw [h1], h2.append (.cons a .nil)⟩
  | [], _ :: _, _, r => by cases r
  | _ :: _, [], _, r => by cases r
theorem ds_raise {k : Nat} {x : Str} {fs : List Str} {p pos pos2 : Pos} {e : Expr} {es : List Expr} {ms : MA} (hc : X.calm = true) (C : ExD X.prog X.w X.K X.mg X.base k x fs) (tk : Takes X W) (hr : Room (k + 1) X.A) (hg : Gl X x) (ha : DA X W ms (e :: es))
    (hdb : (x == ("__debug__" : Str)) = false := by decide) (he : starEach (e :: es) X.env = (false, eval e X.env) :: starEach es X.env := by rfl) (hpl : (backTo pos (starEach es X.env)).any (·.1) = false := by rfl) :
    DS X W [] (mRaise x fs ms) (.Raise (some (.Call (.Name x p) (e :: es) [] pos)) none pos2) := by
  obtain ⟨C, fI, fd, ps, T, hm, iC, tI, F, hb⟩ := C
  refine PS.to (ps_raise hc tk (pmk_oex (ds := []) (dvs := []) T iC tI F hr hb .nil pass0 hg hm ha hdb he hpl)) fun De σ H ⟨G, F, env, fp, s, h⟩ => ?_
  refine tA.of s h.ofO fun ds e1 F1 H1 fp1 vs p1 s1 rep1 fe1 => ?_
  have hl := rep1.length
  by_cases hd : ds.length = fs.length ∧ ds.length ≤ 100
  · rw [if_pos hd] at p1
    refine ⟨by omega, fun a ha => ⟨a, vs, by rw [List.append_nil], by omega, upd_same, fun d H' hd0 hda h1 h2 h3 => ⟨rfl, d, putBk fs vs, h1, h2, ?_, ?_⟩⟩⟩
    · rw [upd_ne hda] at hd0; exact hd0
    · have hd1 : H1 d = none := by rw [upd_ne hda] at hd0; exact hd0
      have eH : upd (del H' a) d (.xd (putBk fs vs)) = upd H1 d (.xd (putBk fs vs)) := by
        funext b
        by_cases hb : b = d
        · subst hb; rw [upd_same, upd_same]
        · rw [upd_ne hb, upd_ne hb]
          by_cases hba : b = a
          · subst hba; rw [del_same, ha]
          · rw [del_ne hba, h3 b hba hb, upd_ne hba]
      rw [eH]
      have nv : NewV X.K F1 H1 F1 (upd H1 d (.xd (putBk fs vs))) 0 .non .non (fun _ => False) := ⟨Same.refl _, same_upd hd1, same_upd2 s1.sf (s1.sf.free hd1), .non, fun _ q => q.elim, fun _ q => q.elim, fun _ q => q.elim, fun _ h _ => h⟩
      obtain ⟨sv, f2⟩ := s1.new nv
      obtain ⟨z1, z2⟩ := rep1.zipR fs
      exact p1 (.ref C) (some d) σ _ _ fp1 (Agree.refl _ _) sv.ss (fe1.trans f2) ⟨C, d, putBk fs vs, hm, rfl, rfl, upd_same, z1, z2⟩
  · rw [if_neg hd] at p1; exact p1.elim
end
/-! ### the maker -/
def tInis (K : PySem.W.Frag) : List (Str × Nat) → TS
  | [] => tNext
  | (f, i) :: r => tSeq (tOst K f (tVar 0) (tVar i)) (tInis K r)
theorem inis_go {K : PySem.W.Frag} {C a d : Addr} (T : OexC K C) : ∀ (r : List (Str × Nat)) (ys : List V) (fs0 : List (Str × V)) (De : L2.Ends) (σ : L2.St) (H : Hp), (∀ q : Str × Nat, q ∈ r → PySem.W.findIn K (.ref C) q.1 = some none) → fs0.length + r.length ≤ 900 →
    r.length = ys.length → σ[0]? = some (some (.ref a)) → (∀ (k : Nat) (q : Str × Nat) (y : V), r[k]? = some q → ys[k]? = some y → σ[q.2]? = some (some y)) → H a = some (exo a C (some d)) → H d = some (exd d fs0) → d ≠ a →
    (∀ H', H' a = some (exo a C (some d)) → H' d = some (exd d (((r.map (·.1)).zip ys).reverse ++ fs0)) → (∀ b, b ≠ a → b ≠ d → H' b = H b) → De.nx σ H') → tInis K r De σ H
  | [], [], fs0, De, σ, H, _, _, _, _, _, ha, hd, _, q => q H ha (by simpa using hd) fun _ _ _ => rfl
  | [], _ :: _, _, _, _, _, _, _, hl, _, _, _, _, _, _ => by simp at hl
  | _ :: _, [], _, _, _, _, _, _, hl, _, _, _, _, _, _ => by simp at hl
  | (f, i) :: r, y :: ys, fs0, De, σ, H, hn, hz, hl, h0, hv, ha, hd, hne, q => by
    simp only [List.length_cons] at hz hl
    have hi := hv 0 (f, i) y rfl rfl
    refine ⟨y, hi, .ref a, h0, a, C, rfl, T, hn (f, i) List.mem_cons_self, .inr ⟨d, fs0, ha, hd, by omega, ?_⟩⟩
    refine inis_go T r ys ((f, y) :: fs0) De σ _ (fun q hq => hn q (List.mem_cons_of_mem _ hq)) (by simp only [List.length_cons]; omega) (by omega) h0 (fun k q y hk hy => hv (k + 1) q y hk hy) (by rw [upd_ne (Ne.symm hne)]; exact ha) upd_same hne fun H' h1 h2 h3 => ?_
    refine q H' h1 ?_ fun b hb hbd => by rw [h3 b hb hbd, upd_ne hbd]
    rw [h2]
    simp
theorem ini_ok {P : Program} {w : World} {K : PySem.W.Frag} {mg : Str → Option Value} {base : Heap} {qual : Str} {st : Stmt} {fI C : Addr} {fd : FuncData} {fs : List Str} {f1 : Str} {r : List Str} (hfs : fs = f1 :: r) (T : OexC K C) (hn : ∀ f ∈ fs, PySem.W.findIn K (.ref C) f = some none) (hl : fs.length ≤ 800)
    (Fn : Fun K "__init__" qual st fI fd) {ps : List Str} (S : FnScope ps ps (defScope st)) (hp : ps.length = fs.length + 1)
    (hbody : ∀ X : Cx, X.K = K → X.N = ps → X.env.scope = defScope st → PSs X (defBody st) (tInis K (fs.zip (List.range' 1 fs.length)))) : FnOk P w K mg base CX0 1 fI fd ps (spIni C fs) := by
  refine Fn.ok S (fun vs H Q E h => ?_) (fun cdv Ar outer s H vs Q E hr h => ⟨_, hbody _ rfl rfl rfl, ?_⟩)
  · obtain ⟨a, ys, rfl, hy, _⟩ := h
    simp only [List.length_cons]; omega
  · obtain ⟨a, ys, rfl, hy, ha, q⟩ := h
    subst hfs
    match ys, hy with
    | y :: ys, hy =>
      simp only [List.length_cons] at hy hl hp
      have hs : L2.start ps (V.ref a :: y :: ys) = some (V.ref a) :: some y :: ys.map some := by
        unfold L2.start
        rw [show ps.length - (V.ref a :: y :: ys).length = 0 by simp only [List.length_cons]; omega]
        simp
      rw [hs]
      show tSeq (tOst K f1 (tVar 0) (tVar 1)) (tInis K (r.zip (List.range' 2 r.length))) _ _ _
      refine ⟨y, rfl, .ref a, rfl, a, C, rfl, T, hn f1 List.mem_cons_self, .inl ⟨ha, fun d hd hne => ?_⟩⟩
      refine inis_go T _ ys [(f1, y)] _ _ _ (fun q hq => hn q.1 (List.mem_cons_of_mem _ (List.of_mem_zip hq).1)) (by simp; omega) (by simp; omega) rfl (fun k q z hk hz => ?_) upd_same (by rw [upd_ne hne]; exact upd_same) hne fun H' h1 h2 h3 => ?_
      · obtain ⟨u1, u2⟩ := List.getElem?_eq_some_iff.mp hk
        simp at u1 u2
        have e2 : q.2 = 2 + k := by rw [← u2]
        rw [e2, show 2 + k = k + 1 + 1 by omega]
        simp [hz]
      · refine q d H' hd hne h1 ?_ fun b hb hbd => by rw [h3 b hb hbd, upd_ne hb, upd_ne hbd]
        have e3 : (r.zip (List.range' 2 r.length)).map (·.1) = r := List.map_fst_zip (by simp)
        rw [h2, e3]
        unfold putBk
        rw [List.zip_cons_cons, List.reverse_cons]
    | [], hy => simp at hy
end DL

set_option Elab.async false
set_option autoImplicit false
set_option linter.all false
set_option maxRecDepth 100000
/-! KX2: isinstance of a caught error that has fields. -/
namespace KX
open PySem PySem.Spec PySem.W PyProof.Rows L2
section
variable {K : Frag} {x D : Addr} {ox : Obj}
theorem class_is {cls : Addr} (h : hasDictIn K cls = true) : ∃ c d cd sl, K.lookup cls = some ⟨c, d, .cls cd, sl⟩ := by
  obtain ⟨cdD, hcD, _⟩ := any_some h
  unfold clsIn at hcD
  split at hcD
  · rename_i c' d' cd' sl' ho; exact ⟨_, _, _, _, ho⟩
  · cases hcD
theorem kitx_fields (T : ExcC K D) : KitX K (.ref x) (.ref D) (fun h => ∃ od, InstAt h x ox D od) where
  ty := fun _ _ _ ⟨_, I⟩ => I.type
  it := fun _ _ X _ => by
    obtain ⟨_, _, _, _, ho⟩ := class_is T.hd
    intro A' Q' E' s' k q
    unfold isType loadHead
    exact wpAny_bind (wpAny_loadPart (k _ _ (X _ _ ho)) (wpAny_pure q))
  ne := fun h tp dd its n sl X htp => by
    obtain ⟨_, _, _, _, ho⟩ := class_is T.hd
    refine Bool.eq_false_iff.mpr fun q => ?_
    obtain rfl : D = tp := Value.ref.inj (beq_iff_eq.mp q)
    cases (X _ _ ho).symm.trans htp
  ca := fun X ⟨od, I⟩ k => kx_classE X I T.hg T.hk T.hs (findObj_dataE (by obtain ⟨cd, hc, _⟩ := any_some T.hd; rw [hc]; rfl) T.ha T.hn T.ht) T.hm k
end
def rIsF (K : Frag) (D a : Addr) (d : Option Addr) : List V → Hp → VK → Prop := fun xs H Q => ∃ (c : V) (cv : Value) (b : Bool) (dd : Addr) (fs : List (Str × V)), xs = [.ref a, c] ∧ (∀ u, RelV c u → u = cv) ∧ d = some dd ∧ H dd = some (.xd fs) ∧ kitOne K (.ref D) cv = some b ∧ Q (.bl b) H
theorem call_isF {X : Cx} {a D : Addr} {oe : Obj} {d : Option Addr} {pn : List (Addr × Obj)} (C : ExcC X.K D) (hz : Zc (.ref D) d oe) (hf : ∃ vs, oe.data = .fields vs) : CallR (X.suite a ((a, oe) :: pn)) (.builtin "isinstance") (rIsF X.K D a d) := by
  intro pins s σ H xs us Q I r h
  obtain ⟨c, cv, b, dd, fs, rfl, hcv, ed, ea, e, q⟩ := h
  subst ed
  cases r with
  | cons rx rr =>
    cases rr with
    | cons rt rr =>
      cases rr
      cases rx
      have ec := hcv _ rt
      subst ec
      obtain ⟨hget, _⟩ := I.pin (a, oe) (List.mem_append.mpr (.inl List.mem_cons_self))
      obtain ⟨vs, hv⟩ := hf
      obtain ⟨mA, hns, _⟩ : ObjOk X.prog X.w H s.heap dd (.xd fs) := I.hok dd _ ea
      obtain ⟨od, ho, _⟩ := lookIn_ns hns
      have J : InstAt s.heap a oe D (some od) := ⟨hget, hz.1, by unfold notCls; rw [hv] <;> rfl, by rw [hz.2]; exact ho⟩
      exact kia_one (kitx_fields C) I.kIn ⟨_, J⟩ e (fun z => nomatch z) fun tk => ⟨.bl b, H, I.kept (t' := tk) fun _ _ z => z, rfl, q⟩
end KX

set_option autoImplicit false
set_option Elab.async false
set_option linter.all false
set_option maxRecDepth 100000
/-! DL: try .. except X as e: suites that read the error. -/
namespace DL
open PySem PySem.Spec PyProof.Rows L2
structure HRead (X : Cx) (i : Nat) (cs : List Str) (a : Addr) (cls : Value) (d : Option Addr) (G F H : Hp) (σ : L2.St) (env : DEnv) (fp : Fp) (x : Exc) : Prop where
  ss : SS X.K G F H σ env fp
  at_ : σ[i]? = some (some (.ref a))
  rep : RepX X.K X.mg F H x cls d
  mem : x.cls ∈ cs
section
variable {X : Cx} {i : Nat} {cs : List Str}
def HE (X : Cx) (i : Nat) (cs : List Str) (m : Exc → DEnv → Option D) (e : Expr) : Prop := ∀ (a : Addr) (cls : Value) (d : Option Addr), ∃ t : TE, (∀ (oe : Obj) (pn : List (Addr × Obj)), Zc cls d oe → (∃ vs, oe.data = .fields vs) → PE (X.suite a ((a, oe) :: pn)) e t) ∧
  ∀ G F H σ env fp x dd, HRead X i cs a cls d G F H σ env fp x → m x env = some dd → ∀ Q : VK, (∀ v, Rep X.K F dd v → Q v H) → t σ H Q
def HB (X : Cx) (i : Nat) (cs : List Str) (m : Exc → DEnv → Option Bool) (e : Expr) : Prop := ∀ (a : Addr) (cls : Value) (d : Option Addr), ∃ t : TT, (∀ (oe : Obj) (pn : List (Addr × Obj)), Zc cls d oe → (∃ vs, oe.data = .fields vs) → PT (X.suite a ((a, oe) :: pn)) e t) ∧
  ∀ G F H σ env fp x b, HRead X i cs a cls d G F H σ env fp x → m x env = some b → ∀ Q : Bool → Hp → Prop, Q b H → t σ H Q
def HBs (X : Cx) (i : Nat) (cs : List Str) (m : Exc → DEnv → Option Bool) (op : BoolOp) (es : List Expr) : Prop := ∀ (pos : Pos) (a : Addr) (cls : Value) (d : Option Addr), ∃ t : TT, (∀ (oe : Obj) (pn : List (Addr × Obj)), Zc cls d oe → (∃ vs, oe.data = .fields vs) → PW (X.suite a ((a, oe) :: pn)) (.BoolOp op es pos) t) ∧
  ∀ G F H σ env fp x b, HRead X i cs a cls d G F H σ env fp x → m x env = some b → ∀ Q : Bool → Hp → Prop, Q b H → t σ H Q
def HA (X : Cx) (i : Nat) (cs : List Str) (m : Exc → DEnv → Option (List D)) (es : List Expr) : Prop := ∀ (a : Addr) (cls : Value) (d : Option Addr), ∃ t : TA, (∀ (oe : Obj) (pn : List (Addr × Obj)), Zc cls d oe → (∃ vs, oe.data = .fields vs) → PA (X.suite a ((a, oe) :: pn)) es t) ∧
  ∀ G F H σ env fp x ds, HRead X i cs a cls d G F H σ env fp x → m x env = some ds → ∀ Q : List V → Hp → Prop, (∀ vs, Reps X.K F ds vs → Q vs H) → t σ H Q
def HS (X : Cx) (i : Nat) (cs : List Str) (m : Exc → MS) (sts : List Stmt) : Prop := ∀ (a : Addr) (cls : Value) (d : Option Addr), ∃ t : TS, (∀ (oe : Obj) (pn : List (Addr × Obj)), Zc cls d oe → (∃ vs, oe.data = .fields vs) → PSs (X.suite a ((a, oe) :: pn)) sts t) ∧
  ∀ G F H σ env fp x De, HRead X i cs a cls d G F H σ env fp x → RGS X.K X.mg W0 G F [] σ De (m x env) → t De σ H
theorem he_const {e : Expr} {d : D} {v : V} (h : ∀ Y : Cx, PE Y e (tC v)) (r : ∀ K F, Rep K F d v) : HE X i cs (fun _ _ => some d) e := fun a cls dd =>
  ⟨_, fun _ _ _ _ => h _, fun G F H σ env fp x d' _ e Q q => by cases e; exact q _ (r _ _)⟩
theorem he_int {z : Int} {j pos} : HE X i cs (fun _ _ => some (.int z)) (.Constant (.int z) j pos) := he_const (fun _ => pe_int) fun _ _ => .int z
theorem he_bl {b : Bool} {j pos} : HE X i cs (fun _ _ => some (.bl b)) (.Constant (.bool b) j pos) := he_const (fun _ => pe_bl) fun _ _ => .bl b
theorem he_non {j pos} : HE X i cs (fun _ _ => some .non) (.Constant .none j pos) := he_const (fun _ => pe_non) fun _ _ => .non
theorem he_str {x : Str} {j pos} : HE X i cs (fun _ _ => some (.str x)) (.Constant (.str x) j pos) := he_const (fun _ => pe_str) fun _ _ => .str x
theorem he_var {e : Expr} (j : Nat) (h : ∀ (a : Addr) (oe : Obj) (pn : List (Addr × Obj)), PE (X.suite a ((a, oe) :: pn)) e (tVar j)) : HE X i cs (fun _ env => get0 env j) e := fun a cls d =>
  ⟨_, fun oe pn _ _ => h a oe pn, fun G F H σ env fp x dd hr e Q q => by
    obtain ⟨v, hv, r⟩ := hr.ss.slot j 0 dd ((get0_eq env j dd).mp e)
    exact ⟨v, hv, q v r⟩⟩
theorem zip_look {K : PySem.W.Frag} {F : Hp} {f : Str} {dd : D} : ∀ {as : List (Str × D)} {fs : List (Str × V)}, as.map (·.1) = fs.map (·.1) → Reps K F (as.map (·.2)) (fs.map (·.2)) → as.lookup f = some dd → ∃ v, fs.lookup f = some v ∧ Rep K F dd v
  | [], _, _, _, h => by cases h
  | (g, d) :: as, [], h, _, _ => by simp at h
  | (g, d) :: as, (g', v) :: fs, h, r, l => by
    simp only [List.map_cons, List.cons.injEq] at h
    obtain ⟨rfl, h⟩ := h
    obtain ⟨r1, r2⟩ : Rep K F d v ∧ Reps K F (as.map (·.2)) (fs.map (·.2)) := by
      cases r with
      | cons a b => exact ⟨a, b⟩
    rw [List.lookup_cons] at l ⊢
    cases hg : f == g with
    | true => rw [hg] at l; cases l; exact ⟨v, rfl, r1⟩
    | false => rw [hg] at l; exact zip_look h r2 l
/-- e.f -/
theorem he_fld {e : Expr} {f : Str} {pos : Pos} (hx : ∀ c ∈ cs, ∃ C, X.mg c = some (.ref C) ∧ XfC X.K C ∧ PySem.W.findIn X.K (.ref C) f = some none) (h : ∀ (a : Addr) (oe : Obj) (pn : List (Addr × Obj)), PE (X.suite a ((a, oe) :: pn)) e (tVar i))
    (hb : attributeBase e f X.env (eval e X.env) = eval e X.env := by rfl) : HE X i cs (fun x _ => x.args.lookup f) (.Attribute e f pos) := fun a cls d => by
  by_cases hC : ∃ C, cls = .ref C ∧ XfC X.K C ∧ PySem.W.findIn X.K (.ref C) f = some none
  · obtain ⟨C, rfl, T, hno⟩ := hC
    refine ⟨_, fun oe pn hz hf => pe_xf T hno hz hf (h a oe pn) hb, fun G F H σ env fp x dd hr em Q q => ?_⟩
    obtain ⟨C', dd', fs, r1, r2, r3, r4, r5, r6⟩ := hr.rep
    obtain ⟨v, hv, rv⟩ := zip_look r5 r6 em
    exact ⟨_, hr.at_, rfl, rfl, dd', fs, v, r3, r4, hv, q v rv⟩
  · refine ⟨fun _ _ _ => False, fun _ _ _ _ => ⟨fun _ _ _ _ _ _ h => h.elim⟩, fun G F H σ env fp x dd hr em Q q => ?_⟩
    obtain ⟨C', dd', fs, r1, r2, r3, r4, r5, r6⟩ := hr.rep
    obtain ⟨C, k1, k2, k3⟩ := hx _ hr.mem
    rw [r1] at k1
    cases k1
    exact hC ⟨_, r2, k2, k3⟩
/-- isinstance(e, Y), Y a class by its name: tab says it -/
theorem hb_isI {e y : Expr} {tab : Str → Option Bool} {yv : V} {yu : Value} {p pos : Pos} (hy : ∀ u, RelV yv u → u = yu) (hx : ∀ c ∈ cs, ∀ b, tab c = some b → ∃ C, X.mg c = some (.ref C) ∧ ExcC X.K C ∧ PySem.W.kitOne X.K (.ref C) yu = some b)
    (h : ∀ (a : Addr) (oe : Obj) (pn : List (Addr × Obj)), PE (X.suite a ((a, oe) :: pn)) e (tVar i)) (hY : ∀ (a : Addr) (oe : Obj) (pn : List (Addr × Obj)), PE (X.suite a ((a, oe) :: pn)) y (tC yv))
    (hg : Gl X "isinstance") (hm : X.mg "isinstance" = none) (s1 : starEach [y] X.env = (false, eval y X.env) :: starEach [] X.env := by rfl) (s2 : starEach [e, y] X.env = (false, eval e X.env) :: starEach [y] X.env := by rfl) (s3 : (backTo pos (starEach [y] X.env)).any (·.1) = false := by rfl) : HB X i cs (fun x _ => tab x.cls) (.Call (.Name "isinstance" p) [e, y] [] pos) := fun a cls d => by
  by_cases hC : ∃ C, cls = .ref C ∧ ExcC X.K C
  · obtain ⟨C, rfl, T⟩ := hC
    refine ⟨fun σ H Q => tCB (KX.rIsF X.K C a d) (tCons (tVar i) (tCons (tC yv) tNil)) σ H fun x H' => ∃ k, TruV X.K x H' k ∧ Q k H', fun oe pn hz hf => pt_truth (X := X.suite a ((a, oe) :: pn)) (pe_callB (X := X.suite a ((a, oe) :: pn)) (KX.call_isF T hz hf) hg hm (by decide +kernel) (pa_cons (h a oe pn) (pa_cons (hY a oe pn) pa_nil s1) s2) (by decide) (by decide) s2 s3) (by intro _; rfl), fun G F H σ env fp x b hr em Q q => ?_⟩
    obtain ⟨C', dd', fs, r1, r2, r3, r4, r5, r6⟩ := hr.rep
    obtain ⟨C'', k1, k2, k3⟩ := hx _ hr.mem b em
    rw [r1] at k1
    cases k1
    cases r2
    exact ⟨_, hr.at_, yv, yu, b, dd', fs, rfl, hy, r3, r4, k3, b, truthD_ok (F := F) hr.ss.sf (.bl b) rfl, q⟩
  · refine ⟨fun _ _ _ => False, fun _ _ _ _ => ⟨fun _ _ _ _ _ _ h => h.elim⟩, fun G F H σ env fp x b hr em Q q => ?_⟩
    obtain ⟨C', dd', fs, r1, r2, r3, r4, r5, r6⟩ := hr.rep
    obtain ⟨C, k1, k2, k3⟩ := hx _ hr.mem b em
    rw [r1] at k1
    cases k1
    exact hC ⟨_, r2, k2⟩
theorem hb_not {c : Expr} {m : Exc → DEnv → Option Bool} {pos : Pos} (h : HB X i cs m c) : HB X i cs (fun x env => (m x env).map (!·)) (.UnaryOp .Not c pos) := fun a cls d => by
  obtain ⟨t, ht, hr⟩ := h a cls d
  refine ⟨_, fun oe pn hz hf => pt_not (ht oe pn hz hf), fun G F H σ env fp x b hh em Q q => ?_⟩
  obtain ⟨b', e, rfl⟩ := Option.map_eq_some_iff.mp em
  exact hr G F H σ env fp x b' hh e _ q
theorem hbs_and1 {c : Expr} {m : Exc → DEnv → Option Bool} (h : HB X i cs m c) : HBs X i cs m .And [c] := fun pos a cls d => by
  obtain ⟨t, ht, hr⟩ := h a cls d
  exact ⟨t, fun oe pn hz hf => pw_and1 (ht oe pn hz hf), hr⟩
theorem hbs_or1 {c : Expr} {m : Exc → DEnv → Option Bool} (h : HB X i cs m c) : HBs X i cs m .Or [c] := fun pos a cls d => by
  obtain ⟨t, ht, hr⟩ := h a cls d
  exact ⟨t, fun oe pn hz hf => pw_or1 (ht oe pn hz hf), hr⟩
def hAnd (m1 m2 : Exc → DEnv → Option Bool) : Exc → DEnv → Option Bool := fun x env => (m1 x env).bind fun b => if b = true then m2 x env else some false
def hOr (m1 m2 : Exc → DEnv → Option Bool) : Exc → DEnv → Option Bool := fun x env => (m1 x env).bind fun b => if b = true then some true else m2 x env
theorem hbs_and {c c2 : Expr} {rest : List Expr} {m1 m2 : Exc → DEnv → Option Bool} (h1 : HB X i cs m1 c) (h2 : HBs X i cs m2 .And (c2 :: rest)) : HBs X i cs (hAnd m1 m2) .And (c :: c2 :: rest) := fun pos a cls d => by
  obtain ⟨t1, ht1, r1⟩ := h1 a cls d
  obtain ⟨t2, ht2, r2⟩ := h2 pos a cls d
  refine ⟨_, fun oe pn hz hf => pw_and (ht1 oe pn hz hf) (ht2 oe pn hz hf), fun G F H σ env fp x b hh em Q q => ?_⟩
  obtain ⟨b', e, em⟩ := Option.bind_eq_some_iff.mp em
  refine r1 G F H σ env fp x b' hh e _ ?_
  cases b' with
  | true => exact r2 G F H σ env fp x b hh em _ q
  | false => cases em; exact q
theorem hbs_or {c c2 : Expr} {rest : List Expr} {m1 m2 : Exc → DEnv → Option Bool} (h1 : HB X i cs m1 c) (h2 : HBs X i cs m2 .Or (c2 :: rest)) : HBs X i cs (hOr m1 m2) .Or (c :: c2 :: rest) := fun pos a cls d => by
  obtain ⟨t1, ht1, r1⟩ := h1 a cls d
  obtain ⟨t2, ht2, r2⟩ := h2 pos a cls d
  refine ⟨_, fun oe pn hz hf => pw_or (ht1 oe pn hz hf) (ht2 oe pn hz hf), fun G F H σ env fp x b hh em Q q => ?_⟩
  obtain ⟨b', e, em⟩ := Option.bind_eq_some_iff.mp em
  refine r1 G F H σ env fp x b' hh e _ ?_
  cases b' with
  | true => cases em; exact q
  | false => exact r2 G F H σ env fp x b hh em _ q
theorem hb_bop {op : BoolOp} {es : List Expr} {m : Exc → DEnv → Option Bool} {pos : Pos} (h : HBs X i cs m op es) : HB X i cs m (.BoolOp op es pos) := fun a cls d => by
  obtain ⟨t, ht, hr⟩ := h pos a cls d
  exact ⟨t, fun oe pn hz hf => (ht oe pn hz hf).pt, hr⟩
theorem ha_nil : HA X i cs (fun _ _ => some []) [] := fun a cls d => ⟨_, fun _ _ _ _ => pa_nil, fun G F H σ env fp x ds _ e Q q => by cases e; exact q _ .nil⟩
theorem ha_cons {e : Expr} {es : List Expr} {m : Exc → DEnv → Option D} {ms : Exc → DEnv → Option (List D)} (h : HE X i cs m e) (hs : HA X i cs ms es) (hst : starEach (e :: es) X.env = (false, eval e X.env) :: starEach es X.env := by rfl) :
    HA X i cs (fun x env => (m x env).bind fun d => (ms x env).map (d :: ·)) (e :: es) := fun a cls d => by
  obtain ⟨t1, ht1, r1⟩ := h a cls d
  obtain ⟨t2, ht2, r2⟩ := hs a cls d
  refine ⟨_, fun oe pn hz hf => pa_cons (ht1 oe pn hz hf) (ht2 oe pn hz hf) hst, fun G F H σ env fp x ds hh em Q q => ?_⟩
  obtain ⟨dd, e1, em⟩ := Option.bind_eq_some_iff.mp em
  obtain ⟨l, e2, rfl⟩ := Option.map_eq_some_iff.mp em
  exact r1 G F H σ env fp x dd hh e1 _ fun v rv => r2 G F H σ env fp x l hh e2 _ fun vs rs => q _ (.cons rv rs)
/-! statements of a suite -/
def hRet (m : Exc → DEnv → Option D) : Exc → MS := fun x env => match m x env with
  | some d => .ret 0 d env
  | none => .stuck
def hRetT (m : Exc → DEnv → Option (List D)) : Exc → MS := fun x env => match m x env with
  | some ds => if ds.length ≤ 1000 then .ret 0 (.tup ds) env else .stuck
  | none => .stuck
def hIf (c : Exc → DEnv → Option Bool) (m1 m2 : Exc → MS) : Exc → MS := fun x env => match c x env with
  | some b => if b = true then m1 x env else m2 x env
  | none => .stuck
theorem hs_ret {e : Expr} {m : Exc → DEnv → Option D} {pos : Pos} (h : HE X i cs m e) : HS X i cs (hRet m) [.Return (some e) pos] := fun a cls d => by
  obtain ⟨t, ht, hr⟩ := h a cls d
  refine ⟨_, fun oe pn hz hf => pss_one (ps_ret (ht oe pn hz hf)), fun G F H σ env fp x De hh q => ?_⟩
  unfold hRet at q
  cases em : m x env with
  | none => rw [em] at q; exact q.elim
  | some dd =>
    rw [em] at q
    exact hr G F H σ env fp x dd hh em _ fun v rv => q v σ F H fp _ (Agree.refl _ _) (SV.of_rep hh.ss rv) .refl
theorem hs_retT {es : List Expr} {m : Exc → DEnv → Option (List D)} {x1} {pos pos2 : Pos} (h : HA X i cs m es) : HS X i cs (hRetT m) [.Return (some (.Tuple es x1 pos)) pos2] := fun a cls d => by
  obtain ⟨t, ht, hr⟩ := h a cls d
  refine ⟨_, fun oe pn hz hf => pss_one (ps_ret (pe_tup (ht oe pn hz hf))), fun G F H σ env fp x De hh q => ?_⟩
  unfold hRetT at q
  cases em : m x env with
  | none => rw [em] at q; exact q.elim
  | some ds =>
    rw [em] at q
    dsimp only at q
    split at q
    · rename_i hl
      refine hr G F H σ env fp x ds hh em _ fun vs rv => ⟨by rw [← rv.length]; exact le_line hl, fun p hp => ?_⟩
      obtain ⟨sv, f2⟩ := hh.ss.new (NewV.tup hh.ss.sf hp rv)
      exact q _ σ _ _ _ _ (Agree.refl _ _) sv f2
    · exact q.elim
/-- if ..: .. (that leaves); rest -/
theorem hs_if {c : Expr} {b rest : List Stmt} {mc : Exc → DEnv → Option Bool} {m1 m2 : Exc → MS} {pos : Pos} (hc : HB X i cs mc c) (h1 : HS X i cs m1 b) (hret : ∀ x env, ∃ n d e, m1 x env = .ret n d e ∨ m1 x env = .stuck) (h2 : HS X i cs m2 rest) : HS X i cs (hIf mc m1 m2) (.If c b [] pos :: rest) := fun a cls d => by
  obtain ⟨t, ht, hr⟩ := hc a cls d
  obtain ⟨t1, ht1, r1⟩ := h1 a cls d
  obtain ⟨t2, ht2, r2⟩ := h2 a cls d
  refine ⟨_, fun oe pn hz hf => pss_cons (ps_if (ht oe pn hz hf) (ht1 oe pn hz hf) pss_nil) (ht2 oe pn hz hf), fun G F H σ env fp x De hh q => ?_⟩
  unfold hIf at q
  cases em : mc x env with
  | none => rw [em] at q; exact q.elim
  | some bb =>
    rw [em] at q
    dsimp only at q
    refine hr G F H σ env fp x bb hh em _ ?_
    cases bb with
    | true =>
      refine r1 G F H σ env fp x _ hh ?_
      obtain ⟨n, dd, e, z | z⟩ := hret x env
      · simp only [if_true] at q
        rw [z] at q ⊢; exact q
      · simp only [if_true] at q
        rw [z] at q; exact q.elim
    | false => exact r2 G F H σ env fp x _ hh q
/-! try: body; except X as e: suite -/
def unE (i : Nat) : OutS → OutS
  | .nx e => .nx (e.set i none)
  | .ret n d e => .ret n d (e.set i none)
  | .brk e => .brk (e.set i none)
  | .cont e => .cont (e.set i none)
  | o => .stuck
def mTry (i : Nat) (cs ns : List Str) (mb : MS) (mh : Exc → MS) : MS := fun env => match mb env with
  | .exc x e => if x.cls ∈ cs then (if i < e.length then unE i (mh x (e.set i none)) else .stuck) else if x.cls ∈ ns then .exc x e else .stuck
  | o => o
theorem SS.freeS {K : PySem.W.Frag} {G F H : Hp} {σ : L2.St} {env : DEnv} {fp : Fp} (i : Nat) (v : Option V) (s : SS K G F H σ env fp) : SS K G F H (σ.set i v) (env.set i none) (fun j a => j ≠ i ∧ fp j a) where
  len := by rw [List.length_set, List.length_set]; exact s.len
  slot := fun j n d q => by
    by_cases h : i = j
    · subst h
      by_cases hl : i < env.length
      · rw [List.getElem?_set_self hl] at q; cases q
      · rw [List.getElem?_eq_none (by simpa using hl)] at q; cases q
    · obtain ⟨w, h1, h2⟩ := (s.drop i).slot j n d q
      exact ⟨w, by rw [List.getElem?_set_ne h]; exact h1, h2⟩
  dis := (s.drop i).dis
  ld := (s.drop i).ld
  nf := (s.drop i).nf
  ng := (s.drop i).ng
  sf := s.sf
  sg := s.sg
theorem ds_try {W : WX} {ns : List Str} {Ab : List Nat} {x n : Str} {c : Value} {mb : MS} {mh : Exc → MS} {body suite : List Stmt} {b₀ : Stmt} {np pos pos' : Pos} (hs : X.stack = X.env :: X.outer) (hf : X.env.frame = some X.env.locals) (hN : X.N.Nodup) (hi : X.N[i]? = some n) (hln : X.env.kindOf n = some .local) (hc : Names X x c)
    (hyes : ∀ k ∈ cs, ∃ C, X.mg k = some (.ref C) ∧ PySem.W.exmOne X.K (.ref C) c = some true) (hno : ∀ k ∈ ns, ∃ C, X.mg k = some (.ref C) ∧ PySem.W.exmOne X.K (.ref C) c = some false) (tk : Takes X W)
    (hb : ∀ (W : WX) (pn : List (Addr × Obj)) (xe : Value → Shared → Prop), Takes (X.tr pn xe) W → PassesOwn (model X.prog X.w) X.A X.env xe → DSs (X.tr pn xe) W Ab mb body)
    (hsu : HS X i cs mh (b₀ :: suite)) : DS X W (i :: Ab) (mTry i cs ns mb mh) (.Try body [.ExceptHandler (some (.Name x np)) (some n) (b₀ :: suite) pos'] [] [] pos) := by
  refine PS.to (ps_try_as (tb := fun W => tS X.K X.mg W Ab mb) (ts := fun a cls d => Classical.choose (hsu a cls d)) hs hf hN hi hln hc tk hb fun a oe cls d pn hz hv => (Classical.choose_spec (hsu a cls d)).1 oe pn hz hv) fun De σ H ⟨G, F, env, fp, s, h⟩ => ?_
  refine ⟨G, F, env, fp, s, ?_⟩
  unfold mTry at h
  have up : ∀ {σ'}, Agree Ab σ σ' → Agree (i :: Ab) σ σ' := fun a => a.mono fun _ z => List.mem_cons_of_mem _ z
  cases em : mb env with
  | nx e => rw [em] at h; exact fun σ' F' H' fp' a s' fe => h σ' F' H' fp' (up a) s' fe
  | brk e => rw [em] at h; exact fun σ' F' H' fp' a s' fe => h σ' F' H' fp' (up a) s' fe
  | cont e => rw [em] at h; exact fun σ' F' H' fp' a s' fe => h σ' F' H' fp' (up a) s' fe
  | ret m d e => rw [em] at h; exact fun v σ' F' H' fp' S a s' fe => h v σ' F' H' fp' S (up a) s' fe
  | stuck => rw [em] at h; exact h.elim
  | exc y e =>
    rw [em] at h
    dsimp only at h
    intro cl dd σ' F' H' fp' ag s' fe rx
    obtain ⟨C, d0, fs, r1, r2, r3⟩ := id rx
    by_cases hy : y.cls ∈ cs
    · rw [if_pos hy] at h
      obtain ⟨C', k1, k2⟩ := hyes _ hy
      rw [r1] at k1
      cases k1
      refine ⟨true, by rw [r2]; exact k2, fun _ a ha => ?_, (fun z => by cases z)⟩
      have hlen : i < e.length := by
        by_cases z : i < e.length
        · exact z
        · rw [if_neg z] at h; exact h.elim
      rw [if_pos hlen] at h
      have il : i < σ'.length := by rw [← s'.len]; exact hlen
      refine (Classical.choose_spec (hsu a cl dd)).2 G F' H' (σ'.set i (some (.ref a))) (e.set i none) _ y _ ⟨s'.freeS i _, by rw [List.getElem?_set_self il], rx, hy⟩ ?_
      have ag' : ∀ {σ2 : L2.St} (v : Option V), Agree [] (σ'.set i (some (.ref a))) σ2 → Agree (i :: Ab) σ (σ2.set i v) := fun {σ2} v a2 =>
        (up ag).trans ((Agree.set σ' i _).trans (a2.trans (Agree.set σ2 i v) (A := [i]) (by simp) (by simp)) (A := i :: Ab) (by simp) (by simp)) (fun _ z => z) (fun _ z => z)
      unfold unE at h
      cases eh : mh y (e.set i none) with
      | nx e2 => rw [eh] at h; exact fun σ2 F2 H2 fp2 a2 s2 f2 => h (σ2.set i none) F2 H2 _ (ag' none a2) (s2.freeS i none) (fe.trans f2)
      | brk e2 => rw [eh] at h; exact fun σ2 F2 H2 fp2 a2 s2 f2 => h (σ2.set i none) F2 H2 _ (ag' none a2) (s2.freeS i none) (fe.trans f2)
      | cont e2 => rw [eh] at h; exact fun σ2 F2 H2 fp2 a2 s2 f2 => h (σ2.set i none) F2 H2 _ (ag' none a2) (s2.freeS i none) (fe.trans f2)
      | ret m d e2 =>
        rw [eh] at h
        exact fun v σ2 F2 H2 fp2 S a2 s2 f2 => h v (σ2.set i none) F2 H2 _ S (ag' none a2) ⟨s2.ss.freeS i none, s2.val, s2.vld, s2.vnf, s2.vng, fun j b z w => s2.vdis j b z w.2⟩ (fe.trans f2)
      | exc z e2 => rw [eh] at h; exact h.elim
      | stuck => rw [eh] at h; exact h.elim
    · rw [if_neg hy] at h
      by_cases hn : y.cls ∈ ns
      · rw [if_pos hn] at h
        obtain ⟨C', k1, k2⟩ := hno _ hn
        rw [r1] at k1
        cases k1
        exact ⟨false, by rw [r2]; exact k2, (fun z => by cases z), fun _ => h cl dd σ' F' H' fp' (up ag) s' fe rx⟩
      · rw [if_neg hn] at h; exact h.elim
end
end DL

set_option autoImplicit false
set_option Elab.async false
set_option linter.all false
set_option maxRecDepth 100000
/-! DL: empty dicts; a loop over a text. -/
namespace DL
open PySem PySem.Spec PyProof.Rows L2
section
variable {X : Cx} {W : WX}
def mDK0 : ME := fun env => .ok (1, .dK []) env
def mDT0 : ME := fun env => .ok (1, .dT []) env
theorem de_dK0 {pos : Pos} : DE X W mDK0 (.Dict [] [] pos) := by
  refine PE.to pe_dnewK fun σ H Q ⟨G, F, env, fp, s, h⟩ p hp => ?_
  obtain ⟨sv, f2⟩ := s.new (NewV.dK (kvs := []) (kws := []) s.sf hp rfl .nil)
  exact h _ _ _ fp _ sv f2
theorem de_dT0 {pos : Pos} : DE X W mDT0 (.Dict [] [] pos) := by
  refine PE.to pe_dnewT fun σ H Q ⟨G, F, env, fp, s, h⟩ p hp => ?_
  obtain ⟨sv, f2⟩ := s.new (NewV.dT (kvs := []) (kws := []) s.sf hp rfl .nil)
  exact h _ _ _ fp _ sv f2
/-- the signs of a text -/
def charsD (x : Str) : List D := x.cps.toList.map fun c => D.str ⟨#[c]⟩
theorem wk_str {K : PySem.W.Frag} {F : Hp} (x : Str) : WkD K (Its x) F (charsD x) where
  go := fun i H F2 e1 e2 hi => by show i < x.cps.size; simpa [charsD] using hi
  stop := fun H F2 e1 e2 => by show x.cps.size ≤ _; simp [charsD]
  yld := fun i H v H' F2 e1 e2 hi ⟨e, c, hc, ev⟩ => by
    subst e
    subst ev
    refine ⟨.str ⟨#[c]⟩, F2, ?_, NewV.of_rep e2 (.str _)⟩
    unfold charsD
    rw [List.getElem?_map, Array.getElem?_toList, hc]; rfl
def mChars (m : ME) : MI := fun env => (m env).bind fun r e => match r.2 with
  | .str x => .ok (charsD x) e
  | _ => .stuck
theorem di_str {tg l : Expr} {m : ME} (h : DE X W m l) : DI X W (mChars m) tg l := by
  refine PI.to (pi_str h) fun σ H R ⟨G, F, env, fp, s, h⟩ => ?_
  refine tE.of s h.bind fun r1 e1 F1 H1 fp1 v1 p1 s1 rep1 fe1 => ?_
  obtain ⟨n, d⟩ := r1
  cases d <;> first | exact p1.elim | skip
  cases Rep.str_inv rep1
  exact ⟨_, rfl, p1 _ F1 H1 fp1 s1 fe1 (wk_str _)⟩
/-- a name of the module that holds a text or a number -/
theorem de_globC {x : Str} {d : D} {v : V} {u : Value} {pos : Pos} (hg : Gl X x) (hm : X.mg x = some u) (r : RelV v u) (rd : ∀ K F, Rep K F d v) (hd : (x == ("__debug__" : Str)) = false := by decide) : DE X W (mC d) (.Name x pos) :=
  de_const (pe_glob hg hm r hd) rd
end
end DL

set_option autoImplicit false
set_option Elab.async false
set_option linter.all false
set_option maxRecDepth 100000
/-! DL: what is never reached; the module's constants, tuples and dicts; displays of dicts; classes of errors by what the top has written. -/
namespace DL
open PySem PySem.Spec PyProof.Rows L2
section
variable {X : Cx} {W : WX}
/-- a statement, an expression that is never reached -/
def mStop : MS := fun _ => .stuck
def mStopE : ME := fun _ => .stuck
theorem ds_stop {st : Stmt} : DS X W [] mStop st := PS.to ps_never fun De σ H ⟨G, F, env, fp, s, h⟩ => h.elim
theorem de_stop {e : Expr} : DE X W mStopE e := PE.to (t := fun _ _ _ => False) ⟨fun _ _ _ _ _ _ h => h.elim⟩ fun σ H Q ⟨G, F, env, fp, s, h⟩ => h.elim
/-! ### constants of the module -/
def GHas (K : PySem.W.Frag) (mg : Str → Option Value) (x : Str) (d : D) : Prop := ∃ v u, mg x = some u ∧ RelV v u ∧ ∀ F, Rep K F d v
theorem de_glob {x : Str} {d : D} {pos : Pos} (hg : Gl X x) (g : GHas X.K X.mg x d) (hd : (x == ("__debug__" : Str)) = false := by decide) : DE X W (mC d) (.Name x pos) := by
  obtain ⟨v, u, hm, r, rd⟩ := g
  exact PE.to (pe_glob hg hm r hd) fun σ H Q ⟨G, F, env, fp, s, q⟩ => q v F H fp _ (SV.of_rep s (rd _)) .refl
mutual
def repB (K : PySem.W.Frag) : Nat → D → Value → Bool
  | _, .int i, .int j _ => decide (j = i)
  | _, .str x, .str y _ => decide (y = x)
  | _, .bl a, .bool b => decide (a = b)
  | _, .non, .none => true
  | n + 1, .tup ds, .ref a => !badK ds && match K.lookup a with
    | some ⟨.type c, _, .seq its _, _⟩ => decide (c = "tuple") && (decide (its.size ≤ 1000) && repsB K n ds its.toList)
    | _ => false
  | _, _, _ => false
def repsB (K : PySem.W.Frag) : Nat → List D → List Value → Bool
  | _, [], [] => true
  | n + 1, d :: ds, u :: us => repB K n d u && repsB K n ds us
  | _, _, _ => false
end
mutual
theorem repB_ok {K : PySem.W.Frag} : ∀ (n : Nat) (d : D) (u : Value), repB K n d u = true → ∃ v, RelV v u ∧ ∀ F, Rep K F d v
  | 0, d, u, h => by
    cases d <;> cases u <;> first | (simp [repB] at h; done) | skip
    · exact ⟨.non, rfl, fun _ => .non⟩
    · rename_i a b; have : a = b := by simpa [repB] using h
      exact ⟨.bl a, by rw [this]; rfl, fun _ => .bl a⟩
    · rename_i i j t; have : j = i := by simpa [repB] using h
      exact ⟨.int i, ⟨t, by rw [this]⟩, fun _ => .int i⟩
    · rename_i x y t; have : y = x := by simpa [repB] using h
      exact ⟨.str x, ⟨t, by rw [this]⟩, fun _ => .str x⟩
  | n + 1, d, u, h => by
    cases d with
    | tup ds =>
      cases u with
      | ref a =>
        unfold repB at h
        obtain ⟨h1, h2⟩ := Bool.and_eq_true_iff.mp h
        split at h2
        · rename_i c dd its nn sl hl
          obtain ⟨h3, h4⟩ := Bool.and_eq_true_iff.mp h2
          obtain ⟨h5, h6⟩ := Bool.and_eq_true_iff.mp h4
          have h3 := of_decide_eq_true h3
          have h5 := of_decide_eq_true h5
          obtain ⟨vs, r1, r2⟩ := repsB_ok n ds its.toList h6
          exact ⟨.ref a, rfl, fun F => .tupK (.inr ⟨_, its, nn, hl, by rw [h3], rfl, le_line h5, r1⟩) (by simpa using h1) (r2 F)⟩
        · cases h2
      | _ => simp [repB] at h
    | non => cases u <;> first | (simp [repB] at h; done) | exact ⟨.non, rfl, fun _ => .non⟩
    | bl a =>
      cases u <;> first | (simp [repB] at h; done) | skip
      rename_i b; have : a = b := by simpa [repB] using h
      exact ⟨.bl a, by rw [this]; rfl, fun _ => .bl a⟩
    | int i =>
      cases u <;> first | (simp [repB] at h; done) | skip
      rename_i j t; have : j = i := by simpa [repB] using h
      exact ⟨.int i, ⟨t, by rw [this]⟩, fun _ => .int i⟩
    | str x =>
      cases u <;> first | (simp [repB] at h; done) | skip
      rename_i y t; have : y = x := by simpa [repB] using h
      exact ⟨.str x, ⟨t, by rw [this]⟩, fun _ => .str x⟩
    | _ => cases u <;> simp [repB] at h
theorem repsB_ok {K : PySem.W.Frag} : ∀ (n : Nat) (ds : List D) (us : List Value), repsB K n ds us = true → ∃ vs, Vals vs us ∧ ∀ F, Reps K F ds vs
  | _, [], [], _ => ⟨[], .nil, fun _ => .nil⟩
  | n + 1, d :: ds, u :: us, h => by
    unfold repsB at h
    obtain ⟨h1, h2⟩ := Bool.and_eq_true_iff.mp h
    obtain ⟨v, a1, a2⟩ := repB_ok n d u h1
    obtain ⟨vs, b1, b2⟩ := repsB_ok n ds us h2
    exact ⟨v :: vs, .cons a1 b1, fun F => .cons (a2 F) (b2 F)⟩
  | 0, _ :: _, _ :: _, h => by simp [repsB] at h
  | 0, _ :: _, [], h => by simp [repsB] at h
  | n + 1, _ :: _, [], h => by simp [repsB] at h
  | 0, [], _ :: _, h => by simp [repsB] at h
  | n + 1, [], _ :: _, h => by simp [repsB] at h
end
def gB (K : PySem.W.Frag) (x : Str) (d : D) : Bool := match PySem.W.nsIn K mainGlobals x with
  | some (some u) => repB K 40 d u
  | _ => false
theorem ghas_mk {K : PySem.W.Frag} {mg : Str → Option Value} {h : Heap} {x : Str} {d : D} (X : K.In h) (G : h.Ns mainGlobals mg) (c : gB K x d = true) : GHas K mg x d := by
  unfold gB at c
  split at c
  · rename_i u e
    obtain ⟨v, r, rd⟩ := repB_ok 40 d u c
    exact ⟨v, u, PySem.W.mg_of X G e, r, rd⟩
  · cases c
/-! ### a dict of the module, its keys texts -/
def GDict (K : PySem.W.Frag) (w : World) (mg : Str → Option Value) (x : Str) (tab : List (Str × D)) : Prop := ∃ a, mg x = some (.ref a) ∧ ∀ z d, tab.lookup z = some d → ∃ v, KDct K w a z v ∧ ∀ F, Rep K F d v
def gdB (K : PySem.W.Frag) (a : Addr) (tab : List (Str × D)) : Bool := tab.all fun q => match PySem.W.nsIn K a q.1 with
  | some (some u) => repB K 40 q.2 u
  | _ => false
theorem mem_of_look {α β : Type} [BEq α] [LawfulBEq α] {z : α} {d : β} : ∀ {l : List (α × β)}, l.lookup z = some d → (z, d) ∈ l
  | [], h => by simp at h
  | (a, b) :: r, h => by
    rw [List.lookup_cons] at h
    split at h
    · rename_i e
      cases h
      have : z = a := by simpa using e
      rw [this]; exact List.mem_cons_self
    · exact List.mem_cons_of_mem _ (mem_of_look h)
theorem gdict_mk {K : PySem.W.Frag} {w : World} {mg : Str → Option Value} {h : Heap} {x : Str} {a : Addr} {ks : List Str} {tab : List (Str × D)} (X : K.In h) (G : h.Ns mainGlobals mg) (e : PySem.W.nsIn K mainGlobals x = some (some (.ref a))) (hd : He.dicW K a = some (He.keysIn w.params ks)) (c : gdB K a tab = true) : GDict K w mg x tab := by
  refine ⟨a, PySem.W.mg_of X G e, fun z d hz => ?_⟩
  have h2 := List.all_eq_true.mp c (z, d) (mem_of_look hz)
  split at h2
  · rename_i u hu
    obtain ⟨v, r, rd⟩ := repB_ok 40 d u h2
    obtain ⟨es, n, kd⟩ := He.dicW_ok hd
    exact ⟨v, ⟨es, n, u, kd.at_, kd.lit, hu, r⟩, rd⟩
  · cases h2
def mGIx (tab : List (Str × D)) (m : ME) : ME := fun env => (m env).bind fun r e => match r.2 with
  | .str z => match tab.lookup z with
    | some d => .ok (0, d) e
    | none => .stuck
  | _ => .stuck
theorem de_gix {x : Str} {tab : List (Str × D)} {p pos : Pos} {e : Expr} {m : ME} (hg : Gl X x) (g : GDict X.K X.w X.mg x tab) (he : DE X W m e) (hs : PlainIx e := by intro _ _; rfl) (hd : (x == ("__debug__" : Str)) = false := by decide) :
    DE X W (mGIx tab m) (.Subscript (.Name x p) e pos) := by
  obtain ⟨a, hm, ht⟩ := g
  refine PE.to (pe_ix ix_kdict (pe_glob (v := .ref a) hg hm rfl hd) he hs) fun σ H Q ⟨G, F, env, fp, s, h⟩ => ?_
  refine tE.of s h.bind fun r1 e1 F1 H1 fp1 v1 p1 s1 rep1 fe1 => ?_
  obtain ⟨n, d⟩ := r1
  cases d <;> first | exact p1.elim | skip
  rename_i z
  cases Rep.str_inv rep1
  dsimp only at p1
  cases hz : tab.lookup z with
  | none => rw [hz] at p1; exact p1.elim
  | some d =>
    rw [hz] at p1
    obtain ⟨v, kd, rd⟩ := ht z d hz
    exact ⟨a, z, v, rfl, rfl, kd, p1 v F1 H1 fp1 _ (SV.of_rep s1 (rd _)) fe1⟩
/-! ### {k: v, ..} -/
def mPairs : List (ME × ME) → DEnv → Out (List (D × D))
  | [], env => .ok [] env
  | (mk, mv) :: r, env => (mk env).bind fun a e1 => (mv e1).bind fun b e2 => (mPairs r e2).bind fun l e3 => .ok ((a.2, b.2) :: l) e3
def keysD : List (D × D) → Option (List (Key × D))
  | [] => some []
  | (a, b) :: r => match keyD a with
    | some k => (keysD r).map ((k, b) :: ·)
    | none => none
def mergeD (kvs more : List (Key × D)) : List (Key × D) := more.foldl (fun acc kv => dput acc kv.1 kv.2) kvs
def mDisp (l : List (ME × ME)) : ME := fun env => match mPairs l env with
  | .ok ps e => (match keysD ps with
    | some kvs => if kvs.length ≤ 15 then .ok (1, .dK (mergeD [] kvs)) e else .stuck
    | none => .stuck)
  | _ => .stuck
def trsOf (X : Cx) (W : WX) (l : List (ME × ME)) : List (TE × TE) := l.map fun p => (tE X.K X.mg W p.1, tE X.K X.mg W p.2)
def DPs (X : Cx) (W : WX) (pos : Pos) (l : List (ME × ME)) (ks : List (Option Expr)) (vs : List Expr) : Prop := PPs X pos ks vs (trsOf X W l)
theorem dps_nil {pos : Pos} : DPs X W pos [] [] [] := pps_nil
theorem dps_cons {pos : Pos} {k v : Expr} {ks : List (Option Expr)} {vs : List Expr} {mk mv : ME} {l : List (ME × ME)} (hk : DE X W mk k) (hv : DE X W mv v) (hr : DPs X W pos l ks vs) : DPs X W pos ((mk, mv) :: l) (some k :: ks) (v :: vs) := pps_cons hk hv hr
inductive Reps2 (K : PySem.W.Frag) (F : Hp) : List (D × D) → List (V × V) → Prop
  | nil : Reps2 K F [] []
  | cons {a b : D} {x y : V} {ds : List (D × D)} {vs : List (V × V)} : Rep K F a x → Rep K F b y → Reps2 K F ds vs → Reps2 K F ((a, b) :: ds) ((x, y) :: vs)
theorem tPairs_of {σ : L2.St} {G : Hp} : ∀ (l : List (ME × ME)) {F H : Hp} {env : DEnv} {fp : Fp} {P : List (D × D) → DEnv → Prop} {Q : List (V × V) → Hp → Prop}, SS X.K G F H σ env fp → RG X.K X.mg W G F σ P (mPairs l env) →
    (∀ ds e F1 H1 fp1 vs, P ds e → SS X.K G F1 H1 σ e fp1 → Reps2 X.K F1 ds vs → FrExt G F F1 → Q vs H1) → tPairs (trsOf X W l) σ H Q
  | [], F, H, env, fp, P, Q, s, h, hk => hk [] env F H fp [] h s .nil .refl
  | (mk, mv) :: l, F, H, env, fp, P, Q, s, h, hk => by
    refine tE.of s h.bind fun r1 e1 F1 H1 fp1 v1 p1 s1 rep1 fe1 => ?_
    refine tE.of s1 (RG.imp p1.bind fe1 fun _ _ q => q) fun r2 e2 F2 H2 fp2 v2 p2 s2 rep2 fe2 => ?_
    refine tPairs_of l s2 (RG.imp p2.bind (fe1.trans fe2) fun _ _ q => q) fun ds e F3 H3 fp3 vs p3 s3 rep3 fe3 => ?_
    exact hk _ e F3 H3 fp3 _ p3 s3 (.cons (rep1.mono (fe2.same.trans fe3.same)) (rep2.mono fe3.same) rep3) ((fe1.trans fe2).trans fe3)
theorem keysD_ok {K : PySem.W.Frag} {F : Hp} : ∀ {ps : List (D × D)} {vs : List (V × V)} {kvs : List (Key × D)}, Reps2 K F ps vs → keysD ps = some kvs → ∃ kws : List (Key × V), vs = kws.map (fun kv => (kV kv.1, kv.2)) ∧ kvs.map (·.1) = kws.map (·.1) ∧ Reps K F (kvs.map (·.2)) (kws.map (·.2))
  | _, _, _, .nil, h => by cases h; exact ⟨[], rfl, rfl, .nil⟩
  | (a, b) :: ds, (x, y) :: vs, kvs, .cons ra rb rr, h => by
    unfold keysD at h
    cases hk : keyD a with
    | none => rw [hk] at h; cases h
    | some k =>
      rw [hk] at h
      obtain ⟨kvs', h1, rfl⟩ := Option.map_eq_some_iff.mp h
      obtain ⟨kws, rfl, e2, e3⟩ := keysD_ok rr h1
      have := keyD_ok ra hk
      exact ⟨(k, y) :: kws, by rw [this]; rfl, by simp [e2], by simpa using .cons rb e3⟩
theorem mergeD_ok {K : PySem.W.Frag} {F : Hp} : ∀ {kvs : List (Key × D)} {kws : List (Key × V)} {acc : List (Key × D)} {acw : List (Key × V)}, kvs.map (·.1) = kws.map (·.1) → Reps K F (kvs.map (·.2)) (kws.map (·.2)) →
    acc.map (·.1) = acw.map (·.1) → Reps K F (acc.map (·.2)) (acw.map (·.2)) → (mergeD acc kvs).map (·.1) = (mergeK acw kws).map (·.1) ∧ Reps K F ((mergeD acc kvs).map (·.2)) ((mergeK acw kws).map (·.2))
  | [], [], _, _, _, _, h1, h2 => ⟨h1, h2⟩
  | [], _ :: _, _, _, h, _, _, _ => by simp at h
  | _ :: _, [], _, _, h, _, _, _ => by simp at h
  | (k, d) :: kvs, (k', v) :: kws, acc, acw, hk, hr, h1, h2 => by
    simp only [List.map_cons, List.cons.injEq] at hk
    obtain ⟨rfl, hk⟩ := hk
    obtain ⟨ra, rb⟩ : Rep K F d v ∧ Reps K F (kvs.map (·.2)) (kws.map (·.2)) := by
      cases hr with
      | cons a b => exact ⟨a, b⟩
    exact mergeD_ok (acc := dput acc k d) (acw := putK acw k v) hk rb (dput_keys k d v h1) (dput_vals ra h1 h2)
theorem de_disp {pos : Pos} {keys : List (Option Expr)} {values : List Expr} {l : List (ME × ME)} (h : DPs X W pos l keys values) (hall : keys.all (·.isSome) = true := by rfl) (hl : keys.length = values.length := by rfl) (h0 : keys ≠ [] := by intro z; cases z) (h15 : keys.length ≤ 15 := by decide) :
    DE X W (mDisp l) (.Dict keys values pos) := by
  refine PE.to (pe_disp h hall hl h0 h15) fun σ H Q ⟨G, F, env, fp, s, h⟩ p hp => ?_
  have gp : G p = none := s.sg.free hp
  have fpn : F p = none := s.sf.free hp
  have gD : (upd G p (.dK [])) p ≠ none := by rw [upd_same]; simp
  have gOf : ∀ {A B : Hp}, FrExt (upd G p (.dK [])) A B → A p = none → FrExt G A B := fun fx ha => ⟨fx.same, fun a h e => fx.out a (by
      rw [upd_ne (fun z => h (by rw [z]; exact gp))]; exact h) e⟩
  unfold mDisp at h
  have h2 : RG X.K X.mg W (upd G p (.dK [])) F σ (fun ps e => RG X.K X.mg W G F σ (PV X.K G F σ Q) (match keysD ps with
  | some kvs => if kvs.length ≤ 15 then .ok (1, .dK (mergeD [] kvs)) e else .stuck
  | none => .stuck)) (mPairs l env) := by
    cases e : mPairs l env with
    | ok a e' => rw [e] at h; exact h
    | exc x e' => rw [e] at h; exact h.elim
    | stuck => rw [e] at h; exact h.elim
  refine tPairs_of l (s.aside hp) h2 fun ds e F1 H1 fp1 vs p1 s1 rep1 fe1 => ?_
  have f1p : F1 p = none := fe1.out p gD fpn
  refine ⟨s1.sg _ _ upd_same, ?_⟩
  cases hk : keysD ds with
  | none => rw [hk] at p1; exact p1.elim
  | some kvs =>
    rw [hk] at p1
    dsimp only at p1
    by_cases hl : kvs.length ≤ 15
    · rw [if_pos hl] at p1
      obtain ⟨kws, ev, ek, er⟩ := keysD_ok rep1 hk
      have hlen : kvs.length = kws.length := by
        have := congrArg List.length ek
        simpa using this
      obtain ⟨m1, m2⟩ := mergeD_ok (acc := []) (acw := []) ek er rfl .nil
      refine ⟨kws, ev, by omega, ?_⟩
      have su := s1.rewrite (o' := .dK (mergeK [] kws)) f1p
      have gle : ∀ a, (upd G p (.dK (mergeK [] kws))) a = none → G a = none := fun a e => by
        by_cases h : a = p
        · rw [h]; exact gp
        · rw [upd_ne h] at e; exact e
      refine p1 (.ref p) F1 _ fp1 (fun a => a = p) ⟨{ su with ng := fun i a z => gle a (su.ng i a z), sg := fun a o e => su.sg a o (by rw [upd_ne (ne_of_none e gp)]; exact e) }, ⟨p, mergeK [] kws, rfl, rfl, upd_same, m1, RepA.of_reps m2⟩, fun a z => ?_, fun a z => ?_, fun a z => ?_, fun i a z w => ?_⟩ (gOf fe1 fpn)
      · subst z; rw [upd_same]; trivial
      · subst z; exact f1p
      · subst z; exact gp
      · subst z
        have := su.ng i a w
        rw [upd_same] at this; cases this
    · rw [if_neg hl] at p1; exact p1.elim
end
end DL

set_option autoImplicit false
set_option Elab.async false
set_option linter.all false
set_option maxRecDepth 100000
/-! DL: classes of errors by what the top has written; try by names. -/
namespace DL
open PySem PySem.Spec PyProof.Rows L2
/-- an error class of one's own with a maker that stores its arguments -/
structure XHas (K : PySem.W.Frag) (mg : Str → Option Value) (x : Str) (fs : List Str) (st : Stmt) (ps : List Str) : Prop where
  ex : ∃ (C fI : Addr) (fd : FuncData) (qual : Str), OexC K C ∧ mg x = some (.ref C) ∧ PySem.W.findIn K (.ref C) "__init__" = some (some (.ref fI)) ∧ PySem.W.typeIn K (.ref fI) = some (.type "function") ∧
    Fun K "__init__" qual st fI fd ∧ Binds K fd ps [] ∧ ∀ f ∈ fs, PySem.W.findIn K (.ref C) f = some none
theorem XHas.exd {P : Program} {w : World} {K : PySem.W.Frag} {mg : Str → Option Value} {base : Heap} {x : Str} {fs : List Str} {st : Stmt} {ps : List Str} {f1 : Str} {r : List Str} (h : XHas K mg x fs st ps) (hfs : fs = f1 :: r) (S : FnScope ps ps (defScope st)) (hp : ps.length = fs.length + 1)
    (hbody : ∀ X : Cx, X.K = K → X.N = ps → X.env.scope = defScope st → PSs X (defBody st) (tInis K (fs.zip (List.range' 1 fs.length)))) (hl : fs.length ≤ 800 := by decide) : ExD P w K mg base 1 x fs := by
  obtain ⟨C, fI, fd, qual, O, hm, h1, h2, F, hb, hn⟩ := h.ex
  exact ⟨C, fI, fd, ps, O, hm, h1, h2, ini_ok hfs O hn hl F S hp hbody, hb⟩
/-- an error class that is caught and looked at -/
abbrev ErrF (K : PySem.W.Frag) (mg : Str → Option Value) (x : Str) : Prop := ∃ C, mg x = some (.ref C) ∧ XfC K C ∧ ExcC K C
/-- it has no such field of the class -/
abbrev ErrN (K : PySem.W.Frag) (mg : Str → Option Value) (x : Str) (f : Str) : Prop := ∃ C, mg x = some (.ref C) ∧ PySem.W.findIn K (.ref C) f = some none
/-- is it the other, or below it -/
abbrev ErrS (K : PySem.W.Frag) (mg : Str → Option Value) (x y : Str) (b : Bool) : Prop := ∃ C D, mg x = some (.ref C) ∧ mg y = some (.ref D) ∧ PySem.W.exmOne K (.ref C) (.ref D) = some b ∧ PySem.W.kitOne K (.ref C) (.ref D) = some b
/-- .. a class of the language -/
abbrev ErrT (K : PySem.W.Frag) (mg : Str → Option Value) (x : Str) (y : String) (b : Bool) : Prop := ∃ C, mg x = some (.ref C) ∧ PySem.W.kitOne K (.ref C) (.type y) = some b
section
variable {X : Cx} {i : Nat} {cs : List Str}
theorem he_fldN {e : Expr} {f : Str} {pos : Pos} (h1 : ∀ c ∈ cs, ErrF X.K X.mg c) (h2 : ∀ c ∈ cs, ErrN X.K X.mg c f) (h : ∀ (a : Addr) (oe : Obj) (pn : List (Addr × Obj)), PE (X.suite a ((a, oe) :: pn)) e (tVar i))
    (hb : attributeBase e f X.env (eval e X.env) = eval e X.env := by rfl) : HE X i cs (fun x _ => x.args.lookup f) (.Attribute e f pos) :=
  he_fld (fun c hc => by
    obtain ⟨C, a1, a2, _⟩ := h1 c hc
    obtain ⟨D, b1, b2⟩ := h2 c hc
    rw [a1] at b1
    cases b1
    exact ⟨C, a1, a2, b2⟩) h hb
/-- isinstance(e, Y), Y a class of the module -/
theorem hb_isY {e : Expr} {Y : Str} {tab : Str → Option Bool} {p p2 pos : Pos} (h1 : ∀ c ∈ cs, ErrF X.K X.mg c) (hgY : Gl X Y) (hmY : ∃ D, X.mg Y = some (.ref D)) (hx : ∀ c ∈ cs, ∀ b, tab c = some b → ErrS X.K X.mg c Y b)
    (h : ∀ (a : Addr) (oe : Obj) (pn : List (Addr × Obj)), PE (X.suite a ((a, oe) :: pn)) e (tVar i)) (hg : Gl X "isinstance") (hm : X.mg "isinstance" = none) (hdY : (Y == ("__debug__" : Str)) = false := by decide)
    (s1 : starEach [.Name Y p2] X.env = (false, eval (.Name Y p2) X.env) :: starEach [] X.env := by rfl) (s2 : starEach [e, .Name Y p2] X.env = (false, eval e X.env) :: starEach [.Name Y p2] X.env := by rfl) (s3 : (backTo pos (starEach [.Name Y p2] X.env)).any (·.1) = false := by rfl) :
    HB X i cs (fun x _ => tab x.cls) (.Call (.Name "isinstance" p) [e, .Name Y p2] [] pos) := by
  obtain ⟨D, hD⟩ := hmY
  refine hb_isI (yv := .ref D) (yu := .ref D) (fun u r => r) (fun c hc b hb => ?_) h (fun a oe pn => pe_glob (X := X.suite a ((a, oe) :: pn)) hgY hD rfl hdY) hg hm s1 s2 s3
  obtain ⟨C, a1, _, a2⟩ := h1 c hc
  obtain ⟨C', D', b1, b2, _, b3⟩ := hx c hc b hb
  rw [a1] at b1
  cases b1
  rw [hD] at b2
  cases b2
  exact ⟨C, a1, a2, b3⟩
/-- .. of the language -/
theorem hb_isT {e : Expr} {Y : Str} {T : String} {tab : Str → Option Bool} {p p2 pos : Pos} (h1 : ∀ c ∈ cs, ErrF X.K X.mg c) (hgY : Gl X Y) (hmY : X.mg Y = none) (hvY : bootBuiltins Y = some (.type T)) (hx : ∀ c ∈ cs, ∀ b, tab c = some b → ErrT X.K X.mg c T b)
    (h : ∀ (a : Addr) (oe : Obj) (pn : List (Addr × Obj)), PE (X.suite a ((a, oe) :: pn)) e (tVar i)) (hg : Gl X "isinstance") (hm : X.mg "isinstance" = none) (hnY : Y ≠ "__name__" := by decide) (hdY : (Y == ("__debug__" : Str)) = false := by decide)
    (s1 : starEach [.Name Y p2] X.env = (false, eval (.Name Y p2) X.env) :: starEach [] X.env := by rfl) (s2 : starEach [e, .Name Y p2] X.env = (false, eval e X.env) :: starEach [.Name Y p2] X.env := by rfl) (s3 : (backTo pos (starEach [.Name Y p2] X.env)).any (·.1) = false := by rfl) :
    HB X i cs (fun x _ => tab x.cls) (.Call (.Name "isinstance" p) [e, .Name Y p2] [] pos) := by
  refine hb_isI (yv := .ty T) (yu := .type T) (fun u r => r) (fun c hc b hb => ?_) h (fun a oe pn => pe_bltn (X := X.suite a ((a, oe) :: pn)) hgY hmY hvY rfl hnY hdY) hg hm s1 s2 s3
  obtain ⟨C, a1, _, a2⟩ := h1 c hc
  obtain ⟨C', b1, b3⟩ := hx c hc b hb
  rw [a1] at b1
  cases b1
  exact ⟨C, a1, a2, b3⟩
theorem ds_tryN {W : WX} {ns : List Str} {Ab : List Nat} {x n : Str} {mb : MS} {mh : Exc → MS} {body suite : List Stmt} {b₀ : Stmt} {np pos pos' : Pos} (hs : X.stack = X.env :: X.outer) (hf : X.env.frame = some X.env.locals) (hN : X.N.Nodup) (hi : X.N[i]? = some n) (hln : X.env.kindOf n = some .local) (hgx : Gl X x) (hmx : ∃ D, X.mg x = some (.ref D))
    (hyes : ∀ k ∈ cs, ErrS X.K X.mg k x true) (hno : ∀ k ∈ ns, ErrS X.K X.mg k x false) (tk : Takes X W)
    (hb : ∀ (W : WX) (pn : List (Addr × Obj)) (xe : Value → Shared → Prop), Takes (X.tr pn xe) W → PassesOwn (model X.prog X.w) X.A X.env xe → DSs (X.tr pn xe) W Ab mb body)
    (hsu : HS X i cs mh (b₀ :: suite)) (hdx : (x == ("__debug__" : Str)) = false := by decide) : DS X W (i :: Ab) (mTry i cs ns mb mh) (.Try body [.ExceptHandler (some (.Name x np)) (some n) (b₀ :: suite) pos'] [] [] pos) := by
  obtain ⟨D, hD⟩ := hmx
  refine ds_try (c := .ref D) hs hf hN hi hln ⟨hgx, hdx, .inl hD⟩ (fun k hk => ?_) (fun k hk => ?_) tk hb hsu
  · obtain ⟨C, D', a1, a2, a3, _⟩ := hyes k hk
    rw [hD] at a2
    cases a2
    exact ⟨C, a1, a3⟩
  · obtain ⟨C, D', a1, a2, a3, _⟩ := hno k hk
    rw [hD] at a2
    cases a2
    exact ⟨C, a1, a3⟩
end
/-! ### how the facts are shown -/
theorem errS_mk {K : PySem.W.Frag} {mg : Str → Option Value} {x y : Str} {b : Bool} {C D : Addr} (h1 : mg x = some (.ref C)) (h2 : mg y = some (.ref D)) (a : PySem.W.subIn K (.ref D) (.type "BaseException") = some true) (hd : PySem.W.hasDictIn K D = true) (ht : PySem.W.typeIn K (.ref D) = some (.type "type"))
    (h4 : PySem.W.subIn K (.ref C) (.ref D) = some b) (h5 : (C == D) = true → b = true) : ErrS K mg x y b := by
  have e := PySem.W.exm_ref a hd ht h4
  refine ⟨C, D, h1, h2, e, ?_⟩
  unfold PySem.W.kitOne
  by_cases q : ((Value.ref C) == (Value.ref D)) = true
  · rw [if_pos q]
    rw [h5 (by have := beq_iff_eq.mp q; cases this; simp)]
  · rw [if_neg q]
    unfold PySem.W.exmOne at e
    split at e
    · exact e
    · cases e
end DL

set_option autoImplicit false
set_option Elab.async false
set_option linter.all false
set_option maxRecDepth 100000
/-! DL: small words for the printed texts. -/
namespace DL
open PySem PySem.Spec PyProof.Rows L2
theorem all_cons {α : Type} {p : α → Prop} {a : α} {l : List α} (h : p a) (t : ∀ x ∈ l, p x) : ∀ x ∈ a :: l, p x := List.forall_mem_cons.mpr ⟨h, t⟩
theorem ErrS.nm {K : PySem.W.Frag} {mg : Str → Option Value} {x y : Str} {b : Bool} (h : ErrS K mg x y b) : ∃ D, mg y = some (.ref D) := by
  obtain ⟨C, D, _, h, _⟩ := h
  exact ⟨D, h⟩
theorem tabS {K : PySem.W.Frag} {mg : Str → Option Value} {Y : Str} {l : List (Str × Bool)} {cs : List Str} (h : ∀ q ∈ l, ErrS K mg q.1 Y q.2) : ∀ c ∈ cs, ∀ b, l.lookup c = some b → ErrS K mg c Y b := fun c _ b e => h (c, b) (mem_of_look e)
theorem tabT {K : PySem.W.Frag} {mg : Str → Option Value} {Y : String} {l : List (Str × Bool)} {cs : List Str} (h : ∀ q ∈ l, ErrT K mg q.1 Y q.2) : ∀ c ∈ cs, ∀ b, l.lookup c = some b → ErrT K mg c Y b := fun c _ b e => h (c, b) (mem_of_look e)
theorem hRet_ret {m : Exc → DEnv → Option D} : ∀ x env, ∃ n d e, hRet m x env = .ret n d e ∨ hRet m x env = .stuck := fun x env => by
  unfold hRet
  cases m x env with
  | none => exact ⟨0, .non, env, .inr rfl⟩
  | some d => exact ⟨0, d, env, .inl rfl⟩
theorem hRetT_ret {m : Exc → DEnv → Option (List D)} : ∀ x env, ∃ n d e, hRetT m x env = .ret n d e ∨ hRetT m x env = .stuck := fun x env => by
  unfold hRetT
  cases m x env with
  | none => exact ⟨0, .non, env, .inr rfl⟩
  | some ds =>
    by_cases h : ds.length ≤ 1000
    · exact ⟨0, .tup ds, env, .inl (by simp [h])⟩
    · exact ⟨0, .non, env, .inr (by simp [h])⟩
def hEnd : Exc → MS := fun _ env => .nx env
theorem hs_end {X : Cx} {i : Nat} {cs : List Str} : HS X i cs hEnd [] := fun a cls d => ⟨_, fun _ _ _ _ => pss_nil, fun G F H σ env fp x De hr q => q σ F H fp (Agree.refl _ _) hr.ss .refl⟩
theorem errN_mk {K : PySem.W.Frag} {mg : Str → Option Value} {x f : Str} {C : Addr} (h1 : mg x = some (.ref C)) (h2 : PySem.W.findIn K (.ref C) f = some none) : ErrN K mg x f := ⟨C, h1, h2⟩
theorem errT_mk {K : PySem.W.Frag} {mg : Str → Option Value} {x : Str} {y : String} {b : Bool} {C : Addr} (h1 : mg x = some (.ref C)) (h2 : PySem.W.kitOne K (.ref C) (.type y) = some b) : ErrT K mg x y b := ⟨C, h1, h2⟩
theorem errF_mk {K : PySem.W.Frag} {mg : Str → Option Value} {x : Str} {C : Addr} (h1 : mg x = some (.ref C)) (h2 : XfC K C) (h3 : ExcC K C) : ErrF K mg x := ⟨C, h1, h2, h3⟩
theorem all_nil {α : Type} {p : α → Prop} : ∀ x ∈ ([] : List α), p x := fun _ h => by cases h
abbrev hTab (l : List (Str × Bool)) : Str → Option Bool := fun c => l.lookup c
/-- a call without arguments -/
theorem de_call0 {X : Cx} {W : WX} {k : Nat} {x : Str} {f : FSem} {p pos : Pos} (C : FnD X.prog X.w X.K X.mg X.base k x [] f) (hf : ∀ ds x ds', f ds ≠ .exc x ds') (hr : Room k X.A) (hg : Gl X x) (hdb : (x == ("__debug__" : Str)) = false := by decide) :
    DE X W (mCall [] f []) (.Call (.Name x p) [] [] pos) := by
  obtain ⟨fa, fd, ps, F, hb, hm, hk⟩ := C
  refine PE.to (pe_call0 F hr hg hm hk hb .nil pass0 hdb) fun σ H Q ⟨G, F, env, fp, s, h⟩ => ?_
  show spD X.K X.mg [] f [] H Q E0
  have p : RG X.K X.mg W G F σ (PV X.K G F σ Q) (mCallK [] f [] env) := h
  have h' : RG X.K X.mg W0 G F σ (PV X.K G F σ Q) (mCallK [] f [] env) := by
    unfold mCallK at p ⊢
    split at p
    · rename_i nd
      rw [if_pos nd]
      cases hr : resolve [] [] env with
      | none => rw [hr] at p; exact p.elim
      | some ds =>
        rw [hr] at p
        dsimp only at p ⊢
        cases hf' : f ds with
        | stuck => rw [hf'] at p; exact p.elim
        | exc x ds' => exact absurd hf' (hf ds x ds')
        | ret n d ds' =>
          rw [hf'] at p
          dsimp only at p ⊢
          by_cases hl : ds'.length = ([] : List Nat).length
          · rw [if_pos hl] at p ⊢; exact p
          · rw [if_neg hl] at p; exact p.elim
    · exact p.elim
  exact spD_call (W := W0) (l := []) s (vs := []) trivial .refl h' fun _ _ _ z => z
def hC (d : D) : Exc → DEnv → Option D := fun _ _ => some d
def hV (j : Nat) : Exc → DEnv → Option D := fun _ env => get0 env j
def hFld (f : Str) : Exc → DEnv → Option D := fun x _ => x.args.lookup f
def hIs (l : List (Str × Bool)) : Exc → DEnv → Option Bool := fun x _ => l.lookup x.cls
def hNot (m : Exc → DEnv → Option Bool) : Exc → DEnv → Option Bool := fun x env => (m x env).map (!·)
def hNil : Exc → DEnv → Option (List D) := fun _ _ => some []
def hCons (m : Exc → DEnv → Option D) (ms : Exc → DEnv → Option (List D)) : Exc → DEnv → Option (List D) := fun x env => (m x env).bind fun d => (ms x env).map (d :: ·)
end DL

set_option autoImplicit false
set_option Elab.async false
set_option linter.all false
set_option maxRecDepth 100000
/-! DL: stage 2: what is lent, errors, tables, texts. -/
namespace DL
open PySem PySem.Spec PyProof.Rows L2
/-! ### calls that lend -/
namespace U
def WL (X : Exc → DEnv → Prop) (o : FR) (pm : List Nat) (l : List (Sum D Nat)) (e : DEnv) (P : Nat × D → DEnv → Prop) : Prop := match o with
  | .ret n d ds' => ds'.length = pm.length ∧ P (n, d) (putBack pm l ds' e)
  | .exc x ds' => ds'.length = pm.length ∧ X x (putBack pm l ds' e)
  | .stuck => False
def WA (X : Exc → DEnv → Prop) (o : Out (List (Sum D Nat))) (P : List (Sum D Nat) → DEnv → Prop) : Prop := WE X o P
section
variable {X : Exc → DEnv → Prop} {env e : DEnv} {P : Nat × D → DEnv → Prop} {PL : List (Sum D Nat) → DEnv → Prop} {Q : Post} {ma : ME} {sa sb : MS} {ms : MA} {r : List DArg}
theorem WA_nil : WA X (mArgs [] env) PL ↔ PL [] env := Iff.rfl
theorem WA_ex : WA X (mArgs (.ex ma :: r) env) PL ↔ WE X (ma env) fun a e1 => WA X (mArgs r e1) fun l e2 => PL (.inl a.2 :: l) e2 := by
  unfold WA; simp only [mArgs, WE_bind, WE_ok]
theorem WA_ln {i : Nat} : WA X (mArgs (.ln i :: r) env) PL ↔ oP (getA env i) fun _ => WA X (mArgs r env) fun l e2 => PL (.inr i :: l) e2 := by
  unfold WA
  simp only [mArgs]
  rw [oP_ex]
  simp only [getA_eq]
  split
  · rename_i n h; rw [h]; simp only [WE_bind, WE_ok]; exact ⟨fun z => ⟨_, rfl, z⟩, fun ⟨_, _, z⟩ => z⟩
  · rename_i h
    constructor
    · intro z; exact z.elim
    · rintro ⟨r, h1, _⟩; exact (h r h1).elim
theorem WE_callL {f : FSem} {pm : List Nat} {l : List DArg} : WE X (mCall pm f l env) P ↔ WA X (mArgs l env) fun l e => (lentOf l).Nodup ∧ oP (resolve pm l e) fun ds => WL X (f ds) pm l e P := by
  unfold mCall WA
  rw [WE_bind]
  refine iff_of_eq (congrArg _ (funext fun l => funext fun e => propext ?_))
  unfold mCallK
  by_cases h : (lentOf l).Nodup
  · rw [if_pos h]
    cases resolve pm l e with
    | none => simp
    | some ds =>
      simp only [oP_some, h, true_and]
      unfold WL
      cases f ds with
      | ret n d ds' => by_cases hl : ds'.length = pm.length <;> simp [hl]
      | exc x ds' => by_cases hl : ds'.length = pm.length <;> simp [hl]
      | stuck => rfl
  · rw [if_neg h]; simp [h]
theorem WS_stop : WS (mStop env) Q ↔ False := Iff.rfl
theorem WE_stop : WE X (mStopE env) P ↔ False := Iff.rfl
theorem WE_gix {tab : List (Str × D)} : WE X (mGIx tab ma env) P ↔ WE X (ma env) fun r e => ∃ z, r.2 = .str z ∧ oP (tab.lookup z) fun d => P (0, d) e := by
  unfold mGIx
  rw [WE_bind]
  refine iff_of_eq (congrArg _ (funext fun r => funext fun e => propext ?_))
  obtain ⟨n, d⟩ := r
  cases d <;> try (simp; done)
  rename_i z
  cases h : tab.lookup z <;> simp [h]
theorem WE_chars {PA : List D → DEnv → Prop} : WE X (mChars ma env) PA ↔ WE X (ma env) fun r e => ∃ z, r.2 = .str z ∧ PA (charsD z) e := by
  unfold mChars
  rw [WE_bind]
  refine iff_of_eq (congrArg _ (funext fun r => funext fun e => propext ?_))
  obtain ⟨n, d⟩ := r
  cases d <;> simp
theorem WS_raise {cn : Str} {fs : List Str} : WS (mRaise cn fs ms env) Q ↔ WE Q.ex (ms env) fun ds e => (ds.length = fs.length ∧ ds.length ≤ 100) ∧ Q.ex ⟨cn, (fs.zip ds).reverse⟩ e := by
  unfold mRaise
  rw [WS_bind]
  refine iff_of_eq (congrArg _ (funext fun ds => funext fun e => propext ?_))
  split
  · rename_i h; exact ⟨fun z => ⟨h, z⟩, fun z => z.2⟩
  · rename_i h; exact ⟨fun z => z.elim, fun z => h z.1⟩
theorem WS_try {i : Nat} {cs ns : List Str} {mh : Exc → MS} : WS (mTry i cs ns sa mh env) Q ↔ WS (sa env) { Q with ex := fun x e => if x.cls ∈ cs then i < e.length ∧ WS (mh x (e.set i none)) ⟨fun e => Q.nx (e.set i none), fun n d e => Q.rt n d (e.set i none), fun e => Q.bk (e.set i none), fun e => Q.ct (e.set i none), fun _ _ => False⟩ else x.cls ∈ ns ∧ Q.ex x e } := by
  unfold mTry
  cases sa env with
  | exc x e =>
    show WS (if x.cls ∈ cs then _ else _) Q ↔ (if x.cls ∈ cs then _ else _)
    by_cases h : x.cls ∈ cs
    · rw [if_pos h, if_pos h]
      by_cases hl : i < e.length
      · rw [if_pos hl]
        simp only [hl, true_and]
        cases mh x (e.set i none) <;> rfl
      · rw [if_neg hl]; simp only [hl, false_and]; rfl
    · rw [if_neg h, if_neg h]
      by_cases hn : x.cls ∈ ns
      · rw [if_pos hn]; simp only [hn, true_and]; rfl
      · rw [if_neg hn]; simp only [hn, false_and]; rfl
  | _ => rfl
theorem WS_hRet {m : Exc → DEnv → Option D} {x : Exc} : WS (hRet m x env) Q ↔ oP (m x env) fun d => Q.rt 0 d env := by
  unfold hRet
  cases m x env <;> rfl
theorem WS_hRetT {m : Exc → DEnv → Option (List D)} {x : Exc} : WS (hRetT m x env) Q ↔ oP (m x env) fun ds => ds.length ≤ 1000 ∧ Q.rt 0 (.tup ds) env := by
  unfold hRetT
  cases m x env with
  | none => rfl
  | some ds =>
    dsimp only
    by_cases h : ds.length ≤ 1000
    · rw [if_pos h]; exact ⟨fun z => ⟨h, z⟩, fun z => z.2⟩
    · rw [if_neg h]; exact ⟨fun z => z.elim, fun z => h z.1⟩
theorem WS_hIf {c : Exc → DEnv → Option Bool} {m1 m2 : Exc → MS} {x : Exc} : WS (hIf c m1 m2 x env) Q ↔ oP (c x env) fun b => (b = true → WS (m1 x env) Q) ∧ (b = false → WS (m2 x env) Q) := by
  unfold hIf
  cases c x env with
  | none => rfl
  | some b => cases b <;> simp
theorem WS_hEnd {x : Exc} : WS (hEnd x env) Q ↔ Q.nx env := Iff.rfl
/-- the pairs of a display -/
def WP (X : Exc → DEnv → Prop) (o : Out (List (D × D))) (P : List (D × D) → DEnv → Prop) : Prop := match o with
  | .ok a e => P a e
  | _ => False
theorem WE_disp {l : List (ME × ME)} : WE X (mDisp l env) P ↔ WP X (mPairs l env) fun ps e => oP (keysD ps) fun kvs => kvs.length ≤ 15 ∧ P (1, .dK (mergeD [] kvs)) e := by
  unfold mDisp WP
  cases mPairs l env with
  | ok ps e =>
    dsimp only
    cases keysD ps with
    | none => rfl
    | some kvs => by_cases h : kvs.length ≤ 15 <;> simp [h] <;> rfl
  | exc _ _ => rfl
  | stuck => rfl
theorem WP_nil {PP : List (D × D) → DEnv → Prop} : WP X (mPairs [] env) PP ↔ PP [] env := Iff.rfl
theorem WP_cons {PP : List (D × D) → DEnv → Prop} {mk mv : ME} {l : List (ME × ME)} : WP X (mPairs ((mk, mv) :: l) env) PP ↔ WE (fun _ _ => False) (mk env) fun a e1 => WE (fun _ _ => False) (mv e1) fun b e2 => WP X (mPairs l e2) fun ps e => PP ((a.2, b.2) :: ps) e := by
  have e : mPairs ((mk, mv) :: l) env = (mk env).bind fun a e1 => (mv e1).bind fun b e2 => (mPairs l e2).bind fun l e3 => .ok ((a.2, b.2) :: l) e3 := rfl
  rw [e]
  cases mk env with
  | ok a e1 =>
    show WP X ((mv e1).bind _) PP ↔ WE _ (mv e1) _
    cases mv e1 with
    | ok b e2 =>
      show WP X ((mPairs l e2).bind _) PP ↔ WP X (mPairs l e2) _
      cases mPairs l e2 <;> rfl
    | exc _ _ => rfl
    | stuck => rfl
  | exc _ _ => rfl
  | stuck => rfl
end
end U
def WL (X : Exc → DEnv → Prop) (o : FR) (pm : List Nat) (l : List (Sum D Nat)) (e : DEnv) (P : Nat × D → DEnv → Prop) (_ : Tag P := .mk) : Prop := U.WL X o pm l e P
def WA (X : Exc → DEnv → Prop) (o : Out (List (Sum D Nat))) (P : List (Sum D Nat) → DEnv → Prop) (_ : Tag P := .mk) : Prop := U.WA X o P
def WP (X : Exc → DEnv → Prop) (o : Out (List (D × D))) (P : List (D × D) → DEnv → Prop) (_ : Tag P := .mk) : Prop := U.WP X o P
section
variable {X : Exc → DEnv → Prop} {env e : DEnv} {P : Nat × D → DEnv → Prop} {PL : List (Sum D Nat) → DEnv → Prop} {Q : Post} {ma : ME} {sa sb : MS} {ms : MA} {r : List DArg}
@[simp] theorem WA_nil : WA X (mArgs [] env) PL ↔ PL [] env := Iff.rfl
@[simp] theorem WA_ex : WA X (mArgs (.ex ma :: r) env) PL ↔ WE X (ma env) fun a e1 => WA X (mArgs r e1) fun l e2 => PL (.inl a.2 :: l) e2 := U.WA_ex
@[simp] theorem WA_ln {i : Nat} : WA X (mArgs (.ln i :: r) env) PL ↔ oP (getA env i) fun _ => WA X (mArgs r env) fun l e2 => PL (.inr i :: l) e2 := U.WA_ln
theorem WE_callL {f : FSem} {pm : List Nat} {l : List DArg} : WE X (mCall pm f l env) P ↔ WA X (mArgs l env) fun l e => (lentOf l).Nodup ∧ oP (resolve pm l e) fun ds => WL X (f ds) pm l e P := U.WE_callL
@[simp] theorem WE_callL1 {f : FSem} {pm : List Nat} {l : List DArg} : WE X (mCall (1 :: pm) f l env) P ↔ WA X (mArgs l env) fun l e => (lentOf l).Nodup ∧ oP (resolve (1 :: pm) l e) fun ds => WL X (f ds) (1 :: pm) l e P := U.WE_callL
@[simp] theorem WE_callL01 {f : FSem} {pm : List Nat} {l : List DArg} : WE X (mCall (0 :: 1 :: pm) f l env) P ↔ WA X (mArgs l env) fun l e => (lentOf l).Nodup ∧ oP (resolve (0 :: 1 :: pm) l e) fun ds => WL X (f ds) (0 :: 1 :: pm) l e P := U.WE_callL
@[simp] theorem WE_callL001 {f : FSem} {pm : List Nat} {l : List DArg} : WE X (mCall (0 :: 0 :: 1 :: pm) f l env) P ↔ WA X (mArgs l env) fun l e => (lentOf l).Nodup ∧ oP (resolve (0 :: 0 :: 1 :: pm) l e) fun ds => WL X (f ds) (0 :: 0 :: 1 :: pm) l e P := U.WE_callL
@[simp] theorem WE_call00 {f : FSem} : WE X (mCall [] f [] env) P ↔ WF X (f []) 0 env P := by
  rw [WE_callL]
  simp [lentOf, resolve]
  cases f [] with
  | ret n d ds => exact ⟨fun h => ⟨h.1, h.2⟩, fun h => ⟨h.1, h.2⟩⟩
  | exc x ds => exact ⟨fun h => ⟨h.1, h.2⟩, fun h => ⟨h.1, h.2⟩⟩
  | stuck => rfl
@[simp] theorem WL_ret {n : Nat} {d : D} {ds : List D} {pm : List Nat} {l : List (Sum D Nat)} : WL X (.ret n d ds) pm l e P ↔ ds.length = pm.length ∧ P (n, d) (putBack pm l ds e) := Iff.rfl
@[simp] theorem WL_exc {x : Exc} {ds : List D} {pm : List Nat} {l : List (Sum D Nat)} : WL X (.exc x ds) pm l e P ↔ ds.length = pm.length ∧ X x (putBack pm l ds e) := Iff.rfl
@[simp] theorem lentOf_nil : lentOf [] = [] := rfl
@[simp] theorem lentOf_inl {d : D} {l : List (Sum D Nat)} : lentOf (.inl d :: l) = lentOf l := rfl
@[simp] theorem lentOf_inr {i : Nat} {l : List (Sum D Nat)} : lentOf (.inr i :: l) = i :: lentOf l := rfl
@[simp] theorem resolve_nil : resolve [] [] e = some [] := rfl
@[simp] theorem resolve_inl {pm : List Nat} {d : D} {l : List (Sum D Nat)} : resolve (0 :: pm) (.inl d :: l) e = (resolve pm l e).map (d :: ·) := rfl
@[simp] theorem resolve_inr {pm : List Nat} {i : Nat} {l : List (Sum D Nat)} : resolve (1 :: pm) (.inr i :: l) e = (get1 e i).bind fun d => (resolve pm l e).map (d :: ·) := by
  simp only [resolve]
  cases h : get1 e i with
  | none =>
    split
    · rename_i m d hd
      by_cases hm : m = 1
      · subst hm
        rw [← get1_eq, h] at hd; cases hd
      · rw [if_neg hm]; rfl
    · rfl
  | some d =>
    rw [get1_eq] at h
    rw [h]; rfl
@[simp] theorem oP_bind {α β : Type} {o : Option α} {f : α → Option β} {P : β → Prop} : oP (o.bind f) P ↔ oP o fun a => oP (f a) P := by cases o <;> rfl
@[simp] theorem putBack_nil {e : DEnv} : putBack [] [] [] e = e := rfl
@[simp] theorem putBack_inl {n : Nat} {pm : List Nat} {d d' : D} {l : List (Sum D Nat)} {ds : List D} : putBack (n :: pm) (.inl d :: l) (d' :: ds) e = putBack pm l ds e := rfl
@[simp] theorem putBack_inr {n : Nat} {pm : List Nat} {i : Nat} {d' : D} {l : List (Sum D Nat)} {ds : List D} : putBack (n :: pm) (.inr i :: l) (d' :: ds) e = putBack pm l ds (e.set i (some (n, d'))) := rfl
@[simp] theorem WS_stop : WS (mStop env) Q ↔ False := Iff.rfl
@[simp] theorem WE_stop : WE X (mStopE env) P ↔ False := Iff.rfl
@[simp] theorem WE_gix {tab : List (Str × D)} : WE X (mGIx tab ma env) P ↔ WE X (ma env) fun r e => ∃ z, r.2 = .str z ∧ oP (tab.lookup z) fun d => P (0, d) e := U.WE_gix
@[simp] theorem WE_chars {PA : List D → DEnv → Prop} : WE X (mChars ma env) PA ↔ WE X (ma env) fun r e => ∃ z, r.2 = .str z ∧ PA (charsD z) e := U.WE_chars
@[simp] theorem WS_raise {cn : Str} {fs : List Str} : WS (mRaise cn fs ms env) Q ↔ WE Q.ex (ms env) fun ds e => (ds.length = fs.length ∧ ds.length ≤ 100) ∧ Q.ex ⟨cn, (fs.zip ds).reverse⟩ e := U.WS_raise
@[simp] theorem WS_try {i : Nat} {cs ns : List Str} {mh : Exc → MS} : WS (mTry i cs ns sa mh env) Q ↔ WS (sa env) { Q with ex := fun x e => if x.cls ∈ cs then i < e.length ∧ WS (mh x (e.set i none)) ⟨fun e => Q.nx (e.set i none), fun n d e => Q.rt n d (e.set i none), fun e => Q.bk (e.set i none), fun e => Q.ct (e.set i none), fun _ _ => False⟩ else x.cls ∈ ns ∧ Q.ex x e } := U.WS_try
@[simp] theorem WS_hRet {m : Exc → DEnv → Option D} {x : Exc} : WS (hRet m x env) Q ↔ oP (m x env) fun d => Q.rt 0 d env := U.WS_hRet
@[simp] theorem WS_hRetT {m : Exc → DEnv → Option (List D)} {x : Exc} : WS (hRetT m x env) Q ↔ oP (m x env) fun ds => ds.length ≤ 1000 ∧ Q.rt 0 (.tup ds) env := U.WS_hRetT
@[simp] theorem WS_hIf {c : Exc → DEnv → Option Bool} {m1 m2 : Exc → MS} {x : Exc} : WS (hIf c m1 m2 x env) Q ↔ oP (c x env) fun b => (b = true → WS (m1 x env) Q) ∧ (b = false → WS (m2 x env) Q) := U.WS_hIf
@[simp] theorem WS_hEnd {x : Exc} : WS (hEnd x env) Q ↔ Q.nx env := Iff.rfl
@[simp] theorem WE_disp {l : List (ME × ME)} : WE X (mDisp l env) P ↔ WP X (mPairs l env) fun ps e => oP (keysD ps) fun kvs => kvs.length ≤ 15 ∧ P (1, .dK (mergeD [] kvs)) e := U.WE_disp
@[simp] theorem WP_nil {PP : List (D × D) → DEnv → Prop} : WP X (mPairs [] env) PP ↔ PP [] env := Iff.rfl
@[simp] theorem WP_cons {PP : List (D × D) → DEnv → Prop} {mk mv : ME} {l : List (ME × ME)} : WP X (mPairs ((mk, mv) :: l) env) PP ↔ WE (fun _ _ => False) (mk env) fun a e1 => WE (fun _ _ => False) (mv e1) fun b e2 => WP X (mPairs l e2) fun ps e => PP ((a.2, b.2) :: ps) e := U.WP_cons
@[simp] theorem WE_dK0 : WE X (mDK0 env) P ↔ P (1, .dK []) env := Iff.rfl
@[simp] theorem WE_dT0 : WE X (mDT0 env) P ↔ P (1, .dT []) env := Iff.rfl
end
@[simp] theorem hC_eq {d : D} {x : Exc} {e : DEnv} : hC d x e = some d := rfl
@[simp] theorem hV_eq {j : Nat} {x : Exc} {e : DEnv} : hV j x e = get0 e j := rfl
@[simp] theorem hFld_eq {f : Str} {x : Exc} {e : DEnv} : hFld f x e = x.args.lookup f := rfl
@[simp] theorem hIs_eq {l : List (Str × Bool)} {x : Exc} {e : DEnv} : hIs l x e = l.lookup x.cls := rfl
@[simp] theorem hNot_eq {m : Exc → DEnv → Option Bool} {x : Exc} {e : DEnv} : hNot m x e = (m x e).map (!·) := rfl
@[simp] theorem hNil_eq {x : Exc} {e : DEnv} : hNil x e = some [] := rfl
@[simp] theorem hCons_eq {m : Exc → DEnv → Option D} {ms : Exc → DEnv → Option (List D)} {x : Exc} {e : DEnv} : hCons m ms x e = (m x e).bind fun d => (ms x e).map (d :: ·) := rfl
@[simp] theorem hAnd_eq {m1 m2 : Exc → DEnv → Option Bool} {x : Exc} {e : DEnv} : hAnd m1 m2 x e = (m1 x e).bind fun b => if b = true then m2 x e else some false := rfl
@[simp] theorem hOr_eq {m1 m2 : Exc → DEnv → Option Bool} {x : Exc} {e : DEnv} : hOr m1 m2 x e = (m1 x e).bind fun b => if b = true then some true else m2 x e := rfl
@[simp] theorem outs_one {pm : List Nat} {d d' : D} {ds : List D} {e : DEnv} : outs (1 :: pm) (d :: ds) (some (1, d') :: e) = (outs pm ds e).map (d' :: ·) := by
  simp [outs]
section
variable {Z L : List Nat} {k : Nat} {x y : Option (Nat × D)} {e e2 : DEnv} {n : Nat} {d : D} {ds : List D}
@[simp] theorem tmpE_nil' : tmpE Z L k [] = [] := rfl
@[simp] theorem tmpE_cons' : tmpE Z L k (x :: e) = tmp1 Z L k x :: tmpE Z L (k + 1) e := rfl
@[simp] theorem backE_nil' : backE Z L k [] [] = [] := rfl
@[simp] theorem backE_cons' : backE Z L k (x :: e) (y :: e2) = back1 Z L k x y :: backE Z L (k + 1) e e2 := rfl
@[simp] theorem okL_nil' : okL Z L k [] = true := rfl
@[simp] theorem okL_cons' : okL Z L k (y :: e) = (okL1 Z L k y && okL Z L (k + 1) e) := rfl
theorem tmp1_z (h : Z.contains k = true) : tmp1 Z L k (some (n, d)) = some (0, d) := by simp only [tmp1, h, if_true, Option.map]
@[simp] theorem tmp1_none : tmp1 Z L k none = none := by unfold tmp1; cases Z.contains k <;> cases L.contains k <;> rfl
@[simp] theorem tmp1_sh : tmp1 Z L k (some (0, d)) = some (0, d) := by unfold tmp1; cases Z.contains k <;> cases L.contains k <;> rfl
@[simp] theorem tmp1_ow : tmp1 Z L k (some (n + 1, d)) = if Z.contains k = true then some (0, d) else if L.contains k = true then some (n + 1, d) else none := rfl
@[simp] theorem back1_eq : back1 Z L k x y = if Z.contains k = true then x else if L.contains k = true then y else x := rfl
@[simp] theorem okL1_nil : okL1 Z [] k y = true := by simp [okL1]
@[simp] theorem okL1_eq {j : Nat} {L : List Nat} : okL1 Z (j :: L) k y = if Z.contains k = true then true else if (j :: L).contains k = true then (match y with
    | some (n, d) => closedM n d
    | none => true) else true := rfl
@[simp] theorem closedM0 : closedM 0 d = flatT d := by cases d <;> rfl
@[simp] theorem closedM_int {i : Int} : closedM n (.int i) = true := by cases n <;> rfl
@[simp] theorem closedM_bl {b : Bool} : closedM n (.bl b) = true := by cases n <;> rfl
@[simp] theorem closedM_str {b : Str} : closedM n (.str b) = true := by cases n <;> rfl
@[simp] theorem closedM_non : closedM n .non = true := by cases n <;> rfl
@[simp] theorem closedM_lst : closedM (n + 1) (.lst ds) = ds.all (closedM n) := by simp only [closedM]
@[simp] theorem closedM_tup : closedM (n + 1) (.tup ds) = ds.all (closedM n) := by simp only [closedM]
@[simp] theorem flatT_int {i : Int} : flatT (.int i) = true := rfl
@[simp] theorem flatT_bl {i : Bool} : flatT (.bl i) = true := rfl
@[simp] theorem flatT_str {i : Str} : flatT (.str i) = true := rfl
@[simp] theorem flatT_non : flatT .non = true := rfl
@[simp] theorem flatT_tup : flatT (.tup ds) = flatTs ds := rfl
@[simp] theorem flatTs_nil : flatTs [] = true := rfl
@[simp] theorem flatTs_cons : flatTs (d :: ds) = (flatT d && flatTs ds) := rfl
end
@[simp] theorem sliceD_scr {ds : List D} {lo hi : Option Int} : sliceD (.scr ds) lo hi = some (1, .lst (DL.cutD ds lo hi)) := rfl
@[simp] theorem truthD_tup {ds : List D} : truthD (.tup ds) = some (!ds.isEmpty) := rfl
@[simp] theorem truthD_non : truthD .non = some false := rfl
@[simp] theorem truthD_int {i : Int} : truthD (.int i) = some (i != 0) := rfl
@[simp] theorem addD_str {x y : Str} (h : x.length + y.length ≤ 16777216) : addD (.str x) (.str y) = some (0, .str (x ++ y)) := if_pos h
@[simp] theorem lenD_str {x : Str} (h : x.length ≤ 16777216) : lenD [.str x] = some (0, .int x.length) := if_pos h
theorem idxD_str {x : Str} {i : Int} (h : x.length ≤ 16777216) : idxD (.str x) (.int i) = (L2.atI x.cps.toList i).map fun c => (0, .str ⟨#[c]⟩) := if_pos h
/-! ### what a def does, whatever its end -/
def bodyL (pm : List Nat) (ds : List D) (T : FR → Prop) : Post := ⟨fun e => oP (outs pm ds e) fun ds' => T (.ret 0 .non ds'), fun n d e => oP (outs pm ds e) fun ds' => T (.ret n d ds'), fun _ => False, fun _ => False, fun x e => oP (outs pm ds e) fun ds' => T (.exc x ds')⟩
@[simp] theorem bodyL_nx {pm : List Nat} {ds : List D} {T : FR → Prop} : (bodyL pm ds T).nx = fun e => oP (outs pm ds e) fun ds' => T (.ret 0 .non ds') := rfl
@[simp] theorem bodyL_rt {pm : List Nat} {ds : List D} {T : FR → Prop} : (bodyL pm ds T).rt = fun n d e => oP (outs pm ds e) fun ds' => T (.ret n d ds') := rfl
@[simp] theorem bodyL_ex {pm : List Nat} {ds : List D} {T : FR → Prop} : (bodyL pm ds T).ex = fun x e => oP (outs pm ds e) fun ds' => T (.exc x ds') := rfl
theorem fn_X {pm : List Nat} {kk : Nat} {m : MS} {ds : List D} (T : FR → Prop) (h : ∀ J : FR → Prop, (∀ o, T o → J o) → WS (m (mkEnv pm ds ++ List.replicate kk none)) (bodyL pm ds J)) : T (fnSemX pm kk m ds) := by
  have h := h T fun _ z => z
  unfold fnSemX fin
  cases hm : m (mkEnv pm ds ++ List.replicate kk none) with
  | nx e => rw [hm] at h; obtain ⟨ds', h1, h2⟩ := oP_ex.mp h; dsimp only; rw [h1]; exact h2
  | ret n d e => rw [hm] at h; obtain ⟨ds', h1, h2⟩ := oP_ex.mp h; dsimp only; rw [h1]; exact h2
  | brk e => rw [hm] at h; exact h.elim
  | cont e => rw [hm] at h; exact h.elim
  | exc x e => rw [hm] at h; obtain ⟨ds', h1, h2⟩ := oP_ex.mp h; dsimp only; rw [h1]; exact h2
  | stuck => rw [hm] at h; exact h.elim
/-- .. that raises nothing -/
def bodyQ (pm : List Nat) (ds : List D) (T : Nat → D → List D → Prop) : Post := ⟨fun e => oP (outs pm ds e) fun ds' => T 0 .non ds', fun n d e => oP (outs pm ds e) fun ds' => T n d ds', fun _ => False, fun _ => False, fun _ _ => False⟩
@[simp] theorem bodyQ_nx {pm : List Nat} {ds : List D} {T : Nat → D → List D → Prop} : (bodyQ pm ds T).nx = fun e => oP (outs pm ds e) fun ds' => T 0 .non ds' := rfl
@[simp] theorem bodyQ_rt {pm : List Nat} {ds : List D} {T : Nat → D → List D → Prop} : (bodyQ pm ds T).rt = fun n d e => oP (outs pm ds e) fun ds' => T n d ds' := rfl
@[simp] theorem bodyQ_ex {pm : List Nat} {ds : List D} {T : Nat → D → List D → Prop} : (bodyQ pm ds T).ex = fun _ _ => False := rfl
theorem fn_L {pm : List Nat} {kk : Nat} {m : MS} {ds : List D} (T : Nat → D → List D → Prop) (h : ∀ J : Nat → D → List D → Prop, (∀ n d ds', T n d ds' → J n d ds') → WS (m (mkEnv pm ds ++ List.replicate kk none)) (bodyQ pm ds J)) : ∃ n d ds', fnSem pm kk m ds = .ret n d ds' ∧ T n d ds' := by
  have h := h T fun _ _ _ z => z
  unfold fnSem fin
  cases hm : m (mkEnv pm ds ++ List.replicate kk none) with
  | nx e => rw [hm] at h; obtain ⟨ds', h1, h2⟩ := oP_ex.mp h; dsimp only; rw [h1]; exact ⟨_, _, _, rfl, h2⟩
  | ret n d e => rw [hm] at h; obtain ⟨ds', h1, h2⟩ := oP_ex.mp h; dsimp only; rw [h1]; exact ⟨_, _, _, rfl, h2⟩
  | brk e => rw [hm] at h; exact h.elim
  | cont e => rw [hm] at h; exact h.elim
  | exc x e => rw [hm] at h; exact h.elim
  | stuck => rw [hm] at h; exact h.elim
end DL

set_option autoImplicit false
set_option Elab.async false
set_option linter.all false
set_option maxRecDepth 100000
/-! DL: texts compared; plain values. -/
namespace DL
open PySem PySem.Spec PyProof.Rows L2
theorem ofS_inj' {a b : String} (h : Str.ofString a = Str.ofString b) : a = b := by
  rw [Str.ofString_eq_toList, Str.ofString_eq_toList] at h
  have h1 : a.toList.map Char.toNat = b.toList.map Char.toNat := by
    have := congrArg (fun s : Str => s.cps.toList) h
    simpa using this
  have h2 : a.toList = b.toList := List.map_inj_right (fun x y e => Char.toNat_inj.mp e) |>.mp h1
  exact String.toList_inj.mp h2
@[simp] theorem ofS_inj {a b : String} : (Str.ofString a = Str.ofString b) ↔ a = b := ⟨ofS_inj', fun h => by rw [h]⟩
theorem ofS_len (s : String) : (Str.ofString s).length = s.toList.length := by
  rw [Str.ofString_eq_toList]
  show (Array.size _) = _
  simp
@[simp] theorem eqD_strs {a b : Str} : eqD (.str a) (.str b) = some (decide (a = b)) := by
  show some (a == b) = _
  congr 1
@[simp] theorem neD_strs {a b : Str} : neD (.str a) (.str b) = some (!decide (a = b)) := by
  show some (!(a == b)) = _
  congr 1
/-- values that a judge may look at: no types, no dicts; texts and lists not too long -/
def okP : Nat → D → Bool
  | _, .non => true
  | _, .bl _ => true
  | _, .int _ => true
  | _, .str x => decide (x.length ≤ 1000)
  | n + 1, .lst ds => decide (ds.length ≤ 1000) && ds.all (okP n)
  | n + 1, .tup ds => decide (ds.length ≤ 1000) && ds.all (okP n)
  | _, _ => false
theorem okP_up : ∀ (n : Nat) (d : D), okP n d = true → okP (n + 1) d = true
  | _, .non, _ => by simp [okP]
  | _, .bl _, _ => by simp [okP]
  | _, .int _, _ => by simp [okP]
  | n, .str x, h => by cases n <;> simpa [okP] using h
  | n + 1, .lst ds, h => by
    simp only [okP, Bool.and_eq_true, decide_eq_true_eq, List.all_eq_true] at h ⊢
    exact ⟨h.1, fun d hd => okP_up n d (h.2 d hd)⟩
  | n + 1, .tup ds, h => by
    simp only [okP, Bool.and_eq_true, decide_eq_true_eq, List.all_eq_true] at h ⊢
    exact ⟨h.1, fun d hd => okP_up n d (h.2 d hd)⟩
  | 0, .lst ds, h => by simp [okP] at h
  | 0, .tup ds, h => by simp [okP] at h
  | 0, .ty _, h => by simp [okP] at h
  | n + 1, .ty _, h => by simp [okP] at h
  | 0, .scr _, h => by simp [okP] at h
  | n + 1, .scr _, h => by simp [okP] at h
  | 0, .dK _, h => by simp [okP] at h
  | n + 1, .dK _, h => by simp [okP] at h
  | 0, .dT _, h => by simp [okP] at h
  | n + 1, .dT _, h => by simp [okP] at h
theorem okP_le {n m : Nat} (h : n ≤ m) {d : D} (o : okP n d = true) : okP m d = true := by
  induction h with
  | refl => exact o
  | step _ ih => exact okP_up _ _ ih
theorem okN_of_okP : ∀ (n : Nat) (d : D), okP n d = true → okN n d = true
  | n, .non, _ => by cases n <;> simp [okN]
  | n, .bl _, _ => by cases n <;> simp [okN]
  | n, .int _, _ => by cases n <;> simp [okN]
  | n, .str x, h => by cases n <;> simp [okN]
  | n + 1, .lst ds, h => by
    simp only [okP, okN, Bool.and_eq_true, decide_eq_true_eq, List.all_eq_true] at h ⊢
    exact fun d hd => okN_of_okP n d (h.2 d hd)
  | n + 1, .tup ds, h => by
    simp only [okP, okN, Bool.and_eq_true, decide_eq_true_eq, List.all_eq_true] at h ⊢
    exact fun d hd => okN_of_okP n d (h.2 d hd)
  | 0, .lst ds, h => by simp [okP] at h
  | 0, .tup ds, h => by simp [okP] at h
  | 0, .ty _, h => by simp [okP] at h
  | n + 1, .ty _, h => by simp [okP] at h
  | 0, .scr _, h => by simp [okP] at h
  | n + 1, .scr _, h => by simp [okP] at h
  | 0, .dK _, h => by simp [okP] at h
  | n + 1, .dK _, h => by simp [okP] at h
  | 0, .dT _, h => by simp [okP] at h
  | n + 1, .dT _, h => by simp [okP] at h
theorem okN_le {n m : Nat} (h : n ≤ m) {d : D} (o : okN n d = true) : okN m d = true := by
  induction h with
  | refl => exact o
  | step _ ih => exact okN_up _ _ ih
theorem okN40 {d : D} {n : Nat} (h : okP n d = true) (hn : n ≤ 40 := by decide) : okN 40 d = true := okN_le hn (okN_of_okP n d h)
/-- is it this text -/
def isS (s : Str) : D → Bool
  | .str x => decide (x = s)
  | _ => false
@[simp] theorem isS_str {s x : Str} : isS s (.str x) = decide (x = s) := rfl
theorem eqv_strR {d : D} {s : Str} : eqv d (.str s) = isS s d := by
  cases d <;> simp [eqv, isS]
  rename_i x
  by_cases h : x = s <;> simp [h]
theorem eqv_strL {d : D} {s : Str} : eqv (.str s) d = isS s d := by
  cases d <;> simp [eqv, isS]
  rename_i x
  by_cases h : x = s
  · simp [h]
  · simp [h]; exact fun z => h z.symm
theorem eqD_S {d : D} {s : Str} (h : okN 40 d = true) : eqD d (.str s) = some (isS s d) := by
  unfold eqD
  rw [h, eqv_strR]; rfl
theorem neD_S {d : D} {s : Str} (h : okN 40 d = true) : neD d (.str s) = some (!isS s d) := by
  unfold neD
  rw [h, eqv_strR]; rfl
/-- is it one of these texts -/
theorem inD_Ss {d : D} {ss : List Str} (h : okN 40 d = true) : inD d (.tup (ss.map .str)) = some (ss.any fun s => isS s d) := by
  have e : (ss.map D.str).all (okN 40) = true := by rw [List.all_map]; exact List.all_eq_true.mpr fun _ _ => rfl
  unfold inD
  rw [h]
  dsimp only
  rw [e]
  simp only [Bool.and_self, if_true, List.any_map]
  congr 2
  funext s
  exact eqv_strL
theorem inD_SsL {d : D} {ss : List Str} (h : okN 40 d = true) : inD d (.lst (ss.map .str)) = some (ss.any fun s => isS s d) := by
  have e : (ss.map D.str).all (okN 40) = true := by rw [List.all_map]; exact List.all_eq_true.mpr fun _ _ => rfl
  unfold inD
  rw [h]
  dsimp only
  rw [e]
  simp only [Bool.and_self, if_true, List.any_map]
  congr 2
  funext s
  exact eqv_strL
@[simp] theorem atI_0 {α : Type} {a0 : α} {l : List α} : L2.atI (a0 :: l) 0 = some a0 := by
  have := atI_nat (xs := a0 :: l) (k := 0) (by simp)
  simpa using this
@[simp] theorem atI_1 {α : Type} {a0 a1 : α} {l : List α} : L2.atI (a0 :: a1 :: l) 1 = some a1 := by
  have := atI_nat (xs := a0 :: a1 :: l) (k := 1) (by simp)
  simpa using this
@[simp] theorem atI_2 {α : Type} {a0 a1 a2 : α} {l : List α} : L2.atI (a0 :: a1 :: a2 :: l) 2 = some a2 := by
  have := atI_nat (xs := a0 :: a1 :: a2 :: l) (k := 2) (by simp)
  simpa using this
@[simp] theorem atI_3 {α : Type} {a0 a1 a2 a3 : α} {l : List α} : L2.atI (a0 :: a1 :: a2 :: a3 :: l) 3 = some a3 := by
  have := atI_nat (xs := a0 :: a1 :: a2 :: a3 :: l) (k := 3) (by simp)
  simpa using this
@[simp] theorem atI_4 {α : Type} {a0 a1 a2 a3 a4 : α} {l : List α} : L2.atI (a0 :: a1 :: a2 :: a3 :: a4 :: l) 4 = some a4 := by
  have := atI_nat (xs := a0 :: a1 :: a2 :: a3 :: a4 :: l) (k := 4) (by simp)
  simpa using this
@[simp] theorem atI_5 {α : Type} {a0 a1 a2 a3 a4 a5 : α} {l : List α} : L2.atI (a0 :: a1 :: a2 :: a3 :: a4 :: a5 :: l) 5 = some a5 := by
  have := atI_nat (xs := a0 :: a1 :: a2 :: a3 :: a4 :: a5 :: l) (k := 5) (by simp)
  simpa using this
@[simp] theorem atI_6 {α : Type} {a0 a1 a2 a3 a4 a5 a6 : α} {l : List α} : L2.atI (a0 :: a1 :: a2 :: a3 :: a4 :: a5 :: a6 :: l) 6 = some a6 := by
  have := atI_nat (xs := a0 :: a1 :: a2 :: a3 :: a4 :: a5 :: a6 :: l) (k := 6) (by simp)
  simpa using this
@[simp] theorem atI_7 {α : Type} {a0 a1 a2 a3 a4 a5 a6 a7 : α} {l : List α} : L2.atI (a0 :: a1 :: a2 :: a3 :: a4 :: a5 :: a6 :: a7 :: l) 7 = some a7 := by
  have := atI_nat (xs := a0 :: a1 :: a2 :: a3 :: a4 :: a5 :: a6 :: a7 :: l) (k := 7) (by simp)
  simpa using this
@[simp] theorem atI_8 {α : Type} {a0 a1 a2 a3 a4 a5 a6 a7 a8 : α} {l : List α} : L2.atI (a0 :: a1 :: a2 :: a3 :: a4 :: a5 :: a6 :: a7 :: a8 :: l) 8 = some a8 := by
  have := atI_nat (xs := a0 :: a1 :: a2 :: a3 :: a4 :: a5 :: a6 :: a7 :: a8 :: l) (k := 8) (by simp)
  simpa using this
@[simp] theorem atI_9 {α : Type} {a0 a1 a2 a3 a4 a5 a6 a7 a8 a9 : α} {l : List α} : L2.atI (a0 :: a1 :: a2 :: a3 :: a4 :: a5 :: a6 :: a7 :: a8 :: a9 :: l) 9 = some a9 := by
  have := atI_nat (xs := a0 :: a1 :: a2 :: a3 :: a4 :: a5 :: a6 :: a7 :: a8 :: a9 :: l) (k := 9) (by simp)
  simpa using this
@[simp] theorem atI_10 {α : Type} {a0 a1 a2 a3 a4 a5 a6 a7 a8 a9 a10 : α} {l : List α} : L2.atI (a0 :: a1 :: a2 :: a3 :: a4 :: a5 :: a6 :: a7 :: a8 :: a9 :: a10 :: l) 10 = some a10 := by
  have := atI_nat (xs := a0 :: a1 :: a2 :: a3 :: a4 :: a5 :: a6 :: a7 :: a8 :: a9 :: a10 :: l) (k := 10) (by simp)
  simpa using this
@[simp] theorem atI_11 {α : Type} {a0 a1 a2 a3 a4 a5 a6 a7 a8 a9 a10 a11 : α} {l : List α} : L2.atI (a0 :: a1 :: a2 :: a3 :: a4 :: a5 :: a6 :: a7 :: a8 :: a9 :: a10 :: a11 :: l) 11 = some a11 := by
  have := atI_nat (xs := a0 :: a1 :: a2 :: a3 :: a4 :: a5 :: a6 :: a7 :: a8 :: a9 :: a10 :: a11 :: l) (k := 11) (by simp)
  simpa using this
@[simp] theorem atI_12 {α : Type} {a0 a1 a2 a3 a4 a5 a6 a7 a8 a9 a10 a11 a12 : α} {l : List α} : L2.atI (a0 :: a1 :: a2 :: a3 :: a4 :: a5 :: a6 :: a7 :: a8 :: a9 :: a10 :: a11 :: a12 :: l) 12 = some a12 := by
  have := atI_nat (xs := a0 :: a1 :: a2 :: a3 :: a4 :: a5 :: a6 :: a7 :: a8 :: a9 :: a10 :: a11 :: a12 :: l) (k := 12) (by simp)
  simpa using this
@[simp] theorem atI_13 {α : Type} {a0 a1 a2 a3 a4 a5 a6 a7 a8 a9 a10 a11 a12 a13 : α} {l : List α} : L2.atI (a0 :: a1 :: a2 :: a3 :: a4 :: a5 :: a6 :: a7 :: a8 :: a9 :: a10 :: a11 :: a12 :: a13 :: l) 13 = some a13 := by
  have := atI_nat (xs := a0 :: a1 :: a2 :: a3 :: a4 :: a5 :: a6 :: a7 :: a8 :: a9 :: a10 :: a11 :: a12 :: a13 :: l) (k := 13) (by simp)
  simpa using this
@[simp] theorem atI_14 {α : Type} {a0 a1 a2 a3 a4 a5 a6 a7 a8 a9 a10 a11 a12 a13 a14 : α} {l : List α} : L2.atI (a0 :: a1 :: a2 :: a3 :: a4 :: a5 :: a6 :: a7 :: a8 :: a9 :: a10 :: a11 :: a12 :: a13 :: a14 :: l) 14 = some a14 := by
  have := atI_nat (xs := a0 :: a1 :: a2 :: a3 :: a4 :: a5 :: a6 :: a7 :: a8 :: a9 :: a10 :: a11 :: a12 :: a13 :: a14 :: l) (k := 14) (by simp)
  simpa using this
@[simp] theorem atI_15 {α : Type} {a0 a1 a2 a3 a4 a5 a6 a7 a8 a9 a10 a11 a12 a13 a14 a15 : α} {l : List α} : L2.atI (a0 :: a1 :: a2 :: a3 :: a4 :: a5 :: a6 :: a7 :: a8 :: a9 :: a10 :: a11 :: a12 :: a13 :: a14 :: a15 :: l) 15 = some a15 := by
  have := atI_nat (xs := a0 :: a1 :: a2 :: a3 :: a4 :: a5 :: a6 :: a7 :: a8 :: a9 :: a10 :: a11 :: a12 :: a13 :: a14 :: a15 :: l) (k := 15) (by simp)
  simpa using this
@[simp] theorem isD_nonR {d : D} : isD d .non = some (isNonD d) := by cases d <;> rfl
@[simp] theorem isntD_nonR {d : D} : isntD d .non = some (!isNonD d) := by cases d <;> rfl
@[simp] theorem isNonD_non : isNonD .non = true := rfl
@[simp] theorem isNonD_int {i : Int} : isNonD (.int i) = false := rfl
@[simp] theorem isNonD_bl {i : Bool} : isNonD (.bl i) = false := rfl
@[simp] theorem isNonD_str {i : Str} : isNonD (.str i) = false := rfl
@[simp] theorem isNonD_lst {i : List D} : isNonD (.lst i) = false := rfl
@[simp] theorem isNonD_tup {i : List D} : isNonD (.tup i) = false := rfl
theorem notInD_char {c : Nat} {z : Str} : notInD (.str ⟨#[c]⟩) (.str z) = some (!decide (c ∈ z.cps.toList)) := rfl
theorem inD_char {c : Nat} {z : Str} : inD (.str ⟨#[c]⟩) (.str z) = some (decide (c ∈ z.cps.toList)) := rfl
end DL

set_option autoImplicit false
set_option Elab.async false
set_option linter.all false
set_option maxRecDepth 100000
/-! DL: comprehensions that change what they lend; lengths of texts. -/
namespace DL
open PySem PySem.Spec PyProof.Rows L2
theorem WE_compS0 {X : Exc → DEnv → Prop} {g : DTg} {vs : List Nat} {tc : MT} {me : ME} {P : Nat × D → DEnv → Prop} (I : Nat → List D → DEnv → Prop) : ∀ (ds : List D) (k : Nat) (acc : List D) (e : DEnv), acc.length + ds.length ≤ 16777216 → I k acc e →
    (∀ j d acc e, ds[j]? = some d → I (k + j) acc e → ∃ e1, g d e = some e1 ∧ WE X (tc e1) fun b e2 => (b = true → WE X (me e2) fun r e3 => I (k + j + 1) (acc ++ [r.2]) (wipeD vs e3)) ∧ (b = false → I (k + j + 1) acc (wipeD vs e2))) →
    (∀ acc e, I (k + ds.length) acc e → P (1, .lst acc) e) → (∀ x e, ¬ X x e) → WE X (compL g vs tc me ds acc e) P
  | [], k, acc, e, _, hi, _, hp, _ => hp acc e hi
  | d :: ds, k, acc, e, hl, hi, hs, hp, hx => by
    obtain ⟨e1, h1, h2⟩ := hs 0 d acc e rfl hi
    have hl' : acc.length < 16777216 := by simp only [List.length_cons] at hl; omega
    have next : ∀ acc' e', acc'.length ≤ acc.length + 1 → I (k + 0 + 1) acc' e' → WE X (compL g vs tc me ds acc' e') P := fun acc' e' hl2 hi' =>
      WE_compS0 I ds (k + 1) acc' e' (by simp only [List.length_cons] at hl; omega) hi' (fun j d2 a e hj hij => by
        have := hs (j + 1) d2 a e hj (by rw [show k + (j + 1) = k + 1 + j by omega]; exact hij)
        rw [show k + (j + 1) = k + 1 + j by omega] at this
        exact this) (fun a e h => hp a e (by rw [show k + (d :: ds).length = k + 1 + ds.length by simp only [List.length_cons]; omega]; exact h)) hx
    unfold compL
    rw [h1]
    dsimp only
    cases hc : tc e1 with
    | stuck => rw [hc] at h2; exact h2.elim
    | exc x e2 => rw [hc] at h2; exact (hx _ _ h2).elim
    | ok b e2 =>
      rw [hc] at h2
      dsimp only
      cases b with
      | false =>
        simp only [Bool.false_eq_true, if_false]
        exact next acc _ (by omega) (h2.2 rfl)
      | true =>
        have h3 := h2.1 rfl
        simp only [if_true]
        cases hm : me e2 with
        | stuck => rw [hm] at h3; exact h3.elim
        | exc x e2 => rw [hm] at h3; exact (hx _ _ h3).elim
        | ok r e3 =>
          rw [hm] at h3
          dsimp only
          rw [if_pos hl']
          exact next (acc ++ [r.2]) _ (by simp) h3
theorem WE_compS {X : Exc → DEnv → Prop} {g : DTg} {vs : List Nat} {tc : MT} {me : ME} {P : Nat × D → DEnv → Prop} {ds : List D} {e : DEnv} (I : Nat → List D → DEnv → Prop) (hl : ds.length ≤ 16777216) (h0 : I 0 [] e)
    (hs : ∀ J : Nat → List D → DEnv → Prop, (∀ k a e, I k a e → J k a e) → ∀ j d acc e, ds[j]? = some d → I j acc e → ∃ e1, g d e = some e1 ∧ WE X (tc e1) fun b e2 => (b = true → WE X (me e2) fun r e3 => J (j + 1) (acc ++ [r.2]) (wipeD vs e3)) ∧ (b = false → J (j + 1) acc (wipeD vs e2)))
    (hp : ∀ acc e, I ds.length acc e → P (1, .lst acc) e) (hx : ∀ x e, ¬ X x e) : WE X (compL g vs tc me ds [] e) P :=
  WE_compS0 I ds 0 [] e (by simpa using hl) h0 (fun j d acc e hj hi => by
    rw [Nat.zero_add] at hi ⊢
    exact hs I (fun _ _ _ z => z) j d acc e hj hi) (fun acc e h => hp acc e (by rw [Nat.zero_add] at h; exact h)) hx
@[simp] theorem str_app_len {a b : Str} : (a ++ b).length = a.length + b.length := by
  show (a.cps ++ b.cps).size = _
  simp [Str.length]
@[simp] theorem str_app_list {a b : Str} : (a ++ b).cps.toList = a.cps.toList ++ b.cps.toList := by
  show (a.cps ++ b.cps).toList = _
  simp
@[simp] theorem str1_len {c : Nat} : (⟨#[c]⟩ : Str).length = 1 := rfl
@[simp] theorem getD1 {n : Nat} {d : D} : (some (n, d) : Option (Nat × D)) = some (n, d) := rfl
end DL

set_option autoImplicit false
set_option Elab.async false
set_option linter.all false
set_option maxRecDepth 100000
/-! DL: looks into owned lists and dicts; loops over an owned dict. -/
namespace DL
open PySem PySem.Spec PyProof.Rows L2
section
variable {X : Cx} {W : WX}
/-- an owned name's thing -/
def own1 (e : DEnv) (i : Nat) : Option D := match e[i]? with
  | some (some (1, d)) => some d
  | _ => none
theorem own1_eq {e : DEnv} {i : Nat} {d : D} : own1 e i = some d ↔ e[i]? = some (some (1, d)) := by
  unfold own1
  split
  · rename_i x h; rw [h]; simp
  · rename_i h
    constructor
    · intro z; cases z
    · intro z; exact (h d z).elim
def ixO (c k : D) : Option D := match c with
  | .lst ds => (match k with
    | .int i => L2.atI ds i
    | _ => none)
  | .dK kvs => (match keyD k with
    | some k => dlook kvs k
    | none => none)
  | .dT kvs => (match keyT k with
    | some k => dlook kvs k
    | none => none)
  | _ => none
/-- x[k], x an owned name -/
def mIdxO (i : Nat) (mk : ME) : ME := fun env => match own1 env i with
  | some _ => (mk env).bind fun k e => match own1 e i with
    | some c => (oB (ixO c k.2) e).bind fun d e => .ok (0, d) e
    | none => .stuck
  | none => .stuck
theorem de_ixO {i : Nat} {o k : Expr} {pos : Pos} {mk : ME} (hu : X.A.units + 64 < cLine) (ho : PE X o (tVar i)) (hk : DE X W mk k) (hs : PlainIx k := by intro _ _; rfl) : DE X W (mIdxO i mk) (.Subscript o k pos) := by
  refine PE.to (pe_ix ((ix_list (X := X)).or (ix_dict (by omega))) ho hk hs) fun σ H Q ⟨G, F, env, fp, s, h⟩ => ?_
  unfold mIdxO at h
  cases h0 : own1 env i with
  | none => rw [h0] at h; exact h.elim
  | some c0 =>
    rw [h0] at h
    dsimp only at h
    obtain ⟨v, hv, _⟩ := s.slot i 1 _ (own1_eq.mp h0)
    refine ⟨v, hv, ?_⟩
    refine tE.of s h.bind fun r1 e1 F1 H1 fp1 y p1 s1 rep1 fe1 => ?_
    cases h1 : own1 e1 i with
    | none => rw [h1] at p1; exact p1.elim
    | some c =>
      rw [h1] at p1
      dsimp only at p1
      obtain ⟨d, hd, p1⟩ := p1.bind.ofO
      obtain ⟨v', hv', hr⟩ := s1.slot i 1 _ (own1_eq.mp h1)
      rw [hv] at hv'
      cases hv'
      have fin : ∀ u, Rep X.K F1 d u → Q u H1 := fun u ru => p1 u F1 H1 fp1 _ (SV.of_rep s1 ru) fe1
      cases c with
      | lst ds =>
        obtain ⟨p, vs, rfl, _, hp, hra⟩ := hr
        have rds := RepA.reps hra
        obtain ⟨n, kd⟩ := r1
        cases kd <;> try (cases hd; done)
        rename_i j
        cases Rep.int_inv rep1
        obtain ⟨u, hu', ru⟩ := rds.atI (show L2.atI ds j = some d from hd)
        exact .inl ⟨p, vs, j, u, rfl, rfl, SqL.of hp, hu', fin u ru⟩
      | dK kvs =>
        obtain ⟨p, kws, rfl, _, hp, hks, hra⟩ := hr
        have rds := RepA.reps hra
        unfold ixO at hd
        dsimp only at hd
        cases hkx : keyD r1.2 with
        | none => rw [hkx] at hd; cases hd
        | some kx =>
          rw [hkx] at hd
          dsimp only at hd
          have ek := keyD_ok rep1 hkx
          subst ek
          have q := dlook_some (k := kx) hks rds
          rw [hd] at q
          obtain ⟨u, hu', ru⟩ := q
          exact .inr ⟨p, u, rfl, by rw [← hu']; exact DGet.k hp, fin u ru⟩
      | dT kvs =>
        obtain ⟨p, kws, rfl, _, hp, hks, hra⟩ := hr
        have rds := RepA.reps hra
        unfold ixO at hd
        dsimp only at hd
        cases hkx : keyT r1.2 with
        | none => rw [hkx] at hd; cases hd
        | some kx =>
          rw [hkx] at hd
          dsimp only at hd
          obtain ⟨b, ek, eb⟩ := keyT_ok rep1 hkx
          subst ek
          have q := dlook_some (k := kx) hks rds
          rw [hd] at q
          obtain ⟨u, hu', ru⟩ := q
          exact .inr ⟨p, u, rfl, by rw [← hu']; exact DGet.t hp (s1.sf _ _ eb), fin u ru⟩
      | _ => cases hd
/-! ### d.get(k), d.get(k, x) -/
def getD' (c k : D) : Option (Option D) := match c with
  | .dK kvs => (keyD k).map fun k => dlook kvs k
  | .dT kvs => (keyT k).map fun k => dlook kvs k
  | _ => none
def Got (K : PySem.W.Frag) (F : Hp) (r : Option D) (o : Option V) : Prop := (∃ e v, r = some e ∧ o = some v ∧ Rep K F e v) ∨ (r = none ∧ o = none)
theorem got_of {K : PySem.W.Frag} {F : Hp} {r : Option D} {o : Option V} (h : match r with
    | some e => ∃ v, o = some v ∧ Rep K F e v
    | none => o = none) : Got K F r o := by
  cases r with
  | none => exact .inr ⟨rfl, h⟩
  | some e => obtain ⟨v, h1, h2⟩ := h; exact .inl ⟨e, v, rfl, h1, h2⟩
theorem dget_of {K : PySem.W.Frag} {F H : Hp} {c k : D} {x y : V} {r : Option D} (sf : Same F H) (hc : (∃ kvs p kws, c = .dK kvs ∧ x = .ref p ∧ H p = some (.dK kws) ∧ kvs.map (·.1) = kws.map (·.1) ∧ Reps K F (kvs.map (·.2)) (kws.map (·.2))) ∨ ∃ kvs p kws, c = .dT kvs ∧ x = .ref p ∧ H p = some (.dT kws) ∧ kvs.map (·.1) = kws.map (·.1) ∧ Reps K F (kvs.map (·.2)) (kws.map (·.2)))
    (rk : Rep K F k y) (h : getD' c k = some r) : ∃ a o, x = .ref a ∧ DGet H a y o ∧ Got K F r o := by
  rcases hc with ⟨kvs, p, kws, rfl, rfl, hp, hks, hr⟩ | ⟨kvs, p, kws, rfl, rfl, hp, hks, hr⟩
  · obtain ⟨kx, hkx, rfl⟩ := Option.map_eq_some_iff.mp (show (keyD k).map (fun k => dlook kvs k) = some r from h)
    have ek := keyD_ok rk hkx
    subst ek
    exact ⟨p, valV kws kx, rfl, DGet.k hp, got_of (dlook_some hks hr)⟩
  · obtain ⟨kx, hkx, rfl⟩ := Option.map_eq_some_iff.mp (show (keyT k).map (fun k => dlook kvs k) = some r from h)
    obtain ⟨b, ek, eb⟩ := keyT_ok rk hkx
    subst ek
    exact ⟨p, valV kws kx, rfl, DGet.t hp (sf _ _ eb), got_of (dlook_some hks hr)⟩
theorem own_dict {K : PySem.W.Frag} {F H : Hp} {c : D} {x : V} {S : Addr → Prop} (h : RepM K F H 1 c x S) (hc : (∃ kvs, c = .dK kvs) ∨ ∃ kvs, c = .dT kvs) : (∃ kvs p kws, c = .dK kvs ∧ x = .ref p ∧ H p = some (.dK kws) ∧ kvs.map (·.1) = kws.map (·.1) ∧ Reps K F (kvs.map (·.2)) (kws.map (·.2))) ∨ ∃ kvs p kws, c = .dT kvs ∧ x = .ref p ∧ H p = some (.dT kws) ∧ kvs.map (·.1) = kws.map (·.1) ∧ Reps K F (kvs.map (·.2)) (kws.map (·.2)) := by
  rcases hc with ⟨kvs, rfl⟩ | ⟨kvs, rfl⟩
  · obtain ⟨p, kws, rfl, _, hp, hks, hra⟩ := h
    exact .inl ⟨kvs, p, kws, rfl, rfl, hp, hks, RepA.reps hra⟩
  · obtain ⟨p, kws, rfl, _, hp, hks, hra⟩ := h
    exact .inr ⟨kvs, p, kws, rfl, rfl, hp, hks, RepA.reps hra⟩
theorem isD_of {K : PySem.W.Frag} {F H : Hp} {c : D} {x : V} (hc : (∃ kvs p kws, c = .dK kvs ∧ x = .ref p ∧ H p = some (.dK kws) ∧ kvs.map (·.1) = kws.map (·.1) ∧ Reps K F (kvs.map (·.2)) (kws.map (·.2))) ∨ ∃ kvs p kws, c = .dT kvs ∧ x = .ref p ∧ H p = some (.dT kws) ∧ kvs.map (·.1) = kws.map (·.1) ∧ Reps K F (kvs.map (·.2)) (kws.map (·.2))) : ∃ a, x = .ref a ∧ IsD H a := by
  rcases hc with ⟨kvs, p, kws, rfl, rfl, hp, _⟩ | ⟨kvs, p, kws, rfl, rfl, hp, _⟩
  · exact ⟨p, rfl, .inl ⟨kws, .inl hp⟩⟩
  · exact ⟨p, rfl, .inr ⟨kws, .inl hp⟩⟩
def isDct : D → Bool
  | .dK _ => true
  | .dT _ => true
  | _ => false
theorem isDct_or {c : D} (h : isDct c = true) : (∃ kvs, c = .dK kvs) ∨ ∃ kvs, c = .dT kvs := by
  cases c <;> simp [isDct] at h
  · exact .inl ⟨_, rfl⟩
  · exact .inr ⟨_, rfl⟩
/-- d.get(k, x), d an owned name -/
def mGetO (i : Nat) (mk mx : ME) : ME := fun env => match own1 env i with
  | some c => if isDct c = true then (mk env).bind fun k e1 => (mx e1).bind fun x e => match own1 e i with
    | some c => (oB (getD' c k.2) e).bind fun r e => .ok (0, r.getD x.2) e
    | none => .stuck else .stuck
  | none => .stuck
theorem de_getO {i : Nat} {o k x : Expr} {apos cpos : Pos} {mk mx : ME} (hu : X.A.units + 64 < cLine) (ho : PE X o (tVar i)) (hk : DE X W mk k) (hx : DE X W mx x) (m : M2 X o "get" apos k x cpos := by exact ⟨rfl, rfl, rfl, rfl⟩) : DE X W (mGetO i mk mx) (.Call (.Attribute o "get" apos) [k, x] [] cpos) := by
  refine PE.to (pe_dget2 (by omega) ho hk hx m) fun σ H Q ⟨G, F, env, fp, s, h⟩ => ?_
  unfold mGetO at h
  cases h0 : own1 env i with
  | none => rw [h0] at h; exact h.elim
  | some c0 =>
    rw [h0] at h
    dsimp only at h
    split at h
    · rename_i hdc
      obtain ⟨v, hv, hr0⟩ := s.slot i 1 _ (own1_eq.mp h0)
      obtain ⟨a0, e0, hd0⟩ := isD_of (own_dict hr0 (isDct_or hdc))
      refine ⟨v, hv, a0, e0, hd0, ?_⟩
      refine tE.of s h.bind fun r1 e1 F1 H1 fp1 y p1 s1 rep1 fe1 => ?_
      refine tE.of s1 (RG.imp p1.bind fe1 fun _ _ q => q) fun r2 e2 F2 H2 fp2 z p2 s2 rep2 fe2 => ?_
      cases h1 : own1 e2 i with
      | none => rw [h1] at p2; exact p2.elim
      | some c =>
        rw [h1] at p2
        dsimp only at p2
        obtain ⟨r, hr, p2⟩ := p2.bind.ofO
        obtain ⟨v', hv', hrm⟩ := s2.slot i 1 _ (own1_eq.mp h1)
        rw [hv] at hv'
        cases hv'
        have hcc : (∃ kvs, c = .dK kvs) ∨ ∃ kvs, c = .dT kvs := by
          cases c <;> first | (cases hr; done) | exact .inl ⟨_, rfl⟩ | exact .inr ⟨_, rfl⟩
        obtain ⟨a, oo, e, g, q⟩ := dget_of s2.sf (own_dict hrm hcc) (rep1.mono fe2.same) hr
        rw [e0] at e
        cases e
        refine ⟨oo, g, ?_⟩
        rcases q with ⟨dd, u, rfl, rfl, ru⟩ | ⟨rfl, rfl⟩
        · exact p2 u F2 H2 fp2 _ (SV.of_rep s2 ru) (fe1.trans fe2)
        · exact p2 z F2 H2 fp2 _ (SV.of_rep s2 rep2) (fe1.trans fe2)
    · exact h.elim
/-- .. d shared -/
def mGetS (md mk mx : ME) : ME := fun env => (md env).bind fun c e0 => if isDct c.2 = true then (mk e0).bind fun k e1 => (mx e1).bind fun x e => (oB (getD' c.2 k.2) e).bind fun r e => .ok (0, r.getD x.2) e else .stuck
theorem rep_dict {K : PySem.W.Frag} {F H : Hp} {c : D} {x : V} (sf : Same F H) (h : Rep K F c x) (hc : (∃ kvs, c = .dK kvs) ∨ ∃ kvs, c = .dT kvs) : (∃ kvs p kws, c = .dK kvs ∧ x = .ref p ∧ H p = some (.dK kws) ∧ kvs.map (·.1) = kws.map (·.1) ∧ Reps K F (kvs.map (·.2)) (kws.map (·.2))) ∨ ∃ kvs p kws, c = .dT kvs ∧ x = .ref p ∧ H p = some (.dT kws) ∧ kvs.map (·.1) = kws.map (·.1) ∧ Reps K F (kvs.map (·.2)) (kws.map (·.2)) := by
  rcases hc with ⟨kvs, rfl⟩ | ⟨kvs, rfl⟩
  · obtain ⟨p, kws, rfl, h1, h2, h3⟩ := Rep.dK_inv h
    exact .inl ⟨kvs, p, kws, rfl, rfl, sf _ _ h1, h2, h3⟩
  · obtain ⟨p, kws, rfl, h1, h2, h3⟩ := Rep.dT_inv h
    exact .inr ⟨kvs, p, kws, rfl, rfl, sf _ _ h1, h2, h3⟩
theorem de_getS {o k x : Expr} {apos cpos : Pos} {md mk mx : ME} (hu : X.A.units + 64 < cLine) (ho : DE X W md o) (hk : DE X W mk k) (hx : DE X W mx x) (m : M2 X o "get" apos k x cpos := by exact ⟨rfl, rfl, rfl, rfl⟩) : DE X W (mGetS md mk mx) (.Call (.Attribute o "get" apos) [k, x] [] cpos) := by
  refine PE.to (pe_dget2 (by omega) ho hk hx m) fun σ H Q ⟨G, F, env, fp, s, h⟩ => ?_
  refine tE.of s h.bind fun c e0 F0 H0 fp0 v p0 s0 rep0 fe0 => ?_
  split at p0
  · rename_i hdc
    obtain ⟨a0, ea, hd0⟩ := isD_of (rep_dict s0.sf rep0 (isDct_or hdc))
    refine ⟨a0, ea, hd0, ?_⟩
    refine tE.of s0 (RG.imp p0.bind fe0 fun _ _ q => q) fun r1 e1 F1 H1 fp1 y p1 s1 rep1 fe1 => ?_
    refine tE.of s1 (RG.imp p1.bind (fe0.trans fe1) fun _ _ q => q) fun r2 e2 F2 H2 fp2 z p2 s2 rep2 fe2 => ?_
    obtain ⟨r, hr, p2⟩ := p2.bind.ofO
    obtain ⟨a, oo, e, g, q⟩ := dget_of s2.sf (rep_dict s2.sf (rep0.mono (fe1.same.trans fe2.same)) (isDct_or hdc)) (rep1.mono fe2.same) hr
    rw [ea] at e
    cases e
    refine ⟨oo, g, ?_⟩
    rcases q with ⟨dd, u, rfl, rfl, ru⟩ | ⟨rfl, rfl⟩
    · exact p2 u F2 H2 fp2 _ (SV.of_rep s2 ru) ((fe0.trans fe1).trans fe2)
    · exact p2 z F2 H2 fp2 _ (SV.of_rep s2 rep2) ((fe0.trans fe1).trans fe2)
  · exact p0.elim
end
end DL

set_option autoImplicit false
set_option Elab.async false
set_option linter.all false
set_option maxRecDepth 100000
/-! DL: loops over an owned dict. -/
namespace DL
open PySem PySem.Spec PyProof.Rows L2
structure WkG (K : PySem.W.Frag) (J : It) (G F : Hp) (ds : List D) : Prop where
  go : ∀ i H F2, Same F F2 → Same F2 H → Same G H → i < ds.length → J.go i H
  stop : ∀ H F2, Same F F2 → Same F2 H → Same G H → J.stop ds.length H
  yld : ∀ i H x H' F2, Same F F2 → Same F2 H → Same G H → i < ds.length → J.yld i H x H' → ∃ d F3, ds[i]? = some d ∧ NewV K F2 H F3 H' 0 d x (fun _ => False)
section
variable {X : Cx} {W : WX} {A1 A2 : List Nat}
theorem for_core {g : DTg} {t : TG} {b : MS} {js : List Nat} {ds : List D} {J : It} {σ0 : L2.St} {G F F' H' : Hp} {e : DEnv} {fp' : Fp} {De : L2.Ends}
    (hgq : ∀ (G F H : Hp) (σ : L2.St) (env : DEnv) (fp : Fp) (d : D) (v : V) (e' : DEnv), SS X.K G F H σ env fp → Rep X.K F d v → g d env = some e' → ∀ Q : L2.St → Hp → Prop, (∀ σ' fp', Agree A1 σ σ' → SS X.K G F H σ' e' fp' → Q σ' H) → t v σ H Q)
    (p : RGS X.K X.mg W G F (A1 ++ A2) σ0 De (mForL g js b ds e)) (s' : SS X.K G F' H' σ0 e fp') (fe : FrExt G F F') (wk : WkG X.K J G F' ds) :
    ∃ Wt : Nat → Nat → L2.St → Hp → Prop, (∃ m, Wt 0 m σ0 H') ∧ ∀ i m σ H, Wt i m σ H → (J.stop i H ∧ De.nx σ H) ∨ (J.go i H ∧ ∃ N : L2.St → Hp → Prop, (∀ σ' H', N σ' H' → ∃ m', m' < m ∧ Wt (i + 1) m' σ' H') ∧ ∀ x H', J.yld i H x H' → t x σ H' fun σ2 H2 => tS X.K X.mg W A2 b { De with nx := N, ct := N, bk := De.nx } σ2 H2) := by
  have l1 : ∀ i ∈ A1, i ∈ A1 ++ A2 := fun i hi => List.mem_append_left _ hi
  have l2 : ∀ i ∈ A2, i ∈ A1 ++ A2 := fun i hi => List.mem_append_right _ hi
  refine ⟨fun i m σ H => m = ds.length - i ∧ i ≤ ds.length ∧ ∃ F1 e1 fp1, SS X.K G F1 H σ e1 fp1 ∧ FrExt G F F1 ∧ Same F' F1 ∧ Agree (A1 ++ A2) σ0 σ ∧ RGS X.K X.mg W G F (A1 ++ A2) σ0 De (mForL g js b (ds.drop i) e1),
    ⟨ds.length, by simp, Nat.zero_le _, F', e, fp', s', fe, Same.refl _, Agree.refl _ _, by simpa using p⟩, ?_⟩
  rintro i m σ H ⟨rfl, hi, F1, e1, fp1, s1, fe1, sf1, ag, q⟩
  by_cases hlt : i < ds.length
  · refine .inr ⟨wk.go i H F1 sf1 s1.sf s1.sg hlt, fun σ' H' => i + 1 ≤ ds.length ∧ ∃ F1 e1 fp1, SS X.K G F1 H' σ' e1 fp1 ∧ FrExt G F F1 ∧ Same F' F1 ∧ Agree (A1 ++ A2) σ0 σ' ∧ RGS X.K X.mg W G F (A1 ++ A2) σ0 De (mForL g js b (ds.drop (i + 1)) e1),
      fun σ' H' p' => ⟨ds.length - (i + 1), by omega, rfl, p'⟩, fun x H' y => ?_⟩
    obtain ⟨d, F3, hd, nv⟩ := wk.yld i H x H' F1 sf1 s1.sf s1.sg hlt y
    rw [List.drop_eq_getElem_cons hlt] at q
    have ed : ds[i] = d := by rw [List.getElem?_eq_getElem hlt] at hd; exact Option.some.inj hd
    rw [ed] at q
    unfold mForL at q
    obtain ⟨sv, f3⟩ := s1.new nv
    cases eg : g d e1 with
    | none => rw [eg] at q; exact q.elim
    | some e2 =>
      rw [eg] at q
      refine hgq G F3 H' σ e1 fp1 d x e2 sv.ss sv.val eg _ fun σ2 fp2 a2 s2 => ?_
      have f03 := fe1.trans f3
      have sf3 := sf1.trans f3.same
      have ag2 : Agree (A1 ++ A2) σ0 σ2 := ag.trans a2 (fun _ z => z) l1
      refine ⟨G, F3, e2, fp2, s2, ?_⟩
      dsimp only at q
      cases eb : b e2 with
      | stuck => rw [eb] at q; exact q.elim
      | nx e3 =>
        rw [eb] at q
        intro σ' F'' H'' fp'' a s'' fe''
        obtain ⟨fpw, sw⟩ := s''.wipe js
        exact ⟨hlt, F'', _, fpw, sw, f03.trans fe'', sf3.trans fe''.same, ag2.trans a (fun _ z => z) l2, q⟩
      | cont e3 =>
        rw [eb] at q
        intro σ' F'' H'' fp'' a s'' fe''
        obtain ⟨fpw, sw⟩ := s''.wipe js
        exact ⟨hlt, F'', _, fpw, sw, f03.trans fe'', sf3.trans fe''.same, ag2.trans a (fun _ z => z) l2, q⟩
      | brk e3 =>
        rw [eb] at q
        intro σ' F'' H'' fp'' a s'' fe''
        obtain ⟨fpw, sw⟩ := s''.wipe js
        exact q σ' F'' H'' fpw (ag2.trans a (fun _ z => z) l2) sw (f03.trans fe'')
      | ret n d e3 =>
        rw [eb] at q
        exact fun v σ' F'' H'' fp'' S a s'' fe'' => q v σ' F'' H'' fp'' S (ag2.trans a (fun _ z => z) l2) s'' (f03.trans fe'')
      | exc x e3 =>
        rw [eb] at q
        exact fun c dd σ' F'' H'' fp'' a s'' fe'' rx => q c dd σ' F'' H'' fp'' (ag2.trans a (fun _ z => z) l2) s'' (f03.trans fe'') rx
  · have e : i = ds.length := by omega
    subst e
    rw [List.drop_length] at q
    exact .inl ⟨wk.stop H F1 sf1 s1.sf s1.sg, q σ F1 H fp1 ag s1 fe1⟩
end
section
variable {K : PySem.W.Frag} {G F H : Hp} {σ : L2.St} {env : DEnv} {fp : Fp} {p : Addr} {o : HO} {i : Nat}
/-- an owned thing is set aside, it may be changed -/
theorem SS.lockAt (s : SS K G F H σ env fp) (hp : fp i p) : SS K (upd G p o) F (upd H p o) σ (env.set i none) (fun j a => j ≠ i ∧ fp j a) := by
  have d := s.drop i
  have ne : ∀ j a, (j ≠ i ∧ fp j a) → a ≠ p := fun j a z e => s.dis j i a z.1 z.2 (by rw [e]; exact hp)
  exact
  { len := d.len
    slot := fun j n dd q => by
      obtain ⟨v, h1, h2⟩ := d.slot j n dd q
      exact ⟨v, h1, h2.imp (Same.refl _) (fun _ z => z) fun a u z e => by rw [upd_ne (ne j a z)]; exact e⟩
    dis := d.dis
    ld := fun j a z => by rw [upd_ne (ne j a z)]; exact d.ld j a z
    nf := d.nf
    ng := fun j a z => by rw [upd_ne (ne j a z)]; exact d.ng j a z
    sf := fun a u e => by
      have : a ≠ p := fun z => by rw [z, s.nf i p hp] at e; cases e
      rw [upd_ne this]; exact s.sf a u e
    sg := fun a u e => by
      by_cases h : a = p
      · rw [h, upd_same] at e; rw [h, upd_same]; exact e
      · rw [upd_ne h] at e ⊢; exact s.sg a u e }
theorem SS.unlock (s : SS K (upd G p o) F H σ env fp) {n : Nat} {d : D} {u : HO} (gp : G p = none) (fpn : F p = none) (hi : σ[i]? = some (some (.ref p))) (hu : LD (some u)) (hr : RepM K F (upd H p u) n d (.ref p) (fun a => a = p)) :
    SS K G F (upd H p u) σ (env.set i (some (n, d))) (fun j a => if j = i then a = p else fp j a) := by
  have ne : ∀ j a, fp j a → a ≠ p := fun j a z e => by
    have := s.ng j a z
    rw [e, upd_same] at this; cases this
  exact
  { len := by rw [List.length_set]; exact s.len
    slot := fun j m dd q => by
      by_cases h : i = j
      · subst h
        by_cases hl : i < env.length
        · rw [List.getElem?_set_self hl] at q
          cases q
          exact ⟨_, hi, hr.wid fun a z => by rw [if_pos rfl]; exact z⟩
        · rw [List.getElem?_eq_none (by simpa using hl)] at q; cases q
      · rw [List.getElem?_set_ne h] at q
        obtain ⟨v, h1, h2⟩ := s.slot j m dd q
        exact ⟨v, h1, h2.imp (Same.refl _) (fun a z => by rw [if_neg (fun e => h e.symm)]; exact z) fun a u z e => by rw [upd_ne (ne j a z)]; exact e⟩
    dis := fun j k a hjk z1 z2 => by
      by_cases h1 : j = i
      · rw [if_pos h1] at z1
        rw [if_neg (fun e => hjk (by rw [h1, e]))] at z2
        exact ne k a z2 z1
      · rw [if_neg h1] at z1
        by_cases h2 : k = i
        · rw [if_pos h2] at z2; exact ne j a z1 z2
        · rw [if_neg h2] at z2; exact s.dis j k a hjk z1 z2
    ld := fun j a z => by
      by_cases h1 : j = i
      · rw [if_pos h1] at z; rw [z, upd_same]; exact hu
      · rw [if_neg h1] at z; rw [upd_ne (ne j a z)]; exact s.ld j a z
    nf := fun j a z => by
      by_cases h1 : j = i
      · rw [if_pos h1] at z; rw [z]; exact fpn
      · rw [if_neg h1] at z; exact s.nf j a z
    ng := fun j a z => by
      by_cases h1 : j = i
      · rw [if_pos h1] at z; rw [z]; exact gp
      · rw [if_neg h1] at z
        have := s.ng j a z
        rw [upd_ne (ne j a z)] at this; exact this
    sf := fun a v e => by
      have : a ≠ p := fun z => by rw [z, fpn] at e; cases e
      rw [upd_ne this]; exact s.sf a v e
    sg := fun a v e => by
      have : a ≠ p := fun z => by rw [z, gp] at e; cases e
      rw [upd_ne this]; exact s.sg a v (by rw [upd_ne this]; exact e) }
theorem FrExt.unlock {F' : Hp} (f : FrExt (upd G p o) F F') (gp : G p = none) : FrExt G F F' := ⟨f.same, fun a h e => f.out a (by
  have : a ≠ p := fun z => h (by rw [z]; exact gp)
  rw [upd_ne this]; exact h) e⟩
end
/-- the owned thing d comes back -/
def backI (i n : Nat) (d : D) : OutS → OutS
  | .nx e => .nx (e.set i (some (n, d)))
  | .ret m r e => .ret m r (e.set i (some (n, d)))
  | _ => .stuck
def mForKeys (js : List Nat) (i : Nat) (g : DTg) (b : MS) : MS := fun env => match own1 env i with
  | some (.dK kvs) => backI i 1 (.dK kvs) (mForL g js b (kvs.map fun kv => dKey kv.1) (env.set i none))
  | _ => .stuck
where dKey : Key → D
  | .inl i => .int i
  | .inr x => .str x
def mForItems (js : List Nat) (i : Nat) (g : DTg) (b : MS) : MS := fun env => match own1 env i with
  | some (.dK kvs) => backI i 1 (.dK kvs) (mForL g js b (kvs.map fun kv => .tup [mForKeys.dKey kv.1, kv.2]) (env.set i none))
  | _ => .stuck
section
variable {X : Cx} {W : WX} {A1 A2 : List Nat}
theorem rep_key {K : PySem.W.Frag} {F : Hp} (k : Key) : Rep K F (mForKeys.dKey k) (kV k) := by
  cases k
  · exact .int _
  · exact .str _
theorem keys_get {kvs : List (Key × D)} {kws : List (Key × V)} (h : kvs.map (·.1) = kws.map (·.1)) {j : Nat} {k : Key} {v : V} (e : kws[j]? = some (k, v)) : ∃ d, kvs[j]? = some (k, d) := by
  have h1 : (kvs.map (·.1))[j]? = some k := by rw [h, List.getElem?_map, e]; rfl
  rw [List.getElem?_map] at h1
  obtain ⟨⟨k', d⟩, h2, h3⟩ := Option.map_eq_some_iff.mp h1
  simp only at h3
  subst h3
  exact ⟨d, h2⟩
theorem lock_ends {G F : Hp} {A : List Nat} {σ : L2.St} {De : L2.Ends} {i : Nat} {p : Addr} {kvs : List (Key × D)} {kws : List (Key × V)} {od : Obj} {r : OutS} (hA : i ∉ A) (gp : G p = none) (fpn : F p = none) (hi : σ[i]? = some (some (.ref p))) (hks : kvs.map (·.1) = kws.map (·.1)) (rds : Reps X.K F (kvs.map (·.2)) (kws.map (·.2)))
    (h : RGS X.K X.mg W G F A σ De (backI i 1 (.dK kvs) r)) :
    RGS X.K X.mg W (upd G p (.frz od (.dK kws))) F A σ ⟨fun σ' H' => H' p = some (.frz od (.dK kws)) ∧ De.nx σ' (upd H' p (.dK kws)), fun v H' => H' p = some (.frz od (.dK kws)) ∧ De.rt v (upd H' p (.dK kws)), fun σ' H' => H' p = some (.frz od (.dK kws)) ∧ De.bk σ' (upd H' p (.dK kws)), fun σ' H' => H' p = some (.frz od (.dK kws)) ∧ De.ct σ' (upd H' p (.dK kws))⟩ r := by
  have gD : (upd G p (.frz od (.dK kws))) p ≠ none := by rw [upd_same]; simp
  have go : ∀ {F' H' : Hp} {σ' : L2.St} {e : DEnv} {fp' : Fp}, Agree A σ σ' → SS X.K (upd G p (.frz od (.dK kws))) F' H' σ' e fp' → FrExt (upd G p (.frz od (.dK kws))) F F' → SS X.K G F' (upd H' p (.dK kws)) σ' (e.set i (some (1, .dK kvs))) (fun j a => if j = i then a = p else fp' j a) := fun {F' H' σ' e fp'} ag s fe => by
    refine s.unlock gp (fe.out p gD fpn) (by rw [ag.2 i hA]; exact hi) trivial ⟨p, kws, rfl, rfl, upd_same, hks, RepA.of_reps (rds.mono fe.same)⟩
  cases r with
  | nx e => exact fun σ' F' H' fp' ag s fe => ⟨s.sg _ _ upd_same, h σ' F' _ _ ag (go ag s fe) (fe.unlock gp)⟩
  | ret n d e =>
    intro v σ' F' H' fp' S ag sv fe
    have s2 := go ag sv.ss fe
    have ne : ∀ a, S a → a ≠ p := fun a z e => by
      have := sv.vng a z
      rw [e, upd_same] at this; cases this
    refine ⟨sv.ss.sg _ _ upd_same, h v σ' F' _ _ S ag ⟨s2, sv.val.imp (Same.refl _) (fun _ z => z) fun a u z e => by rw [upd_ne (ne a z)]; exact e, fun a z => by rw [upd_ne (ne a z)]; exact sv.vld a z, sv.vnf, fun a z => ?_, fun j a z w => ?_⟩ (fe.unlock gp)⟩
    · have := sv.vng a z
      rw [upd_ne (ne a z)] at this; exact this
    · by_cases hj : j = i
      · rw [if_pos hj] at w; exact ne a z w
      · rw [if_neg hj] at w; exact sv.vdis j a z w
  | brk e => exact h.elim
  | cont e => exact h.elim
  | exc x e => exact h.elim
  | stuck => exact h.elim
theorem ds_forKeys {i : Nat} {tg o : Expr} {body : List Stmt} {g : DTg} {b : MS} {pos : Pos} (js : List Nat) (hp : PassesOwn (model X.prog X.w) X.A X.env X.xe) (hc : X.calm = true) (ho : PE X o (tVar i)) (hg : DG X A1 g tg) (hb : DSs X W A2 b body) (hA : i ∉ A1 ++ A2) (hfs : ∀ x, foldedSetIterable o X.env x = pure x := by intro _; rfl) :
    DS X W (A1 ++ A2) (mForKeys js i g b) (.For tg o body [] pos) := by
  obtain ⟨t, ht, hgq⟩ := hg
  refine PS.to (ps_lock (ps_for hp hc (pi_keys ho) ht hb hfs)) fun De σ H ⟨G, F, env, fp, s, h⟩ => ?_
  unfold mForKeys at h
  split at h
  · rename_i kvs h0
    obtain ⟨v, hv, p, kws, rfl, hfp, hpp, hks, hra⟩ := s.slot i 1 _ (own1_eq.mp h0)
    have rds := RepA.reps hra
    refine ⟨p, .dK kws, hpp, trivial, fun od => ?_⟩
    have gp := s.ng i p hfp
    have fpn := s.nf i p hfp
    have s1 := s.lockAt (o := .frz od (.dK kws)) hfp
    refine ⟨.ref p, hv, p, od, rfl, .inl ⟨kws, upd_same, ?_⟩⟩
    refine for_core hgq (lock_ends (od := od) hA gp fpn hv hks rds h) s1 .refl ?_
    have lk : kvs.length = kws.length := by simpa using congrArg List.length hks
    refine ⟨fun j H F2 e1 e2 e3 hj => ⟨e3 _ _ upd_same, by simp at hj; omega⟩, fun H F2 e1 e2 e3 => ⟨e3 _ _ upd_same, by simp; omega⟩, fun j H x H' F2 e1 e2 e3 hj ⟨eH, k, u, hk, ex⟩ => ?_⟩
    subst eH
    subst ex
    obtain ⟨d, hd⟩ := keys_get hks hk
    exact ⟨mForKeys.dKey k, F2, by rw [List.getElem?_map, hd]; rfl, NewV.of_rep e2 (rep_key k)⟩
  · exact h.elim
theorem ds_forItems {i : Nat} {o : Expr} {elts : List Expr} {kk : Nat} {tpos apos cpos : Pos} {body : List Stmt} {g : DTg} {b : MS} {pos : Pos} (js : List Nat) (hp : PassesOwn (model X.prog X.w) X.A X.env X.xe) (hc : X.calm = true) (ho : PE X o (tVar i)) (hg : DG X A1 g (.Tuple elts kk tpos)) (hb : DSs X W A2 b body) (hA : i ∉ A1 ++ A2)
    (hbase : attributeBase o "items" X.env (eval o X.env) = eval o X.env := by rfl) (hline : (apos.endLine == cpos.line) = true := by rfl) (hfs : ∀ x, foldedSetIterable (.Call (.Attribute o "items" apos) [] [] cpos) X.env x = pure x := by intro _; rfl) :
    DS X W (A1 ++ A2) (mForItems js i g b) (.For (.Tuple elts kk tpos) (.Call (.Attribute o "items" apos) [] [] cpos) body [] pos) := by
  obtain ⟨t, ht, hgq⟩ := hg
  refine PS.to (ps_lock (ps_for hp hc (pi_items ho hbase hline) ht hb hfs)) fun De σ H ⟨G, F, env, fp, s, h⟩ => ?_
  unfold mForItems at h
  split at h
  · rename_i kvs h0
    obtain ⟨v, hv, p, kws, rfl, hfp, hpp, hks, hra⟩ := s.slot i 1 _ (own1_eq.mp h0)
    have rds := RepA.reps hra
    refine ⟨p, .dK kws, hpp, trivial, fun od => ?_⟩
    have gp := s.ng i p hfp
    have fpn := s.nf i p hfp
    have s1 := s.lockAt (o := .frz od (.dK kws)) hfp
    refine ⟨.ref p, hv, p, od, kws, rfl, upd_same, ?_⟩
    refine for_core hgq (lock_ends (od := od) hA gp fpn hv hks rds h) s1 .refl ?_
    have lk : kvs.length = kws.length := by simpa using congrArg List.length hks
    refine ⟨fun j H F2 e1 e2 e3 hj => ⟨e3 _ _ upd_same, by simp at hj; omega⟩, fun H F2 e1 e2 e3 => ⟨e3 _ _ upd_same, by simp; omega⟩, fun j H x H' F2 e1 e2 e3 hj ⟨T, k, u, hk, ex, hT, eH⟩ => ?_⟩
    subst eH
    subst ex
    obtain ⟨d, hd⟩ := keys_get hks hk
    have hu : (kws.map (·.2))[j]? = some u := by rw [List.getElem?_map, hk]; rfl
    obtain ⟨d', hd', ru⟩ := rds.getV hu
    have : d' = d := by
      rw [List.getElem?_map, hd] at hd'
      exact (Option.some.inj hd').symm
    subst this
    exact ⟨.tup [mForKeys.dKey k, d'], upd F2 T (.tup [kV k, u]), by rw [List.getElem?_map, hd]; rfl, NewV.tup e2 hT (.cons (rep_key k) (.cons (ru.mono e1) .nil))⟩
  · exact h.elim
end
end DL

set_option Elab.async false
set_option autoImplicit false
set_option linter.all false
set_option maxRecDepth 100000
set_option maxHeartbeats 1000000
/-! KX3: list(reversed(xs)), xs a list. -/
namespace KX
open PySem PySem.Spec PyProof.Rows
section
variable {prog : Program} {w : World} {A : Around} {E : Value → Shared → Prop} {s : Shared}
theorem init_list_rev {R : Result → Shared → Prop} {it l S : Addr} {items : Array Value} (hh : A.handled = none) (hit : s.heap.IsRevIter it l ((items.size : Int) - 1)) (hl : s.heap.IsList l items) (hne : l ≠ it) (hn : items.size ≤ sizeLine)
    (hSi : S ≠ it) (hSl : S ≠ l) (hS : s.heap.get? S = some { cls := .type "list", data := .seq #[] })
    (hR : ∀ h' tk acc' c', (∀ b o, b ≠ S → b ≠ it → s.heap.get? b = some o → h'.get? b = some o) → h'.get? S = some { cls := .type "list", dict := none, data := .seq acc' c', slots := #[] } → ItemsOf (fun i v => items[items.size - 1 - i]? = some v) acc' items.size → R (.ok (.ret .none)) { s with heap := h', toks := tk }) :
    wpAny (model prog w) A.in1 (Builtin.«list.__init__» ⟨[.ref S, .ref it], []⟩)
      (fun fin s' => match fin with | .done f => R (.ok f) s' | .again c' => c'.quiet = true ∧ codeAny (model prog w) A c' R s') (fun e s' => R (.error e) s') s := by
  show wpAny _ _ (do let old ← Builtin.List.listItems (.ref S); Builtin.List.listUpdate (.ref S) (fun _ => #[]); letGo old.toList.reverse; Builtin.List.listExtendWith (.ref S) (.ref it) .none) _ _ s
  refine wpAny_bind ?_
  unfold Builtin.List.listItems
  refine wpAny_bind (wpAny_seqItems hS rfl (wpAny_pure ?_))
  show wpAny _ _ (updateSeq S (fun _ => #[]) >>= fun _ => letGo (#[] : Array Value).toList.reverse >>= fun _ => Builtin.List.listExtendWith (.ref S) (.ref it) .none) _ _ s
  refine wpAny_bind (wpAny_updateSeq hS rfl ?_)
  have hS₂ := Heap.get?_update_self (Obj.mapSeq (fun _ => (#[] : Array Value))) hS rfl
  have oth : ∀ b o, b ≠ S → s.heap.get? b = some o → (s.heap.update S (Obj.mapSeq (fun _ => (#[] : Array Value)))).get? b = some o :=
    fun b o hb e => (Heap.get?_update_other _ _ (Ne.symm hb)).trans e
  refine wpAny_bind (wpAny_letGo ?_)
  have W := (Walks.listRev (prog := prog) (w := w) (A := A.in1) hh it l hne items).toS
  have hSf : S ∉ [it, l] := by simp only [List.mem_cons, List.not_mem_nil, or_false, not_or]; exact ⟨hSi, hSl⟩
  have hit1 : (s.heap.update S (Obj.mapSeq (fun _ => (#[] : Array Value)))).IsRevIter it l ((items.size : Int) - 1) := hit.at fun o e => oth it o (Ne.symm hSi) e
  have hl1 : (s.heap.update S (Obj.mapSeq (fun _ => (#[] : Array Value)))).IsList l items := by
    obtain ⟨o, ho, r⟩ := hl
    exact ⟨o, oth l o (Ne.symm hSl) ho, r⟩
  have hT : ({ s with heap := s.heap.update S (Obj.mapSeq (fun _ => (#[] : Array Value))) } : Shared).TypeIs (.ref it) "list_reverseiterator" := Heap.IsRevIter.typeIs (s := { s with heap := s.heap.update S (Obj.mapSeq (fun _ => (#[] : Array Value))) }) hit1
  have h1 : Builtin.List.listSameRef (.ref S) (.ref it) = false := by simp [Builtin.List.listSameRef, hSi]
  unfold Builtin.List.listExtendWith
  refine wpAny_bind (wpAny_typeOf hT ?_)
  rw [if_neg (by rw [h1]; decide)]
  refine wpAny_bind (wpAny_pyIter_revIter (s := { s with heap := s.heap.update S (Obj.mapSeq (fun _ => (#[] : Array Value))) }) hit1 ?_)
  refine wpAny_bind (wpAny_holding ?_)
  unfold Builtin.List.listLengthHint
  refine wpAny_bind (wpAny_specialOf hT RT.nolen_lri ?_)
  show wpAny _ A.in1 (specialOf (Value.ref it) (Str.ofString "__length_hint__") >>= _) _ _ _
  refine wpAny_bind (wpAny_specialOf hT RT.hint_lri ?_)
  generalize hid : ("list_reverseiterator.__length_hint__" : String) = id0
  wp_delta
  rw [show splitId id0 = some ("list_reverseiterator", "__length_hint__") from by subst hid; decide +kernel]
  subst hid
  refine wpAny_bind (wpAny_isInstance (b := true) hT (by rw [isSubtype_type]; kernel_rfl) ?_)
  refine wpAny_pure ?_
  rw [if_neg (by decide)]
  have e0 : ((items.size : Nat) : Int) - 1 - ((0 : Nat) : Int) = (items.size : Int) - 1 := by omega
  refine wpAny_pure ⟨plainId_quiet F.plain_extend_loop _, codeAny_extend_loopS W hn _ hSf _ items.size 0 _ _ _ rfl (Nat.zero_le _) ⟨Nat.zero_le _, by rw [e0]; exact hit1, hl1⟩ hS₂ (ItemsOf.nil _) fun s' acc' c' hm hS' hacc => ?_⟩
  rw [Moved.eq_with hm]
  refine hR s'.heap s'.toks acc' c' (fun b o hb hbi e => hm.heap b o (fun hmem => ?_) (oth b o hb e)) hS' hacc
  rcases List.mem_cons.mp hmem with e' | hmem
  · exact hb e'
  · exact hbi (List.mem_singleton.mp hmem)
theorem call_list_rev {it l : Addr} {items : Array Value} {Q : Value → Shared → Prop} (hh : A.handled = none) (hit : s.heap.IsRevIter it l ((items.size : Int) - 1)) (hl : s.heap.IsList l items) (hne : l ≠ it) (hn : items.size ≤ sizeLine)
    (hQ : ∀ h' tk acc' c', (∀ b o, b ≠ it → s.heap.get? b = some o → h'.get? b = some o) → h'.get? s.heap.objs.size = some { cls := .type "list", dict := none, data := .seq acc' c', slots := #[] } → ItemsOf (fun i v => items[items.size - 1 - i]? = some v) acc' items.size → Q (.ref s.heap.objs.size) { s with heap := h', toks := tk }) :
    wpAny (model prog w) A (call (.type "list") [.ref it]) Q E s := by
  refine callType_codes (Q₁ := fun obj s₁ => obj = .ref s.heap.objs.size ∧ s₁ = { s with heap := s.heap.push { cls := .type "list", data := .seq #[] } }) PySem.F.called_list (PySem.F.typeCall_list_1 _) PySem.F.entry_list_init
    (code_list_new _ ⟨rfl, rfl⟩) fun obj s₁ h₁ => ?_
  obtain ⟨rfl, rfl⟩ := h₁
  have hS : (s.heap.push { cls := .type "list", data := .seq #[] }).get? s.heap.objs.size = some { cls := .type "list", data := .seq #[] } := Heap.get?_push_size _ rfl
  obtain ⟨oi, hoi, _⟩ := id hit
  obtain ⟨ol, hol, _⟩ := id hl
  refine ⟨⟨_, hS, rfl⟩, PySem.F.args_list_init_2 _ _, init_list_rev (A := A.in1) hh (hit.at fun o e => Heap.get?_push_of_some _ e) (hl.push _) hne hn (Nat.ne_of_gt (Heap.lt_size hoi)) (Nat.ne_of_gt (Heap.lt_size hol)) hS fun h' tk acc' c' hk hS' hacc => ?_⟩
  exact ⟨rfl, hQ h' tk acc' c' (fun b o hb e => hk b o (Nat.ne_of_lt (Heap.lt_size e)) hb (Heap.get?_push_of_some _ e)) hS' hacc⟩
end
end KX
namespace L2
open PySem PySem.Spec PyProof.Rows
def tLstRev (K : PySem.W.Frag) (te : TE) : TE := fun σ H Q => te σ H fun v H1 => ∃ (a : Addr) (xs : List V), v = .ref a ∧ SqL K H1 a xs ∧ ∀ q, H1 q = none → Q (.ref q) (upd H1 q (.lst xs.reverse))
theorem pe_lstRev {X : Cx} {e : Expr} {te : TE} {p p2 pos pos2 : Pos} (hc : X.calm = true) (hg : Gl X "list") (hm : X.mg "list" = none) (hg2 : Gl X "reversed") (hm2 : X.mg "reversed" = none) (he : PE X e te)
    (hs : starEach [e] X.env = (false, eval e X.env) :: starEach [] X.env := by rfl)
    (hs2 : starEach [.Call (.Name "reversed" p2) [e] [] pos2] X.env = (false, eval (.Call (.Name "reversed" p2) [e] [] pos2) X.env) :: starEach [] X.env := by rfl) :
    PE X (.Call (.Name "list" p) [.Call (.Name "reversed" p2) [e] [] pos2] [] pos) (tLstRev X.K te) := by
  refine ⟨fun pins s σ H Q I h => ?_⟩
  refine Call_ (ld_blt I hg hm boot_list (PyProof.Rows.callWith_type1 (args_cons (Call_ (ld_blt I hg2 hm2 PyProof.Rows.boot_reversed (PyProof.Rows.callWith_type1 (args_cons (thn (he.run pins s σ H _ I h) fun u s1 ⟨v, H1, I1, r1, q1⟩ => args_nil ?_) hs) hs rfl))) hs2) hs2 rfl))
  obtain ⟨a, xs, ev, hq, q⟩ := q1
  subst ev
  obtain rfl : u = Value.ref a := r1
  obtain ⟨its, rv, p', hz⟩ := I1.list hq
  refine call_reversed_list p'.isList (args_nil ?_)
  have k0 : ∀ b o, s1.heap.get? b = some o → (s1.heap.push (revObj a ((its.toArray.size : Int) - 1))).get? b = some o := fun b o e => Heap.get?_push_of_some _ e
  have I2 : Inv X pins σ H1 { s1 with heap := s1.heap.push (revObj a ((its.toArray.size : Int) - 1)) } := I1.kept (t' := s1.toks) k0
  obtain ⟨f0, f1, f2, f3, f4, f5⟩ := I1.fpOk (H' := H1) (b := s1.heap.objs.size) (Nat.le_refl _) (I1.hok.fresh (Nat.le_refl _))
  have hl := p'.isList
  obtain ⟨ol, hol, _⟩ := id hl
  have hne : a ≠ s1.heap.objs.size := Nat.ne_of_lt (Heap.lt_size hol)
  have hn : its.toArray.size ≤ sizeLine := by rw [List.size_toArray, ← rv.length]; exact hz
  refine KX.call_list_rev (s := { s1 with heap := s1.heap.push (revObj a ((its.toArray.size : Int) - 1)) }) (I1.ok.hd hc) ⟨_, Heap.get?_push_size _ rfl, rfl, rfl⟩ (hl.push _) hne hn fun h' tk acc c' hk hS hi => ?_
  have hle : s1.heap.objs.size ≤ (s1.heap.push (revObj a ((its.toArray.size : Int) - 1))).objs.size := by simp [Heap.push]
  have kp : ∀ b o, s1.heap.get? b = some o → h'.get? b = some o := fun b o e => hk b o (Nat.ne_of_lt (Heap.lt_size e)) (k0 b o e)
  refine ⟨.ref _, upd H1 _ (.lst xs.reverse), I1.laid (t' := tk) kp hle (show ObjOk X.prog X.w _ _ _ (.lst xs.reverse) from ⟨by rw [List.length_reverse]; exact hz, acc.toList, c', RT.vals_rev rv hi, ?_⟩), rfl, q _ (I1.hok.fresh hle)⟩
  rw [Array.toArray_toList]; exact hS
end L2

set_option autoImplicit false
set_option Elab.async false
set_option linter.all false
set_option maxRecDepth 100000
/-! DL: sorted of pairs and of a dict's keys; list(reversed(..)); xs.count(k). -/
namespace DL
open PySem PySem.Spec PyProof.Rows L2
abbrev LeP (p q : Int × Int) : Prop := p.1 < q.1 ∨ (p.1 = q.1 ∧ p.2 ≤ q.2)
instance (p q : Int × Int) : Decidable (LeP p q) := inferInstanceAs (Decidable (p.1 < q.1 ∨ (p.1 = q.1 ∧ p.2 ≤ q.2)))
def insP (x : Int × Int) : List (Int × Int) → List (Int × Int)
  | [] => [x]
  | y :: r => if LeP x y then x :: y :: r else y :: insP x r
def sortP : List (Int × Int) → List (Int × Int)
  | [] => []
  | x :: r => insP x (sortP r)
theorem insP_perm (x : Int × Int) : ∀ l, (insP x l).Perm (x :: l)
  | [] => .refl _
  | y :: r => by
    unfold insP
    split
    · exact .refl _
    · exact ((insP_perm x r).cons y).trans (.swap x y r)
theorem sortP_perm : ∀ l, (sortP l).Perm l
  | [] => .refl _
  | x :: r => (insP_perm x _).trans ((sortP_perm r).cons x)
theorem insP_sorted (x : Int × Int) : ∀ l : List (Int × Int), l.Pairwise LeP → (insP x l).Pairwise LeP
  | [], _ => by simp [insP]
  | y :: r, h => by
    obtain ⟨h1, h2⟩ := List.pairwise_cons.mp h
    unfold insP
    split
    · rename_i hxy
      refine List.pairwise_cons.mpr ⟨fun z hz => ?_, h⟩
      rcases List.mem_cons.mp hz with rfl | hz
      · exact hxy
      · have := h1 z hz
        unfold LeP at *; omega
    · rename_i hxy
      refine List.pairwise_cons.mpr ⟨fun z hz => ?_, insP_sorted x r h2⟩
      have := (insP_perm x r).mem_iff.mp hz
      rcases List.mem_cons.mp this with rfl | hz
      · unfold LeP at *; omega
      · exact h1 z hz
theorem sortP_sorted : ∀ l : List (Int × Int), (sortP l).Pairwise LeP
  | [] => .nil
  | x :: r => insP_sorted x _ (sortP_sorted r)
theorem sortedP_uniq : ∀ (l r : List (Int × Int)), l.Perm r → l.Pairwise LeP → r.Pairwise LeP → l = r
  | [], r, p, _, _ => (List.nil_perm.mp p).symm
  | x :: l, [], p, _, _ => by have := p.length_eq; simp at this
  | x :: l, y :: r, p, h1, h2 => by
    obtain ⟨a1, a2⟩ := List.pairwise_cons.mp h1
    obtain ⟨b1, b2⟩ := List.pairwise_cons.mp h2
    have exy : x = y := by
      have m1 : x ∈ y :: r := p.mem_iff.mp (by simp)
      have m2 : y ∈ x :: l := p.mem_iff.mpr (by simp)
      rcases List.mem_cons.mp m1 with h | h
      · exact h
      · rcases List.mem_cons.mp m2 with h' | h'
        · exact h'.symm
        · have c1 := b1 x h
          have c2 := a1 y h'
          unfold LeP at c1 c2
          exact Prod.ext (by omega) (by omega)
    subst exy
    rw [sortedP_uniq l r (List.perm_cons x |>.mp p) a2 b2]
def prOf : D → Option (Int × Int)
  | .tup [.int a, .int b] => some (a, b)
  | _ => none
def prsOf : List D → Option (List (Int × Int))
  | [] => some []
  | d :: ds => match prOf d with
    | some p => (prsOf ds).map (p :: ·)
    | none => none
theorem prOf_eq {d : D} {p : Int × Int} (h : prOf d = some p) : d = ipD p := by
  unfold prOf at h
  split at h
  · cases h; rfl
  · cases h
theorem prsOf_eq : ∀ {ds : List D} {ps : List (Int × Int)}, prsOf ds = some ps → ds = ps.map ipD
  | [], _, h => by cases h; rfl
  | d :: ds, ps, h => by
    unfold prsOf at h
    split at h
    · rename_i p hp
      obtain ⟨l, h1, rfl⟩ := Option.map_eq_some_iff.mp h
      rw [prOf_eq hp, prsOf_eq h1]; rfl
    · cases h
theorem prsOf_map : ∀ ps : List (Int × Int), prsOf (ps.map ipD) = some ps
  | [] => rfl
  | p :: ps => by
    show (match prOf (ipD p) with | some p => (prsOf (ps.map ipD)).map (p :: ·) | none => none) = _
    rw [prsOf_map ps]; rfl
def keyI : List (Key × D) → Option (List Int)
  | [] => some []
  | (.inl i, _) :: r => (keyI r).map (i :: ·)
  | _ => none
theorem keyI_eq : ∀ {kvs : List (Key × D)} {ks : List Int}, keyI kvs = some ks → kvs.map (·.1) = ks.map Sum.inl
  | [], _, h => by cases h; rfl
  | (.inl i, d) :: r, ks, h => by
    obtain ⟨l, h1, rfl⟩ := Option.map_eq_some_iff.mp (show (keyI r).map (i :: ·) = some ks from h)
    simp [keyI_eq h1]
  | (.inr x, d) :: r, ks, h => by simp [keyI] at h
/-- sorted: ints, pairs of ints, a dict's keys that are ints -/
def sortedX : List D → Option (Nat × D)
  | [.lst ds] => match intsOf ds with
    | some ns => some (1, .lst ((sortI ns).map .int))
    | none => (prsOf ds).map fun ps => (1, .lst ((sortP ps).map ipD))
  | [.dK kvs] => match keyI kvs with
    | some ks => if ks.length < 64 then some (1, .lst ((sortI ks).map .int)) else none
    | none => none
  | _ => none
def kOf (F : Hp) (v : V) : Int × Int := match v with
  | .ref t => match F t with
    | some (.tup [.int i, .int j]) => (i, j)
    | _ => (0, 0)
  | _ => (0, 0)
theorem rep_pr {K : PySem.W.Frag} {F : Hp} {p : Int × Int} {x : V} (h : Rep K F (ipD p) x) : ∃ t, x = .ref t ∧ F t = some (.tup [.int p.1, .int p.2]) := by
  unfold ipD at h
  cases h with
  | tup h1 h2 =>
    cases h2 with
    | cons a b =>
      cases b with
      | cons c d =>
        cases d
        cases Rep.int_inv a
        cases Rep.int_inv c
        exact ⟨_, rfl, h1⟩
  | tupK h1 h2 h3 => simp [badK, isIntD] at h2
theorem reps_prs {K : PySem.W.Frag} {F : Hp} : ∀ {ps : List (Int × Int)} {vs : List V}, Reps K F (ps.map ipD) vs → vs.map (kOf F) = ps ∧ ∀ x ∈ vs, Rep K F (ipD (kOf F x)) x ∧ ∃ t, x = V.ref t ∧ F t = some (.tup [.int (kOf F x).1, .int (kOf F x).2])
  | [], [], _ => ⟨rfl, fun x h => by simp at h⟩
  | p :: ps, v :: vs, r => by
    obtain ⟨a, b⟩ : Rep K F (ipD p) v ∧ Reps K F (ps.map ipD) vs := by
      cases r with
      | cons a b => exact ⟨a, b⟩
    obtain ⟨t, rfl, ht⟩ := rep_pr a
    obtain ⟨h1, h2⟩ := reps_prs b
    have ek : kOf F (.ref t) = p := by unfold kOf; simp only [ht]
    refine ⟨by rw [List.map_cons, h1, ek], fun x hx => ?_⟩
    rcases List.mem_cons.mp hx with rfl | hx
    · rw [ek]; exact ⟨a, t, rfl, ht⟩
    · exact h2 x hx
  | [], _ :: _, r => by cases r
  | _ :: _, [], r => by cases r
theorem reps_of_all {K : PySem.W.Frag} {F : Hp} : ∀ {vs : List V}, (∀ x ∈ vs, Rep K F (ipD (kOf F x)) x) → Reps K F ((vs.map (kOf F)).map ipD) vs
  | [], _ => .nil
  | v :: vs, h => .cons (h v (by simp)) (reps_of_all fun x hx => h x (by simp [hx]))
section
variable {X : Cx} {W : WX}
theorem call_sortedXX (hc : X.calm = true) : CallD X (.builtin "sorted") sortedX := by
  refine CallD.of ((cr_sortedI (X := X)).or (cr_sortedPO.or (call_sortedDI hc))) fun ds n d h F H xs Q sf rs q => ?_
  unfold sortedX at h
  split at h
  · rename_i ds0
    obtain ⟨x, rfl, r⟩ := rs.one
    obtain ⟨a, vs, rfl, h1, k1⟩ := Rep.lst_inv r
    split at h
    · rename_i ns hns
      cases h
      have := intsOf_eq hns
      subst this
      refine .inl ⟨a, ns, rfl, ?_, fun ns' p hp hs hH => ?_⟩
      · have : vs = ns.map V.int := Reps.ints k1
        rw [← this]; exact sf.seq h1
      · have : ns' = sortI ns := sorted_uniq _ _ (hp.trans (sortI_perm ns).symm) hs (sortI_sorted ns)
        subst this
        exact q _ F _ _ (NewV.lst sf hH (reps_ints _))
    · obtain ⟨ps, hps, e⟩ := Option.map_eq_some_iff.mp h
      cases e
      have := prsOf_eq hps
      subst this
      obtain ⟨e1, e2⟩ := reps_prs k1
      refine .inr (.inl ⟨a, vs, kOf F, rfl, sf.seq h1, fun x hx => ?_, fun ys p hs hb hH => ?_⟩)
      · obtain ⟨_, t, ht, hF⟩ := e2 x hx
        exact ⟨t, ht, sf _ _ hF⟩
      · have hperm : ys.Perm vs := hb.perm
        have hk : ys.map (kOf F) = sortP ps := by
          refine sortedP_uniq _ _ ?_ ?_ (sortP_sorted ps)
          · rw [← e1]
            exact (hperm.map _).trans (sortP_perm _).symm
          · refine List.pairwise_map.mpr (hs.imp fun {u v} hh => ?_)
            have := SrtO.lexB_no.mp hh
            unfold LeP; omega
        rw [← hk] at q
        exact q _ F _ _ (NewV.lst sf hH (reps_of_all fun x hx => (e2 x (hperm.mem_iff.mp hx)).1))
  · rename_i kvs
    obtain ⟨x, rfl, r⟩ := rs.one
    obtain ⟨a, kws, rfl, h1, h2, h3⟩ := Rep.dK_inv r
    split at h
    · rename_i ks hks
      split at h
      · rename_i hl
        cases h
        refine .inr (.inr ⟨a, kws, ks, rfl, .inl (sf _ _ h1), by rw [← h2]; exact keyI_eq hks, hl, fun ns' p hp hs hH => ?_⟩)
        have : ns' = sortI ks := sorted_uniq _ _ (hp.trans (sortI_perm ks).symm) hs (sortI_sorted ks)
        subst this
        exact q _ F _ _ (NewV.lst sf hH (reps_ints _))
      · cases h
    · cases h
  · cases h
/-- list(reversed(xs)) -/
def revD : D → Option (Nat × D)
  | .lst ds => some (1, .lst ds.reverse)
  | .scr ds => some (1, .lst ds.reverse)
  | _ => none
theorem de_lstRev {e : Expr} {m : ME} {p p2 pos pos2 : Pos} (hc : X.calm = true) (hg : Gl X "list") (hm : X.mg "list" = none) (hg2 : Gl X "reversed") (hm2 : X.mg "reversed" = none) (he : DE X W m e)
    (hs : starEach [e] X.env = (false, eval e X.env) :: starEach [] X.env := by rfl)
    (hs2 : starEach [.Call (.Name "reversed" p2) [e] [] pos2] X.env = (false, eval (.Call (.Name "reversed" p2) [e] [] pos2) X.env) :: starEach [] X.env := by rfl) :
    DE X W (mOp1 revD m) (.Call (.Name "list" p) [.Call (.Name "reversed" p2) [e] [] pos2] [] pos) := by
  refine PE.to (pe_lstRev hc hg hm hg2 hm2 he hs hs2) fun σ H Q ⟨G, F, env, fp, s, h⟩ => ?_
  refine tE.of s h.bind fun r1 e1 F1 H1 fp1 v1 p1 s1 rep1 fe1 => ?_
  obtain ⟨n, d, ho, hk⟩ := RG.end s1 fe1 p1
  obtain ⟨m1, d1⟩ := r1
  cases d1 <;> try (cases ho; done)
  · cases ho
    obtain ⟨a, vs, rfl, h1, k1⟩ := Rep.lst_inv rep1
    exact ⟨a, vs, rfl, s1.sf.seq h1, fun q hq => hk _ _ _ _ (NewV.lst s1.sf hq k1.reverse)⟩
  · cases ho
    obtain ⟨a, vs, rfl, h1, k1⟩ := Rep.scr_inv rep1
    exact ⟨a, vs, rfl, s1.sf.seq h1, fun q hq => hk _ _ _ _ (NewV.lst s1.sf hq k1.reverse)⟩
/-- xs.count(k), ints -/
def countD : D → List D → Option (Nat × D)
  | .lst ds, [.int k] => (intsOf ds).map fun ns => (0, .int (ns.count k : Nat))
  | _, _ => none
theorem mt_countDD : MtD' X "list.count" countD := by
  refine ⟨_, mt_lcount, fun d0 ds n d h F H x xs Q sf r0 rs q => ?_⟩
  unfold countD at h
  split at h
  · rename_i ds0 k
    obtain ⟨ns, hns, e⟩ := Option.map_eq_some_iff.mp h
    cases e
    have := intsOf_eq hns
    subst this
    obtain ⟨a, vs, rfl, h1, k1⟩ := Rep.lst_inv r0
    obtain ⟨y, rfl, r⟩ := rs.one
    cases Rep.int_inv r
    have : vs = ns.map V.int := Reps.ints k1
    subst this
    exact ⟨a, ns, k, rfl, rfl, sf.seq h1, q _ F H _ (NewV.of_rep sf (.int _))⟩
  · cases h
end
end DL

set_option autoImplicit false
set_option Elab.async false
set_option linter.all false
set_option maxRecDepth 100000
/-! DL: stage 2: looks into owned names, dicts with int keys. -/
namespace DL
open PySem PySem.Spec PyProof.Rows L2
theorem own1_get1 {e : DEnv} {i : Nat} : own1 e i = get1 e i := by
  cases h : get1 e i with
  | none =>
    cases h2 : own1 e i with
    | none => rfl
    | some d =>
      rw [own1_eq, ← get1_eq, h] at h2; cases h2
  | some d =>
    rw [get1_eq, ← own1_eq] at h
    exact h
namespace U
section
variable {X : Exc → DEnv → Prop} {env e : DEnv} {P : Nat × D → DEnv → Prop} {Q : Post} {ma mb mc : ME} {sa sb : MS} {ms : MA}
theorem WE_ixO {i : Nat} : WE X (mIdxO i ma env) P ↔ oP (get1 env i) fun _ => WE X (ma env) fun k e => oP (get1 e i) fun c => oP (ixO c k.2) fun d => P (0, d) e := by
  unfold mIdxO
  rw [own1_get1]
  cases get1 env i with
  | none => simp
  | some c =>
    simp only [oP_some, WE_bind]
    refine iff_of_eq (congrArg _ (funext fun k => funext fun e => propext ?_))
    rw [own1_get1]
    cases get1 e i with
    | none => simp
    | some c => simp only [oP_some, WE_bind, WE_oB, WE_ok]
theorem WE_getO {i : Nat} : WE X (mGetO i ma mb env) P ↔ oP (get1 env i) fun c => isDct c = true ∧ WE X (ma env) fun k e1 => WE X (mb e1) fun x e => oP (get1 e i) fun c => oP (getD' c k.2) fun r => P (0, r.getD x.2) e := by
  unfold mGetO
  rw [own1_get1]
  cases get1 env i with
  | none => simp
  | some c =>
    simp only [oP_some]
    by_cases h : isDct c = true
    · rw [if_pos h]
      simp only [h, true_and, WE_bind]
      refine iff_of_eq (congrArg _ (funext fun k => funext fun e1 => congrArg _ (funext fun x => funext fun e => propext ?_)))
      rw [own1_get1]
      cases get1 e i with
      | none => simp
      | some c => simp only [oP_some, WE_bind, WE_oB, WE_ok]
    · rw [if_neg h]; simp [h]
theorem WE_getS : WE X (mGetS ma mb mc env) P ↔ WE X (ma env) fun c e0 => isDct c.2 = true ∧ WE X (mb e0) fun k e1 => WE X (mc e1) fun x e => oP (getD' c.2 k.2) fun r => P (0, r.getD x.2) e := by
  unfold mGetS
  rw [WE_bind]
  refine iff_of_eq (congrArg _ (funext fun c => funext fun e0 => propext ?_))
  by_cases h : isDct c.2 = true
  · rw [if_pos h]; simp only [h, true_and, WE_bind, WE_oB, WE_ok]
  · rw [if_neg h]; simp [h]
theorem WS_back {i n : Nat} {d : D} {o : OutS} : WS (backI i n d o) Q ↔ WS o ⟨fun e => Q.nx (e.set i (some (n, d))), fun m r e => Q.rt m r (e.set i (some (n, d))), fun _ => False, fun _ => False, fun _ _ => False⟩ := by
  cases o <;> rfl
theorem WS_forItems {js : List Nat} {i : Nat} {g : DTg} : WS (mForItems js i g sa env) Q ↔ oP (get1 env i) fun c => ∃ kvs, c = .dK kvs ∧ WS (mForL g js sa (kvs.map fun kv => .tup [mForKeys.dKey kv.1, kv.2]) (env.set i none)) ⟨fun e => Q.nx (e.set i (some (1, .dK kvs))), fun m r e => Q.rt m r (e.set i (some (1, .dK kvs))), fun _ => False, fun _ => False, fun _ _ => False⟩ := by
  unfold mForItems
  rw [own1_get1]
  cases get1 env i with
  | none => simp; exact fun h => h
  | some c =>
    simp only [oP_some]
    cases c with
    | dK kvs =>
      dsimp only
      rw [WS_back]
      constructor
      · exact fun h => ⟨kvs, rfl, h⟩
      · rintro ⟨k, e, h⟩; cases e; exact h
    | _ => constructor
           · exact fun h => h.elim
           · rintro ⟨k, e, h⟩; cases e
theorem WS_forKeys {js : List Nat} {i : Nat} {g : DTg} : WS (mForKeys js i g sa env) Q ↔ oP (get1 env i) fun c => ∃ kvs, c = .dK kvs ∧ WS (mForL g js sa (kvs.map fun kv => mForKeys.dKey kv.1) (env.set i none)) ⟨fun e => Q.nx (e.set i (some (1, .dK kvs))), fun m r e => Q.rt m r (e.set i (some (1, .dK kvs))), fun _ => False, fun _ => False, fun _ _ => False⟩ := by
  unfold mForKeys
  rw [own1_get1]
  cases get1 env i with
  | none => simp; exact fun h => h
  | some c =>
    simp only [oP_some]
    cases c with
    | dK kvs =>
      dsimp only
      rw [WS_back]
      constructor
      · exact fun h => ⟨kvs, rfl, h⟩
      · rintro ⟨k, e, h⟩; cases e; exact h
    | _ => constructor
           · exact fun h => h.elim
           · rintro ⟨k, e, h⟩; cases e
end
end U
section
variable {X : Exc → DEnv → Prop} {env e : DEnv} {P : Nat × D → DEnv → Prop} {Q : Post} {ma mb mc : ME} {sa sb : MS} {ms : MA}
@[simp] theorem WE_ixO {i : Nat} : WE X (mIdxO i ma env) P ↔ oP (get1 env i) fun _ => WE X (ma env) fun k e => oP (get1 e i) fun c => oP (ixO c k.2) fun d => P (0, d) e := U.WE_ixO
@[simp] theorem WE_getO {i : Nat} : WE X (mGetO i ma mb env) P ↔ oP (get1 env i) fun c => isDct c = true ∧ WE X (ma env) fun k e1 => WE X (mb e1) fun x e => oP (get1 e i) fun c => oP (getD' c k.2) fun r => P (0, r.getD x.2) e := U.WE_getO
@[simp] theorem WE_getS : WE X (mGetS ma mb mc env) P ↔ WE X (ma env) fun c e0 => isDct c.2 = true ∧ WE X (mb e0) fun k e1 => WE X (mc e1) fun x e => oP (getD' c.2 k.2) fun r => P (0, r.getD x.2) e := U.WE_getS
@[simp] theorem WS_forItems {js : List Nat} {i : Nat} {g : DTg} : WS (mForItems js i g sa env) Q ↔ oP (get1 env i) fun c => ∃ kvs, c = .dK kvs ∧ WS (mForL g js sa (kvs.map fun kv => .tup [mForKeys.dKey kv.1, kv.2]) (env.set i none)) ⟨fun e => Q.nx (e.set i (some (1, .dK kvs))), fun m r e => Q.rt m r (e.set i (some (1, .dK kvs))), fun _ => False, fun _ => False, fun _ _ => False⟩ := U.WS_forItems
@[simp] theorem WS_forKeys {js : List Nat} {i : Nat} {g : DTg} : WS (mForKeys js i g sa env) Q ↔ oP (get1 env i) fun c => ∃ kvs, c = .dK kvs ∧ WS (mForL g js sa (kvs.map fun kv => mForKeys.dKey kv.1) (env.set i none)) ⟨fun e => Q.nx (e.set i (some (1, .dK kvs))), fun m r e => Q.rt m r (e.set i (some (1, .dK kvs))), fun _ => False, fun _ => False, fun _ _ => False⟩ := U.WS_forKeys
@[simp] theorem ixO_lst {ds : List D} {i : Int} : ixO (.lst ds) (.int i) = L2.atI ds i := rfl
@[simp] theorem ixO_dK {kvs : List (Key × D)} {i : Int} : ixO (.dK kvs) (.int i) = dlook kvs (.inl i) := rfl
@[simp] theorem getD'_dK {kvs : List (Key × D)} {i : Int} : getD' (.dK kvs) (.int i) = some (dlook kvs (.inl i)) := rfl
@[simp] theorem isDct_dK {kvs : List (Key × D)} : isDct (.dK kvs) = true := rfl
@[simp] theorem isDct_dT {kvs : List (List Key × D)} : isDct (.dT kvs) = true := rfl
@[simp] theorem inD_dK {kvs : List (Key × D)} {i : Int} : inD (.int i) (.dK kvs) = some (dlook kvs (.inl i)).isSome := rfl
@[simp] theorem notInD_dK {kvs : List (Key × D)} {i : Int} : notInD (.int i) (.dK kvs) = some (!(dlook kvs (.inl i)).isSome) := rfl
theorem putD_dK {kvs : List (Key × D)} {i : Int} {r : D} (h : kvs.length < 16777216) : putD (.dK kvs) (.int i) r = some (.dK (dput kvs (.inl i) r)) := if_pos h
@[simp] theorem idxD_dK {kvs : List (Key × D)} {i : Int} : idxD (.dK kvs) (.int i) = (dlook kvs (.inl i)).map fun d => (0, d) := rfl
@[simp] theorem lenD_dK {kvs : List (Key × D)} : lenD [.dK kvs] = some (0, .int kvs.length) := rfl
@[simp] theorem keysD_nil : keysD [] = some [] := rfl
@[simp] theorem keysD_int {i : Int} {d : D} {r : List (D × D)} : keysD ((.int i, d) :: r) = (keysD r).map ((.inl i, d) :: ·) := rfl
@[simp] theorem keysD_str {x : Str} {d : D} {r : List (D × D)} : keysD ((.str x, d) :: r) = (keysD r).map ((.inr x, d) :: ·) := rfl
end
/-! ### finite maps with int keys -/
section
variable {α : Type}
def mapK (f : α → D) (l : List (Int × α)) : List (Key × D) := l.map fun p => (Sum.inl p.1, f p.2)
theorem dlook_nil {κ : Type} [DecidableEq κ] {k : κ} : dlook ([] : List (κ × α)) k = none := rfl
theorem dlook_mapK (f : α → D) (l : List (Int × α)) (k : Int) : dlook (mapK f l) (.inl k) = (dlook l k).map f := by
  induction l with
  | nil => rfl
  | cons p l ih =>
    show dlook ((Sum.inl p.1, f p.2) :: mapK f l) (.inl k) = _
    rw [dlook_cons, dlook_cons, ih]
    by_cases h : p.1 = k
    · rw [if_pos (by rw [h]), if_pos h]; rfl
    · rw [if_neg (by intro z; exact h (Sum.inl.inj z)), if_neg h]
theorem any_mapK (f : α → D) (l : List (Int × α)) (k : Int) : ((mapK f l).any fun kv => decide (kv.1 = Sum.inl k)) = l.any fun kv => decide (kv.1 = k) := by
  unfold mapK
  rw [List.any_map]
  congr 1
  funext p
  simp only [Function.comp]
  by_cases h : p.1 = k
  · simp [h]
  · have : ¬ ((Sum.inl p.1 : Key) = Sum.inl k) := fun z => h (Sum.inl.inj z)
    simp [h, this]
theorem dput_mapK (f : α → D) (l : List (Int × α)) (k : Int) (v : α) : dput (mapK f l) (.inl k) (f v) = mapK f (dput l k v) := by
  unfold dput
  rw [any_mapK]
  split
  · unfold mapK
    rw [List.map_map, List.map_map]
    congr 1
    funext p
    simp only [Function.comp]
    by_cases h : p.1 = k
    · simp [h]
    · have : ¬ ((Sum.inl p.1 : Key) = Sum.inl k) := fun z => h (Sum.inl.inj z)
      simp [h, this]
  · unfold mapK
    rw [List.map_append]; rfl
theorem dlook_isSome {κ : Type} [DecidableEq κ] (l : List (κ × α)) (k : κ) : (dlook l k).isSome = true ↔ k ∈ l.map (·.1) := by
  induction l with
  | nil => simp [dlook_nil]
  | cons p l ih =>
    rw [dlook_cons]
    by_cases h : p.1 = k
    · rw [if_pos h]; simp [h]
    · rw [if_neg h, ih]; simp; intro z; exact absurd z.symm h
theorem dlook_none {κ : Type} [DecidableEq κ] (l : List (κ × α)) (k : κ) : dlook l k = none ↔ k ∉ l.map (·.1) := by
  rw [← dlook_isSome]
  cases dlook l k <;> simp
theorem dlook_append {κ : Type} [DecidableEq κ] (l m : List (κ × α)) (k : κ) : dlook (l ++ m) k = (dlook l k).or (dlook m k) := by
  induction l with
  | nil => simp [dlook_nil]
  | cons p l ih =>
    rw [List.cons_append, dlook_cons, dlook_cons, ih]
    by_cases h : p.1 = k
    · rw [if_pos h, if_pos h]; rfl
    · rw [if_neg h, if_neg h]
theorem dlook_upd {κ : Type} [DecidableEq κ] (l : List (κ × α)) (k k' : κ) (v : α) : dlook (l.map fun kv => if kv.1 = k then (kv.1, v) else kv) k' = if k' = k then (dlook l k').map (fun _ => v) else dlook l k' := by
  induction l with
  | nil => by_cases h : k' = k <;> simp [h, dlook_nil]
  | cons p l ih =>
    rw [List.map_cons, dlook_cons, dlook_cons, ih]
    by_cases h1 : p.1 = k
    · rw [if_pos h1]
      by_cases h2 : p.1 = k'
      · have : k' = k := by rw [← h2, h1]
        simp [h2, this]
      · have : ¬ k' = k := fun z => h2 (by rw [h1, z])
        simp [h2, this]
    · rw [if_neg h1]
      by_cases h2 : p.1 = k'
      · have : ¬ k' = k := fun z => h1 (by rw [h2, z])
        simp [h2, this]
      · simp [h2]
theorem dlook_dput {κ : Type} [DecidableEq κ] (l : List (κ × α)) (k k' : κ) (v : α) : dlook (dput l k v) k' = if k' = k then some v else dlook l k' := by
  unfold dput
  split
  · rename_i h
    rw [dlook_upd]
    by_cases e : k' = k
    · subst e
      rw [if_pos rfl, if_pos rfl]
      have : (dlook l k').isSome = true := by
        rw [dlook_isSome]
        obtain ⟨p, hp, hk⟩ := List.any_eq_true.mp h
        exact List.mem_map.mpr ⟨p, hp, of_decide_eq_true hk⟩
      cases hh : dlook l k' with
      | none => rw [hh] at this; cases this
      | some x => rfl
    · rw [if_neg e, if_neg e]
  · rename_i h
    rw [dlook_append, dlook_cons, dlook_nil]
    by_cases e : k' = k
    · subst e
      have : dlook l k' = none := by
        rw [dlook_none]
        intro hm
        obtain ⟨p, hp, hk⟩ := List.mem_map.mp hm
        exact h (List.any_eq_true.mpr ⟨p, hp, by simpa using hk⟩)
      rw [this]; simp
    · have e' : ¬ k = k' := fun z => e z.symm
      simp [e, e']
theorem dput_new {κ : Type} [DecidableEq κ] (l : List (κ × α)) (k : κ) (v : α) (h : k ∉ l.map (·.1)) : dput l k v = l ++ [(k, v)] := by
  unfold dput
  rw [if_neg]
  intro hh
  obtain ⟨p, hp, hk⟩ := List.any_eq_true.mp hh
  exact h (List.mem_map.mpr ⟨p, hp, of_decide_eq_true hk⟩)
theorem dput_keys_old {κ : Type} [DecidableEq κ] (l : List (κ × α)) (k : κ) (v : α) (h : k ∈ l.map (·.1)) : (dput l k v).map (·.1) = l.map (·.1) := by
  unfold dput
  rw [if_pos, List.map_map]
  · congr 1
    funext p
    simp only [Function.comp]
    split <;> rfl
  · obtain ⟨p, hp, hk⟩ := List.mem_map.mp h
    exact List.any_eq_true.mpr ⟨p, hp, by simpa using hk⟩
theorem dput_nodup {κ : Type} [DecidableEq κ] (l : List (κ × α)) (k : κ) (v : α) (h : (l.map (·.1)).Nodup) : ((dput l k v).map (·.1)).Nodup := by
  by_cases hk : k ∈ l.map (·.1)
  · rw [dput_keys_old l k v hk]; exact h
  · rw [dput_new l k v hk, List.map_append]
    refine List.nodup_append.mpr ⟨h, by simp, ?_⟩
    intro a ha b hb
    simp at hb
    subst hb
    intro e
    exact hk (by rw [← e]; exact ha)
theorem dput_len {κ : Type} [DecidableEq κ] (l : List (κ × α)) (k : κ) (v : α) : (dput l k v).length ≤ l.length + 1 := by
  unfold dput
  split <;> simp
theorem dlook_mem {κ : Type} [DecidableEq κ] {l : List (κ × α)} {k : κ} {v : α} (h : dlook l k = some v) : (k, v) ∈ l := by
  induction l with
  | nil => simp [dlook_nil] at h
  | cons p l ih =>
    rw [dlook_cons] at h
    split at h
    · rename_i e; cases h; rw [← e]; exact List.mem_cons_self
    · exact List.mem_cons_of_mem _ (ih h)
theorem dlook_of_mem {κ : Type} [DecidableEq κ] {l : List (κ × α)} (nd : (l.map (·.1)).Nodup) {k : κ} {v : α} (h : (k, v) ∈ l) : dlook l k = some v := by
  induction l with
  | nil => simp at h
  | cons p l ih =>
    rw [dlook_cons]
    simp only [List.map_cons, List.nodup_cons] at nd
    rcases List.mem_cons.mp h with e | h
    · subst e; rw [if_pos rfl]
    · rw [if_neg, ih nd.2 h]
      intro e
      exact nd.1 (by rw [e]; exact List.mem_map.mpr ⟨_, h, rfl⟩)
end
end DL

set_option autoImplicit false
set_option Elab.async false
set_option linter.all false
set_option maxRecDepth 100000
/-! DL: x.reverse(); tuples that own their parts; a loop that appends to each of them. -/
namespace DL
open PySem PySem.Spec PyProof.Rows L2
section
variable {X : Cx} {W : WX}
/-- x.reverse() -/
def mRev (i : Nat) : MS := fun env => match env[i]? with
  | some (some (1, .lst ds)) => .nx (env.set i (some (1, .lst ds.reverse)))
  | _ => .stuck
theorem ds_rev {i : Nat} {o : Expr} {apos cpos pos : Pos} (ho : PE X o (tVar i))
    (hbase : attributeBase o "reverse" X.env (eval o X.env) = eval o X.env := by rfl) (hline : (apos.endLine == cpos.line) = true := by rfl)
    (hs : swapsWith (.Call (.Attribute o "reverse" apos) [] [] cpos) none pos.line X.env = pure false := by rfl) :
    DS X W [] (mRev i) (.Expr (.Call (.Attribute o "reverse" apos) [] [] cpos) pos) := by
  refine PS.to (ps_expr (pe_bm0 PySem.F.plainAttrs_list PySem.F.slot_list_reverse PySem.F.type_list_reverse mt_reverse ho hbase hline) hs) fun De σ H ⟨G, F, env, fp, s, h⟩ => ?_
  unfold mRev at h
  split at h
  · rename_i ds h0
    obtain ⟨v, hv, p, vs, rfl, hfp, hp, hra⟩ := s.slot i 1 _ h0
    refine ⟨_, hv, .inl ⟨rfl, vs, SqL.of hp⟩, p, vs, rfl, rfl, hp, ?_⟩
    exact h σ F _ fp agree0 (s.write hv hfp trivial ⟨p, vs.reverse, rfl, hfp, upd_same, RepA.of_reps (RepA.reps hra).reverse⟩) .refl
  · exact h.elim
/-! ### names given away in a tuple -/
def tVars : List Nat → TA
  | [] => tNil
  | i :: is => tCons (tVar i) (tVars is)
def PVs (X : Cx) (is : List Nat) (es : List Expr) : Prop := PA X es (tVars is)
theorem pvs_nil : PVs X [] [] := pa_nil
theorem pvs_cons {i : Nat} {is : List Nat} {e : Expr} {es : List Expr} (h : PE X e (tVar i)) (hs : PVs X is es) (hst : starEach (e :: es) X.env = (false, eval e X.env) :: starEach es X.env := by rfl) : PVs X (i :: is) (e :: es) := pa_cons h hs hst
def mvs : List Nat → DEnv → Option (List D × DEnv)
  | [], e => some ([], e)
  | i :: is, e => match e[i]? with
    | some (some (1, d)) => (mvs is (e.set i none)).map fun r => (d :: r.1, r.2)
    | _ => none
def mTupM (is : List Nat) : ME := fun env => match mvs is env with
  | some (ds, e) => if ds.length ≤ 1000 then .ok (2, .tup ds) e else .stuck
  | none => .stuck
section
variable {K : PySem.W.Frag} {G F H : Hp} {σ : L2.St}
theorem mvs_ok {Q : List V → Hp → Prop} : ∀ (is : List Nat) {env env' : DEnv} {fp : Fp} {ds : List D}, SS K G F H σ env fp → mvs is env = some (ds, env') → ∃ vs fp' S, SS K G F H σ env' fp' ∧ RepA (RepM K F H 1) ds vs S ∧ (∀ j a, fp' j a → fp j a) ∧ (∀ a, S a → ∃ j, fp j a) ∧ (∀ j a, S a → fp' j a → False) ∧ (Q vs H → tVars is σ H Q)
  | [], env, env', fp, ds, s, h => by
    cases h
    exact ⟨[], fp, fun _ => False, s, trivial, fun _ _ z => z, fun _ z => z.elim, fun _ _ z => z.elim, fun q => q⟩
  | i :: is, env, env', fp, ds, s, h => by
    unfold mvs at h
    split at h
    · rename_i d hd
      obtain ⟨⟨ds1, e1⟩, h1, h2⟩ := Option.map_eq_some_iff.mp h
      cases h2
      obtain ⟨v, hv, hr⟩ := s.slot i 1 d hd
      obtain ⟨vs, fp', S, s', ra, k1, k2, k3, k4⟩ := mvs_ok (Q := fun xs H => Q (v :: xs) H) is (s.drop i) h1
      refine ⟨v :: vs, fp', fun a => fp i a ∨ S a, s', ⟨fp i, S, fun a z => .inl z, fun a z => .inr z, fun a z1 z2 => ?_, hr, ra⟩, fun j a z => (k1 j a z).2, fun a z => ?_, fun j a z1 z2 => ?_, fun q => ⟨v, hv, k4 q⟩⟩
      · obtain ⟨j, hj, z⟩ := k2 a z2
        exact s.dis i j a (fun e => hj e.symm) z1 z
      · rcases z with z | z
        · exact ⟨i, z⟩
        · obtain ⟨j, _, z⟩ := k2 a z; exact ⟨j, z⟩
      · rcases z1 with z | z
        · obtain ⟨hj, w⟩ := k1 j a z2; exact s.dis i j a (fun e => hj e.symm) z w
        · exact k3 j a z z2
    · cases h
end
theorem de_tupM {is : List Nat} {es : List Expr} {x1} {pos : Pos} (h : PVs X is es) : DE X W (mTupM is) (.Tuple es x1 pos) := by
  refine PE.to (pe_tup h) fun σ H Q ⟨G, F, env, fp, s, q⟩ => ?_
  unfold mTupM at q
  cases hm : mvs is env with
  | none => rw [hm] at q; exact q.elim
  | some r =>
    obtain ⟨ds, e⟩ := r
    rw [hm] at q
    dsimp only at q
    split at q
    · rename_i hl
      obtain ⟨vs, fp', S, s', ra, k1, k2, k3, k4⟩ := mvs_ok (Q := fun xs H1 => xs.length ≤ sizeLine ∧ ∀ p, H1 p = none → Q (.ref p) (upd H1 p (.tup xs))) is s hm
      refine k4 ⟨by rw [← ra.length]; exact le_line hl, fun p hp => ?_⟩
      have hf := s'.sf.free hp
      have nv : NewV X.K F H (upd F p (.tup vs)) (upd H p (.tup vs)) 0 .non .non (fun _ => False) := by
        refine ⟨same_upd hf, same_upd hp, fun a u e => ?_, Rep.non, fun _ q => q.elim, fun _ q => q.elim, fun _ q => q.elim, fun a h1 h2 => ?_⟩
        · by_cases h : a = p
          · subst h; rw [upd_same] at e ⊢; exact e
          · rw [upd_ne h] at e ⊢; exact s'.sf _ _ e
        · rw [upd_ne (fun z => h2 (by rw [z]; exact hp))]; exact h1
      obtain ⟨sv, f2⟩ := s'.new nv
      have own : ∀ a, S a → a ≠ p ∧ LD (H a) ∧ F a = none ∧ G a = none := fun a z => by
        obtain ⟨j, w⟩ := k2 a z
        have l := s.ld j a w
        exact ⟨fun e => l.some (by rw [e]; exact hp), l, s.nf j a w, s.ng j a w⟩
      refine q (.ref p) _ _ fp' S ⟨sv.ss, ⟨p, vs, rfl, upd_same, ra.imp (fun _ z => z) fun d v T ht r => RepM.imp (same_upd hf) r (fun _ z => z) fun a o z w => by rw [upd_ne (own a (ht a z)).1]; exact w⟩, fun a z => ?_, fun a z => ?_, fun a z => (own a z).2.2.2, fun j a z w => k3 j a z w⟩ f2
      · rw [upd_ne (own a z).1]; exact (own a z).2.1
      · rw [upd_ne (own a z).1]; exact (own a z).2.2.1
    · exact q.elim
/-! ### names that take the parts of such a tuple -/
def gVars : List Nat → TGs
  | [] => gNil
  | i :: is => gCons (gName i) (gVars is)
def GVs (X : Cx) (is : List Nat) (es : List Expr) : Prop := PGs X es (gVars is)
theorem gvs_nil : GVs X [] [] := pgs_nil
theorem gvs_cons {i : Nat} {is : List Nat} {x : Str} {pos : Pos} {tgs : List Expr} (hN : X.N.Nodup) (hi : X.N[i]? = some x) (hx : Loc X.env.scope x) (ht : GVs X is tgs) (hf : X.fn x = true ∨ X.env.scope.names.lookup x = some .local := by first | exact .inl rfl | exact .inr rfl | assumption)
    (hs : (assignEach (.Name x pos :: tgs) X.env).map (·.2) = assign (.Name x pos) X.env :: (assignEach tgs X.env).map (·.2) := by rfl) : GVs X (i :: is) (.Name x pos :: tgs) := pgs_cons (pg_name hN hi hx hf) ht hs
def setAllM : List Nat → List D → DEnv → Option DEnv
  | [], [], e => some e
  | i :: is, d :: ds, e => setAllM is ds (e.set i (some (1, d)))
  | _, _, _ => none
def mAsgM (is : List Nat) (m : ME) : MS := fun env => (m env).bindS fun r e => match r with
  | (2, .tup ds) => match setAllM is ds e with
    | some e2 => .nx e2
    | none => .stuck
  | _ => .stuck
section
variable {K : PySem.W.Frag} {G F H : Hp}
theorem setAllM_len : ∀ (is : List Nat) (ds : List D) (e e' : DEnv), setAllM is ds e = some e' → ds.length = is.length
  | [], [], _, _, _ => rfl
  | i :: is, d :: ds, e, e', h => by
    have h' : setAllM is ds (e.set i (some (1, d))) = some e' := h
    rw [List.length_cons, List.length_cons, setAllM_len is ds _ e' h']
  | [], _ :: _, _, _, h => nomatch h
  | _ :: _, [], _, _, h => nomatch h
theorem gVars_ok {Q : L2.St → Hp → Prop} : ∀ (is : List Nat) {σ : L2.St} {env env' : DEnv} {fp : Fp} {ds : List D} {vs : List V} {S : Addr → Prop}, SS K G F H σ env fp → RepA (RepM K F H 1) ds vs S → (∀ a, S a → LD (H a) ∧ F a = none ∧ G a = none) → (∀ j a, S a → fp j a → False) → setAllM is ds env = some env' →
    (∀ σ' fp', Agree is σ σ' → SS K G F H σ' env' fp' → Q σ' H) → gVars is vs σ H Q
  | [], σ, env, env', fp, [], [], S, s, ra, h1, h2, h, q => by
    cases h
    exact ⟨rfl, q σ fp (Agree.refl _ _) s⟩
  | i :: is, σ, env, env', fp, d :: ds, v :: vs, S, s, ⟨S1, S2, k1, k2, k3, r, ra⟩, h1, h2, h, q => by
    have h' : setAllM is ds (env.set i (some (1, d))) = some env' := h
    have sv : SV K G F H σ env fp 1 d v S1 := ⟨s, r, fun a z => (h1 a (k1 a z)).1, fun a z => (h1 a (k1 a z)).2.1, fun a z => (h1 a (k1 a z)).2.2, fun j a z w => h2 j a (k1 a z) w⟩
    refine ⟨v, vs, rfl, gVars_ok is (sv.put i) ra (fun a z => h1 a (k2 a z)) (fun j a z w => ?_) h' fun σ' fp' a s' => q σ' fp' ?_ s'⟩
    · by_cases hj : j = i
      · rw [if_pos hj] at w; exact k3 a w z
      · rw [if_neg hj] at w; exact h2 j a (k2 a z) w
    · exact (Agree.set σ i _).trans a (fun j hj => by rw [List.mem_singleton.mp hj]; exact List.mem_cons_self) fun j hj => List.mem_cons_of_mem _ hj
  | [], _, _, _, _, _ :: _, _, _, _, _, _, _, h, _ => nomatch h
  | _ :: _, _, _, _, _, [], _, _, _, _, _, _, h, _ => nomatch h
  | [], _, _, _, _, [], _ :: _, _, _, ra, _, _, _, _ => ra.elim
  | _ :: _, _, _, _, _, _ :: _, [], _, _, ra, _, _, _, _ => ra.elim
end
theorem ds_asgM {is : List Nat} {tgs : List Expr} {e : Expr} {k : Nat} {tpos pos : Pos} {m : ME} (hc : X.calm = true) (hg : GVs X is tgs) (he : DE X W m e) (hl : (assignEach tgs X.env).length = is.length := by rfl) (hst : ((assignEach tgs X.env).findIdx? (·.1)) = none := by rfl)
    (hs : swapsWithSole [.Tuple tgs k tpos] e pos.line X.env = pure false := by rfl) (hw : swappedStores [.Tuple tgs k tpos] e X.env = pure none := by rfl)
    (h1 : (assignEach [.Tuple tgs k tpos] X.env).map (·.2) = [assign (.Tuple tgs k tpos) X.env] := by rfl) : DS X W is (mAsgM is m) (.Assign [.Tuple tgs k tpos] e pos) := by
  refine PS.to (ps_asg he (pg_tup hc hg hl hst) hs hw h1) fun De σ H ⟨G, F, env, fp, s, h⟩ => ?_
  refine ⟨G, F, env, fp, s, h.ofO.imp .refl fun r e1 p v F' H' fp' S sv fe => ?_⟩
  split at p
  · rename_i ds
    obtain ⟨a, vs, rfl, hF, ra⟩ := sv.val
    cases hm : setAllM is ds e1 with
    | none => rw [hm] at p; exact p.elim
    | some e2 =>
      rw [hm] at p
      refine ⟨a, vs, rfl, SqT.of (sv.ss.sf _ _ hF), by rw [← ra.length]; exact setAllM_len _ _ _ _ hm, ?_⟩
      exact gVars_ok is sv.ss ra (fun a z => ⟨sv.vld a z, sv.vnf a z, sv.vng a z⟩) (fun j a z w => sv.vdis j a z w) hm fun σ' fp2 ag s2 => p σ' F' H' fp2 ag s2 fe
  · exact p.elim
/-! ### for x in t: x.append(e) -/
theorem SS.poke {K : PySem.W.Frag} {G F H : Hp} {σ : L2.St} {env : DEnv} {fp : Fp} {p : Addr} {o : HO} (s : SS K G F H σ env fp) (f : F p = none) (g : G p = none) (n : ∀ j, ¬ fp j p) : SS K G F (upd H p o) σ env fp := by
  have ne : ∀ j a, fp j a → a ≠ p := fun j a z e => n j (by rw [← e]; exact z)
  exact
  { len := s.len
    slot := fun j n d q => by
      obtain ⟨v, h1, h2⟩ := s.slot j n d q
      exact ⟨v, h1, h2.imp (Same.refl _) (fun _ z => z) fun a u z e => by rw [upd_ne (ne j a z)]; exact e⟩
    dis := s.dis
    ld := fun j a z => by rw [upd_ne (ne j a z)]; exact s.ld j a z
    nf := s.nf
    ng := s.ng
    sf := fun a u e => by rw [upd_ne (fun z => by rw [z, f] at e; cases e)]; exact s.sf a u e
    sg := fun a u e => by rw [upd_ne (fun z => by rw [z, g] at e; cases e)]; exact s.sg a u e }
def shortL : D → Bool
  | .lst xs => decide (xs.length < LIM)
  | _ => false
def mSpoil (i x : Nat) : MS := fun env => match env[i]? with
  | some (some (2, .tup ds)) => if ds.all shortL = true ∧ x < env.length then .nx ((env.set i none).set x none) else .stuck
  | _ => .stuck
theorem RepA.drop {R : D → V → (Addr → Prop) → Prop} {d : D} {v : V} {ds : List D} {vs : List V} {S : Addr → Prop} (h : RepA R (d :: ds) (v :: vs) S) : ∃ S1 S2 : Addr → Prop, (∀ a, S1 a → S a) ∧ (∀ a, S2 a → S a) ∧ (∀ a, S1 a → S2 a → False) ∧ R d v S1 ∧ RepA R ds vs S2 := h
theorem ds_spoil {i x : Nat} {z : Str} {o o2 e : Expr} {v0 : V} {zp apos cpos pos2 pos : Pos} (hp : PassesOwn (model X.prog X.w) X.A X.env X.xe) (hc : X.calm = true) (ho : PE X o (tVar i))
    (hN : X.N.Nodup) (hi : X.N[x]? = some z) (hx : Loc X.env.scope z) (ho2 : PE X o2 (tVar x)) (he : PE X e (tC v0)) (hix : i ≠ x)
    (hf : X.fn z = true ∨ X.env.scope.names.lookup z = some .local := by first | exact .inl rfl | exact .inr rfl | assumption)
    (hbase : attributeBase o2 "append" X.env (eval o2 X.env) = eval o2 X.env := by rfl)
    (hfew : ((backTo cpos (starEach (e :: []) X.env)).all (fun x => !x.1) && (backToKw cpos (keywordEach [] X.env)).all (fun x => x.1.isSome)
      && decide ((e :: []).length + ([] : List Keyword).length + (if ([] : List Keyword).isEmpty then 0 else 1) < 30)) = true := by rfl)
    (hline : (apos.endLine == cpos.line) = true := by rfl) (hst : starEach (e :: []) X.env = (false, eval e X.env) :: starEach [] X.env := by rfl) (hplain : (backTo cpos (starEach [] X.env)).any (·.1) = false := by rfl)
    (hs : swapsWith (.Call (.Attribute o2 "append" apos) [e] [] cpos) none pos2.line X.env = pure false := by rfl)
    (hfs : ∀ q, foldedSetIterable o X.env q = pure q := by intro _; rfl) :
    DS X W [x] (mSpoil i x) (.For (.Name z zp) o [.Expr (.Call (.Attribute o2 "append" apos) [e] [] cpos) pos2] [] pos) := by
  refine PS.to (ps_for hp hc (pi_seqI ho) (pg_name hN hi hx hf) (pss_one (ps_expr (pe_bm PySem.F.plainAttrs_list PySem.F.slot_list_append PySem.F.type_list_append mt_append ho2 (pa_cons he pa_nil hst) hbase hfew hline hst hplain) hs)) hfs) fun De σ0 H0 ⟨G, F, env, fp, s, h⟩ => ?_
  unfold mSpoil at h
  split at h
  · rename_i ds h0
    split at h
    · rename_i hall
      obtain ⟨hall, hxe⟩ := hall
      obtain ⟨v, hv, p, vs, rfl, hF, ra⟩ := s.slot i 2 _ h0
      refine ⟨_, hv, p, rfl, .inr ⟨vs, SqT.of (s.sf _ _ hF), ?_⟩⟩
      have s1 := (s.drop i).drop x
      have hlen := ra.length
      generalize he1 : (env.set i none).set x none = env1 at h s1
      have hnx : env1.set x none = env1 := by rw [← he1, List.set_set]
      have facts : ∀ a, fp i a → LD (H0 a) ∧ F a = none ∧ G a = none := fun a z => ⟨s.ld i a z, s.nf i a z, s.ng i a z⟩
      refine ⟨fun k m σ H => m = ds.length - k ∧ k ≤ ds.length ∧ Agree [x] σ0 σ ∧ ∃ fpk S, SS X.K G F H σ env1 fpk ∧ RepA (RepM X.K F H 1) (ds.drop k) (vs.drop k) S ∧ (∀ a, S a → LD (H a) ∧ F a = none ∧ G a = none) ∧ (∀ j a, S a → fpk j a → False), ⟨ds.length, by simp, Nat.zero_le _, Agree.refl _ _, _, fp i, s1, by simpa using ra, facts, fun j a z w => w.2.1 (by
        rcases Nat.decEq i j with hij | hij
        · exact (s.dis i j a hij z w.2.2).elim
        · exact hij.symm)⟩, ?_⟩
      rintro k m σ H ⟨rfl, hk, ag, fpk, S, sk, rk, fk, dk⟩
      have hT : SqT X.K H p vs := SqT.of (sk.sf _ _ hF)
      by_cases hlt : k < ds.length
      · have hlt' : k < vs.length := by rw [← hlen]; exact hlt
        refine .inr ⟨⟨vs, vs[k], hT, List.getElem?_eq_getElem hlt'⟩, fun σ' H' => k + 1 ≤ ds.length ∧ Agree [x] σ0 σ' ∧ ∃ fpk S, SS X.K G F H' σ' env1 fpk ∧ RepA (RepM X.K F H' 1) (ds.drop (k + 1)) (vs.drop (k + 1)) S ∧ (∀ a, S a → LD (H' a) ∧ F a = none ∧ G a = none) ∧ (∀ j a, S a → fpk j a → False), fun σ' H' p' => ⟨ds.length - (k + 1), by omega, rfl, p'⟩, fun y H' hy => ?_⟩
        obtain ⟨rfl, hy⟩ := hy
        have hy := hy vs hT
        rw [List.getElem?_eq_getElem hlt'] at hy
        cases hy
        rw [List.drop_eq_getElem_cons hlt, List.drop_eq_getElem_cons hlt'] at rk
        obtain ⟨S1, S2, k1, k2, k3, r, ra2⟩ := rk.drop
        have hds := List.all_eq_true.mp hall ds[k] (List.getElem_mem hlt)
        generalize hd : ds[k] = d at r hds
        cases d with
        | lst xs =>
          simp only [shortL, decide_eq_true_eq] at hds
          obtain ⟨q, ws, hq, hqS, hqH, hqr⟩ := r
          have lws : xs.length = ws.length := (RepA.reps hqr).length
          have fq := fk q (k1 q hqS)
          have sv : SV X.K G F H' σ env1 fpk 1 (.lst xs) vs[k] S1 := ⟨sk, ⟨q, ws, hq, hqS, hqH, hqr⟩, fun a z => (fk a (k1 a z)).1, fun a z => (fk a (k1 a z)).2.1, fun a z => (fk a (k1 a z)).2.2, fun j a z w => dk j a (k1 a z) w⟩
          have sp := (sv.put x).drop x
          rw [List.set_set, hnx, hq] at sp
          have hxl : x < σ.length := by rw [ag.1, ← s.len]; exact hxe
          refine ⟨vs[k], by rw [List.getElem?_set_self hxl], ?_⟩
          rw [hq]
          refine ⟨.inl ⟨rfl, ws, SqL.of hqH⟩, ?_⟩
          refine ⟨q, ws, v0, rfl, rfl, hqH, by rw [← lws, ← LIM_eq]; exact hds, hlt, ag.trans (Agree.set σ x _) (fun _ z => z) (fun _ z => z), _, S2, sp.poke fq.2.1 fq.2.2 fun j w => ?_, ra2.imp (fun _ z => z) fun d v T ht r => RepM.imp (Same.refl _) r (fun _ z => z) fun a o z w => ?_, fun a z => ?_, fun j a z w => ?_⟩
          · exact dk j q (k1 q hqS) (by
              obtain ⟨w1, w2⟩ := w
              rw [if_neg w1] at w2; exact w2)
          · rw [upd_ne (fun e => k3 q hqS (by rw [← e]; exact ht a z))]; exact w
          · have h3 := fk a (k2 a z)
            rw [upd_ne (fun e => k3 q hqS (by rw [← e]; exact z))]; exact h3
          · obtain ⟨w1, w2⟩ := w
            rw [if_neg w1] at w2; exact dk j a (k2 a z) w2
        | _ => simp [shortL] at hds
      · have e : k = ds.length := by omega
        subst e
        exact .inl ⟨⟨vs, hT, by rw [← hlen]; exact Nat.le_refl _⟩, h σ F H fpk ag sk .refl⟩
    · exact h.elim
  · exact h.elim
end
end DL

set_option autoImplicit false
set_option Elab.async false
set_option linter.all false
set_option maxRecDepth 100000
/-! DL: stage 2: reverse, tuples that own their parts, dicts whose keys are pairs. -/
namespace DL
open PySem PySem.Spec PyProof.Rows L2
namespace U
section
variable {X : Exc → DEnv → Prop} {env e : DEnv} {P : Nat × D → DEnv → Prop} {Q : Post} {ma mb mc : ME} {sa sb : MS}
theorem WS_rev {i : Nat} : WS (mRev i env) Q ↔ oP (get1 env i) fun c => ∃ ds, c = .lst ds ∧ Q.nx (env.set i (some (1, .lst ds.reverse))) := by
  unfold mRev
  cases h : get1 env i with
  | none =>
    have : ¬ ∃ d, env[i]? = some (some (1, d)) := fun ⟨d, hd⟩ => by
      have := own1_eq.mpr hd
      rw [own1_get1, h] at this; cases this
    split
    · rename_i ds hd; exact absurd ⟨_, hd⟩ this
    · exact ⟨fun z => z.elim, fun z => z.elim⟩
  | some c =>
    have hd := own1_eq.mp (own1_get1.trans h)
    rw [hd, oP_some]
    cases c <;> first
      | (constructor
         · exact fun z => z.elim
         · rintro ⟨_, z, _⟩; cases z)
      | skip
    constructor
    · exact fun z => ⟨_, rfl, z⟩
    · rintro ⟨_, z, q⟩; cases z; exact q
theorem WE_tupM {is : List Nat} : WE X (mTupM is env) P ↔ oP (mvs is env) fun r => r.1.length ≤ 1000 ∧ P (2, .tup r.1) r.2 := by
  unfold mTupM
  cases mvs is env with
  | none => exact ⟨fun z => z.elim, fun z => z.elim⟩
  | some r =>
    obtain ⟨ds, e⟩ := r
    dsimp only
    rw [oP_some]
    by_cases h : ds.length ≤ 1000
    · rw [if_pos h]; exact ⟨fun z => ⟨h, z⟩, fun z => z.2⟩
    · rw [if_neg h]; exact ⟨fun z => z.elim, fun z => absurd z.1 h⟩
theorem WS_asgM {is : List Nat} : WS (mAsgM is ma env) Q ↔ WE Q.ex (ma env) fun r e => r.1 = 2 ∧ ∃ ds, r.2 = .tup ds ∧ oP (setAllM is ds e) Q.nx := by
  unfold mAsgM
  rw [WS_bind]
  refine iff_of_eq (congrArg _ (funext fun r => funext fun e => propext ?_))
  obtain ⟨n, d⟩ := r
  constructor
  · intro h
    split at h
    · rename_i r ds heq
      cases heq
      refine ⟨rfl, ds, rfl, ?_⟩
      cases h2 : setAllM is ds e with
      | none => rw [h2] at h; exact h.elim
      | some e2 => rw [h2] at h; exact h
    · exact h.elim
  · rintro ⟨h1, ds, h2, h3⟩
    cases h1; cases h2
    dsimp only
    cases h2 : setAllM is ds e with
    | none => rw [h2] at h3; exact h3.elim
    | some e2 => rw [h2] at h3; show WS (match setAllM is ds e with | some e2 => OutS.nx e2 | none => OutS.stuck) Q; rw [h2]; exact h3
theorem WS_spoil {i x : Nat} {ds : List D} (h : env[i]? = some (some (2, .tup ds))) (h1 : ds.all shortL = true) (h2 : x < env.length) (h3 : Q.nx ((env.set i none).set x none)) : WS (mSpoil i x env) Q := by
  unfold mSpoil
  rw [h]
  show WS (if ds.all shortL = true ∧ x < env.length then _ else _) Q
  rw [if_pos ⟨h1, h2⟩]
  exact h3
end
end U
section
variable {X : Exc → DEnv → Prop} {env e : DEnv} {P : Nat × D → DEnv → Prop} {Q : Post} {ma mb mc : ME} {sa sb : MS}
@[simp] theorem WS_rev {i : Nat} : WS (mRev i env) Q ↔ oP (get1 env i) fun c => ∃ ds, c = .lst ds ∧ Q.nx (env.set i (some (1, .lst ds.reverse))) := U.WS_rev
@[simp] theorem WE_tupM {is : List Nat} : WE X (mTupM is env) P ↔ oP (mvs is env) fun r => r.1.length ≤ 1000 ∧ P (2, .tup r.1) r.2 := U.WE_tupM
@[simp] theorem WS_asgM {is : List Nat} : WS (mAsgM is ma env) Q ↔ WE Q.ex (ma env) fun r e => r.1 = 2 ∧ ∃ ds, r.2 = .tup ds ∧ oP (setAllM is ds e) Q.nx := U.WS_asgM
@[simp] theorem mvs_nil : mvs [] e = some ([], e) := rfl
@[simp] theorem mvs_cons {i : Nat} {is : List Nat} : mvs (i :: is) e = (get1 e i).bind fun d => (mvs is (e.set i none)).map fun (r : List D × DEnv) => (d :: r.1, r.2) := by
  rw [← own1_get1]
  show (match e[i]? with
    | some (some (1, d)) => (mvs is (e.set i none)).map fun (r : List D × DEnv) => (d :: r.1, r.2)
    | _ => none) = _
  cases h : own1 e i with
  | none =>
    split
    · rename_i d hd
      rw [own1_eq.mpr hd] at h; cases h
    · rfl
  | some d =>
    rw [own1_eq.mp h]; rfl
@[simp] theorem setAllM_nil : setAllM [] [] e = some e := rfl
@[simp] theorem setAllM_cons {i : Nat} {is : List Nat} {d : D} {ds : List D} : setAllM (i :: is) (d :: ds) e = setAllM is ds (e.set i (some (1, d))) := rfl
@[simp] theorem closedM_dK {n : Nat} {kvs : List (Key × D)} : closedM (n + 1) (.dK kvs) = kvs.all fun p => closedM n p.2 := by simp only [closedM]
@[simp] theorem closedM_dT {n : Nat} {kvs : List (List Key × D)} : closedM (n + 1) (.dT kvs) = kvs.all fun p => closedM n p.2 := by simp only [closedM]
@[simp] theorem ixO_dT {kvs : List (List Key × D)} {i j : Int} : ixO (.dT kvs) (.tup [.int i, .int j]) = dlook kvs [.inl i, .inl j] := rfl
@[simp] theorem idxD_dT {kvs : List (List Key × D)} {i j : Int} : idxD (.dT kvs) (.tup [.int i, .int j]) = (dlook kvs [.inl i, .inl j]).map fun d => (0, d) := rfl
theorem putD_dT {kvs : List (List Key × D)} {i j : Int} {r : D} (h : kvs.length < 16777216) : putD (.dT kvs) (.tup [.int i, .int j]) r = some (.dT (dput kvs [.inl i, .inl j] r)) := if_pos h
end
def mapT (l : List ((Int × Int) × Int)) : List (List Key × D) := l.map fun p => ([Sum.inl p.1.1, Sum.inl p.1.2], .int p.2)
theorem key2 {p q : Int × Int} : ([Sum.inl p.1, Sum.inl p.2] : List Key) = [Sum.inl q.1, Sum.inl q.2] ↔ p = q := by
  constructor
  · intro h
    injection h with h1 h2
    injection h2 with h2 _
    exact Prod.ext (Sum.inl.inj h1) (Sum.inl.inj h2)
  · rintro rfl; rfl
theorem dlook_mapT (l : List ((Int × Int) × Int)) (p : Int × Int) : dlook (mapT l) [Sum.inl p.1, Sum.inl p.2] = (dlook l p).map .int := by
  induction l with
  | nil => rfl
  | cons q l ih =>
    show dlook (([Sum.inl q.1.1, Sum.inl q.1.2], D.int q.2) :: mapT l) [Sum.inl p.1, Sum.inl p.2] = _
    rw [dlook_cons, dlook_cons, ih]
    by_cases h : q.1 = p
    · rw [if_pos (key2.mpr h), if_pos h]; rfl
    · rw [if_neg (fun z => h (key2.mp z)), if_neg h]
theorem any_mapT (l : List ((Int × Int) × Int)) (p : Int × Int) : ((mapT l).any fun kv => decide (kv.1 = [Sum.inl p.1, Sum.inl p.2])) = l.any fun kv => decide (kv.1 = p) := by
  unfold mapT
  rw [List.any_map]
  congr 1
  funext q
  simp only [Function.comp]
  by_cases h : q.1 = p
  · simp [h]
  · have : ¬ ([Sum.inl q.1.1, Sum.inl q.1.2] : List Key) = [Sum.inl p.1, Sum.inl p.2] := fun z => h (key2.mp z)
    simp only [h, decide_false]
    exact decide_eq_false this
theorem dput_mapT (l : List ((Int × Int) × Int)) (p : Int × Int) (v : Int) : dput (mapT l) [Sum.inl p.1, Sum.inl p.2] (.int v) = mapT (dput l p v) := by
  unfold dput
  rw [any_mapT]
  split
  · unfold mapT
    rw [List.map_map, List.map_map]
    congr 1
    funext q
    simp only [Function.comp]
    by_cases h : q.1 = p
    · rw [if_pos (key2.mpr h), if_pos h]
    · rw [if_neg (fun z => h (key2.mp z)), if_neg h]
  · unfold mapT
    rw [List.map_append]; rfl
end DL

set_option autoImplicit false
set_option Elab.async false
set_option linter.all false
set_option maxRecDepth 100000
namespace W
open PySem PySem.Spec PyProof.Rows L2 DL
def top (i : Nat) : Stmt := PySem.Challenge.pw_shredday_k47_least_pair_covers.main.body.getD i (.Pass ⟨0, 0, 0, 0⟩)
abbrev s_is_whole : Stmt := top 1
abbrev s_is_row : Stmt := top 2
abbrev s_are_places : Stmt := top 4
abbrev s_is_pair_cover : Stmt := top 5
abbrev s_cover_weight : Stmt := top 6
abbrev s_is_triple : Stmt := top 7
abbrev s_is_pair_packing : Stmt := top 8
abbrev s_reach : Stmt := top 9
abbrev s_first_open : Stmt := top 10
abbrev s_path_to : Stmt := top 11
abbrev s_send : Stmt := top 12
abbrev s_best_cover : Stmt := top 13
abbrev s__law_number : Stmt := top 15
abbrev s__law_digits : Stmt := top 16
abbrev s__law_same : Stmt := top 17
abbrev s__law_whole : Stmt := top 18
abbrev s__law_draw : Stmt := top 19
abbrev s__law_places : Stmt := top 20
abbrev s__law_is_packing : Stmt := top 21
abbrev s__law_forced : Stmt := top 22
abbrev s__law_weight : Stmt := top 23
abbrev s__law_least_by_trying : Stmt := top 24
abbrev s__law_walked : Stmt := top 25
abbrev s_law : Stmt := top 26
/-! ### what each def computes -/
/- is_whole: 0 x, 1 least, 2 greatest -/
def m_is_whole : MS :=
    mRet (mBool (mAnd (mIsB (mCallB isInstD (mCons (mVar 0) (mCons (mC (.ty "int")) (mNil))))) (mAnd (mNot (mIsB (mCallB isInstD (mCons (mVar 0) (mCons (mC (.ty "bool")) (mNil)))))) (mChain leD leD (mVar 1) (mVar 0) (mVar 2)))))
def f_is_whole : FSem := fnSem [0, 0, 0] 0 m_is_whole
/- is_row: 0 x, 1 size -/
def m_is_row : MS :=
    mRet (mBool (mAnd (mIsB (mCallB isInstD (mCons (mVar 0) (mCons (mC (.ty "tuple")) (mNil))))) (mCmp eqD (mCallB lenD (mCons (mVar 0) (mNil))) (mVar 1))))
def f_is_row : FSem := fnSem [0, 0] 0 m_is_row
/- are_places: 0 count, 1 places, 2 before, 3 place -/
def m_are_places : MS :=
    mSeq (mIf (mNot (mTru (mCallB isInstD (mCons (mVar 1) (mCons (mC (.ty "list")) (mNil))))))
            (mRet (mC (.bl false)))
            (mSkip))
            (mSeq (mSetF 2 (mOp1 negD (mC (.int 1))))
            (mSeq (mFor [3] (gN 3) (mItems (mVar 1))
            (mSeq (mIf (mNot (mTru (mCall [0, 0, 0] f_is_whole [.ex (mVar 3), .ex (mOp2 addD (mVar 2) (mC (.int 1))), .ex (mOp2 subD (mVar 0) (mC (.int 1)))])))
            (mRet (mC (.bl false)))
            (mSkip))
            (mSetF 2 (mVar 3))))
            (mRet (mC (.bl true)))))
def f_are_places : FSem := fnSem [0, 0] 2 m_are_places
/- is_pair_cover: 0 lefts, 1 rights, 2 pairs, 3 cover, 4 i, 5 j -/
def m_is_pair_cover : MS :=
    mSeq (mIf (mNot (mTru (mCall [0, 0] f_is_row [.ex (mVar 3), .ex (mC (.int 2))])))
            (mRet (mC (.bl false)))
            (mSkip))
            (mSeq (mIf (mOr (mNot (mTru (mCall [0, 0] f_are_places [.ex (mCallB lenD (mCons (mVar 0) (mNil))), .ex (mOp2 idxD (mVar 3) (mC (.int 0)))]))) (mNot (mTru (mCall [0, 0] f_are_places [.ex (mCallB lenD (mCons (mVar 1) (mNil))), .ex (mOp2 idxD (mVar 3) (mC (.int 1)))]))))
            (mRet (mC (.bl false)))
            (mSkip))
            (mSeq (mFor [4, 5] (gT [4, 5]) (mItems (mVar 2))
            (mIf (mAnd (mCmp notInD (mVar 4) (mOp2 idxD (mVar 3) (mC (.int 0)))) (mCmp notInD (mVar 5) (mOp2 idxD (mVar 3) (mC (.int 1)))))
            (mRet (mC (.bl false)))
            (mSkip)))
            (mRet (mC (.bl true)))))
def f_is_pair_cover : FSem := fnSem [0, 0, 0, 0] 2 m_is_pair_cover
/- cover_weight: 0 lefts, 1 rights, 2 cover, 3 i, 4 j -/
def m_cover_weight : MS :=
    mRet (mOp2 addD (mCallB sumD (mCons (mComp [3] (gN 3) (mItems (mOp2 idxD (mVar 2) (mC (.int 0)))) (mYes) (mOp2 idxD (mVar 0) (mVar 3))) (mNil))) (mCallB sumD (mCons (mComp [4] (gN 4) (mItems (mOp2 idxD (mVar 2) (mC (.int 1)))) (mYes) (mOp2 idxD (mVar 1) (mVar 4))) (mNil))))
def f_cover_weight : FSem := fnSem [0, 0, 0] 2 m_cover_weight
/- is_triple: 0 lefts, 1 rights, 2 pairs, 3 triple -/
def m_is_triple : MS :=
    mSeq (mIf (mOr (mNot (mTru (mCall [0, 0] f_is_row [.ex (mVar 3), .ex (mC (.int 3))]))) (mNot (mTru (mCall [0, 0, 0] f_is_whole [.ex (mOp2 idxD (mVar 3) (mC (.int 0))), .ex (mC (.int 0)), .ex (mOp2 subD (mCallB lenD (mCons (mVar 0) (mNil))) (mC (.int 1)))]))))
            (mRet (mC (.bl false)))
            (mSkip))
            (mSeq (mIf (mOr (mNot (mTru (mCall [0, 0, 0] f_is_whole [.ex (mOp2 idxD (mVar 3) (mC (.int 1))), .ex (mC (.int 0)), .ex (mOp2 subD (mCallB lenD (mCons (mVar 1) (mNil))) (mC (.int 1)))]))) (mCmp notInD (mTup (mCons (mOp2 idxD (mVar 3) (mC (.int 0))) (mCons (mOp2 idxD (mVar 3) (mC (.int 1))) (mNil)))) (mVar 2)))
            (mRet (mC (.bl false)))
            (mSkip))
            (mRet (mCall [0, 0, 0] f_is_whole [.ex (mOp2 idxD (mVar 3) (mC (.int 2))), .ex (mC (.int 1)), .ex (mCallB minD (mCons (mOp2 idxD (mVar 0) (mOp2 idxD (mVar 3) (mC (.int 0)))) (mCons (mOp2 idxD (mVar 1) (mOp2 idxD (mVar 3) (mC (.int 1)))) (mNil))))])))
def f_is_triple : FSem := fnSem [0, 0, 0, 0] 0 m_is_triple
/- is_pair_packing: 0 lefts, 1 rights, 2 pairs, 3 packing, 4 left_rest, 5 right_rest, 6 before, 7 triple -/
def m_is_pair_packing : MS :=
    mSeq (mIf (mNot (mTru (mCallB isInstD (mCons (mVar 3) (mCons (mC (.ty "list")) (mNil))))))
            (mRet (mC (.bl false)))
            (mSkip))
            (mSeq (mSet 4 (mCallB listD (mCons (mVar 0) (mNil))))
            (mSeq (mSet 5 (mCallB listD (mCons (mVar 1) (mNil))))
            (mSeq (mSetF 6 (mTup (mCons (mOp1 negD (mC (.int 1))) (mCons (mOp1 negD (mC (.int 1))) (mNil)))))
            (mSeq (mFor [7] (gN 7) (mItems (mVar 3))
            (mSeq (mIf (mOr (mNot (mTru (mCall [0, 0, 0, 0] f_is_triple [.ex (mVar 0), .ex (mVar 1), .ex (mVar 2), .ex (mVar 7)]))) (mCmp leD (mTup (mCons (mOp2 idxD (mVar 7) (mC (.int 0))) (mCons (mOp2 idxD (mVar 7) (mC (.int 1))) (mNil)))) (mVar 6)))
            (mRet (mC (.bl false)))
            (mSkip))
            (mSeq (mSetF 6 (mTup (mCons (mOp2 idxD (mVar 7) (mC (.int 0))) (mCons (mOp2 idxD (mVar 7) (mC (.int 1))) (mNil)))))
            (mSeq (mPut 4 (mOp2 idxD (mVar 7) (mC (.int 0))) (mOp2 subD (mIdxO 4 (mOp2 idxD (mVar 7) (mC (.int 0)))) (mOp2 idxD (mVar 7) (mC (.int 2)))))
            (mPut 5 (mOp2 idxD (mVar 7) (mC (.int 1))) (mOp2 subD (mIdxO 5 (mOp2 idxD (mVar 7) (mC (.int 1)))) (mOp2 idxD (mVar 7) (mC (.int 2)))))))))
            (mRet (mFrz [4, 5] (mBool (mAnd (mCmp geD (mOp2 minDefD (mVar 4) (mC (.int 0))) (mC (.int 0))) (mCmp geD (mOp2 minDefD (mVar 5) (mC (.int 0))) (mC (.int 0)))))))))))
def f_is_pair_packing : FSem := fnSem [0, 0, 0, 0] 4 m_is_pair_packing
/- reach: 0 left_rest, 1 pairs, 2 flow, 3 from_right, 4 from_left, 5 queue, 6 i, 7 place, 8 j, 9 k, 10 other -/
def m_reach : MS :=
    mSeq (mSet 3 (mDK0))
            (mSeq (mSet 4 (mDK0))
            (mSeq (mSet 5 (mLst (mNil)))
            (mSeq (mFor [6] (gN 6) (mRng rng1 (mCons (mCallB lenD (mCons (mVar 0) (mNil))) (mNil)))
            (mIf (mCmp gtD (mOp2 idxD (mVar 0) (mVar 6)) (mC (.int 0)))
            (mSeq (mPut 3 (mVar 6) (mOp1 negD (mC (.int 1))))
            (mApp 5 (mVar 6)))
            (mSkip)))
            (mSeq (mSetF 7 (mC (.int 0)))
            (mSeq (mWhile [6, 8, 9, 10] (mTmpT [5] [] (mCmp ltD (mVar 7) (mCallB lenD (mCons (mVar 5) (mNil)))))
            (mSeq (mFor [6, 8, 9, 10] (gT [6, 8]) (mItems (mVar 1))
            (mIf (mTmpT [4, 5] [] (mAnd (mCmp eqD (mVar 6) (mOp2 idxD (mVar 5) (mVar 7))) (mCmp notInD (mVar 8) (mVar 4))))
            (mSeq (mPut 4 (mVar 8) (mVar 6))
            (mFor [9, 10] (gT [9, 10]) (mItems (mVar 1))
            (mIf (mTmpT [2, 3] [] (mAnd (mCmp eqD (mVar 10) (mVar 8)) (mAnd (mCmp gtD (mOp2 idxD (mVar 2) (mTup (mCons (mVar 9) (mCons (mVar 8) (mNil))))) (mC (.int 0))) (mCmp notInD (mVar 9) (mVar 3)))))
            (mSeq (mPut 3 (mVar 9) (mVar 8))
            (mApp 5 (mVar 9)))
            (mSkip))))
            (mSkip)))
            (mSetF 7 (mOp2 addD (mVar 7) (mC (.int 1))))))
            (mRet (mTupM [3, 4])))))))
def f_reach : FSem := fnSem [0, 0, 1] 8 m_reach
/- first_open: 0 from_left, 1 right_rest, 2 j -/
def m_first_open : MS :=
    mSeq (mForKeys [2] 0 (gN 2)
            (mIf (mCmp gtD (mOp2 idxD (mVar 1) (mVar 2)) (mC (.int 0)))
            (mRet (mVar 2))
            (mSkip)))
            (mRet (mOp1 negD (mC (.int 1))))
def f_first_open : FSem := fnSem [1, 0] 1 m_first_open
/- path_to: 0 from_right, 1 from_left, 2 j, 3 path, 4 here, 5 i -/
def m_path_to : MS :=
    mSeq (mSet 3 (mLst (mNil)))
            (mSeq (mSetF 4 (mVar 2))
            (mSeq (mWhile [5] (mCmp geD (mVar 4) (mC (.int 0)))
            (mSeq (mSetF 5 (mIdxO 1 (mVar 4)))
            (mSeq (mApp 3 (mTup (mCons (mVar 5) (mCons (mVar 4) (mCons (mC (.int 1)) (mNil))))))
            (mSeq (mSetF 4 (mIdxO 0 (mVar 5)))
            (mIf (mCmp geD (mVar 4) (mC (.int 0)))
            (mApp 3 (mTup (mCons (mVar 5) (mCons (mVar 4) (mCons (mOp1 negD (mC (.int 1))) (mNil))))))
            (mSkip))))))
            (mRet (mMove 3))))
def f_path_to : FSem := fnSem [1, 1, 0] 3 m_path_to
/- send: 0 left_rest, 1 right_rest, 2 flow, 3 path, 4 start, 5 goal, 6 amount, 7 i, 8 j, 9 sign -/
def m_send : MS :=
    mSeq (mSetF 4 (mOp2 idxD (mOp2 idxD (mVar 3) (mOp1 negD (mC (.int 1)))) (mC (.int 0))))
            (mSeq (mSetF 5 (mOp2 idxD (mOp2 idxD (mVar 3) (mC (.int 0))) (mC (.int 1))))
            (mSeq (mSetF 6 (mCallB minD (mCons (mIdxO 0 (mVar 4)) (mCons (mIdxO 1 (mVar 5)) (mNil)))))
            (mSeq (mFor [7, 8, 9] (gT [7, 8, 9]) (mItems (mVar 3))
            (mIf (mCmp ltD (mVar 9) (mC (.int 0)))
            (mSetF 6 (mCallB minD (mCons (mVar 6) (mCons (mIdxO 2 (mTup (mCons (mVar 7) (mCons (mVar 8) (mNil))))) (mNil)))))
            (mSkip)))
            (mSeq (mFor [7, 8, 9] (gT [7, 8, 9]) (mItems (mVar 3))
            (mPut 2 (mTup (mCons (mVar 7) (mCons (mVar 8) (mNil)))) (mOp2 addD (mIdxO 2 (mTup (mCons (mVar 7) (mCons (mVar 8) (mNil))))) (mOp2 mulD (mVar 9) (mVar 6)))))
            (mSeq (mPut 0 (mVar 4) (mOp2 subD (mIdxO 0 (mVar 4)) (mVar 6)))
            (mPut 1 (mVar 5) (mOp2 subD (mIdxO 1 (mVar 5)) (mVar 6))))))))
def f_send : FSem := fnSem [1, 1, 1, 0] 6 m_send
/- best_cover: 0 lefts, 1 rights, 2 pairs, 3 left_rest, 4 right_rest, 5 flow, 6 pair, 7 from_right, 8 from_left, 9 goal, 10 chosen, 11 other, 12 packing, 13 i, 14 j -/
def m_best_cover : MS :=
    mSeq (mSet 3 (mCallB listD (mCons (mVar 0) (mNil))))
            (mSeq (mSet 4 (mCallB listD (mCons (mVar 1) (mNil))))
            (mSeq (mSet 5 (mDT0))
            (mSeq (mFor [6] (gN 6) (mItems (mVar 2))
            (mPut 5 (mVar 6) (mC (.int 0))))
            (mSeq (mAsgM [7, 8] (mTmp [3] [5] (mCall [0, 0, 1] f_reach [.ex (mVar 3), .ex (mVar 2), .ln 5])))
            (mSeq (mSetF 9 (mTmp [4] [8] (mCall [1, 0] f_first_open [.ln 8, .ex (mVar 4)])))
            (mSeq (mWhile [] (mCmp geD (mVar 9) (mC (.int 0)))
            (mSeq (mDrop (mCall [1, 1, 1, 0] f_send [.ln 3, .ln 4, .ln 5, .ex (mCall [1, 1, 0] f_path_to [.ln 7, .ln 8, .ex (mVar 9)])]))
            (mSeq (mAsgM [7, 8] (mTmp [3] [5] (mCall [0, 0, 1] f_reach [.ex (mVar 3), .ex (mVar 2), .ln 5])))
            (mSetF 9 (mTmp [4] [8] (mCall [1, 0] f_first_open [.ln 8, .ex (mVar 4)]))))))
            (mSeq (mFrzS [7] (mSet 10 (mComp [13] (gN 13) (mRng rng1 (mCons (mCallB lenD (mCons (mVar 0) (mNil))) (mNil))) (mCmp notInD (mVar 13) (mVar 7)) (mVar 13))))
            (mSeq (mFrzS [8] (mSet 11 (mComp [14] (gN 14) (mRng rng1 (mCons (mCallB lenD (mCons (mVar 1) (mNil))) (mNil))) (mCmp inD (mVar 14) (mVar 8)) (mVar 14))))
            (mSeq (mSet 12 (mComp [6] (gN 6) (mItems (mCallB sortedX (mCons (mVar 2) (mNil)))) (mCmp gtD (mIdxO 5 (mVar 6)) (mC (.int 0))) (mTup (mCons (mOp2 idxD (mVar 6) (mC (.int 0))) (mCons (mOp2 idxD (mVar 6) (mC (.int 1))) (mCons (mIdxO 5 (mVar 6)) (mNil)))))))
            (mRet (mTupM [10, 11, 12])))))))))))
def f_best_cover : FSem := fnSem [0, 0, 0] 12 m_best_cover
/- _law_number: 0 script, 1 k, 2 cell, 3 first, 4 second -/
def m__law_number : MS :=
    mSeq (mSetF 2 (mC (.int 0)))
            (mSeq (mIf (mCmp ltD (mVar 1) (mCallB lenD (mCons (mVar 0) (mNil))))
            (mSetF 2 (mCallB intD (mCons (mOp2 idxD (mVar 0) (mVar 1)) (mNil))))
            (mSkip))
            (mSeq (mIf (mCmp geD (mVar 2) (mOp2 powD (mC (.int 10)) (mC (.int 18))))
            (mRet (mOp2 subD (mVar 2) (mOp2 powD (mC (.int 10)) (mC (.int 18)))))
            (mSkip))
            (mSeq (mSetF 3 (mOp2 modD (mCallB intD (mCons (mOp2 addD (mOp2 addD (mOp2 mulD (mVar 2) (mC (.int 48271))) (mOp2 mulD (mVar 1) (mC (.int 69621)))) (mC (.int 11))) (mNil))) (mC (.int 2147483647))))
            (mSeq (mSetF 4 (mOp2 modD (mCallB intD (mCons (mOp2 addD (mOp2 addD (mOp2 mulD (mVar 3) (mVar 3)) (mOp2 mulD (mVar 1) (mC (.int 40692)))) (mC (.int 7))) (mNil))) (mC (.int 2147483399))))
            (mRet (mOp2 addD (mOp2 mulD (mVar 4) (mC (.int 2147483647))) (mVar 3)))))))
def f__law_number : FSem := fnSem [0, 0] 3 m__law_number
/- _law_digits: 0 number, 1 sizes, 2 digits, 3 size -/
def m__law_digits : MS :=
    mSeq (mSet 2 (mLst (mNil)))
            (mSeq (mFor [3] (gN 3) (mItems (mVar 1))
            (mSeq (mApp 2 (mOp2 modD (mCallB intD (mCons (mVar 0) (mNil))) (mVar 3)))
            (mSetF 0 (mOp2 fdivD (mVar 0) (mVar 3)))))
            (mRet (mMove 2)))
def f__law_digits : FSem := fnSem [0, 0] 2 m__law_digits
/- _law_same: 0 told, 1 due, 2 k -/
def m__law_same (f_rec : FSem) : MS :=
    mSeq (mIf (mTru (mCallB isInstD (mCons (mVar 1) (mCons (mTup (mCons (mC (.ty "list")) (mCons (mC (.ty "tuple")) (mNil)))) (mNil)))))
            (mSeq (mIf (mAnd (mTru (mCallB isInstD (mCons (mVar 1) (mCons (mC (.ty "list")) (mNil))))) (mNot (mTru (mCallB isInstD (mCons (mVar 0) (mCons (mC (.ty "list")) (mNil)))))))
            (mRet (mC (.bl false)))
            (mSkip))
            (mSeq (mIf (mAnd (mTru (mCallB isInstD (mCons (mVar 1) (mCons (mC (.ty "tuple")) (mNil))))) (mNot (mTru (mCallB isInstD (mCons (mVar 0) (mCons (mC (.ty "tuple")) (mNil)))))))
            (mRet (mC (.bl false)))
            (mSkip))
            (mSeq (mIf (mCmp neD (mCallB lenD (mCons (mVar 0) (mNil))) (mCallB lenD (mCons (mVar 1) (mNil))))
            (mRet (mC (.bl false)))
            (mSkip))
            (mSeq (mFor [2] (gN 2) (mRng rng1 (mCons (mCallB lenD (mCons (mVar 1) (mNil))) (mNil)))
            (mIf (mNot (mTru (mCall [0, 0] f_rec [.ex (mOp2 idxD (mVar 0) (mVar 2)), .ex (mOp2 idxD (mVar 1) (mVar 2))])))
            (mRet (mC (.bl false)))
            (mSkip)))
            (mRet (mC (.bl true)))))))
            (mSkip))
            (mSeq (mIf (mCmp isD (mVar 1) (mC .non))
            (mRet (mBool (mCmp isD (mVar 0) (mC .non))))
            (mSkip))
            (mSeq (mIf (mTru (mCallB isInstD (mCons (mVar 1) (mCons (mC (.ty "bool")) (mNil)))))
            (mRet (mBool (mAnd (mIsB (mCallB isInstD (mCons (mVar 0) (mCons (mC (.ty "bool")) (mNil))))) (mCmp eqD (mVar 0) (mVar 1)))))
            (mSkip))
            (mSeq (mIf (mTru (mCallB isInstD (mCons (mVar 1) (mCons (mC (.ty "int")) (mNil)))))
            (mRet (mBool (mAnd (mIsB (mCallB isInstD (mCons (mVar 0) (mCons (mC (.ty "int")) (mNil))))) (mAnd (mNot (mIsB (mCallB isInstD (mCons (mVar 0) (mCons (mC (.ty "bool")) (mNil)))))) (mCmp eqD (mVar 0) (mVar 1))))))
            (mSkip))
            (mRet (mBool (mAnd (mIsB (mCallB isInstD (mCons (mVar 0) (mCons (mC (.ty "str")) (mNil))))) (mCmp eqD (mVar 0) (mVar 1))))))))
def f__law_same : Nat → FSem
  | 0 => fun _ => .stuck
  | n + 1 => fnSem [0, 0] 1 (m__law_same (f__law_same n))
/- _law_whole: 0 x -/
def m__law_whole : MS :=
    mRet (mBool (mAnd (mIsB (mCallB isInstD (mCons (mVar 0) (mCons (mC (.ty "int")) (mNil))))) (mNot (mIsB (mCallB isInstD (mCons (mVar 0) (mCons (mC (.ty "bool")) (mNil))))))))
def f__law_whole : FSem := fnSem [0] 0 m__law_whole
/- _law_draw: 0 script, 1 sizes, 2 left, 3 right, 4 most, 5 lefts, 6 pairs, 7 i, 8 rights, 9 number, 10 j, 11 turned, 12 pair -/
def m__law_draw : MS :=
    mSeq (mSetF 1 (mCall [0, 0] f__law_digits [.ex (mCall [0, 0] f__law_number [.ex (mVar 0), .ex (mC (.int 0))]), .ex (mLst (mCons (mC (.int 6)) (mCons (mC (.int 7)) (mCons (mC (.int 7)) (mCons (mC (.int 25)) (mCons (mC (.int 25)) (mCons (mC (.int 3)) (mCons (mC (.int 3)) (mCons (mC (.int 4)) (mNil))))))))))]))
            (mSeq (mSetF 2 (mOp2 idxD (mVar 1) (mC (.int 1))))
            (mSeq (mSetF 3 (mOp2 idxD (mVar 1) (mC (.int 2))))
            (mSeq (mIf (mCmp eqD (mOp2 idxD (mVar 1) (mC (.int 0))) (mC (.int 1)))
            (mSeq (mSetF 2 (mOp2 idxD (mVar 1) (mC (.int 3))))
            (mSetF 3 (mOp2 idxD (mVar 1) (mC (.int 4)))))
            (mSkip))
            (mSeq (mSetF 4 (mOp2 idxD (mLst (mCons (mC (.int 3)) (mCons (mC (.int 9)) (mCons (mC (.int 999)) (mNil))))) (mOp2 idxD (mVar 1) (mC (.int 5)))))
            (mSeq (mSet 5 (mLst (mNil)))
            (mSeq (mSet 6 (mLst (mNil)))
            (mSeq (mFor [7, 9, 10] (gN 7) (mRng rng1 (mCons (mVar 2) (mNil)))
            (mSeq (mSetF 9 (mCall [0, 0] f__law_number [.ex (mVar 0), .ex (mOp2 addD (mC (.int 1)) (mVar 7))]))
            (mSeq (mApp 5 (mOp2 addD (mC (.int 1)) (mOp2 modD (mCallB intD (mCons (mVar 9) (mNil))) (mVar 4))))
            (mSeq (mSetF 9 (mOp2 fdivD (mVar 9) (mVar 4)))
            (mFor [10] (gN 10) (mRng rng1 (mCons (mVar 3) (mNil)))
            (mSeq (mIf (mCmp leD (mOp2 modD (mCallB intD (mCons (mVar 9) (mNil))) (mC (.int 4))) (mOp2 fdivD (mOp2 idxD (mVar 1) (mC (.int 7))) (mC (.int 2))))
            (mApp 6 (mTup (mCons (mVar 7) (mCons (mVar 10) (mNil)))))
            (mSkip))
            (mSetF 9 (mOp2 fdivD (mVar 9) (mC (.int 4))))))))))
            (mSeq (mSetF 8 (mComp [10] (gN 10) (mRng rng1 (mCons (mVar 3) (mNil))) (mYes) (mOp2 addD (mC (.int 1)) (mOp2 modD (mCallB intD (mCons (mCall [0, 0] f__law_number [.ex (mVar 0), .ex (mOp2 addD (mC (.int 25)) (mVar 10))]) (mNil))) (mVar 4)))))
            (mSeq (mIf (mCmp eqD (mOp2 idxD (mVar 1) (mC (.int 6))) (mC (.int 1)))
            (mRev 6)
            (mSkip))
            (mSeq (mIf (mCmp eqD (mOp2 idxD (mVar 1) (mC (.int 6))) (mC (.int 2)))
            (mSeq (mSetF 11 (mFrz [6] (mCallB sortedX (mCons (mComp [12] (gN 12) (mItems (mVar 6)) (mYes) (mTup (mCons (mOp2 idxD (mVar 12) (mC (.int 1))) (mCons (mOp2 idxD (mVar 12) (mC (.int 0))) (mNil))))) (mNil)))))
            (mSet 6 (mComp [12] (gN 12) (mItems (mVar 11)) (mYes) (mTup (mCons (mOp2 idxD (mVar 12) (mC (.int 1))) (mCons (mOp2 idxD (mVar 12) (mC (.int 0))) (mNil)))))))
            (mSkip))
            (mRet (mFrz [5, 6] (mTup (mCons (mVar 5) (mCons (mVar 8) (mCons (mVar 6) (mNil)))))))))))))))))
def f__law_draw : FSem := fnSem [0] 12 m__law_draw
/- _law_places: 0 places, 1 count, 2 before, 3 place -/
def m__law_places : MS :=
    mSeq (mIf (mNot (mTru (mCallB isInstD (mCons (mVar 0) (mCons (mC (.ty "list")) (mNil))))))
            (mRet (mC (.bl false)))
            (mSkip))
            (mSeq (mSetF 2 (mOp1 negD (mC (.int 1))))
            (mSeq (mFor [3] (gN 3) (mItems (mVar 0))
            (mSeq (mIf (mOr (mNot (mTru (mCall [0] f__law_whole [.ex (mVar 3)]))) (mOr (mCmp leD (mVar 3) (mVar 2)) (mCmp geD (mVar 3) (mVar 1))))
            (mRet (mC (.bl false)))
            (mSkip))
            (mSetF 2 (mVar 3))))
            (mRet (mC (.bl true)))))
def f__law_places : FSem := fnSem [0, 0] 2 m__law_places
/- _law_is_packing: 0 lefts, 1 rights, 2 pairs, 3 packing, 4 left_used, 5 right_used, 6 before, 7 triple, 8 i, 9 j -/
def m__law_is_packing : MS :=
    mSeq (mIf (mNot (mTru (mCallB isInstD (mCons (mVar 3) (mCons (mC (.ty "list")) (mNil))))))
            (mRet (mC (.bl false)))
            (mSkip))
            (mSeq (mSet 4 (mOp2 mulD (mLst (mCons (mC (.int 0)) (mNil))) (mCallB lenD (mCons (mVar 0) (mNil)))))
            (mSeq (mSet 5 (mOp2 mulD (mLst (mCons (mC (.int 0)) (mNil))) (mCallB lenD (mCons (mVar 1) (mNil)))))
            (mSeq (mSetF 6 (mTup (mCons (mOp1 negD (mC (.int 1))) (mCons (mOp1 negD (mC (.int 1))) (mNil)))))
            (mSeq (mFor [7] (gN 7) (mItems (mVar 3))
            (mSeq (mIf (mOr (mNot (mTru (mCallB isInstD (mCons (mVar 7) (mCons (mC (.ty "tuple")) (mNil)))))) (mOr (mCmp neD (mCallB lenD (mCons (mVar 7) (mNil))) (mC (.int 3))) (mOr (mNot (mTru (mCall [0] f__law_whole [.ex (mOp2 idxD (mVar 7) (mC (.int 2)))]))) (mCmp ltD (mOp2 idxD (mVar 7) (mC (.int 2))) (mC (.int 1))))))
            (mRet (mC (.bl false)))
            (mSkip))
            (mSeq (mIf (mOr (mNot (mTru (mCall [0] f__law_whole [.ex (mOp2 idxD (mVar 7) (mC (.int 0)))]))) (mOr (mNot (mTru (mCall [0] f__law_whole [.ex (mOp2 idxD (mVar 7) (mC (.int 1)))]))) (mOr (mCmp notInD (mSlice sliceD (mVar 7) (mONone) (mOSome (mC (.int 2)))) (mVar 2)) (mCmp leD (mSlice sliceD (mVar 7) (mONone) (mOSome (mC (.int 2)))) (mVar 6)))))
            (mRet (mC (.bl false)))
            (mSkip))
            (mSeq (mSetF 6 (mSlice sliceD (mVar 7) (mONone) (mOSome (mC (.int 2)))))
            (mSeq (mPut 4 (mOp2 idxD (mVar 7) (mC (.int 0))) (mOp2 addD (mIdxO 4 (mOp2 idxD (mVar 7) (mC (.int 0)))) (mOp2 idxD (mVar 7) (mC (.int 2)))))
            (mPut 5 (mOp2 idxD (mVar 7) (mC (.int 1))) (mOp2 addD (mIdxO 5 (mOp2 idxD (mVar 7) (mC (.int 1)))) (mOp2 idxD (mVar 7) (mC (.int 2))))))))))
            (mSeq (mFor [8] (gN 8) (mRng rng1 (mCons (mCallB lenD (mCons (mVar 0) (mNil))) (mNil)))
            (mIf (mCmp gtD (mIdxO 4 (mVar 8)) (mOp2 idxD (mVar 0) (mVar 8)))
            (mRet (mC (.bl false)))
            (mSkip)))
            (mSeq (mFor [9] (gN 9) (mRng rng1 (mCons (mCallB lenD (mCons (mVar 1) (mNil))) (mNil)))
            (mIf (mCmp gtD (mIdxO 5 (mVar 9)) (mOp2 idxD (mVar 1) (mVar 9)))
            (mRet (mC (.bl false)))
            (mSkip)))
            (mRet (mC (.bl true)))))))))
def f__law_is_packing : FSem := fnSem [0, 0, 0, 0] 6 m__law_is_packing
/- _law_forced: 0 pairs, 1 rights, 2 pair -/
def m__law_forced : MS :=
    mRet (mOp1 sortSetD (mComp [2] (gN 2) (mItems (mVar 0)) (mCmp notInD (mOp2 idxD (mVar 2) (mC (.int 1))) (mVar 1)) (mOp2 idxD (mVar 2) (mC (.int 0)))))
def f__law_forced : FSem := fnSem [0, 0] 1 m__law_forced
/- _law_weight: 0 lefts, 1 rights, 2 cover, 3 i, 4 j -/
def m__law_weight : MS :=
    mRet (mOp2 addD (mCallB sumD (mCons (mComp [3] (gN 3) (mItems (mOp2 idxD (mVar 2) (mC (.int 0)))) (mYes) (mOp2 idxD (mVar 0) (mVar 3))) (mNil))) (mCallB sumD (mCons (mComp [4] (gN 4) (mItems (mOp2 idxD (mVar 2) (mC (.int 1)))) (mYes) (mOp2 idxD (mVar 1) (mVar 4))) (mNil))))
def f__law_weight : FSem := fnSem [0, 0, 0] 2 m__law_weight
/- _law_least_by_trying: 0 lefts, 1 rights, 2 pairs, 3 cover, 4 parts, 5 j, 6 weight, 7 part, 8 other -/
def m__law_least_by_trying : MS :=
    mSeq (mSetF 4 (mLst (mCons (mLst (mNil)) (mNil))))
            (mSeq (mFor [5] (gN 5) (mRng rng1 (mCons (mCallB lenD (mCons (mVar 1) (mNil))) (mNil)))
            (mSetF 4 (mOp2 addD (mVar 4) (mComp [7] (gN 7) (mItems (mVar 4)) (mYes) (mOp2 addD (mVar 7) (mLst (mCons (mVar 5) (mNil))))))))
            (mSeq (mSetF 6 (mCall [0, 0, 0] f__law_weight [.ex (mVar 0), .ex (mVar 1), .ex (mVar 3)]))
            (mSeq (mFor [7, 8] (gN 7) (mItems (mVar 4))
            (mSeq (mSetF 8 (mTup (mCons (mCall [0, 0] f__law_forced [.ex (mVar 2), .ex (mVar 7)]) (mCons (mVar 7) (mNil)))))
            (mSeq (mIf (mCmp ltD (mCall [0, 0, 0] f__law_weight [.ex (mVar 0), .ex (mVar 1), .ex (mVar 8)]) (mVar 6))
            (mRet (mC (.bl false)))
            (mSkip))
            (mIf (mAnd (mCmp eqD (mCall [0, 0, 0] f__law_weight [.ex (mVar 0), .ex (mVar 1), .ex (mVar 8)]) (mVar 6)) (mTru (mComp [5] (gN 5) (mItems (mOp2 idxD (mVar 3) (mC (.int 1)))) (mCmp notInD (mVar 5) (mVar 7)) (mVar 5))))
            (mRet (mC (.bl false)))
            (mSkip)))))
            (mRet (mC (.bl true))))))
def f__law_least_by_trying : FSem := fnSem [0, 0, 0, 0] 5 m__law_least_by_trying
/- _law_walked: 0 lefts, 1 rights, 2 pairs, 3 packing, 4 used, 5 i, 6 j, 7 amount, 8 near, 9 far, 10 turn -/
def m__law_walked : MS :=
    mSeq (mSet 4 (mOp2 mulD (mLst (mCons (mC (.int 0)) (mNil))) (mCallB lenD (mCons (mVar 0) (mNil)))))
            (mSeq (mFor [5, 6, 7] (gT [5, 6, 7]) (mItems (mVar 3))
            (mPut 4 (mVar 5) (mOp2 addD (mIdxO 4 (mVar 5)) (mVar 7))))
            (mSeq (mSet 8 (mComp [5] (gN 5) (mRng rng1 (mCons (mCallB lenD (mCons (mVar 0) (mNil))) (mNil))) (mCmp ltD (mIdxO 4 (mVar 5)) (mOp2 idxD (mVar 0) (mVar 5))) (mVar 5)))
            (mSeq (mSet 9 (mLst (mNil)))
            (mSeq (mFor [5, 6, 7, 10] (gN 10) (mRng rng1 (mCons (mOp2 addD (mOp2 addD (mCallB lenD (mCons (mVar 0) (mNil))) (mCallB lenD (mCons (mVar 1) (mNil)))) (mC (.int 1))) (mNil)))
            (mSeq (mFor [5, 6] (gT [5, 6]) (mItems (mVar 2))
            (mIf (mTmpT [8, 9] [] (mAnd (mCmp inD (mVar 5) (mVar 8)) (mCmp notInD (mVar 6) (mVar 9))))
            (mApp 9 (mVar 6))
            (mSkip)))
            (mFor [5, 6, 7] (gT [5, 6, 7]) (mItems (mVar 3))
            (mIf (mTmpT [8, 9] [] (mAnd (mCmp inD (mVar 6) (mVar 9)) (mCmp notInD (mVar 5) (mVar 8))))
            (mApp 8 (mVar 5))
            (mSkip)))))
            (mRet (mFrz [8, 9] (mTup (mCons (mComp [5] (gN 5) (mRng rng1 (mCons (mCallB lenD (mCons (mVar 0) (mNil))) (mNil))) (mCmp notInD (mVar 5) (mVar 8)) (mVar 5)) (mCons (mCallB sortedX (mCons (mVar 9) (mNil))) (mNil))))))))))
def f__law_walked : FSem := fnSem [0, 0, 0, 0] 7 m__law_walked
/- law: 0 script, 1 lefts, 2 rights, 3 pairs, 4 passed, 5 told, 6 cover, 7 i, 8 j, 9 weight, 10 part, 11 triple -/
def m_law : MS :=
    mSeq (mAsgG (gT [1, 2, 3]) (mCall [0] f__law_draw [.ex (mVar 0)]))
            (mSeq (mSetF 4 (mLst (mCons (mCallB listD (mCons (mVar 1) (mNil))) (mCons (mCallB listD (mCons (mVar 2) (mNil))) (mCons (mCallB listD (mCons (mVar 3) (mNil))) (mNil))))))
            (mSeq (mSet 5 (mCall [0, 0, 0] f_best_cover [.ex (mOp2 idxD (mVar 4) (mC (.int 0))), .ex (mOp2 idxD (mVar 4) (mC (.int 1))), .ex (mOp2 idxD (mVar 4) (mC (.int 2)))]))
            (mSeq (mIf (mTmpT [5] [] (mOr (mNot (mTru (mCallB isInstD (mCons (mVar 5) (mCons (mC (.ty "tuple")) (mNil)))))) (mCmp neD (mCallB lenD (mCons (mVar 5) (mNil))) (mC (.int 3)))))
            (mRet (mC (.bl false)))
            (mSkip))
            (mSeq (mIf (mTmpT [5] [] (mOr (mNot (mTru (mCall [0, 0] f__law_places [.ex (mOp2 idxD (mVar 5) (mC (.int 0))), .ex (mCallB lenD (mCons (mVar 1) (mNil)))]))) (mNot (mTru (mCall [0, 0] f__law_places [.ex (mOp2 idxD (mVar 5) (mC (.int 1))), .ex (mCallB lenD (mCons (mVar 2) (mNil)))])))))
            (mRet (mC (.bl false)))
            (mSkip))
            (mSeq (mSetF 6 (mTup (mCons (mTmp [5] [] (mCallB listD (mCons (mOp2 idxD (mVar 5) (mC (.int 0))) (mNil)))) (mCons (mTmp [5] [] (mCallB listD (mCons (mOp2 idxD (mVar 5) (mC (.int 1))) (mNil)))) (mNil)))))
            (mSeq (mFor [7, 8] (gT [7, 8]) (mItems (mVar 3))
            (mIf (mAnd (mCmp notInD (mVar 7) (mOp2 idxD (mVar 6) (mC (.int 0)))) (mCmp notInD (mVar 8) (mOp2 idxD (mVar 6) (mC (.int 1)))))
            (mRet (mC (.bl false)))
            (mSkip)))
            (mSeq (mIf (mTmpT [5] [] (mNot (mTru (mCall [0, 0, 0, 0] f__law_is_packing [.ex (mVar 1), .ex (mVar 2), .ex (mVar 3), .ex (mOp2 idxD (mVar 5) (mC (.int 2)))]))))
            (mRet (mC (.bl false)))
            (mSkip))
            (mSeq (mSetF 9 (mCall [0, 0, 0] f__law_weight [.ex (mVar 1), .ex (mVar 2), .ex (mVar 6)]))
            (mSeq (mIf (mTmpT [5] [] (mCmp neD (mCallB sumD (mCons (mComp [11] (gN 11) (mItems (mOp2 idxD (mVar 5) (mC (.int 2)))) (mYes) (mOp2 idxD (mVar 11) (mC (.int 2)))) (mNil))) (mVar 9)))
            (mRet (mC (.bl false)))
            (mSkip))
            (mSeq (mIf (mNot (mTru (mCall [0, 0] (f__law_same 6) [.ex (mCall [0, 0, 0] f_cover_weight [.ex (mOp2 idxD (mVar 4) (mC (.int 0))), .ex (mOp2 idxD (mVar 4) (mC (.int 1))), .ex (mVar 6)]), .ex (mVar 9)])))
            (mRet (mC (.bl false)))
            (mSkip))
            (mSeq (mIf (mAnd (mCmp leD (mCallB lenD (mCons (mVar 2) (mNil))) (mC (.int 6))) (mNot (mTru (mCall [0, 0, 0, 0] f__law_least_by_trying [.ex (mVar 1), .ex (mVar 2), .ex (mVar 3), .ex (mVar 6)]))))
            (mRet (mC (.bl false)))
            (mSkip))
            (mSeq (mIf (mTmpT [5] [] (mNot (mTru (mCall [0, 0] (f__law_same 6) [.ex (mVar 6), .ex (mCall [0, 0, 0, 0] f__law_walked [.ex (mVar 1), .ex (mVar 2), .ex (mVar 3), .ex (mOp2 idxD (mVar 5) (mC (.int 2)))])]))))
            (mRet (mC (.bl false)))
            (mSkip))
            (mSeq (mIf (mCmp isntD (mCall [0, 0, 0, 0] f_is_pair_cover [.ex (mOp2 idxD (mVar 4) (mC (.int 0))), .ex (mOp2 idxD (mVar 4) (mC (.int 1))), .ex (mOp2 idxD (mVar 4) (mC (.int 2))), .ex (mVar 6)]) (mC (.bl true)))
            (mRet (mC (.bl false)))
            (mSkip))
            (mSeq (mIf (mTmpT [5] [] (mCmp isntD (mCall [0, 0, 0, 0] f_is_pair_packing [.ex (mOp2 idxD (mVar 4) (mC (.int 0))), .ex (mOp2 idxD (mVar 4) (mC (.int 1))), .ex (mOp2 idxD (mVar 4) (mC (.int 2))), .ex (mOp2 idxD (mVar 5) (mC (.int 2)))]) (mC (.bl true))))
            (mRet (mC (.bl false)))
            (mSkip))
            (mSeq (mSpoil 5 10)
            (mSeq (mIf (mAnd (mCmp leD (mCallB lenD (mCons (mVar 1) (mNil))) (mC (.int 6))) (mNot (mTru (mCall [0, 0] (f__law_same 6) [.ex (mSlice sliceD (mCall [0, 0, 0] f_best_cover [.ex (mOp2 idxD (mVar 4) (mC (.int 0))), .ex (mOp2 idxD (mVar 4) (mC (.int 1))), .ex (mOp2 idxD (mVar 4) (mC (.int 2)))]) (mONone) (mOSome (mC (.int 2)))), .ex (mVar 6)]))))
            (mRet (mC (.bl false)))
            (mSkip))
            (mRet (mCall [0, 0] (f__law_same 6) [.ex (mVar 4), .ex (mLst (mCons (mVar 1) (mCons (mVar 2) (mCons (mVar 3) (mNil)))))]))))))))))))))))))
def f_law : FSem := fnSem [0] 11 m_law
/-! ### what the top has written -/
structure Txt (w : World) (K : PySem.W.Frag) (mg : Str → Option Value) : Prop where
  h_is_whole : FHas K mg "is_whole" s_is_whole ["x", "least", "greatest"]
  h_is_row : FHas K mg "is_row" s_is_row ["x", "size"]
  h_are_places : FHas K mg "are_places" s_are_places ["count", "places"]
  h_is_pair_cover : FHas K mg "is_pair_cover" s_is_pair_cover ["lefts", "rights", "pairs", "cover"]
  h_cover_weight : FHas K mg "cover_weight" s_cover_weight ["lefts", "rights", "cover"]
  h_is_triple : FHas K mg "is_triple" s_is_triple ["lefts", "rights", "pairs", "triple"]
  h_is_pair_packing : FHas K mg "is_pair_packing" s_is_pair_packing ["lefts", "rights", "pairs", "packing"]
  h_reach : FHas K mg "reach" s_reach ["left_rest", "pairs", "flow"]
  h_first_open : FHas K mg "first_open" s_first_open ["from_left", "right_rest"]
  h_path_to : FHas K mg "path_to" s_path_to ["from_right", "from_left", "j"]
  h_send : FHas K mg "send" s_send ["left_rest", "right_rest", "flow", "path"]
  h_best_cover : FHas K mg "best_cover" s_best_cover ["lefts", "rights", "pairs"]
  h__law_number : FHas K mg "_law_number" s__law_number ["script", "k"]
  h__law_digits : FHas K mg "_law_digits" s__law_digits ["number", "sizes"]
  h__law_same : FHas K mg "_law_same" s__law_same ["told", "due"]
  h__law_whole : FHas K mg "_law_whole" s__law_whole ["x"]
  h__law_draw : FHas K mg "_law_draw" s__law_draw ["script"]
  h__law_places : FHas K mg "_law_places" s__law_places ["places", "count"]
  h__law_is_packing : FHas K mg "_law_is_packing" s__law_is_packing ["lefts", "rights", "pairs", "packing"]
  h__law_forced : FHas K mg "_law_forced" s__law_forced ["pairs", "rights"]
  h__law_weight : FHas K mg "_law_weight" s__law_weight ["lefts", "rights", "cover"]
  h__law_least_by_trying : FHas K mg "_law_least_by_trying" s__law_least_by_trying ["lefts", "rights", "pairs", "cover"]
  h__law_walked : FHas K mg "_law_walked" s__law_walked ["lefts", "rights", "pairs", "packing"]
  b_bool : mg "bool" = none
  b_int : mg "int" = none
  b_isinstance : mg "isinstance" = none
  b_len : mg "len" = none
  b_list : mg "list" = none
  b_min : mg "min" = none
  b_range : mg "range" = none
  b_set : mg "set" = none
  b_sorted : mg "sorted" = none
  b_str : mg "str" = none
  b_sum : mg "sum" = none
  b_tuple : mg "tuple" = none
section
variable {P : Program} {w : World} {K : PySem.W.Frag} {mg : Str → Option Value} {base : Heap}
theorem sc_is_whole : FnScope ["x", "least", "greatest"] ["x", "least", "greatest"] (defScope s_is_whole) := ⟨rfl, rfl, rfl, by decide +kernel, rfl, by decide +kernel, by decide +kernel⟩
theorem nx_is_whole : ∀ (ds : List D) (x : Exc) (ds' : List D), f_is_whole ds ≠ .exc x ds' := fnSem_noexc [0, 0, 0] 0 m_is_whole
theorem fd_is_whole (T : Txt w K mg) : FnD P w K mg base 1 "is_whole" [0, 0, 0] f_is_whole := by
  obtain ⟨fa, fd, F, hb, hm, hk⟩ := T.h_is_whole.ex
  have nd := (sc_is_whole).nd
  refine ⟨fa, fd, _, fn_ok (A := []) (k := 0) F sc_is_whole rfl 0 rfl ?hA (fun cdv Ar outer s H E hr => ?hB), hb, hm, hk⟩
  case hB =>
    have hu := hr.units
    exact dss_one (ds_ret (de_db (db_bop (dbs_and (db_of (de_callB call_isInstDD (by rfl) T.b_isinstance (by decide +kernel) (da_cons (de_var (pv 0)) (da_cons (de_ty (by rfl) T.b_int (by decide +kernel)) (da_nil))))) (dbs_and (db_not (db_of (de_callB call_isInstDD (by rfl) T.b_isinstance (by decide +kernel) (da_cons (de_var (pv 0)) (da_cons (de_ty (by rfl) T.b_bool (by decide +kernel)) (da_nil)))))) (dbs_one (db_chain (op_leD hu) (op_leD hu) (de_var (pv 1)) (de_var (pv 0)) (de_var (pv 2)))))))))
  case hA => decide
theorem sc_is_row : FnScope ["x", "size"] ["x", "size"] (defScope s_is_row) := ⟨rfl, rfl, rfl, by decide +kernel, rfl, by decide +kernel, by decide +kernel⟩
theorem nx_is_row : ∀ (ds : List D) (x : Exc) (ds' : List D), f_is_row ds ≠ .exc x ds' := fnSem_noexc [0, 0] 0 m_is_row
theorem fd_is_row (T : Txt w K mg) : FnD P w K mg base 1 "is_row" [0, 0] f_is_row := by
  obtain ⟨fa, fd, F, hb, hm, hk⟩ := T.h_is_row.ex
  have nd := (sc_is_row).nd
  refine ⟨fa, fd, _, fn_ok (A := []) (k := 0) F sc_is_row rfl 0 rfl ?hA (fun cdv Ar outer s H E hr => ?hB), hb, hm, hk⟩
  case hB =>
    have hu := hr.units
    exact dss_one (ds_ret (de_db (db_bop (dbs_and (db_of (de_callB call_isInstDD (by rfl) T.b_isinstance (by decide +kernel) (da_cons (de_var (pv 0)) (da_cons (de_ty (by rfl) T.b_tuple (by decide +kernel)) (da_nil))))) (dbs_one (db_cmp (op_eqDD hu) (de_callB call_lenDD (by rfl) T.b_len (by decide +kernel) (da_cons (de_var (pv 0)) (da_nil))) (de_var (pv 1))))))))
  case hA => decide
theorem sc_are_places : FnScope ["count", "places", "before", "place"] ["count", "places"] (defScope s_are_places) := ⟨rfl, rfl, rfl, by decide +kernel, rfl, by decide +kernel, by decide +kernel⟩
theorem nx_are_places : ∀ (ds : List D) (x : Exc) (ds' : List D), f_are_places ds ≠ .exc x ds' := fnSem_noexc [0, 0] 2 m_are_places
theorem fd_are_places (T : Txt w K mg) : FnD P w K mg base 2 "are_places" [0, 0] f_are_places := by
  obtain ⟨fa, fd, F, hb, hm, hk⟩ := T.h_are_places.ex
  have nd := (sc_are_places).nd
  refine ⟨fa, fd, _, fn_ok (A := (([] ++ []) ++ ([2] ++ (([3] ++ (([] ++ []) ++ [2])) ++ [])))) (k := 1) F sc_are_places rfl 2 rfl ?hA (fun cdv Ar outer s H E hr => ?hB), hb, hm, hk⟩
  case hB =>
    have hu := hr.units
    exact dss_cons (ds_if (dt_not (dt_val (de_callB call_isInstDD (by rfl) T.b_isinstance (by decide +kernel) (da_cons (de_var (pv 1)) (da_cons (de_ty (by rfl) T.b_list (by decide +kernel)) (da_nil))))))
            (dss_one (ds_ret (de_bl)))
            (dss_nil))
            (dss_cons (ds_setF nd rfl (Or.inl rfl) (de_un un_negD (de_int)))
            (dss_cons (ds_for [3] PassesOwn.never rfl (di_seq (de_var (pv 1))) (dg_name nd rfl (Or.inl rfl))
            (dss_cons (ds_if (dt_not (dt_val (de_call (fd_is_whole T) nx_is_whole (hr.mono (by first | decide | omega)) (by rfl) (dar_ex (de_var (pv 3)) (dar_ex (de_op op_addD (de_var (pv 2)) (de_int)) (dar_ex (de_op op_subD (de_var (pv 0)) (de_int)) (dar_nil)))))))
            (dss_one (ds_ret (de_bl)))
            (dss_nil))
            (dss_one (ds_setF nd rfl (Or.inl rfl) (de_var (pv 3))))))
            (dss_one (ds_ret (de_bl)))))
  case hA => decide
theorem sc_is_pair_cover : FnScope ["lefts", "rights", "pairs", "cover", "i", "j"] ["lefts", "rights", "pairs", "cover"] (defScope s_is_pair_cover) := ⟨rfl, rfl, rfl, by decide +kernel, rfl, by decide +kernel, by decide +kernel⟩
theorem nx_is_pair_cover : ∀ (ds : List D) (x : Exc) (ds' : List D), f_is_pair_cover ds ≠ .exc x ds' := fnSem_noexc [0, 0, 0, 0] 2 m_is_pair_cover
theorem fd_is_pair_cover (T : Txt w K mg) : FnD P w K mg base 3 "is_pair_cover" [0, 0, 0, 0] f_is_pair_cover := by
  obtain ⟨fa, fd, F, hb, hm, hk⟩ := T.h_is_pair_cover.ex
  have nd := (sc_is_pair_cover).nd
  refine ⟨fa, fd, _, fn_ok (A := (([] ++ []) ++ (([] ++ []) ++ (([4, 5] ++ ([] ++ [])) ++ [])))) (k := 2) F sc_is_pair_cover rfl 2 rfl ?hA (fun cdv Ar outer s H E hr => ?hB), hb, hm, hk⟩
  case hB =>
    have hu := hr.units
    exact dss_cons (ds_if (dt_not (dt_val (de_call (fd_is_row T) nx_is_row (hr.mono (by first | decide | omega)) (by rfl) (dar_ex (de_var (pv 3)) (dar_ex (de_int) (dar_nil))))))
            (dss_one (ds_ret (de_bl)))
            (dss_nil))
            (dss_cons (ds_if (dt_bop (dws_or (dt_not (dt_val (de_call (fd_are_places T) nx_are_places (hr.mono (by first | decide | omega)) (by rfl) (dar_ex (de_callB call_lenDD (by rfl) T.b_len (by decide +kernel) (da_cons (de_var (pv 0)) (da_nil))) (dar_ex (de_ix (ix_D hu) (de_var (pv 3)) (de_int)) (dar_nil)))))) (dws_or1 (dt_not (dt_val (de_call (fd_are_places T) nx_are_places (hr.mono (by first | decide | omega)) (by rfl) (dar_ex (de_callB call_lenDD (by rfl) T.b_len (by decide +kernel) (da_cons (de_var (pv 1)) (da_nil))) (dar_ex (de_ix (ix_D hu) (de_var (pv 3)) (de_int)) (dar_nil)))))))))
            (dss_one (ds_ret (de_bl)))
            (dss_nil))
            (dss_cons (ds_for [4, 5] PassesOwn.never rfl (di_seq (de_var (pv 2))) (dg_tup rfl (dgs_cons nd rfl (Or.inl rfl) (dgs_cons nd rfl (Or.inl rfl) dgs_nil)))
            (dss_one (ds_if (dt_bop (dws_and (dt_cmp (op_notInDD hu) (de_var (pv 4)) (de_ix (ix_D hu) (de_var (pv 3)) (de_int))) (dws_and1 (dt_cmp (op_notInDD hu) (de_var (pv 5)) (de_ix (ix_D hu) (de_var (pv 3)) (de_int))))))
            (dss_one (ds_ret (de_bl)))
            (dss_nil))))
            (dss_one (ds_ret (de_bl)))))
  case hA => decide
theorem sc_cover_weight : FnScope ["lefts", "rights", "cover", "i", "j"] ["lefts", "rights", "cover"] (defScope s_cover_weight) := ⟨rfl, rfl, rfl, by decide +kernel, rfl, by decide +kernel, by decide +kernel⟩
theorem nx_cover_weight : ∀ (ds : List D) (x : Exc) (ds' : List D), f_cover_weight ds ≠ .exc x ds' := fnSem_noexc [0, 0, 0] 2 m_cover_weight
theorem fd_cover_weight (T : Txt w K mg) : FnD P w K mg base 1 "cover_weight" [0, 0, 0] f_cover_weight := by
  obtain ⟨fa, fd, F, hb, hm, hk⟩ := T.h_cover_weight.ex
  have nd := (sc_cover_weight).nd
  refine ⟨fa, fd, _, fn_ok (A := []) (k := 0) F sc_cover_weight rfl 2 rfl ?hA (fun cdv Ar outer s H E hr => ?hB), hb, hm, hk⟩
  case hB =>
    have hu := hr.units
    exact dss_one (ds_ret (de_op op_addD (de_callB (call_sumDD rfl) (by rfl) T.b_sum (by decide +kernel) (da_cons (de_comp rfl nd (di_seq (de_ix (ix_D hu) (de_var (pv 2)) (de_int))) (own := [("i", 3)]) (show BlkOk ["lefts", "rights", "cover", "i", "j"] (defScope s_cover_weight) _ _ from ⟨rfl, by decide +kernel, by decide +kernel, by decide +kernel, by decide +kernel⟩) (dgb_name fun _ _ _ _ _ => pg_name nd rfl (by first | exact Or.inl rfl | exact Or.inr rfl)) (by decide) (fun _ _ _ _ _ => dts_nil) (fun _ _ _ _ _ => de_ix (ix_D hu) (de_var (pv 0)) (de_var (pv 3)))) (da_nil))) (de_callB (call_sumDD rfl) (by rfl) T.b_sum (by decide +kernel) (da_cons (de_comp rfl nd (di_seq (de_ix (ix_D hu) (de_var (pv 2)) (de_int))) (own := [("j", 4)]) (show BlkOk ["lefts", "rights", "cover", "i", "j"] (defScope s_cover_weight) _ _ from ⟨rfl, by decide +kernel, by decide +kernel, by decide +kernel, by decide +kernel⟩) (dgb_name fun _ _ _ _ _ => pg_name nd rfl (by first | exact Or.inl rfl | exact Or.inr rfl)) (by decide) (fun _ _ _ _ _ => dts_nil) (fun _ _ _ _ _ => de_ix (ix_D hu) (de_var (pv 1)) (de_var (pv 4)))) (da_nil)))))
  case hA => decide
theorem sc_is_triple : FnScope ["lefts", "rights", "pairs", "triple"] ["lefts", "rights", "pairs", "triple"] (defScope s_is_triple) := ⟨rfl, rfl, rfl, by decide +kernel, rfl, by decide +kernel, by decide +kernel⟩
theorem nx_is_triple : ∀ (ds : List D) (x : Exc) (ds' : List D), f_is_triple ds ≠ .exc x ds' := fnSem_noexc [0, 0, 0, 0] 0 m_is_triple
theorem fd_is_triple (T : Txt w K mg) : FnD P w K mg base 2 "is_triple" [0, 0, 0, 0] f_is_triple := by
  obtain ⟨fa, fd, F, hb, hm, hk⟩ := T.h_is_triple.ex
  have nd := (sc_is_triple).nd
  refine ⟨fa, fd, _, fn_ok (A := (([] ++ []) ++ (([] ++ []) ++ []))) (k := 1) F sc_is_triple rfl 0 rfl ?hA (fun cdv Ar outer s H E hr => ?hB), hb, hm, hk⟩
  case hB =>
    have hu := hr.units
    exact dss_cons (ds_if (dt_bop (dws_or (dt_not (dt_val (de_call (fd_is_row T) nx_is_row (hr.mono (by first | decide | omega)) (by rfl) (dar_ex (de_var (pv 3)) (dar_ex (de_int) (dar_nil)))))) (dws_or1 (dt_not (dt_val (de_call (fd_is_whole T) nx_is_whole (hr.mono (by first | decide | omega)) (by rfl) (dar_ex (de_ix (ix_D hu) (de_var (pv 3)) (de_int)) (dar_ex (de_int) (dar_ex (de_op op_subD (de_callB call_lenDD (by rfl) T.b_len (by decide +kernel) (da_cons (de_var (pv 0)) (da_nil))) (de_int)) (dar_nil))))))))))
            (dss_one (ds_ret (de_bl)))
            (dss_nil))
            (dss_cons (ds_if (dt_bop (dws_or (dt_not (dt_val (de_call (fd_is_whole T) nx_is_whole (hr.mono (by first | decide | omega)) (by rfl) (dar_ex (de_ix (ix_D hu) (de_var (pv 3)) (de_int)) (dar_ex (de_int) (dar_ex (de_op op_subD (de_callB call_lenDD (by rfl) T.b_len (by decide +kernel) (da_cons (de_var (pv 1)) (da_nil))) (de_int)) (dar_nil))))))) (dws_or1 (dt_cmp (op_notInDD hu) (de_tup (da_cons (de_ix (ix_D hu) (de_var (pv 3)) (de_int)) (da_cons (de_ix (ix_D hu) (de_var (pv 3)) (de_int)) (da_nil)))) (de_var (pv 2))))))
            (dss_one (ds_ret (de_bl)))
            (dss_nil))
            (dss_one (ds_ret (de_call (fd_is_whole T) nx_is_whole (hr.mono (by first | decide | omega)) (by rfl) (dar_ex (de_ix (ix_D hu) (de_var (pv 3)) (de_int)) (dar_ex (de_int) (dar_ex (de_callB (call_minDD rfl) (by rfl) T.b_min (by decide +kernel) (da_cons (de_ix (ix_D hu) (de_var (pv 0)) (de_ix (ix_D hu) (de_var (pv 3)) (de_int))) (da_cons (de_ix (ix_D hu) (de_var (pv 1)) (de_ix (ix_D hu) (de_var (pv 3)) (de_int))) (da_nil)))) (dar_nil))))))))
  case hA => decide
theorem sc_is_pair_packing : FnScope ["lefts", "rights", "pairs", "packing", "left_rest", "right_rest", "before", "triple"] ["lefts", "rights", "pairs", "packing"] (defScope s_is_pair_packing) := ⟨rfl, rfl, rfl, by decide +kernel, rfl, by decide +kernel, by decide +kernel⟩
theorem nx_is_pair_packing : ∀ (ds : List D) (x : Exc) (ds' : List D), f_is_pair_packing ds ≠ .exc x ds' := fnSem_noexc [0, 0, 0, 0] 4 m_is_pair_packing
theorem fd_is_pair_packing (T : Txt w K mg) : FnD P w K mg base 3 "is_pair_packing" [0, 0, 0, 0] f_is_pair_packing := by
  obtain ⟨fa, fd, F, hb, hm, hk⟩ := T.h_is_pair_packing.ex
  have nd := (sc_is_pair_packing).nd
  refine ⟨fa, fd, _, fn_ok (A := (([] ++ []) ++ ([4] ++ ([5] ++ ([6] ++ (([7] ++ (([] ++ []) ++ ([6] ++ ([] ++ [])))) ++ [])))))) (k := 2) F sc_is_pair_packing rfl 4 rfl ?hA (fun cdv Ar outer s H E hr => ?hB), hb, hm, hk⟩
  case hB =>
    have hu := hr.units
    exact dss_cons (ds_if (dt_not (dt_val (de_callB call_isInstDD (by rfl) T.b_isinstance (by decide +kernel) (da_cons (de_var (pv 3)) (da_cons (de_ty (by rfl) T.b_list (by decide +kernel)) (da_nil))))))
            (dss_one (ds_ret (de_bl)))
            (dss_nil))
            (dss_cons (ds_set nd rfl (Or.inl rfl) (de_callTy call_listDD (by rfl) T.b_list (by decide +kernel) (da_cons (de_var (pv 0)) (da_nil))))
            (dss_cons (ds_set nd rfl (Or.inl rfl) (de_callTy call_listDD (by rfl) T.b_list (by decide +kernel) (da_cons (de_var (pv 1)) (da_nil))))
            (dss_cons (ds_setF nd rfl (Or.inl rfl) (de_tup (da_cons (de_un un_negD (de_int)) (da_cons (de_un un_negD (de_int)) (da_nil)))))
            (dss_cons (ds_for [7] PassesOwn.never rfl (di_seq (de_var (pv 3))) (dg_name nd rfl (Or.inl rfl))
            (dss_cons (ds_if (dt_bop (dws_or (dt_not (dt_val (de_call (fd_is_triple T) nx_is_triple (hr.mono (by first | decide | omega)) (by rfl) (dar_ex (de_var (pv 0)) (dar_ex (de_var (pv 1)) (dar_ex (de_var (pv 2)) (dar_ex (de_var (pv 7)) (dar_nil)))))))) (dws_or1 (dt_cmp (op_leD hu) (de_tup (da_cons (de_ix (ix_D hu) (de_var (pv 7)) (de_int)) (da_cons (de_ix (ix_D hu) (de_var (pv 7)) (de_int)) (da_nil)))) (de_var (pv 6))))))
            (dss_one (ds_ret (de_bl)))
            (dss_nil))
            (dss_cons (ds_setF nd rfl (Or.inl rfl) (de_tup (da_cons (de_ix (ix_D hu) (de_var (pv 7)) (de_int)) (da_cons (de_ix (ix_D hu) (de_var (pv 7)) (de_int)) (da_nil)))))
            (dss_cons (ds_put hu (pv 4) (de_ix (ix_D hu) (de_var (pv 7)) (de_int)) (de_op op_subD (de_ixO hu (pv 4) (de_ix (ix_D hu) (de_var (pv 7)) (de_int))) (de_ix (ix_D hu) (de_var (pv 7)) (de_int))))
            (dss_one (ds_put hu (pv 5) (de_ix (ix_D hu) (de_var (pv 7)) (de_int)) (de_op op_subD (de_ixO hu (pv 5) (de_ix (ix_D hu) (de_var (pv 7)) (de_int))) (de_ix (ix_D hu) (de_var (pv 7)) (de_int)))))))))
            (dss_one (ds_ret (de_frz [4, 5] (de_db (db_bop (dbs_and (db_cmp op_geD (de_minDef rfl (by rfl) T.b_min (de_var (pv 4)) (de_int)) (de_int)) (dbs_one (db_cmp op_geD (de_minDef rfl (by rfl) T.b_min (de_var (pv 5)) (de_int)) (de_int)))))))))))))
  case hA => decide
theorem sc_reach : FnScope ["left_rest", "pairs", "flow", "from_right", "from_left", "queue", "i", "place", "j", "k", "other"] ["left_rest", "pairs", "flow"] (defScope s_reach) := ⟨rfl, rfl, rfl, by decide +kernel, rfl, by decide +kernel, by decide +kernel⟩
theorem nx_reach : ∀ (ds : List D) (x : Exc) (ds' : List D), f_reach ds ≠ .exc x ds' := fnSem_noexc [0, 0, 1] 8 m_reach
theorem fd_reach (T : Txt w K mg) : FnD P w K mg base 1 "reach" [0, 0, 1] f_reach := by
  obtain ⟨fa, fd, F, hb, hm, hk⟩ := T.h_reach.ex
  have nd := (sc_reach).nd
  refine ⟨fa, fd, _, fn_ok (A := ([3] ++ ([4] ++ ([5] ++ (([6] ++ (([] ++ []) ++ [])) ++ ([7] ++ ((([6, 8] ++ (([] ++ ([9, 10] ++ (([] ++ []) ++ []))) ++ [])) ++ [7]) ++ []))))))) (k := 0) F sc_reach rfl 8 rfl ?hA (fun cdv Ar outer s H E hr => ?hB), hb, hm, hk⟩
  case hB =>
    have hu := hr.units
    exact dss_cons (ds_set nd rfl (Or.inl rfl) (de_dK0))
            (dss_cons (ds_set nd rfl (Or.inl rfl) (de_dK0))
            (dss_cons (ds_set nd rfl (Or.inl rfl) (de_lst (da_nil)))
            (dss_cons (ds_for [6] PassesOwn.never rfl (di_range1 (by rfl) T.b_range (da_cons (de_callB call_lenDD (by rfl) T.b_len (by decide +kernel) (da_cons (de_var (pv 0)) (da_nil))) (da_nil))) (dg_name nd rfl (Or.inl rfl))
            (dss_one (ds_if (dt_cmp op_gtD (de_ix (ix_D hu) (de_var (pv 0)) (de_var (pv 6))) (de_int))
            (dss_cons (ds_put hu (pv 3) (de_var (pv 6)) (de_un un_negD (de_int)))
            (dss_one (ds_app (pv 5) (de_var (pv 6)))))
            (dss_nil))))
            (dss_cons (ds_setF nd rfl (Or.inl rfl) (de_int))
            (dss_cons (ds_while [6, 8, 9, 10] PassesOwn.never (dt_tmp [5] [] (dt_cmp op_ltD (de_var (pv 7)) (de_callB call_lenDD (by rfl) T.b_len (by decide +kernel) (da_cons (de_var (pv 5)) (da_nil)))))
            (dss_cons (ds_for [6, 8, 9, 10] PassesOwn.never rfl (di_seq (de_var (pv 1))) (dg_tup rfl (dgs_cons nd rfl (Or.inl rfl) (dgs_cons nd rfl (Or.inl rfl) dgs_nil)))
            (dss_one (ds_if (dt_tmp [4, 5] [] (dt_bop (dws_and (dt_cmp (op_eqDD hu) (de_var (pv 6)) (de_ix (ix_D hu) (de_var (pv 5)) (de_var (pv 7)))) (dws_and1 (dt_cmp (op_notInDD hu) (de_var (pv 8)) (de_var (pv 4)))))))
            (dss_cons (ds_put hu (pv 4) (de_var (pv 8)) (de_var (pv 6)))
            (dss_one (ds_for [9, 10] PassesOwn.never rfl (di_seq (de_var (pv 1))) (dg_tup rfl (dgs_cons nd rfl (Or.inl rfl) (dgs_cons nd rfl (Or.inl rfl) dgs_nil)))
            (dss_one (ds_if (dt_tmp [2, 3] [] (dt_bop (dws_and (dt_cmp (op_eqDD hu) (de_var (pv 10)) (de_var (pv 8))) (dws_and (dt_cmp op_gtD (de_ix (ix_D hu) (de_var (pv 2)) (de_tup (da_cons (de_var (pv 9)) (da_cons (de_var (pv 8)) (da_nil))))) (de_int)) (dws_and1 (dt_cmp (op_notInDD hu) (de_var (pv 9)) (de_var (pv 3))))))))
            (dss_cons (ds_put hu (pv 3) (de_var (pv 9)) (de_var (pv 8)))
            (dss_one (ds_app (pv 5) (de_var (pv 9)))))
            (dss_nil))))))
            (dss_nil))))
            (dss_one (ds_setF nd rfl (Or.inl rfl) (de_op op_addD (de_var (pv 7)) (de_int))))))
            (dss_one (ds_ret (de_tupM (pvs_cons (pv 3) (pvs_cons (pv 4) pvs_nil))))))))))
  case hA => decide
theorem sc_first_open : FnScope ["from_left", "right_rest", "j"] ["from_left", "right_rest"] (defScope s_first_open) := ⟨rfl, rfl, rfl, by decide +kernel, rfl, by decide +kernel, by decide +kernel⟩
theorem nx_first_open : ∀ (ds : List D) (x : Exc) (ds' : List D), f_first_open ds ≠ .exc x ds' := fnSem_noexc [1, 0] 1 m_first_open
theorem fd_first_open (T : Txt w K mg) : FnD P w K mg base 1 "first_open" [1, 0] f_first_open := by
  obtain ⟨fa, fd, F, hb, hm, hk⟩ := T.h_first_open.ex
  have nd := (sc_first_open).nd
  refine ⟨fa, fd, _, fn_ok (A := (([2] ++ ([] ++ [])) ++ [])) (k := 0) F sc_first_open rfl 1 rfl ?hA (fun cdv Ar outer s H E hr => ?hB), hb, hm, hk⟩
  case hB =>
    have hu := hr.units
    exact dss_cons (ds_forKeys [2] PassesOwn.never rfl (pv 0) (dg_name nd rfl (Or.inl rfl))
            (dss_one (ds_if (dt_cmp op_gtD (de_ix (ix_D hu) (de_var (pv 1)) (de_var (pv 2))) (de_int))
            (dss_one (ds_ret (de_var (pv 2))))
            (dss_nil))) (by decide))
            (dss_one (ds_ret (de_un un_negD (de_int))))
  case hA => decide
theorem sc_path_to : FnScope ["from_right", "from_left", "j", "path", "here", "i"] ["from_right", "from_left", "j"] (defScope s_path_to) := ⟨rfl, rfl, rfl, by decide +kernel, rfl, by decide +kernel, by decide +kernel⟩
theorem nx_path_to : ∀ (ds : List D) (x : Exc) (ds' : List D), f_path_to ds ≠ .exc x ds' := fnSem_noexc [1, 1, 0] 3 m_path_to
theorem fd_path_to (T : Txt w K mg) : FnD P w K mg base 1 "path_to" [1, 1, 0] f_path_to := by
  obtain ⟨fa, fd, F, hb, hm, hk⟩ := T.h_path_to.ex
  have nd := (sc_path_to).nd
  refine ⟨fa, fd, _, fn_ok (A := ([3] ++ ([4] ++ (([5] ++ ([] ++ ([4] ++ ([] ++ [])))) ++ [])))) (k := 0) F sc_path_to rfl 3 rfl ?hA (fun cdv Ar outer s H E hr => ?hB), hb, hm, hk⟩
  case hB =>
    have hu := hr.units
    exact dss_cons (ds_set nd rfl (Or.inl rfl) (de_lst (da_nil)))
            (dss_cons (ds_setF nd rfl (Or.inl rfl) (de_var (pv 2)))
            (dss_cons (ds_while [5] PassesOwn.never (dt_cmp op_geD (de_var (pv 4)) (de_int))
            (dss_cons (ds_setF nd rfl (Or.inl rfl) (de_ixO hu (pv 1) (de_var (pv 4))))
            (dss_cons (ds_app (pv 3) (de_tup (da_cons (de_var (pv 5)) (da_cons (de_var (pv 4)) (da_cons (de_int) (da_nil))))))
            (dss_cons (ds_setF nd rfl (Or.inl rfl) (de_ixO hu (pv 0) (de_var (pv 5))))
            (dss_one (ds_if (dt_cmp op_geD (de_var (pv 4)) (de_int))
            (dss_one (ds_app (pv 3) (de_tup (da_cons (de_var (pv 5)) (da_cons (de_var (pv 4)) (da_cons (de_un un_negD (de_int)) (da_nil)))))))
            (dss_nil)))))))
            (dss_one (ds_ret (de_move (pv 3))))))
  case hA => decide
theorem sc_send : FnScope ["left_rest", "right_rest", "flow", "path", "start", "goal", "amount", "i", "j", "sign"] ["left_rest", "right_rest", "flow", "path"] (defScope s_send) := ⟨rfl, rfl, rfl, by decide +kernel, rfl, by decide +kernel, by decide +kernel⟩
theorem nx_send : ∀ (ds : List D) (x : Exc) (ds' : List D), f_send ds ≠ .exc x ds' := fnSem_noexc [1, 1, 1, 0] 6 m_send
theorem fd_send (T : Txt w K mg) : FnD P w K mg base 1 "send" [1, 1, 1, 0] f_send := by
  obtain ⟨fa, fd, F, hb, hm, hk⟩ := T.h_send.ex
  have nd := (sc_send).nd
  refine ⟨fa, fd, _, fn_ok (A := ([4] ++ ([5] ++ ([6] ++ (([7, 8, 9] ++ ([6] ++ [])) ++ (([7, 8, 9] ++ []) ++ ([] ++ []))))))) (k := 0) F sc_send rfl 6 rfl ?hA (fun cdv Ar outer s H E hr => ?hB), hb, hm, hk⟩
  case hB =>
    have hu := hr.units
    exact dss_cons (ds_setF nd rfl (Or.inl rfl) (de_ix (ix_D hu) (de_ix (ix_D hu) (de_var (pv 3)) (de_un un_negD (de_int))) (de_int)))
            (dss_cons (ds_setF nd rfl (Or.inl rfl) (de_ix (ix_D hu) (de_ix (ix_D hu) (de_var (pv 3)) (de_int)) (de_int)))
            (dss_cons (ds_setF nd rfl (Or.inl rfl) (de_callB (call_minDD rfl) (by rfl) T.b_min (by decide +kernel) (da_cons (de_ixO hu (pv 0) (de_var (pv 4))) (da_cons (de_ixO hu (pv 1) (de_var (pv 5))) (da_nil)))))
            (dss_cons (ds_for [7, 8, 9] PassesOwn.never rfl (di_seq (de_var (pv 3))) (dg_tup rfl (dgs_cons nd rfl (Or.inl rfl) (dgs_cons nd rfl (Or.inl rfl) (dgs_cons nd rfl (Or.inl rfl) dgs_nil))))
            (dss_one (ds_if (dt_cmp op_ltD (de_var (pv 9)) (de_int))
            (dss_one (ds_setF nd rfl (Or.inl rfl) (de_callB (call_minDD rfl) (by rfl) T.b_min (by decide +kernel) (da_cons (de_var (pv 6)) (da_cons (de_ixO hu (pv 2) (de_tup (da_cons (de_var (pv 7)) (da_cons (de_var (pv 8)) (da_nil))))) (da_nil))))))
            (dss_nil))))
            (dss_cons (ds_for [7, 8, 9] PassesOwn.never rfl (di_seq (de_var (pv 3))) (dg_tup rfl (dgs_cons nd rfl (Or.inl rfl) (dgs_cons nd rfl (Or.inl rfl) (dgs_cons nd rfl (Or.inl rfl) dgs_nil))))
            (dss_one (ds_put hu (pv 2) (de_tup (da_cons (de_var (pv 7)) (da_cons (de_var (pv 8)) (da_nil)))) (de_op op_addD (de_ixO hu (pv 2) (de_tup (da_cons (de_var (pv 7)) (da_cons (de_var (pv 8)) (da_nil))))) (de_op op_mulD (de_var (pv 9)) (de_var (pv 6)))))))
            (dss_cons (ds_put hu (pv 0) (de_var (pv 4)) (de_op op_subD (de_ixO hu (pv 0) (de_var (pv 4))) (de_var (pv 6))))
            (dss_one (ds_put hu (pv 1) (de_var (pv 5)) (de_op op_subD (de_ixO hu (pv 1) (de_var (pv 5))) (de_var (pv 6))))))))))
  case hA => decide
theorem sc_best_cover : FnScope ["lefts", "rights", "pairs", "left_rest", "right_rest", "flow", "pair", "from_right", "from_left", "goal", "chosen", "other", "packing", "i", "j"] ["lefts", "rights", "pairs"] (defScope s_best_cover) := ⟨rfl, rfl, rfl, by decide +kernel, rfl, by decide +kernel, by decide +kernel⟩
theorem nx_best_cover : ∀ (ds : List D) (x : Exc) (ds' : List D), f_best_cover ds ≠ .exc x ds' := fnSem_noexc [0, 0, 0] 12 m_best_cover
theorem fd_best_cover (T : Txt w K mg) : FnD P w K mg base 2 "best_cover" [0, 0, 0] f_best_cover := by
  obtain ⟨fa, fd, F, hb, hm, hk⟩ := T.h_best_cover.ex
  have nd := (sc_best_cover).nd
  refine ⟨fa, fd, _, fn_ok (A := ([3] ++ ([4] ++ ([5] ++ (([6] ++ []) ++ ([7, 8] ++ ([9] ++ (([] ++ ([7, 8] ++ [9])) ++ ([10] ++ ([11] ++ ([12] ++ []))))))))))) (k := 1) F sc_best_cover rfl 12 rfl ?hA (fun cdv Ar outer s H E hr => ?hB), hb, hm, hk⟩
  case hB =>
    have hu := hr.units
    exact dss_cons (ds_set nd rfl (Or.inl rfl) (de_callTy call_listDD (by rfl) T.b_list (by decide +kernel) (da_cons (de_var (pv 0)) (da_nil))))
            (dss_cons (ds_set nd rfl (Or.inl rfl) (de_callTy call_listDD (by rfl) T.b_list (by decide +kernel) (da_cons (de_var (pv 1)) (da_nil))))
            (dss_cons (ds_set nd rfl (Or.inr rfl) (de_dT0))
            (dss_cons (ds_for [6] PassesOwn.never rfl (di_seq (de_var (pv 2))) (dg_name nd rfl (Or.inl rfl))
            (dss_one (ds_put hu (pv 5) (de_var (pv 6)) (de_int))))
            (dss_cons (ds_asgM rfl (gvs_cons nd rfl (Or.inr rfl) (gvs_cons nd rfl (Or.inr rfl) gvs_nil)) (de_tmp [3] [5] (de_call (fd_reach T) nx_reach (hr.mono (by first | decide | omega)) (by rfl) (dar_ex (de_var (pv 3)) (dar_ex (de_var (pv 2)) (dar_ln (pv 5) (dar_nil)))))))
            (dss_cons (ds_setF nd rfl (Or.inl rfl) (de_tmp [4] [8] (de_call (fd_first_open T) nx_first_open (hr.mono (by first | decide | omega)) (by rfl) (dar_ln (pv 8) (dar_ex (de_var (pv 4)) (dar_nil))))))
            (dss_cons (ds_while [] PassesOwn.never (dt_cmp op_geD (de_var (pv 9)) (de_int))
            (dss_cons (ds_drop (de_call (fd_send T) nx_send (hr.mono (by first | decide | omega)) (by rfl) (dar_ln (pv 3) (dar_ln (pv 4) (dar_ln (pv 5) (dar_ex (de_call (fd_path_to T) nx_path_to (hr.mono (by first | decide | omega)) (by rfl) (dar_ln (pv 7) (dar_ln (pv 8) (dar_ex (de_var (pv 9)) (dar_nil))))) (dar_nil)))))))
            (dss_cons (ds_asgM rfl (gvs_cons nd rfl (Or.inr rfl) (gvs_cons nd rfl (Or.inr rfl) gvs_nil)) (de_tmp [3] [5] (de_call (fd_reach T) nx_reach (hr.mono (by first | decide | omega)) (by rfl) (dar_ex (de_var (pv 3)) (dar_ex (de_var (pv 2)) (dar_ln (pv 5) (dar_nil)))))))
            (dss_one (ds_setF nd rfl (Or.inl rfl) (de_tmp [4] [8] (de_call (fd_first_open T) nx_first_open (hr.mono (by first | decide | omega)) (by rfl) (dar_ln (pv 8) (dar_ex (de_var (pv 4)) (dar_nil))))))))))
            (dss_cons (ds_frz [7] (ds_setLc rfl nd rfl rfl (di_range1 (by rfl) T.b_range (da_cons (de_callB call_lenDD (by rfl) T.b_len (by decide +kernel) (da_cons (de_var (pv 0)) (da_nil))) (da_nil))) (own := [("i", 13)]) (show BlkOk ["lefts", "rights", "pairs", "left_rest", "right_rest", "flow", "pair", "from_right", "from_left", "goal", "chosen", "other", "packing", "i", "j"] (defScope s_best_cover) _ _ from ⟨rfl, by decide +kernel, by decide +kernel, by decide +kernel, by decide +kernel⟩) (dgb_name fun _ _ _ _ _ => pg_name nd rfl (by first | exact Or.inl rfl | exact Or.inr rfl)) (by decide) (fun _ _ _ _ _ => dts_one (dt_cmp (op_notInDD hu) (de_var (pv 13)) (de_var (pv 7)))) (fun _ _ _ _ _ => de_var (pv 13))))
            (dss_cons (ds_frz [8] (ds_setLc rfl nd rfl rfl (di_range1 (by rfl) T.b_range (da_cons (de_callB call_lenDD (by rfl) T.b_len (by decide +kernel) (da_cons (de_var (pv 1)) (da_nil))) (da_nil))) (own := [("j", 14)]) (show BlkOk ["lefts", "rights", "pairs", "left_rest", "right_rest", "flow", "pair", "from_right", "from_left", "goal", "chosen", "other", "packing", "i", "j"] (defScope s_best_cover) _ _ from ⟨rfl, by decide +kernel, by decide +kernel, by decide +kernel, by decide +kernel⟩) (dgb_name fun _ _ _ _ _ => pg_name nd rfl (by first | exact Or.inl rfl | exact Or.inr rfl)) (by decide) (fun _ _ _ _ _ => dts_one (dt_cmp (op_inDD hu) (de_var (pv 14)) (de_var (pv 8)))) (fun _ _ _ _ _ => de_var (pv 14))))
            (dss_cons (ds_setLc rfl nd rfl rfl (di_seq (de_callB (call_sortedXX rfl) (by rfl) T.b_sorted (by decide +kernel) (da_cons (de_var (pv 2)) (da_nil)))) (own := [("pair", 6)]) (show BlkOk ["lefts", "rights", "pairs", "left_rest", "right_rest", "flow", "pair", "from_right", "from_left", "goal", "chosen", "other", "packing", "i", "j"] (defScope s_best_cover) _ _ from ⟨rfl, by decide +kernel, by decide +kernel, by decide +kernel, by decide +kernel⟩) (dgb_name fun _ _ _ _ _ => pg_name nd rfl (by first | exact Or.inl rfl | exact Or.inr rfl)) (by decide) (fun _ _ _ _ _ => dts_one (dt_cmp op_gtD (de_ixO hu (pv 5) (de_var (pv 6))) (de_int))) (fun _ _ _ _ _ => de_tup (da_cons (de_ix (ix_D hu) (de_var (pv 6)) (de_int)) (da_cons (de_ix (ix_D hu) (de_var (pv 6)) (de_int)) (da_cons (de_ixO hu (pv 5) (de_var (pv 6))) (da_nil))))))
            (dss_one (ds_ret (de_tupM (pvs_cons (pv 10) (pvs_cons (pv 11) (pvs_cons (pv 12) pvs_nil)))))))))))))))
  case hA => decide
theorem sc__law_number : FnScope ["script", "k", "cell", "first", "second"] ["script", "k"] (defScope s__law_number) := ⟨rfl, rfl, rfl, by decide +kernel, rfl, by decide +kernel, by decide +kernel⟩
theorem nx__law_number : ∀ (ds : List D) (x : Exc) (ds' : List D), f__law_number ds ≠ .exc x ds' := fnSem_noexc [0, 0] 3 m__law_number
theorem fd__law_number (T : Txt w K mg) : FnD P w K mg base 1 "_law_number" [0, 0] f__law_number := by
  obtain ⟨fa, fd, F, hb, hm, hk⟩ := T.h__law_number.ex
  have nd := (sc__law_number).nd
  refine ⟨fa, fd, _, fn_ok (A := ([2] ++ (([2] ++ []) ++ (([] ++ []) ++ ([3] ++ ([4] ++ [])))))) (k := 0) F sc__law_number rfl 3 rfl ?hA (fun cdv Ar outer s H E hr => ?hB), hb, hm, hk⟩
  case hB =>
    have hu := hr.units
    exact dss_cons (ds_setF nd rfl (Or.inl rfl) (de_int))
            (dss_cons (ds_if (dt_cmp op_ltD (de_var (pv 1)) (de_callB call_lenDD (by rfl) T.b_len (by decide +kernel) (da_cons (de_var (pv 0)) (da_nil))))
            (dss_one (ds_setF nd rfl (Or.inl rfl) (de_callTy call_intDD (by rfl) T.b_int (by decide +kernel) (da_cons (de_ix (ix_D hu) (de_var (pv 0)) (de_var (pv 1))) (da_nil)))))
            (dss_nil))
            (dss_cons (ds_if (dt_cmp op_geD (de_var (pv 2)) (de_op op_powD (de_int) (de_int)))
            (dss_one (ds_ret (de_op op_subD (de_var (pv 2)) (de_op op_powD (de_int) (de_int)))))
            (dss_nil))
            (dss_cons (ds_setF nd rfl (Or.inl rfl) (de_op op_modD (de_callTy call_intDD (by rfl) T.b_int (by decide +kernel) (da_cons (de_op op_addD (de_op op_addD (de_op op_mulD (de_var (pv 2)) (de_int)) (de_op op_mulD (de_var (pv 1)) (de_int))) (de_int)) (da_nil))) (de_int)))
            (dss_cons (ds_setF nd rfl (Or.inl rfl) (de_op op_modD (de_callTy call_intDD (by rfl) T.b_int (by decide +kernel) (da_cons (de_op op_addD (de_op op_addD (de_op op_mulD (de_var (pv 3)) (de_var (pv 3))) (de_op op_mulD (de_var (pv 1)) (de_int))) (de_int)) (da_nil))) (de_int)))
            (dss_one (ds_ret (de_op op_addD (de_op op_mulD (de_var (pv 4)) (de_int)) (de_var (pv 3)))))))))
  case hA => decide
theorem sc__law_digits : FnScope ["number", "sizes", "digits", "size"] ["number", "sizes"] (defScope s__law_digits) := ⟨rfl, rfl, rfl, by decide +kernel, rfl, by decide +kernel, by decide +kernel⟩
theorem nx__law_digits : ∀ (ds : List D) (x : Exc) (ds' : List D), f__law_digits ds ≠ .exc x ds' := fnSem_noexc [0, 0] 2 m__law_digits
theorem fd__law_digits (T : Txt w K mg) : FnD P w K mg base 1 "_law_digits" [0, 0] f__law_digits := by
  obtain ⟨fa, fd, F, hb, hm, hk⟩ := T.h__law_digits.ex
  have nd := (sc__law_digits).nd
  refine ⟨fa, fd, _, fn_ok (A := ([2] ++ (([3] ++ ([] ++ [0])) ++ []))) (k := 0) F sc__law_digits rfl 2 rfl ?hA (fun cdv Ar outer s H E hr => ?hB), hb, hm, hk⟩
  case hB =>
    have hu := hr.units
    exact dss_cons (ds_set nd rfl (Or.inl rfl) (de_lst (da_nil)))
            (dss_cons (ds_for [3] PassesOwn.never rfl (di_seq (de_var (pv 1))) (dg_name nd rfl (Or.inl rfl))
            (dss_cons (ds_app (pv 2) (de_op op_modD (de_callTy call_intDD (by rfl) T.b_int (by decide +kernel) (da_cons (de_var (pv 0)) (da_nil))) (de_var (pv 3))))
            (dss_one (ds_setF nd rfl (Or.inl rfl) (de_op op_fdivD (de_var (pv 0)) (de_var (pv 3)))))))
            (dss_one (ds_ret (de_move (pv 2)))))
  case hA => decide
theorem sc__law_same : FnScope ["told", "due", "k"] ["told", "due"] (defScope s__law_same) := ⟨rfl, rfl, rfl, by decide +kernel, rfl, by decide +kernel, by decide +kernel⟩
theorem nx__law_same : ∀ (n : Nat) (ds : List D) (x : Exc) (ds' : List D), f__law_same n ds ≠ .exc x ds'
  | 0, _, _, _ => by intro h; cases h
  | n + 1, ds, x, ds' => fnSem_noexc [0, 0] 1 (m__law_same (f__law_same n)) ds x ds'
theorem fd__law_same (T : Txt w K mg) : ∀ n : Nat, FnD P w K mg base (n + 1) "_law_same" [0, 0] (f__law_same n)
  | 0 => by
    obtain ⟨fa, fd, F, hb, hm, hk⟩ := T.h__law_same.ex
    exact ⟨fa, fd, _, fnD_stuck rfl, hb, hm, hk⟩
  | n + 1 => by
    have C : FnD P w K mg base (n + 1) "_law_same" [0, 0] (f__law_same n) := fd__law_same T n
    have nx := nx__law_same n
    obtain ⟨fa, fd, F, hb, hm, hk⟩ := T.h__law_same.ex
    have nd := (sc__law_same).nd
    refine ⟨fa, fd, _, fn_ok (A := (((([] ++ []) ++ (([] ++ []) ++ (([] ++ []) ++ (([2] ++ ([] ++ [])) ++ [])))) ++ []) ++ (([] ++ []) ++ (([] ++ []) ++ (([] ++ []) ++ []))))) F sc__law_same rfl 1 rfl ?hA (fun cdv Ar outer s H E hr => ?hB), hb, hm, hk⟩
    case hB =>
      have hu := hr.units
      exact dss_cons (ds_if (dt_val (de_callB call_isInstDD (by rfl) T.b_isinstance (by decide +kernel) (da_cons (de_var (pv 1)) (da_cons (de_tup (da_cons (de_ty (by rfl) T.b_list (by decide +kernel)) (da_cons (de_ty (by rfl) T.b_tuple (by decide +kernel)) (da_nil)))) (da_nil)))))
            (dss_cons (ds_if (dt_bop (dws_and (dt_val (de_callB call_isInstDD (by rfl) T.b_isinstance (by decide +kernel) (da_cons (de_var (pv 1)) (da_cons (de_ty (by rfl) T.b_list (by decide +kernel)) (da_nil))))) (dws_and1 (dt_not (dt_val (de_callB call_isInstDD (by rfl) T.b_isinstance (by decide +kernel) (da_cons (de_var (pv 0)) (da_cons (de_ty (by rfl) T.b_list (by decide +kernel)) (da_nil)))))))))
            (dss_one (ds_ret (de_bl)))
            (dss_nil))
            (dss_cons (ds_if (dt_bop (dws_and (dt_val (de_callB call_isInstDD (by rfl) T.b_isinstance (by decide +kernel) (da_cons (de_var (pv 1)) (da_cons (de_ty (by rfl) T.b_tuple (by decide +kernel)) (da_nil))))) (dws_and1 (dt_not (dt_val (de_callB call_isInstDD (by rfl) T.b_isinstance (by decide +kernel) (da_cons (de_var (pv 0)) (da_cons (de_ty (by rfl) T.b_tuple (by decide +kernel)) (da_nil)))))))))
            (dss_one (ds_ret (de_bl)))
            (dss_nil))
            (dss_cons (ds_if (dt_cmp (op_neDD hu) (de_callB call_lenDD (by rfl) T.b_len (by decide +kernel) (da_cons (de_var (pv 0)) (da_nil))) (de_callB call_lenDD (by rfl) T.b_len (by decide +kernel) (da_cons (de_var (pv 1)) (da_nil))))
            (dss_one (ds_ret (de_bl)))
            (dss_nil))
            (dss_cons (ds_for [2] PassesOwn.never rfl (di_range1 (by rfl) T.b_range (da_cons (de_callB call_lenDD (by rfl) T.b_len (by decide +kernel) (da_cons (de_var (pv 1)) (da_nil))) (da_nil))) (dg_name nd rfl (Or.inl rfl))
            (dss_one (ds_if (dt_not (dt_val (de_call C nx hr (by rfl) (dar_ex (de_ix (ix_D hu) (de_var (pv 0)) (de_var (pv 2))) (dar_ex (de_ix (ix_D hu) (de_var (pv 1)) (de_var (pv 2))) (dar_nil))))))
            (dss_one (ds_ret (de_bl)))
            (dss_nil))))
            (dss_one (ds_ret (de_bl)))))))
            (dss_nil))
            (dss_cons (ds_if (dt_cmp op_isD (de_var (pv 1)) (de_non))
            (dss_one (ds_ret (de_db (db_cmp op_isD (de_var (pv 0)) (de_non)))))
            (dss_nil))
            (dss_cons (ds_if (dt_val (de_callB call_isInstDD (by rfl) T.b_isinstance (by decide +kernel) (da_cons (de_var (pv 1)) (da_cons (de_ty (by rfl) T.b_bool (by decide +kernel)) (da_nil)))))
            (dss_one (ds_ret (de_db (db_bop (dbs_and (db_of (de_callB call_isInstDD (by rfl) T.b_isinstance (by decide +kernel) (da_cons (de_var (pv 0)) (da_cons (de_ty (by rfl) T.b_bool (by decide +kernel)) (da_nil))))) (dbs_one (db_cmp (op_eqDD hu) (de_var (pv 0)) (de_var (pv 1)))))))))
            (dss_nil))
            (dss_cons (ds_if (dt_val (de_callB call_isInstDD (by rfl) T.b_isinstance (by decide +kernel) (da_cons (de_var (pv 1)) (da_cons (de_ty (by rfl) T.b_int (by decide +kernel)) (da_nil)))))
            (dss_one (ds_ret (de_db (db_bop (dbs_and (db_of (de_callB call_isInstDD (by rfl) T.b_isinstance (by decide +kernel) (da_cons (de_var (pv 0)) (da_cons (de_ty (by rfl) T.b_int (by decide +kernel)) (da_nil))))) (dbs_and (db_not (db_of (de_callB call_isInstDD (by rfl) T.b_isinstance (by decide +kernel) (da_cons (de_var (pv 0)) (da_cons (de_ty (by rfl) T.b_bool (by decide +kernel)) (da_nil)))))) (dbs_one (db_cmp (op_eqDD hu) (de_var (pv 0)) (de_var (pv 1))))))))))
            (dss_nil))
            (dss_one (ds_ret (de_db (db_bop (dbs_and (db_of (de_callB call_isInstDD (by rfl) T.b_isinstance (by decide +kernel) (da_cons (de_var (pv 0)) (da_cons (de_ty (by rfl) T.b_str (by decide +kernel)) (da_nil))))) (dbs_one (db_cmp (op_eqDD hu) (de_var (pv 0)) (de_var (pv 1))))))))))))
    case hA => decide
theorem sc__law_whole : FnScope ["x"] ["x"] (defScope s__law_whole) := ⟨rfl, rfl, rfl, by decide +kernel, rfl, by decide +kernel, by decide +kernel⟩
theorem nx__law_whole : ∀ (ds : List D) (x : Exc) (ds' : List D), f__law_whole ds ≠ .exc x ds' := fnSem_noexc [0] 0 m__law_whole
theorem fd__law_whole (T : Txt w K mg) : FnD P w K mg base 1 "_law_whole" [0] f__law_whole := by
  obtain ⟨fa, fd, F, hb, hm, hk⟩ := T.h__law_whole.ex
  have nd := (sc__law_whole).nd
  refine ⟨fa, fd, _, fn_ok (A := []) (k := 0) F sc__law_whole rfl 0 rfl ?hA (fun cdv Ar outer s H E hr => ?hB), hb, hm, hk⟩
  case hB =>
    have hu := hr.units
    exact dss_one (ds_ret (de_db (db_bop (dbs_and (db_of (de_callB call_isInstDD (by rfl) T.b_isinstance (by decide +kernel) (da_cons (de_var (pv 0)) (da_cons (de_ty (by rfl) T.b_int (by decide +kernel)) (da_nil))))) (dbs_one (db_not (db_of (de_callB call_isInstDD (by rfl) T.b_isinstance (by decide +kernel) (da_cons (de_var (pv 0)) (da_cons (de_ty (by rfl) T.b_bool (by decide +kernel)) (da_nil)))))))))))
  case hA => decide
theorem sc__law_draw : FnScope ["script", "sizes", "left", "right", "most", "lefts", "pairs", "i", "rights", "number", "j", "turned", "pair"] ["script"] (defScope s__law_draw) := ⟨rfl, rfl, rfl, by decide +kernel, rfl, by decide +kernel, by decide +kernel⟩
theorem nx__law_draw : ∀ (ds : List D) (x : Exc) (ds' : List D), f__law_draw ds ≠ .exc x ds' := fnSem_noexc [0] 12 m__law_draw
theorem fd__law_draw (T : Txt w K mg) : FnD P w K mg base 2 "_law_draw" [0] f__law_draw := by
  obtain ⟨fa, fd, F, hb, hm, hk⟩ := T.h__law_draw.ex
  have nd := (sc__law_draw).nd
  refine ⟨fa, fd, _, fn_ok (A := ([1] ++ ([2] ++ ([3] ++ ((([2] ++ [3]) ++ []) ++ ([4] ++ ([5] ++ ([6] ++ (([7] ++ ([9] ++ ([] ++ ([9] ++ ([10] ++ (([] ++ []) ++ [9])))))) ++ ([8] ++ (([] ++ []) ++ ((([11] ++ [6]) ++ []) ++ [])))))))))))) (k := 1) F sc__law_draw rfl 12 rfl ?hA (fun cdv Ar outer s H E hr => ?hB), hb, hm, hk⟩
  case hB =>
    have hu := hr.units
    exact dss_cons (ds_setF nd rfl (Or.inl rfl) (de_call (fd__law_digits T) nx__law_digits (hr.mono (by first | decide | omega)) (by rfl) (dar_ex (de_call (fd__law_number T) nx__law_number (hr.mono (by first | decide | omega)) (by rfl) (dar_ex (de_var (pv 0)) (dar_ex (de_int) (dar_nil)))) (dar_ex (de_lst (da_cons (de_int) (da_cons (de_int) (da_cons (de_int) (da_cons (de_int) (da_cons (de_int) (da_cons (de_int) (da_cons (de_int) (da_cons (de_int) (da_nil)))))))))) (dar_nil)))))
            (dss_cons (ds_setF nd rfl (Or.inl rfl) (de_ix (ix_D hu) (de_var (pv 1)) (de_int)))
            (dss_cons (ds_setF nd rfl (Or.inl rfl) (de_ix (ix_D hu) (de_var (pv 1)) (de_int)))
            (dss_cons (ds_if (dt_cmp (op_eqDD hu) (de_ix (ix_D hu) (de_var (pv 1)) (de_int)) (de_int))
            (dss_cons (ds_setF nd rfl (Or.inl rfl) (de_ix (ix_D hu) (de_var (pv 1)) (de_int)))
            (dss_one (ds_setF nd rfl (Or.inl rfl) (de_ix (ix_D hu) (de_var (pv 1)) (de_int)))))
            (dss_nil))
            (dss_cons (ds_setF nd rfl (Or.inr rfl) (de_ix (ix_D hu) (de_lst (da_cons (de_int) (da_cons (de_int) (da_cons (de_int) (da_nil))))) (de_ix (ix_D hu) (de_var (pv 1)) (de_int))))
            (dss_cons (ds_set nd rfl (Or.inl rfl) (de_lst (da_nil)))
            (dss_cons (ds_set nd rfl (Or.inl rfl) (de_lst (da_nil)))
            (dss_cons (ds_for [7, 9, 10] PassesOwn.never rfl (di_range1 (by rfl) T.b_range (da_cons (de_var (pv 2)) (da_nil))) (dg_name nd rfl (Or.inl rfl))
            (dss_cons (ds_setF nd rfl (Or.inl rfl) (de_call (fd__law_number T) nx__law_number (hr.mono (by first | decide | omega)) (by rfl) (dar_ex (de_var (pv 0)) (dar_ex (de_op op_addD (de_int) (de_var (pv 7))) (dar_nil)))))
            (dss_cons (ds_app (pv 5) (de_op op_addD (de_int) (de_op op_modD (de_callTy call_intDD (by rfl) T.b_int (by decide +kernel) (da_cons (de_var (pv 9)) (da_nil))) (de_var (pv 4)))))
            (dss_cons (ds_setF nd rfl (Or.inl rfl) (de_op op_fdivD (de_var (pv 9)) (de_var (pv 4))))
            (dss_one (ds_for [10] PassesOwn.never rfl (di_range1 (by rfl) T.b_range (da_cons (de_var (pv 3)) (da_nil))) (dg_name nd rfl (Or.inl rfl))
            (dss_cons (ds_if (dt_cmp (op_leD hu) (de_op op_modD (de_callTy call_intDD (by rfl) T.b_int (by decide +kernel) (da_cons (de_var (pv 9)) (da_nil))) (de_int)) (de_op op_fdivD (de_ix (ix_D hu) (de_var (pv 1)) (de_int)) (de_int)))
            (dss_one (ds_app (pv 6) (de_tup (da_cons (de_var (pv 7)) (da_cons (de_var (pv 10)) (da_nil))))))
            (dss_nil))
            (dss_one (ds_setF nd rfl (Or.inl rfl) (de_op op_fdivD (de_var (pv 9)) (de_int)))))))))))
            (dss_cons (ds_setLcF rfl nd rfl rfl (di_range1 (by rfl) T.b_range (da_cons (de_var (pv 3)) (da_nil))) (own := [("j", 10)]) (show BlkOk ["script", "sizes", "left", "right", "most", "lefts", "pairs", "i", "rights", "number", "j", "turned", "pair"] (defScope s__law_draw) _ _ from ⟨rfl, by decide +kernel, by decide +kernel, by decide +kernel, by decide +kernel⟩) (dgb_name fun _ _ _ _ _ => pg_name nd rfl (by first | exact Or.inl rfl | exact Or.inr rfl)) (by decide) (fun _ _ _ _ _ => dts_nil) (fun _ _ _ _ _ => de_op op_addD (de_int) (de_op op_modD (de_callTy call_intDD (by rfl) T.b_int (by decide +kernel) (da_cons (de_call (fd__law_number T) nx__law_number (hr.mono (by first | decide | omega)) (by rfl) (dar_ex (de_var (pv 0)) (dar_ex (de_op op_addD (de_int) (de_var (pv 10))) (dar_nil)))) (da_nil))) (de_var (pv 4)))))
            (dss_cons (ds_if (dt_cmp (op_eqDD hu) (de_ix (ix_D hu) (de_var (pv 1)) (de_int)) (de_int))
            (dss_one (ds_rev (pv 6)))
            (dss_nil))
            (dss_cons (ds_if (dt_cmp (op_eqDD hu) (de_ix (ix_D hu) (de_var (pv 1)) (de_int)) (de_int))
            (dss_cons (ds_setF nd rfl (Or.inl rfl) (de_frz [6] (de_callB (call_sortedXX rfl) (by rfl) T.b_sorted (by decide +kernel) (da_cons (de_comp rfl nd (di_seq (de_var (pv 6))) (own := [("pair", 12)]) (show BlkOk ["script", "sizes", "left", "right", "most", "lefts", "pairs", "i", "rights", "number", "j", "turned", "pair"] (defScope s__law_draw) _ _ from ⟨rfl, by decide +kernel, by decide +kernel, by decide +kernel, by decide +kernel⟩) (dgb_name fun _ _ _ _ _ => pg_name nd rfl (by first | exact Or.inl rfl | exact Or.inr rfl)) (by decide) (fun _ _ _ _ _ => dts_nil) (fun _ _ _ _ _ => de_tup (da_cons (de_ix (ix_D hu) (de_var (pv 12)) (de_int)) (da_cons (de_ix (ix_D hu) (de_var (pv 12)) (de_int)) (da_nil))))) (da_nil)))))
            (dss_one (ds_setLc rfl nd rfl rfl (di_seq (de_var (pv 11))) (own := [("pair", 12)]) (show BlkOk ["script", "sizes", "left", "right", "most", "lefts", "pairs", "i", "rights", "number", "j", "turned", "pair"] (defScope s__law_draw) _ _ from ⟨rfl, by decide +kernel, by decide +kernel, by decide +kernel, by decide +kernel⟩) (dgb_name fun _ _ _ _ _ => pg_name nd rfl (by first | exact Or.inl rfl | exact Or.inr rfl)) (by decide) (fun _ _ _ _ _ => dts_nil) (fun _ _ _ _ _ => de_tup (da_cons (de_ix (ix_D hu) (de_var (pv 12)) (de_int)) (da_cons (de_ix (ix_D hu) (de_var (pv 12)) (de_int)) (da_nil)))))))
            (dss_nil))
            (dss_one (ds_ret (de_frz [5, 6] (de_tup (da_cons (de_var (pv 5)) (da_cons (de_var (pv 8)) (da_cons (de_var (pv 6)) (da_nil))))))))))))))))))
  case hA => decide
theorem sc__law_places : FnScope ["places", "count", "before", "place"] ["places", "count"] (defScope s__law_places) := ⟨rfl, rfl, rfl, by decide +kernel, rfl, by decide +kernel, by decide +kernel⟩
theorem nx__law_places : ∀ (ds : List D) (x : Exc) (ds' : List D), f__law_places ds ≠ .exc x ds' := fnSem_noexc [0, 0] 2 m__law_places
theorem fd__law_places (T : Txt w K mg) : FnD P w K mg base 2 "_law_places" [0, 0] f__law_places := by
  obtain ⟨fa, fd, F, hb, hm, hk⟩ := T.h__law_places.ex
  have nd := (sc__law_places).nd
  refine ⟨fa, fd, _, fn_ok (A := (([] ++ []) ++ ([2] ++ (([3] ++ (([] ++ []) ++ [2])) ++ [])))) (k := 1) F sc__law_places rfl 2 rfl ?hA (fun cdv Ar outer s H E hr => ?hB), hb, hm, hk⟩
  case hB =>
    have hu := hr.units
    exact dss_cons (ds_if (dt_not (dt_val (de_callB call_isInstDD (by rfl) T.b_isinstance (by decide +kernel) (da_cons (de_var (pv 0)) (da_cons (de_ty (by rfl) T.b_list (by decide +kernel)) (da_nil))))))
            (dss_one (ds_ret (de_bl)))
            (dss_nil))
            (dss_cons (ds_setF nd rfl (Or.inl rfl) (de_un un_negD (de_int)))
            (dss_cons (ds_for [3] PassesOwn.never rfl (di_seq (de_var (pv 0))) (dg_name nd rfl (Or.inl rfl))
            (dss_cons (ds_if (dt_bop (dws_or (dt_not (dt_val (de_call (fd__law_whole T) nx__law_whole (hr.mono (by first | decide | omega)) (by rfl) (dar_ex (de_var (pv 3)) (dar_nil))))) (dws_or (dt_cmp (op_leD hu) (de_var (pv 3)) (de_var (pv 2))) (dws_or1 (dt_cmp op_geD (de_var (pv 3)) (de_var (pv 1)))))))
            (dss_one (ds_ret (de_bl)))
            (dss_nil))
            (dss_one (ds_setF nd rfl (Or.inl rfl) (de_var (pv 3))))))
            (dss_one (ds_ret (de_bl)))))
  case hA => decide
theorem sc__law_is_packing : FnScope ["lefts", "rights", "pairs", "packing", "left_used", "right_used", "before", "triple", "i", "j"] ["lefts", "rights", "pairs", "packing"] (defScope s__law_is_packing) := ⟨rfl, rfl, rfl, by decide +kernel, rfl, by decide +kernel, by decide +kernel⟩
theorem nx__law_is_packing : ∀ (ds : List D) (x : Exc) (ds' : List D), f__law_is_packing ds ≠ .exc x ds' := fnSem_noexc [0, 0, 0, 0] 6 m__law_is_packing
theorem fd__law_is_packing (T : Txt w K mg) : FnD P w K mg base 2 "_law_is_packing" [0, 0, 0, 0] f__law_is_packing := by
  obtain ⟨fa, fd, F, hb, hm, hk⟩ := T.h__law_is_packing.ex
  have nd := (sc__law_is_packing).nd
  refine ⟨fa, fd, _, fn_ok (A := (([] ++ []) ++ ([4] ++ ([5] ++ ([6] ++ (([7] ++ (([] ++ []) ++ (([] ++ []) ++ ([6] ++ ([] ++ []))))) ++ (([8] ++ ([] ++ [])) ++ (([9] ++ ([] ++ [])) ++ [])))))))) (k := 1) F sc__law_is_packing rfl 6 rfl ?hA (fun cdv Ar outer s H E hr => ?hB), hb, hm, hk⟩
  case hB =>
    have hu := hr.units
    exact dss_cons (ds_if (dt_not (dt_val (de_callB call_isInstDD (by rfl) T.b_isinstance (by decide +kernel) (da_cons (de_var (pv 3)) (da_cons (de_ty (by rfl) T.b_list (by decide +kernel)) (da_nil))))))
            (dss_one (ds_ret (de_bl)))
            (dss_nil))
            (dss_cons (ds_set nd rfl (Or.inl rfl) (de_op op_mulD (de_lst (da_cons (de_int) (da_nil))) (de_callB call_lenDD (by rfl) T.b_len (by decide +kernel) (da_cons (de_var (pv 0)) (da_nil)))))
            (dss_cons (ds_set nd rfl (Or.inl rfl) (de_op op_mulD (de_lst (da_cons (de_int) (da_nil))) (de_callB call_lenDD (by rfl) T.b_len (by decide +kernel) (da_cons (de_var (pv 1)) (da_nil)))))
            (dss_cons (ds_setF nd rfl (Or.inl rfl) (de_tup (da_cons (de_un un_negD (de_int)) (da_cons (de_un un_negD (de_int)) (da_nil)))))
            (dss_cons (ds_for [7] PassesOwn.never rfl (di_seq (de_var (pv 3))) (dg_name nd rfl (Or.inl rfl))
            (dss_cons (ds_if (dt_bop (dws_or (dt_not (dt_val (de_callB call_isInstDD (by rfl) T.b_isinstance (by decide +kernel) (da_cons (de_var (pv 7)) (da_cons (de_ty (by rfl) T.b_tuple (by decide +kernel)) (da_nil)))))) (dws_or (dt_cmp (op_neDD hu) (de_callB call_lenDD (by rfl) T.b_len (by decide +kernel) (da_cons (de_var (pv 7)) (da_nil))) (de_int)) (dws_or (dt_not (dt_val (de_call (fd__law_whole T) nx__law_whole (hr.mono (by first | decide | omega)) (by rfl) (dar_ex (de_ix (ix_D hu) (de_var (pv 7)) (de_int)) (dar_nil))))) (dws_or1 (dt_cmp op_ltD (de_ix (ix_D hu) (de_var (pv 7)) (de_int)) (de_int)))))))
            (dss_one (ds_ret (de_bl)))
            (dss_nil))
            (dss_cons (ds_if (dt_bop (dws_or (dt_not (dt_val (de_call (fd__law_whole T) nx__law_whole (hr.mono (by first | decide | omega)) (by rfl) (dar_ex (de_ix (ix_D hu) (de_var (pv 7)) (de_int)) (dar_nil))))) (dws_or (dt_not (dt_val (de_call (fd__law_whole T) nx__law_whole (hr.mono (by first | decide | omega)) (by rfl) (dar_ex (de_ix (ix_D hu) (de_var (pv 7)) (de_int)) (dar_nil))))) (dws_or (dt_cmp (op_notInDD hu) (de_slice sl_D (de_var (pv 7)) (do_none) (do_some (de_int))) (de_var (pv 2))) (dws_or1 (dt_cmp (op_leD hu) (de_slice sl_D (de_var (pv 7)) (do_none) (do_some (de_int))) (de_var (pv 6))))))))
            (dss_one (ds_ret (de_bl)))
            (dss_nil))
            (dss_cons (ds_setF nd rfl (Or.inl rfl) (de_slice sl_D (de_var (pv 7)) (do_none) (do_some (de_int))))
            (dss_cons (ds_put hu (pv 4) (de_ix (ix_D hu) (de_var (pv 7)) (de_int)) (de_op op_addD (de_ixO hu (pv 4) (de_ix (ix_D hu) (de_var (pv 7)) (de_int))) (de_ix (ix_D hu) (de_var (pv 7)) (de_int))))
            (dss_one (ds_put hu (pv 5) (de_ix (ix_D hu) (de_var (pv 7)) (de_int)) (de_op op_addD (de_ixO hu (pv 5) (de_ix (ix_D hu) (de_var (pv 7)) (de_int))) (de_ix (ix_D hu) (de_var (pv 7)) (de_int))))))))))
            (dss_cons (ds_for [8] PassesOwn.never rfl (di_range1 (by rfl) T.b_range (da_cons (de_callB call_lenDD (by rfl) T.b_len (by decide +kernel) (da_cons (de_var (pv 0)) (da_nil))) (da_nil))) (dg_name nd rfl (Or.inl rfl))
            (dss_one (ds_if (dt_cmp op_gtD (de_ixO hu (pv 4) (de_var (pv 8))) (de_ix (ix_D hu) (de_var (pv 0)) (de_var (pv 8))))
            (dss_one (ds_ret (de_bl)))
            (dss_nil))))
            (dss_cons (ds_for [9] PassesOwn.never rfl (di_range1 (by rfl) T.b_range (da_cons (de_callB call_lenDD (by rfl) T.b_len (by decide +kernel) (da_cons (de_var (pv 1)) (da_nil))) (da_nil))) (dg_name nd rfl (Or.inl rfl))
            (dss_one (ds_if (dt_cmp op_gtD (de_ixO hu (pv 5) (de_var (pv 9))) (de_ix (ix_D hu) (de_var (pv 1)) (de_var (pv 9))))
            (dss_one (ds_ret (de_bl)))
            (dss_nil))))
            (dss_one (ds_ret (de_bl)))))))))
  case hA => decide
theorem sc__law_forced : FnScope ["pairs", "rights", "pair"] ["pairs", "rights"] (defScope s__law_forced) := ⟨rfl, rfl, rfl, by decide +kernel, rfl, by decide +kernel, by decide +kernel⟩
theorem nx__law_forced : ∀ (ds : List D) (x : Exc) (ds' : List D), f__law_forced ds ≠ .exc x ds' := fnSem_noexc [0, 0] 1 m__law_forced
theorem fd__law_forced (T : Txt w K mg) : FnD P w K mg base 1 "_law_forced" [0, 0] f__law_forced := by
  obtain ⟨fa, fd, F, hb, hm, hk⟩ := T.h__law_forced.ex
  have nd := (sc__law_forced).nd
  refine ⟨fa, fd, _, fn_ok (A := []) (k := 0) F sc__law_forced rfl 1 rfl ?hA (fun cdv Ar outer s H E hr => ?hB), hb, hm, hk⟩
  case hB =>
    have hu := hr.units
    exact dss_one (ds_ret (de_sortSet rfl (by rfl) T.b_sorted (by rfl) T.b_set (de_comp rfl nd (di_seq (de_var (pv 0))) (own := [("pair", 2)]) (show BlkOk ["pairs", "rights", "pair"] (defScope s__law_forced) _ _ from ⟨rfl, by decide +kernel, by decide +kernel, by decide +kernel, by decide +kernel⟩) (dgb_name fun _ _ _ _ _ => pg_name nd rfl (by first | exact Or.inl rfl | exact Or.inr rfl)) (by decide) (fun _ _ _ _ _ => dts_one (dt_cmp (op_notInDD hu) (de_ix (ix_D hu) (de_var (pv 2)) (de_int)) (de_var (pv 1)))) (fun _ _ _ _ _ => de_ix (ix_D hu) (de_var (pv 2)) (de_int)))))
  case hA => decide
theorem sc__law_weight : FnScope ["lefts", "rights", "cover", "i", "j"] ["lefts", "rights", "cover"] (defScope s__law_weight) := ⟨rfl, rfl, rfl, by decide +kernel, rfl, by decide +kernel, by decide +kernel⟩
theorem nx__law_weight : ∀ (ds : List D) (x : Exc) (ds' : List D), f__law_weight ds ≠ .exc x ds' := fnSem_noexc [0, 0, 0] 2 m__law_weight
theorem fd__law_weight (T : Txt w K mg) : FnD P w K mg base 1 "_law_weight" [0, 0, 0] f__law_weight := by
  obtain ⟨fa, fd, F, hb, hm, hk⟩ := T.h__law_weight.ex
  have nd := (sc__law_weight).nd
  refine ⟨fa, fd, _, fn_ok (A := []) (k := 0) F sc__law_weight rfl 2 rfl ?hA (fun cdv Ar outer s H E hr => ?hB), hb, hm, hk⟩
  case hB =>
    have hu := hr.units
    exact dss_one (ds_ret (de_op op_addD (de_callB (call_sumDD rfl) (by rfl) T.b_sum (by decide +kernel) (da_cons (de_comp rfl nd (di_seq (de_ix (ix_D hu) (de_var (pv 2)) (de_int))) (own := [("i", 3)]) (show BlkOk ["lefts", "rights", "cover", "i", "j"] (defScope s__law_weight) _ _ from ⟨rfl, by decide +kernel, by decide +kernel, by decide +kernel, by decide +kernel⟩) (dgb_name fun _ _ _ _ _ => pg_name nd rfl (by first | exact Or.inl rfl | exact Or.inr rfl)) (by decide) (fun _ _ _ _ _ => dts_nil) (fun _ _ _ _ _ => de_ix (ix_D hu) (de_var (pv 0)) (de_var (pv 3)))) (da_nil))) (de_callB (call_sumDD rfl) (by rfl) T.b_sum (by decide +kernel) (da_cons (de_comp rfl nd (di_seq (de_ix (ix_D hu) (de_var (pv 2)) (de_int))) (own := [("j", 4)]) (show BlkOk ["lefts", "rights", "cover", "i", "j"] (defScope s__law_weight) _ _ from ⟨rfl, by decide +kernel, by decide +kernel, by decide +kernel, by decide +kernel⟩) (dgb_name fun _ _ _ _ _ => pg_name nd rfl (by first | exact Or.inl rfl | exact Or.inr rfl)) (by decide) (fun _ _ _ _ _ => dts_nil) (fun _ _ _ _ _ => de_ix (ix_D hu) (de_var (pv 1)) (de_var (pv 4)))) (da_nil)))))
  case hA => decide
theorem sc__law_least_by_trying : FnScope ["lefts", "rights", "pairs", "cover", "parts", "j", "weight", "part", "other"] ["lefts", "rights", "pairs", "cover"] (defScope s__law_least_by_trying) := ⟨rfl, rfl, rfl, by decide +kernel, rfl, by decide +kernel, by decide +kernel⟩
theorem nx__law_least_by_trying : ∀ (ds : List D) (x : Exc) (ds' : List D), f__law_least_by_trying ds ≠ .exc x ds' := fnSem_noexc [0, 0, 0, 0] 5 m__law_least_by_trying
theorem fd__law_least_by_trying (T : Txt w K mg) : FnD P w K mg base 2 "_law_least_by_trying" [0, 0, 0, 0] f__law_least_by_trying := by
  obtain ⟨fa, fd, F, hb, hm, hk⟩ := T.h__law_least_by_trying.ex
  have nd := (sc__law_least_by_trying).nd
  refine ⟨fa, fd, _, fn_ok (A := ([4] ++ (([5] ++ [4]) ++ ([6] ++ (([7] ++ ([8] ++ (([] ++ []) ++ ([] ++ [])))) ++ []))))) (k := 1) F sc__law_least_by_trying rfl 5 rfl ?hA (fun cdv Ar outer s H E hr => ?hB), hb, hm, hk⟩
  case hB =>
    have hu := hr.units
    exact dss_cons (ds_setF nd rfl (Or.inl rfl) (de_lst (da_cons (de_lst (da_nil)) (da_nil))))
            (dss_cons (ds_for [5] PassesOwn.never rfl (di_range1 (by rfl) T.b_range (da_cons (de_callB call_lenDD (by rfl) T.b_len (by decide +kernel) (da_cons (de_var (pv 1)) (da_nil))) (da_nil))) (dg_name nd rfl (Or.inr rfl))
            (dss_one (ds_setF nd rfl (Or.inl rfl) (de_op op_addD (de_var (pv 4)) (de_comp rfl nd (di_seq (de_var (pv 4))) (own := [("part", 7)]) (show BlkOk ["lefts", "rights", "pairs", "cover", "parts", "j", "weight", "part", "other"] (defScope s__law_least_by_trying) _ _ from ⟨rfl, by decide +kernel, by decide +kernel, by decide +kernel, by decide +kernel⟩) (dgb_name fun _ _ _ _ _ => pg_name nd rfl (by first | exact Or.inl rfl | exact Or.inr rfl)) (by decide) (fun _ _ _ _ _ => dts_nil) (fun _ _ _ _ _ => de_op op_addD (de_var (pv 7)) (de_lst (da_cons (de_var (pv 5)) (da_nil)))))))))
            (dss_cons (ds_setF nd rfl (Or.inl rfl) (de_call (fd__law_weight T) nx__law_weight (hr.mono (by first | decide | omega)) (by rfl) (dar_ex (de_var (pv 0)) (dar_ex (de_var (pv 1)) (dar_ex (de_var (pv 3)) (dar_nil))))))
            (dss_cons (ds_for [7, 8] PassesOwn.never rfl (di_seq (de_var (pv 4))) (dg_name nd rfl (Or.inr rfl))
            (dss_cons (ds_setF nd rfl (Or.inl rfl) (de_tup (da_cons (de_call (fd__law_forced T) nx__law_forced (hr.mono (by first | decide | omega)) (by rfl) (dar_ex (de_var (pv 2)) (dar_ex (de_var (pv 7)) (dar_nil)))) (da_cons (de_var (pv 7)) (da_nil)))))
            (dss_cons (ds_if (dt_cmp op_ltD (de_call (fd__law_weight T) nx__law_weight (hr.mono (by first | decide | omega)) (by rfl) (dar_ex (de_var (pv 0)) (dar_ex (de_var (pv 1)) (dar_ex (de_var (pv 8)) (dar_nil))))) (de_var (pv 6)))
            (dss_one (ds_ret (de_bl)))
            (dss_nil))
            (dss_one (ds_if (dt_bop (dws_and (dt_cmp (op_eqDD hu) (de_call (fd__law_weight T) nx__law_weight (hr.mono (by first | decide | omega)) (by rfl) (dar_ex (de_var (pv 0)) (dar_ex (de_var (pv 1)) (dar_ex (de_var (pv 8)) (dar_nil))))) (de_var (pv 6))) (dws_and1 (dt_val (de_comp rfl nd (di_seq (de_ix (ix_D hu) (de_var (pv 3)) (de_int))) (own := [("j", 5)]) (show BlkOk ["lefts", "rights", "pairs", "cover", "parts", "j", "weight", "part", "other"] (defScope s__law_least_by_trying) _ _ from ⟨rfl, by decide +kernel, by decide +kernel, by decide +kernel, by decide +kernel⟩) (dgb_name fun _ _ _ _ _ => pg_name nd rfl (by first | exact Or.inl rfl | exact Or.inr rfl)) (by decide) (fun _ _ _ _ _ => dts_one (dt_cmp (op_notInDD hu) (de_var (pv 5)) (de_var (pv 7)))) (fun _ _ _ _ _ => de_var (pv 5)))))))
            (dss_one (ds_ret (de_bl)))
            (dss_nil))))))
            (dss_one (ds_ret (de_bl))))))
  case hA => decide
theorem sc__law_walked : FnScope ["lefts", "rights", "pairs", "packing", "used", "i", "j", "amount", "near", "far", "turn"] ["lefts", "rights", "pairs", "packing"] (defScope s__law_walked) := ⟨rfl, rfl, rfl, by decide +kernel, rfl, by decide +kernel, by decide +kernel⟩
theorem nx__law_walked : ∀ (ds : List D) (x : Exc) (ds' : List D), f__law_walked ds ≠ .exc x ds' := fnSem_noexc [0, 0, 0, 0] 7 m__law_walked
theorem fd__law_walked (T : Txt w K mg) : FnD P w K mg base 1 "_law_walked" [0, 0, 0, 0] f__law_walked := by
  obtain ⟨fa, fd, F, hb, hm, hk⟩ := T.h__law_walked.ex
  have nd := (sc__law_walked).nd
  refine ⟨fa, fd, _, fn_ok (A := ([4] ++ (([5, 6, 7] ++ []) ++ ([8] ++ ([9] ++ (([10] ++ (([5, 6] ++ ([] ++ [])) ++ ([5, 6, 7] ++ ([] ++ [])))) ++ [])))))) (k := 0) F sc__law_walked rfl 7 rfl ?hA (fun cdv Ar outer s H E hr => ?hB), hb, hm, hk⟩
  case hB =>
    have hu := hr.units
    exact dss_cons (ds_set nd rfl (Or.inr rfl) (de_op op_mulD (de_lst (da_cons (de_int) (da_nil))) (de_callB call_lenDD (by rfl) T.b_len (by decide +kernel) (da_cons (de_var (pv 0)) (da_nil)))))
            (dss_cons (ds_for [5, 6, 7] PassesOwn.never rfl (di_seq (de_var (pv 3))) (dg_tup rfl (dgs_cons nd rfl (Or.inl rfl) (dgs_cons nd rfl (Or.inl rfl) (dgs_cons nd rfl (Or.inl rfl) dgs_nil))))
            (dss_one (ds_put hu (pv 4) (de_var (pv 5)) (de_op op_addD (de_ixO hu (pv 4) (de_var (pv 5))) (de_var (pv 7))))))
            (dss_cons (ds_set nd rfl (Or.inr rfl) (de_comp rfl nd (di_range1 (by rfl) T.b_range (da_cons (de_callB call_lenDD (by rfl) T.b_len (by decide +kernel) (da_cons (de_var (pv 0)) (da_nil))) (da_nil))) (own := [("i", 5)]) (show BlkOk ["lefts", "rights", "pairs", "packing", "used", "i", "j", "amount", "near", "far", "turn"] (defScope s__law_walked) _ _ from ⟨rfl, by decide +kernel, by decide +kernel, by decide +kernel, by decide +kernel⟩) (dgb_name fun _ _ _ _ _ => pg_name nd rfl (by first | exact Or.inl rfl | exact Or.inr rfl)) (by decide) (fun _ _ _ _ _ => dts_one (dt_cmp op_ltD (de_ixO hu (pv 4) (de_var (pv 5))) (de_ix (ix_D hu) (de_var (pv 0)) (de_var (pv 5))))) (fun _ _ _ _ _ => de_var (pv 5))))
            (dss_cons (ds_set nd rfl (Or.inl rfl) (de_lst (da_nil)))
            (dss_cons (ds_for [5, 6, 7, 10] PassesOwn.never rfl (di_range1 (by rfl) T.b_range (da_cons (de_op op_addD (de_op op_addD (de_callB call_lenDD (by rfl) T.b_len (by decide +kernel) (da_cons (de_var (pv 0)) (da_nil))) (de_callB call_lenDD (by rfl) T.b_len (by decide +kernel) (da_cons (de_var (pv 1)) (da_nil)))) (de_int)) (da_nil))) (dg_name nd rfl (Or.inl rfl))
            (dss_cons (ds_for [5, 6] PassesOwn.never rfl (di_seq (de_var (pv 2))) (dg_tup rfl (dgs_cons nd rfl (Or.inl rfl) (dgs_cons nd rfl (Or.inl rfl) dgs_nil)))
            (dss_one (ds_if (dt_tmp [8, 9] [] (dt_bop (dws_and (dt_cmp (op_inDD hu) (de_var (pv 5)) (de_var (pv 8))) (dws_and1 (dt_cmp (op_notInDD hu) (de_var (pv 6)) (de_var (pv 9)))))))
            (dss_one (ds_app (pv 9) (de_var (pv 6))))
            (dss_nil))))
            (dss_one (ds_for [5, 6, 7] PassesOwn.never rfl (di_seq (de_var (pv 3))) (dg_tup rfl (dgs_cons nd rfl (Or.inl rfl) (dgs_cons nd rfl (Or.inl rfl) (dgs_cons nd rfl (Or.inl rfl) dgs_nil))))
            (dss_one (ds_if (dt_tmp [8, 9] [] (dt_bop (dws_and (dt_cmp (op_inDD hu) (de_var (pv 6)) (de_var (pv 9))) (dws_and1 (dt_cmp (op_notInDD hu) (de_var (pv 5)) (de_var (pv 8)))))))
            (dss_one (ds_app (pv 8) (de_var (pv 5))))
            (dss_nil)))))))
            (dss_one (ds_ret (de_frz [8, 9] (de_tup (da_cons (de_comp rfl nd (di_range1 (by rfl) T.b_range (da_cons (de_callB call_lenDD (by rfl) T.b_len (by decide +kernel) (da_cons (de_var (pv 0)) (da_nil))) (da_nil))) (own := [("i", 5)]) (show BlkOk ["lefts", "rights", "pairs", "packing", "used", "i", "j", "amount", "near", "far", "turn"] (defScope s__law_walked) _ _ from ⟨rfl, by decide +kernel, by decide +kernel, by decide +kernel, by decide +kernel⟩) (dgb_name fun _ _ _ _ _ => pg_name nd rfl (by first | exact Or.inl rfl | exact Or.inr rfl)) (by decide) (fun _ _ _ _ _ => dts_one (dt_cmp (op_notInDD hu) (de_var (pv 5)) (de_var (pv 8)))) (fun _ _ _ _ _ => de_var (pv 5))) (da_cons (de_callB (call_sortedXX rfl) (by rfl) T.b_sorted (by decide +kernel) (da_cons (de_var (pv 9)) (da_nil))) (da_nil)))))))))))
  case hA => decide
theorem sc_law : FnScope ["script", "lefts", "rights", "pairs", "passed", "told", "cover", "i", "j", "weight", "part", "triple"] ["script"] (defScope s_law) := ⟨rfl, rfl, rfl, by decide +kernel, rfl, by decide +kernel, by decide +kernel⟩
theorem nx_law : ∀ (ds : List D) (x : Exc) (ds' : List D), f_law ds ≠ .exc x ds' := fnSem_noexc [0] 11 m_law
theorem ok_law (T : Txt w K mg) {fa : Addr} {fd : FuncData} (F : Fun K "law" "law" s_law fa fd) : FnOk P w K mg base CX0 8 fa fd ["script"] (spD K mg [0] f_law) := by
  have nd := (sc_law).nd
  refine fn_ok (A := ([1, 2, 3] ++ ([4] ++ ([5] ++ (([] ++ []) ++ (([] ++ []) ++ ([6] ++ (([7, 8] ++ ([] ++ [])) ++ (([] ++ []) ++ ([9] ++ (([] ++ []) ++ (([] ++ []) ++ (([] ++ []) ++ (([] ++ []) ++ (([] ++ []) ++ (([] ++ []) ++ ([10] ++ (([] ++ []) ++ [])))))))))))))))))) (k := 7) F sc_law rfl 11 rfl ?hA (fun cdv Ar outer s H E hr => ?hB)
  case hB =>
    have hu := hr.units
    exact dss_cons (ds_asgG (dg_tup rfl (dgs_cons nd rfl (Or.inl rfl) (dgs_cons nd rfl (Or.inl rfl) (dgs_cons nd rfl (Or.inl rfl) dgs_nil)))) (de_call (fd__law_draw T) nx__law_draw (hr.mono (by first | decide | omega)) (by rfl) (dar_ex (de_var (pv 0)) (dar_nil))))
            (dss_cons (ds_setF nd rfl (Or.inl rfl) (de_lst (da_cons (de_callTy call_listDD (by rfl) T.b_list (by decide +kernel) (da_cons (de_var (pv 1)) (da_nil))) (da_cons (de_callTy call_listDD (by rfl) T.b_list (by decide +kernel) (da_cons (de_var (pv 2)) (da_nil))) (da_cons (de_callTy call_listDD (by rfl) T.b_list (by decide +kernel) (da_cons (de_var (pv 3)) (da_nil))) (da_nil))))))
            (dss_cons (ds_set nd rfl (Or.inl rfl) (de_call (fd_best_cover T) nx_best_cover (hr.mono (by first | decide | omega)) (by rfl) (dar_ex (de_ix (ix_D hu) (de_var (pv 4)) (de_int)) (dar_ex (de_ix (ix_D hu) (de_var (pv 4)) (de_int)) (dar_ex (de_ix (ix_D hu) (de_var (pv 4)) (de_int)) (dar_nil))))))
            (dss_cons (ds_if (dt_tmp [5] [] (dt_bop (dws_or (dt_not (dt_val (de_callB call_isInstDD (by rfl) T.b_isinstance (by decide +kernel) (da_cons (de_var (pv 5)) (da_cons (de_ty (by rfl) T.b_tuple (by decide +kernel)) (da_nil)))))) (dws_or1 (dt_cmp (op_neDD hu) (de_callB call_lenDD (by rfl) T.b_len (by decide +kernel) (da_cons (de_var (pv 5)) (da_nil))) (de_int))))))
            (dss_one (ds_ret (de_bl)))
            (dss_nil))
            (dss_cons (ds_if (dt_tmp [5] [] (dt_bop (dws_or (dt_not (dt_val (de_call (fd__law_places T) nx__law_places (hr.mono (by first | decide | omega)) (by rfl) (dar_ex (de_ix (ix_D hu) (de_var (pv 5)) (de_int)) (dar_ex (de_callB call_lenDD (by rfl) T.b_len (by decide +kernel) (da_cons (de_var (pv 1)) (da_nil))) (dar_nil)))))) (dws_or1 (dt_not (dt_val (de_call (fd__law_places T) nx__law_places (hr.mono (by first | decide | omega)) (by rfl) (dar_ex (de_ix (ix_D hu) (de_var (pv 5)) (de_int)) (dar_ex (de_callB call_lenDD (by rfl) T.b_len (by decide +kernel) (da_cons (de_var (pv 2)) (da_nil))) (dar_nil))))))))))
            (dss_one (ds_ret (de_bl)))
            (dss_nil))
            (dss_cons (ds_setF nd rfl (Or.inl rfl) (de_tup (da_cons (de_tmp [5] [] (de_callTy call_listDD (by rfl) T.b_list (by decide +kernel) (da_cons (de_ix (ix_D hu) (de_var (pv 5)) (de_int)) (da_nil)))) (da_cons (de_tmp [5] [] (de_callTy call_listDD (by rfl) T.b_list (by decide +kernel) (da_cons (de_ix (ix_D hu) (de_var (pv 5)) (de_int)) (da_nil)))) (da_nil)))))
            (dss_cons (ds_for [7, 8] PassesOwn.never rfl (di_seq (de_var (pv 3))) (dg_tup rfl (dgs_cons nd rfl (Or.inl rfl) (dgs_cons nd rfl (Or.inl rfl) dgs_nil)))
            (dss_one (ds_if (dt_bop (dws_and (dt_cmp (op_notInDD hu) (de_var (pv 7)) (de_ix (ix_D hu) (de_var (pv 6)) (de_int))) (dws_and1 (dt_cmp (op_notInDD hu) (de_var (pv 8)) (de_ix (ix_D hu) (de_var (pv 6)) (de_int))))))
            (dss_one (ds_ret (de_bl)))
            (dss_nil))))
            (dss_cons (ds_if (dt_tmp [5] [] (dt_not (dt_val (de_call (fd__law_is_packing T) nx__law_is_packing (hr.mono (by first | decide | omega)) (by rfl) (dar_ex (de_var (pv 1)) (dar_ex (de_var (pv 2)) (dar_ex (de_var (pv 3)) (dar_ex (de_ix (ix_D hu) (de_var (pv 5)) (de_int)) (dar_nil)))))))))
            (dss_one (ds_ret (de_bl)))
            (dss_nil))
            (dss_cons (ds_setF nd rfl (Or.inl rfl) (de_call (fd__law_weight T) nx__law_weight (hr.mono (by first | decide | omega)) (by rfl) (dar_ex (de_var (pv 1)) (dar_ex (de_var (pv 2)) (dar_ex (de_var (pv 6)) (dar_nil))))))
            (dss_cons (ds_if (dt_tmp [5] [] (dt_cmp (op_neDD hu) (de_callB (call_sumDD rfl) (by rfl) T.b_sum (by decide +kernel) (da_cons (de_comp rfl nd (di_seq (de_ix (ix_D hu) (de_var (pv 5)) (de_int))) (own := [("triple", 11)]) (show BlkOk ["script", "lefts", "rights", "pairs", "passed", "told", "cover", "i", "j", "weight", "part", "triple"] (defScope s_law) _ _ from ⟨rfl, by decide +kernel, by decide +kernel, by decide +kernel, by decide +kernel⟩) (dgb_name fun _ _ _ _ _ => pg_name nd rfl (by first | exact Or.inl rfl | exact Or.inr rfl)) (by decide) (fun _ _ _ _ _ => dts_nil) (fun _ _ _ _ _ => de_ix (ix_D hu) (de_var (pv 11)) (de_int))) (da_nil))) (de_var (pv 9))))
            (dss_one (ds_ret (de_bl)))
            (dss_nil))
            (dss_cons (ds_if (dt_not (dt_val (de_call (fd__law_same T 6) (nx__law_same 6) (hr.mono (by first | decide | omega)) (by rfl) (dar_ex (de_call (fd_cover_weight T) nx_cover_weight (hr.mono (by first | decide | omega)) (by rfl) (dar_ex (de_ix (ix_D hu) (de_var (pv 4)) (de_int)) (dar_ex (de_ix (ix_D hu) (de_var (pv 4)) (de_int)) (dar_ex (de_var (pv 6)) (dar_nil))))) (dar_ex (de_var (pv 9)) (dar_nil))))))
            (dss_one (ds_ret (de_bl)))
            (dss_nil))
            (dss_cons (ds_if (dt_bop (dws_and (dt_cmp (op_leD hu) (de_callB call_lenDD (by rfl) T.b_len (by decide +kernel) (da_cons (de_var (pv 2)) (da_nil))) (de_int)) (dws_and1 (dt_not (dt_val (de_call (fd__law_least_by_trying T) nx__law_least_by_trying (hr.mono (by first | decide | omega)) (by rfl) (dar_ex (de_var (pv 1)) (dar_ex (de_var (pv 2)) (dar_ex (de_var (pv 3)) (dar_ex (de_var (pv 6)) (dar_nil)))))))))))
            (dss_one (ds_ret (de_bl)))
            (dss_nil))
            (dss_cons (ds_if (dt_tmp [5] [] (dt_not (dt_val (de_call (fd__law_same T 6) (nx__law_same 6) (hr.mono (by first | decide | omega)) (by rfl) (dar_ex (de_var (pv 6)) (dar_ex (de_call (fd__law_walked T) nx__law_walked (hr.mono (by first | decide | omega)) (by rfl) (dar_ex (de_var (pv 1)) (dar_ex (de_var (pv 2)) (dar_ex (de_var (pv 3)) (dar_ex (de_ix (ix_D hu) (de_var (pv 5)) (de_int)) (dar_nil)))))) (dar_nil)))))))
            (dss_one (ds_ret (de_bl)))
            (dss_nil))
            (dss_cons (ds_if (dt_cmp op_isntD (de_call (fd_is_pair_cover T) nx_is_pair_cover (hr.mono (by first | decide | omega)) (by rfl) (dar_ex (de_ix (ix_D hu) (de_var (pv 4)) (de_int)) (dar_ex (de_ix (ix_D hu) (de_var (pv 4)) (de_int)) (dar_ex (de_ix (ix_D hu) (de_var (pv 4)) (de_int)) (dar_ex (de_var (pv 6)) (dar_nil)))))) (de_bl))
            (dss_one (ds_ret (de_bl)))
            (dss_nil))
            (dss_cons (ds_if (dt_tmp [5] [] (dt_cmp op_isntD (de_call (fd_is_pair_packing T) nx_is_pair_packing (hr.mono (by first | decide | omega)) (by rfl) (dar_ex (de_ix (ix_D hu) (de_var (pv 4)) (de_int)) (dar_ex (de_ix (ix_D hu) (de_var (pv 4)) (de_int)) (dar_ex (de_ix (ix_D hu) (de_var (pv 4)) (de_int)) (dar_ex (de_ix (ix_D hu) (de_var (pv 5)) (de_int)) (dar_nil)))))) (de_bl)))
            (dss_one (ds_ret (de_bl)))
            (dss_nil))
            (dss_cons (ds_spoil PassesOwn.never rfl (pv 5) nd rfl (Or.inl rfl) (pv 10) pe_int (by decide))
            (dss_cons (ds_if (dt_bop (dws_and (dt_cmp (op_leD hu) (de_callB call_lenDD (by rfl) T.b_len (by decide +kernel) (da_cons (de_var (pv 1)) (da_nil))) (de_int)) (dws_and1 (dt_not (dt_val (de_call (fd__law_same T 6) (nx__law_same 6) (hr.mono (by first | decide | omega)) (by rfl) (dar_ex (de_slice sl_D (de_call (fd_best_cover T) nx_best_cover (hr.mono (by first | decide | omega)) (by rfl) (dar_ex (de_ix (ix_D hu) (de_var (pv 4)) (de_int)) (dar_ex (de_ix (ix_D hu) (de_var (pv 4)) (de_int)) (dar_ex (de_ix (ix_D hu) (de_var (pv 4)) (de_int)) (dar_nil))))) (do_none) (do_some (de_int))) (dar_ex (de_var (pv 6)) (dar_nil)))))))))
            (dss_one (ds_ret (de_bl)))
            (dss_nil))
            (dss_one (ds_ret (de_call (fd__law_same T 6) (nx__law_same 6) (hr.mono (by first | decide | omega)) (by rfl) (dar_ex (de_var (pv 4)) (dar_ex (de_lst (da_cons (de_var (pv 1)) (da_cons (de_var (pv 2)) (da_cons (de_var (pv 3)) (da_nil))))) (dar_nil))))))))))))))))))))))
  case hA => decide
theorem has_is_whole {h : Heap} {fa : Addr} {oc kV dc pm cd ct : Value} {od an : Option Addr} {sl : Array (Option Value)} (X : K.In h) (G : h.Ns mainGlobals mg)
    (a : PySem.W.nsIn K mainGlobals "is_whole" = some (some (.ref fa))) (l : K.lookup fa = some ⟨oc, od, .func (PySem.W.fnOf "is_whole" "is_whole" (defArgs s_is_whole) (defBody s_is_whole) (defScope s_is_whole) .none kV dc pm an cd ct), sl⟩) (c : PySem.W.codeIn K cd "is_whole" = true) (k : PySem.W.keepIn K (.ref fa) = true) : FHas K mg "is_whole" s_is_whole ["x", "least", "greatest"] := by
  have F := fun_mk (st := s_is_whole) l c k
  exact ⟨_, _, F, F.binds (ps := ["x", "least", "greatest"]) fun _ _ _ _ _ _ us hl => match us, hl with | [_, _, _], _ => rfl, PySem.W.mg_of X G a, k⟩
theorem has_is_row {h : Heap} {fa : Addr} {oc kV dc pm cd ct : Value} {od an : Option Addr} {sl : Array (Option Value)} (X : K.In h) (G : h.Ns mainGlobals mg)
    (a : PySem.W.nsIn K mainGlobals "is_row" = some (some (.ref fa))) (l : K.lookup fa = some ⟨oc, od, .func (PySem.W.fnOf "is_row" "is_row" (defArgs s_is_row) (defBody s_is_row) (defScope s_is_row) .none kV dc pm an cd ct), sl⟩) (c : PySem.W.codeIn K cd "is_row" = true) (k : PySem.W.keepIn K (.ref fa) = true) : FHas K mg "is_row" s_is_row ["x", "size"] := by
  have F := fun_mk (st := s_is_row) l c k
  exact ⟨_, _, F, F.binds (ps := ["x", "size"]) fun _ _ _ _ _ _ us hl => match us, hl with | [_, _], _ => rfl, PySem.W.mg_of X G a, k⟩
theorem has_are_places {h : Heap} {fa : Addr} {oc kV dc pm cd ct : Value} {od an : Option Addr} {sl : Array (Option Value)} (X : K.In h) (G : h.Ns mainGlobals mg)
    (a : PySem.W.nsIn K mainGlobals "are_places" = some (some (.ref fa))) (l : K.lookup fa = some ⟨oc, od, .func (PySem.W.fnOf "are_places" "are_places" (defArgs s_are_places) (defBody s_are_places) (defScope s_are_places) .none kV dc pm an cd ct), sl⟩) (c : PySem.W.codeIn K cd "are_places" = true) (k : PySem.W.keepIn K (.ref fa) = true) : FHas K mg "are_places" s_are_places ["count", "places"] := by
  have F := fun_mk (st := s_are_places) l c k
  exact ⟨_, _, F, F.binds (ps := ["count", "places"]) fun _ _ _ _ _ _ us hl => match us, hl with | [_, _], _ => rfl, PySem.W.mg_of X G a, k⟩
theorem has_is_pair_cover {h : Heap} {fa : Addr} {oc kV dc pm cd ct : Value} {od an : Option Addr} {sl : Array (Option Value)} (X : K.In h) (G : h.Ns mainGlobals mg)
    (a : PySem.W.nsIn K mainGlobals "is_pair_cover" = some (some (.ref fa))) (l : K.lookup fa = some ⟨oc, od, .func (PySem.W.fnOf "is_pair_cover" "is_pair_cover" (defArgs s_is_pair_cover) (defBody s_is_pair_cover) (defScope s_is_pair_cover) .none kV dc pm an cd ct), sl⟩) (c : PySem.W.codeIn K cd "is_pair_cover" = true) (k : PySem.W.keepIn K (.ref fa) = true) : FHas K mg "is_pair_cover" s_is_pair_cover ["lefts", "rights", "pairs", "cover"] := by
  have F := fun_mk (st := s_is_pair_cover) l c k
  exact ⟨_, _, F, F.binds (ps := ["lefts", "rights", "pairs", "cover"]) fun _ _ _ _ _ _ us hl => match us, hl with | [_, _, _, _], _ => rfl, PySem.W.mg_of X G a, k⟩
theorem has_cover_weight {h : Heap} {fa : Addr} {oc kV dc pm cd ct : Value} {od an : Option Addr} {sl : Array (Option Value)} (X : K.In h) (G : h.Ns mainGlobals mg)
    (a : PySem.W.nsIn K mainGlobals "cover_weight" = some (some (.ref fa))) (l : K.lookup fa = some ⟨oc, od, .func (PySem.W.fnOf "cover_weight" "cover_weight" (defArgs s_cover_weight) (defBody s_cover_weight) (defScope s_cover_weight) .none kV dc pm an cd ct), sl⟩) (c : PySem.W.codeIn K cd "cover_weight" = true) (k : PySem.W.keepIn K (.ref fa) = true) : FHas K mg "cover_weight" s_cover_weight ["lefts", "rights", "cover"] := by
  have F := fun_mk (st := s_cover_weight) l c k
  exact ⟨_, _, F, F.binds (ps := ["lefts", "rights", "cover"]) fun _ _ _ _ _ _ us hl => match us, hl with | [_, _, _], _ => rfl, PySem.W.mg_of X G a, k⟩
theorem has_is_triple {h : Heap} {fa : Addr} {oc kV dc pm cd ct : Value} {od an : Option Addr} {sl : Array (Option Value)} (X : K.In h) (G : h.Ns mainGlobals mg)
    (a : PySem.W.nsIn K mainGlobals "is_triple" = some (some (.ref fa))) (l : K.lookup fa = some ⟨oc, od, .func (PySem.W.fnOf "is_triple" "is_triple" (defArgs s_is_triple) (defBody s_is_triple) (defScope s_is_triple) .none kV dc pm an cd ct), sl⟩) (c : PySem.W.codeIn K cd "is_triple" = true) (k : PySem.W.keepIn K (.ref fa) = true) : FHas K mg "is_triple" s_is_triple ["lefts", "rights", "pairs", "triple"] := by
  have F := fun_mk (st := s_is_triple) l c k
  exact ⟨_, _, F, F.binds (ps := ["lefts", "rights", "pairs", "triple"]) fun _ _ _ _ _ _ us hl => match us, hl with | [_, _, _, _], _ => rfl, PySem.W.mg_of X G a, k⟩
theorem has_is_pair_packing {h : Heap} {fa : Addr} {oc kV dc pm cd ct : Value} {od an : Option Addr} {sl : Array (Option Value)} (X : K.In h) (G : h.Ns mainGlobals mg)
    (a : PySem.W.nsIn K mainGlobals "is_pair_packing" = some (some (.ref fa))) (l : K.lookup fa = some ⟨oc, od, .func (PySem.W.fnOf "is_pair_packing" "is_pair_packing" (defArgs s_is_pair_packing) (defBody s_is_pair_packing) (defScope s_is_pair_packing) .none kV dc pm an cd ct), sl⟩) (c : PySem.W.codeIn K cd "is_pair_packing" = true) (k : PySem.W.keepIn K (.ref fa) = true) : FHas K mg "is_pair_packing" s_is_pair_packing ["lefts", "rights", "pairs", "packing"] := by
  have F := fun_mk (st := s_is_pair_packing) l c k
  exact ⟨_, _, F, F.binds (ps := ["lefts", "rights", "pairs", "packing"]) fun _ _ _ _ _ _ us hl => match us, hl with | [_, _, _, _], _ => rfl, PySem.W.mg_of X G a, k⟩
theorem has_reach {h : Heap} {fa : Addr} {oc kV dc pm cd ct : Value} {od an : Option Addr} {sl : Array (Option Value)} (X : K.In h) (G : h.Ns mainGlobals mg)
    (a : PySem.W.nsIn K mainGlobals "reach" = some (some (.ref fa))) (l : K.lookup fa = some ⟨oc, od, .func (PySem.W.fnOf "reach" "reach" (defArgs s_reach) (defBody s_reach) (defScope s_reach) .none kV dc pm an cd ct), sl⟩) (c : PySem.W.codeIn K cd "reach" = true) (k : PySem.W.keepIn K (.ref fa) = true) : FHas K mg "reach" s_reach ["left_rest", "pairs", "flow"] := by
  have F := fun_mk (st := s_reach) l c k
  exact ⟨_, _, F, F.binds (ps := ["left_rest", "pairs", "flow"]) fun _ _ _ _ _ _ us hl => match us, hl with | [_, _, _], _ => rfl, PySem.W.mg_of X G a, k⟩
theorem has_first_open {h : Heap} {fa : Addr} {oc kV dc pm cd ct : Value} {od an : Option Addr} {sl : Array (Option Value)} (X : K.In h) (G : h.Ns mainGlobals mg)
    (a : PySem.W.nsIn K mainGlobals "first_open" = some (some (.ref fa))) (l : K.lookup fa = some ⟨oc, od, .func (PySem.W.fnOf "first_open" "first_open" (defArgs s_first_open) (defBody s_first_open) (defScope s_first_open) .none kV dc pm an cd ct), sl⟩) (c : PySem.W.codeIn K cd "first_open" = true) (k : PySem.W.keepIn K (.ref fa) = true) : FHas K mg "first_open" s_first_open ["from_left", "right_rest"] := by
  have F := fun_mk (st := s_first_open) l c k
  exact ⟨_, _, F, F.binds (ps := ["from_left", "right_rest"]) fun _ _ _ _ _ _ us hl => match us, hl with | [_, _], _ => rfl, PySem.W.mg_of X G a, k⟩
theorem has_path_to {h : Heap} {fa : Addr} {oc kV dc pm cd ct : Value} {od an : Option Addr} {sl : Array (Option Value)} (X : K.In h) (G : h.Ns mainGlobals mg)
    (a : PySem.W.nsIn K mainGlobals "path_to" = some (some (.ref fa))) (l : K.lookup fa = some ⟨oc, od, .func (PySem.W.fnOf "path_to" "path_to" (defArgs s_path_to) (defBody s_path_to) (defScope s_path_to) .none kV dc pm an cd ct), sl⟩) (c : PySem.W.codeIn K cd "path_to" = true) (k : PySem.W.keepIn K (.ref fa) = true) : FHas K mg "path_to" s_path_to ["from_right", "from_left", "j"] := by
  have F := fun_mk (st := s_path_to) l c k
  exact ⟨_, _, F, F.binds (ps := ["from_right", "from_left", "j"]) fun _ _ _ _ _ _ us hl => match us, hl with | [_, _, _], _ => rfl, PySem.W.mg_of X G a, k⟩
theorem has_send {h : Heap} {fa : Addr} {oc kV dc pm cd ct : Value} {od an : Option Addr} {sl : Array (Option Value)} (X : K.In h) (G : h.Ns mainGlobals mg)
    (a : PySem.W.nsIn K mainGlobals "send" = some (some (.ref fa))) (l : K.lookup fa = some ⟨oc, od, .func (PySem.W.fnOf "send" "send" (defArgs s_send) (defBody s_send) (defScope s_send) .none kV dc pm an cd ct), sl⟩) (c : PySem.W.codeIn K cd "send" = true) (k : PySem.W.keepIn K (.ref fa) = true) : FHas K mg "send" s_send ["left_rest", "right_rest", "flow", "path"] := by
  have F := fun_mk (st := s_send) l c k
  exact ⟨_, _, F, F.binds (ps := ["left_rest", "right_rest", "flow", "path"]) fun _ _ _ _ _ _ us hl => match us, hl with | [_, _, _, _], _ => rfl, PySem.W.mg_of X G a, k⟩
theorem has_best_cover {h : Heap} {fa : Addr} {oc kV dc pm cd ct : Value} {od an : Option Addr} {sl : Array (Option Value)} (X : K.In h) (G : h.Ns mainGlobals mg)
    (a : PySem.W.nsIn K mainGlobals "best_cover" = some (some (.ref fa))) (l : K.lookup fa = some ⟨oc, od, .func (PySem.W.fnOf "best_cover" "best_cover" (defArgs s_best_cover) (defBody s_best_cover) (defScope s_best_cover) .none kV dc pm an cd ct), sl⟩) (c : PySem.W.codeIn K cd "best_cover" = true) (k : PySem.W.keepIn K (.ref fa) = true) : FHas K mg "best_cover" s_best_cover ["lefts", "rights", "pairs"] := by
  have F := fun_mk (st := s_best_cover) l c k
  exact ⟨_, _, F, F.binds (ps := ["lefts", "rights", "pairs"]) fun _ _ _ _ _ _ us hl => match us, hl with | [_, _, _], _ => rfl, PySem.W.mg_of X G a, k⟩
theorem has__law_number {h : Heap} {fa : Addr} {oc kV dc pm cd ct : Value} {od an : Option Addr} {sl : Array (Option Value)} (X : K.In h) (G : h.Ns mainGlobals mg)
    (a : PySem.W.nsIn K mainGlobals "_law_number" = some (some (.ref fa))) (l : K.lookup fa = some ⟨oc, od, .func (PySem.W.fnOf "_law_number" "_law_number" (defArgs s__law_number) (defBody s__law_number) (defScope s__law_number) .none kV dc pm an cd ct), sl⟩) (c : PySem.W.codeIn K cd "_law_number" = true) (k : PySem.W.keepIn K (.ref fa) = true) : FHas K mg "_law_number" s__law_number ["script", "k"] := by
  have F := fun_mk (st := s__law_number) l c k
  exact ⟨_, _, F, F.binds (ps := ["script", "k"]) fun _ _ _ _ _ _ us hl => match us, hl with | [_, _], _ => rfl, PySem.W.mg_of X G a, k⟩
theorem has__law_digits {h : Heap} {fa : Addr} {oc kV dc pm cd ct : Value} {od an : Option Addr} {sl : Array (Option Value)} (X : K.In h) (G : h.Ns mainGlobals mg)
    (a : PySem.W.nsIn K mainGlobals "_law_digits" = some (some (.ref fa))) (l : K.lookup fa = some ⟨oc, od, .func (PySem.W.fnOf "_law_digits" "_law_digits" (defArgs s__law_digits) (defBody s__law_digits) (defScope s__law_digits) .none kV dc pm an cd ct), sl⟩) (c : PySem.W.codeIn K cd "_law_digits" = true) (k : PySem.W.keepIn K (.ref fa) = true) : FHas K mg "_law_digits" s__law_digits ["number", "sizes"] := by
  have F := fun_mk (st := s__law_digits) l c k
  exact ⟨_, _, F, F.binds (ps := ["number", "sizes"]) fun _ _ _ _ _ _ us hl => match us, hl with | [_, _], _ => rfl, PySem.W.mg_of X G a, k⟩
theorem has__law_same {h : Heap} {fa : Addr} {oc kV dc pm cd ct : Value} {od an : Option Addr} {sl : Array (Option Value)} (X : K.In h) (G : h.Ns mainGlobals mg)
    (a : PySem.W.nsIn K mainGlobals "_law_same" = some (some (.ref fa))) (l : K.lookup fa = some ⟨oc, od, .func (PySem.W.fnOf "_law_same" "_law_same" (defArgs s__law_same) (defBody s__law_same) (defScope s__law_same) .none kV dc pm an cd ct), sl⟩) (c : PySem.W.codeIn K cd "_law_same" = true) (k : PySem.W.keepIn K (.ref fa) = true) : FHas K mg "_law_same" s__law_same ["told", "due"] := by
  have F := fun_mk (st := s__law_same) l c k
  exact ⟨_, _, F, F.binds (ps := ["told", "due"]) fun _ _ _ _ _ _ us hl => match us, hl with | [_, _], _ => rfl, PySem.W.mg_of X G a, k⟩
theorem has__law_whole {h : Heap} {fa : Addr} {oc kV dc pm cd ct : Value} {od an : Option Addr} {sl : Array (Option Value)} (X : K.In h) (G : h.Ns mainGlobals mg)
    (a : PySem.W.nsIn K mainGlobals "_law_whole" = some (some (.ref fa))) (l : K.lookup fa = some ⟨oc, od, .func (PySem.W.fnOf "_law_whole" "_law_whole" (defArgs s__law_whole) (defBody s__law_whole) (defScope s__law_whole) .none kV dc pm an cd ct), sl⟩) (c : PySem.W.codeIn K cd "_law_whole" = true) (k : PySem.W.keepIn K (.ref fa) = true) : FHas K mg "_law_whole" s__law_whole ["x"] := by
  have F := fun_mk (st := s__law_whole) l c k
  exact ⟨_, _, F, F.binds (ps := ["x"]) fun _ _ _ _ _ _ us hl => match us, hl with | [_], _ => rfl, PySem.W.mg_of X G a, k⟩
theorem has__law_draw {h : Heap} {fa : Addr} {oc kV dc pm cd ct : Value} {od an : Option Addr} {sl : Array (Option Value)} (X : K.In h) (G : h.Ns mainGlobals mg)
    (a : PySem.W.nsIn K mainGlobals "_law_draw" = some (some (.ref fa))) (l : K.lookup fa = some ⟨oc, od, .func (PySem.W.fnOf "_law_draw" "_law_draw" (defArgs s__law_draw) (defBody s__law_draw) (defScope s__law_draw) .none kV dc pm an cd ct), sl⟩) (c : PySem.W.codeIn K cd "_law_draw" = true) (k : PySem.W.keepIn K (.ref fa) = true) : FHas K mg "_law_draw" s__law_draw ["script"] := by
  have F := fun_mk (st := s__law_draw) l c k
  exact ⟨_, _, F, F.binds (ps := ["script"]) fun _ _ _ _ _ _ us hl => match us, hl with | [_], _ => rfl, PySem.W.mg_of X G a, k⟩
theorem has__law_places {h : Heap} {fa : Addr} {oc kV dc pm cd ct : Value} {od an : Option Addr} {sl : Array (Option Value)} (X : K.In h) (G : h.Ns mainGlobals mg)
    (a : PySem.W.nsIn K mainGlobals "_law_places" = some (some (.ref fa))) (l : K.lookup fa = some ⟨oc, od, .func (PySem.W.fnOf "_law_places" "_law_places" (defArgs s__law_places) (defBody s__law_places) (defScope s__law_places) .none kV dc pm an cd ct), sl⟩) (c : PySem.W.codeIn K cd "_law_places" = true) (k : PySem.W.keepIn K (.ref fa) = true) : FHas K mg "_law_places" s__law_places ["places", "count"] := by
  have F := fun_mk (st := s__law_places) l c k
  exact ⟨_, _, F, F.binds (ps := ["places", "count"]) fun _ _ _ _ _ _ us hl => match us, hl with | [_, _], _ => rfl, PySem.W.mg_of X G a, k⟩
theorem has__law_is_packing {h : Heap} {fa : Addr} {oc kV dc pm cd ct : Value} {od an : Option Addr} {sl : Array (Option Value)} (X : K.In h) (G : h.Ns mainGlobals mg)
    (a : PySem.W.nsIn K mainGlobals "_law_is_packing" = some (some (.ref fa))) (l : K.lookup fa = some ⟨oc, od, .func (PySem.W.fnOf "_law_is_packing" "_law_is_packing" (defArgs s__law_is_packing) (defBody s__law_is_packing) (defScope s__law_is_packing) .none kV dc pm an cd ct), sl⟩) (c : PySem.W.codeIn K cd "_law_is_packing" = true) (k : PySem.W.keepIn K (.ref fa) = true) : FHas K mg "_law_is_packing" s__law_is_packing ["lefts", "rights", "pairs", "packing"] := by
  have F := fun_mk (st := s__law_is_packing) l c k
  exact ⟨_, _, F, F.binds (ps := ["lefts", "rights", "pairs", "packing"]) fun _ _ _ _ _ _ us hl => match us, hl with | [_, _, _, _], _ => rfl, PySem.W.mg_of X G a, k⟩
theorem has__law_forced {h : Heap} {fa : Addr} {oc kV dc pm cd ct : Value} {od an : Option Addr} {sl : Array (Option Value)} (X : K.In h) (G : h.Ns mainGlobals mg)
    (a : PySem.W.nsIn K mainGlobals "_law_forced" = some (some (.ref fa))) (l : K.lookup fa = some ⟨oc, od, .func (PySem.W.fnOf "_law_forced" "_law_forced" (defArgs s__law_forced) (defBody s__law_forced) (defScope s__law_forced) .none kV dc pm an cd ct), sl⟩) (c : PySem.W.codeIn K cd "_law_forced" = true) (k : PySem.W.keepIn K (.ref fa) = true) : FHas K mg "_law_forced" s__law_forced ["pairs", "rights"] := by
  have F := fun_mk (st := s__law_forced) l c k
  exact ⟨_, _, F, F.binds (ps := ["pairs", "rights"]) fun _ _ _ _ _ _ us hl => match us, hl with | [_, _], _ => rfl, PySem.W.mg_of X G a, k⟩
theorem has__law_weight {h : Heap} {fa : Addr} {oc kV dc pm cd ct : Value} {od an : Option Addr} {sl : Array (Option Value)} (X : K.In h) (G : h.Ns mainGlobals mg)
    (a : PySem.W.nsIn K mainGlobals "_law_weight" = some (some (.ref fa))) (l : K.lookup fa = some ⟨oc, od, .func (PySem.W.fnOf "_law_weight" "_law_weight" (defArgs s__law_weight) (defBody s__law_weight) (defScope s__law_weight) .none kV dc pm an cd ct), sl⟩) (c : PySem.W.codeIn K cd "_law_weight" = true) (k : PySem.W.keepIn K (.ref fa) = true) : FHas K mg "_law_weight" s__law_weight ["lefts", "rights", "cover"] := by
  have F := fun_mk (st := s__law_weight) l c k
  exact ⟨_, _, F, F.binds (ps := ["lefts", "rights", "cover"]) fun _ _ _ _ _ _ us hl => match us, hl with | [_, _, _], _ => rfl, PySem.W.mg_of X G a, k⟩
theorem has__law_least_by_trying {h : Heap} {fa : Addr} {oc kV dc pm cd ct : Value} {od an : Option Addr} {sl : Array (Option Value)} (X : K.In h) (G : h.Ns mainGlobals mg)
    (a : PySem.W.nsIn K mainGlobals "_law_least_by_trying" = some (some (.ref fa))) (l : K.lookup fa = some ⟨oc, od, .func (PySem.W.fnOf "_law_least_by_trying" "_law_least_by_trying" (defArgs s__law_least_by_trying) (defBody s__law_least_by_trying) (defScope s__law_least_by_trying) .none kV dc pm an cd ct), sl⟩) (c : PySem.W.codeIn K cd "_law_least_by_trying" = true) (k : PySem.W.keepIn K (.ref fa) = true) : FHas K mg "_law_least_by_trying" s__law_least_by_trying ["lefts", "rights", "pairs", "cover"] := by
  have F := fun_mk (st := s__law_least_by_trying) l c k
  exact ⟨_, _, F, F.binds (ps := ["lefts", "rights", "pairs", "cover"]) fun _ _ _ _ _ _ us hl => match us, hl with | [_, _, _, _], _ => rfl, PySem.W.mg_of X G a, k⟩
theorem has__law_walked {h : Heap} {fa : Addr} {oc kV dc pm cd ct : Value} {od an : Option Addr} {sl : Array (Option Value)} (X : K.In h) (G : h.Ns mainGlobals mg)
    (a : PySem.W.nsIn K mainGlobals "_law_walked" = some (some (.ref fa))) (l : K.lookup fa = some ⟨oc, od, .func (PySem.W.fnOf "_law_walked" "_law_walked" (defArgs s__law_walked) (defBody s__law_walked) (defScope s__law_walked) .none kV dc pm an cd ct), sl⟩) (c : PySem.W.codeIn K cd "_law_walked" = true) (k : PySem.W.keepIn K (.ref fa) = true) : FHas K mg "_law_walked" s__law_walked ["lefts", "rights", "pairs", "packing"] := by
  have F := fun_mk (st := s__law_walked) l c k
  exact ⟨_, _, F, F.binds (ps := ["lefts", "rights", "pairs", "packing"]) fun _ _ _ _ _ _ us hl => match us, hl with | [_, _, _, _], _ => rfl, PySem.W.mg_of X G a, k⟩
theorem has_law {h : Heap} {fa : Addr} {oc kV dc pm cd ct : Value} {od an : Option Addr} {sl : Array (Option Value)} (X : K.In h) (G : h.Ns mainGlobals mg)
    (a : PySem.W.nsIn K mainGlobals "law" = some (some (.ref fa))) (l : K.lookup fa = some ⟨oc, od, .func (PySem.W.fnOf "law" "law" (defArgs s_law) (defBody s_law) (defScope s_law) .none kV dc pm an cd ct), sl⟩) (c : PySem.W.codeIn K cd "law" = true) (k : PySem.W.keepIn K (.ref fa) = true) : FHas K mg "law" s_law ["script"] := by
  have F := fun_mk (st := s_law) l c k
  exact ⟨_, _, F, F.binds (ps := ["script"]) fun _ _ _ _ _ _ us hl => match us, hl with | [_], _ => rfl, PySem.W.mg_of X G a, k⟩
theorem all_mk {l : PySem.W.OpenLaw} {h : Heap} {fa f1 : Addr} {oc kV dc pm cd ct : Value} {od an : Option Addr} {sl : Array (Option Value)} (hf : LawD f_law) (X : K.In h) (G : h.Ns mainGlobals mg) (hfa : mg "law" = some (.ref fa)) (T : Txt w K mg)
    (a : PySem.W.nsIn K mainGlobals "law" = some (some (.ref f1))) (l1 : K.lookup f1 = some ⟨oc, od, .func (PySem.W.fnOf "law" "law" (defArgs s_law) (defBody s_law) (defScope s_law) .none kV dc pm an cd ct), sl⟩) (c : PySem.W.codeIn K cd "law" = true) (k : PySem.W.keepIn K (.ref f1) = true) :
    ∃ fd : FuncData, (∀ (s : Shared) (v : Value), BindsTo s fd ⟨[v], []⟩ [("script", v)]) ∧ ∀ base : Heap, K.In base → base.Ns mainGlobals mg → FnOk l.prog w K mg base CX0 8 fa fd ["script"] (spL K) := by
  have e := hfa.symm.trans (PySem.W.mg_of X G a)
  cases e
  exact ⟨PySem.W.fnOf "law" "law" (defArgs s_law) (defBody s_law) (defScope s_law) .none kV dc pm an cd ct, fun s v => .of_eq rfl, fun base _ _ => (ok_law T (fun_mk (st := s_law) l1 c k)).imp (spL_spD hf)⟩
end
end W

set_option autoImplicit false
set_option Elab.async false
set_option linter.all false
set_option maxRecDepth 100000
namespace W
open PySem PySem.Spec PyProof.Rows L2 DL
theorem run_number (ns : List Int) (k : Nat) : ∃ n d, f__law_number [.scr (ns.map .int), .int k] = .ret n d [.scr (ns.map .int), .int k] ∧ (n = 0 ∧ ∃ z : Int, d = .int z) := by
  refine fn_ret ?_
  unfold m__law_number
  simp
  intro h
  obtain ⟨a, ha, _⟩ := atI_in (xs := ns) (i := k) (by omega) (by omega)
  simp [ha]
def numv (ns : List Int) (k : Int) : Int := match f__law_number [.scr (ns.map .int), .int k] with
  | .ret _ (.int z) _ => z
  | _ => 0
theorem number (ns : List Int) (k : Int) (h : 0 ≤ k) : f__law_number [.scr (ns.map .int), .int k] = .ret 0 (.int (numv ns k)) [.scr (ns.map .int), .int k] := by
  obtain ⟨k, rfl⟩ := Int.eq_ofNat_of_zero_le h
  obtain ⟨n, d, e, rfl, z, rfl⟩ := run_number ns k
  unfold numv
  rw [e]
def digs : Int → List Int → List Int
  | _, [] => []
  | z, s :: r => (z % s) :: digs (z / s) r
theorem digits (z : Int) (sizes : List Int) (hs : ∀ s ∈ sizes, 0 < s ∧ s < 1073741824) (hl : sizes.length < 1000) :
    f__law_digits [.int z, .lst (sizes.map .int)] = .ret 1 (.lst ((digs z sizes).map .int)) [.int z, .lst (sizes.map .int)] := by
  suffices h : ∃ n d, f__law_digits [.int z, .lst (sizes.map .int)] = .ret n d [.int z, .lst (sizes.map .int)] ∧ (n = 1 ∧ d = .lst ((digs z sizes).map .int)) by
    obtain ⟨n, d, e, rfl, rfl⟩ := h
    exact e
  refine fn_ret ?_
  unfold m__law_digits
  simp
  refine WS_forB (fun k e => ∃ (z' : Int) (acc : List Int), acc.length = k ∧ acc ++ digs z' (sizes.drop k) = digs z sizes ∧ e = [some (0, .int z'), some (0, .lst (sizes.map .int)), some (1, .lst (acc.map .int)), none]) ?_ ?_ ?_
  · exact ⟨z, [], rfl, by simp, rfl⟩
  · rintro J hJ j d e hj ⟨z', acc, ha, hd, rfl⟩
    obtain ⟨x, hx, rfl⟩ := map_get hj
    have hx0 := hs x (List.mem_of_getElem? hx)
    have hjl := (List.getElem?_eq_some_iff.mp hx).1
    rw [drop_get hx] at hd
    simp [modD_int hx0.1, fdivD_int hx0.1 (show x < 2 ^ 30 by omega), LIM]
    refine ⟨by omega, hJ _ _ ⟨z' / x, acc ++ [z' % x], by simp [ha], ?_, by simp⟩⟩
    rw [← hd]; simp [digs]
  · rintro e ⟨z', acc, ha, hd, rfl⟩
    simp at hd ha
    simp [digs] at hd ⊢
    simp [hd]
/-! ### the draw -/
def lt2 (p q : Int × Int) : Prop := p.1 < q.1 ∨ (p.1 = q.1 ∧ p.2 < q.2)
structure Drawn (lefts rights : List Int) (pairs : List (Int × Int)) : Prop where
  l24 : lefts.length ≤ 24
  r24 : rights.length ≤ 24
  lpos : ∀ x ∈ lefts, 1 ≤ x ∧ x ≤ 1000
  rpos : ∀ x ∈ rights, 1 ≤ x ∧ x ≤ 1000
  inn : ∀ p ∈ pairs, 0 ≤ p.1 ∧ p.1 < lefts.length ∧ 0 ≤ p.2 ∧ p.2 < rights.length
  nd : pairs.Nodup
  len : pairs.length ≤ 576
theorem filterMap_get {α β : Type} (f : α → β) : ∀ l : List α, (l.filterMap fun x => some (f x)) = l.map f := fun l => by
  rw [List.filterMap_eq_map']
end W

set_option autoImplicit false
set_option Elab.async false
set_option linter.all false
set_option maxRecDepth 100000
namespace W
open PySem PySem.Spec PyProof.Rows L2 DL
/-- an item that isinstance knows -/
def Kn (d : D) : Prop := ∃ t, tyOfD d = some t
/-- a value from a function -/
def BoolIs (o : FR) (ds : List D) (p : Prop) : Prop := ∃ b : Bool, o = .ret 0 (.bl b) ds ∧ (b = true ↔ p)
theorem BoolIs.of {pm : List Nat} {kk : Nat} {m : MS} {ds : List D} {p : Prop} (h : ∀ J : Nat → D → Prop, (∀ b : Bool, (b = true ↔ p) → J 0 (.bl b)) → WS (m (mkEnv pm ds ++ List.replicate kk none)) (bodyP pm ds J)) : BoolIs (fnSem pm kk m ds) ds p := by
  obtain ⟨n, d, e, rfl, b, rfl, hb⟩ := fn_retB (R := fun n d => n = 0 ∧ ∃ b : Bool, d = .bl b ∧ (b = true ↔ p)) fun J hJ => h J fun b hb => hJ _ _ ⟨rfl, b, rfl, hb⟩
  exact ⟨b, e, hb⟩
theorem is_whole {d : D} {a b : Int} (hd : Kn d) : BoolIs (f_is_whole [d, .int a, .int b]) [d, .int a, .int b] (∃ i, d = .int i ∧ a ≤ i ∧ i ≤ b) := by
  refine BoolIs.of fun J hJ => ?_
  unfold m_is_whole
  obtain ⟨t, ht⟩ := hd
  cases d <;> simp at ht <;> simp [isTyB_eq]
  all_goals first
    | exact hJ false (by simp)
    | skip
  rename_i i
  refine ⟨fun h => hJ _ ?_, fun h => hJ _ ?_⟩
  · simp; omega
  · simp; omega
theorem whole {d : D} (hd : Kn d) : BoolIs (f__law_whole [d]) [d] (∃ i, d = .int i) := by
  refine BoolIs.of fun J hJ => ?_
  unfold m__law_whole
  obtain ⟨t, ht⟩ := hd
  cases d <;> simp at ht <;> simp [isTyB_eq]
  all_goals exact hJ _ (by simp)
theorem is_row {d : D} {k : Int} (hd : Kn d) : BoolIs (f_is_row [d, .int k]) [d, .int k] (∃ ds, d = .tup ds ∧ (ds.length : Int) = k) := by
  refine BoolIs.of fun J hJ => ?_
  unfold m_is_row
  obtain ⟨t, ht⟩ := hd
  cases d <;> simp at ht <;> simp [isTyB_eq]
  all_goals exact hJ _ (by simp)
def Asc (n : Int) (cs : List Int) : Prop := cs.Pairwise (· < ·) ∧ ∀ c ∈ cs, 0 ≤ c ∧ c < n
def PlOk (n : Int) (d : D) : Prop := ∃ cs : List Int, d = .lst (cs.map .int) ∧ Asc n cs
def KnL (d : D) : Prop := Kn d ∧ ∀ ds, d = .lst ds → ∀ x ∈ ds, Kn x
theorem Asc.snoc {n x : Int} {cs : List Int} (h : Asc n cs) (h1 : ∀ c ∈ cs, c < x) (h2 : 0 ≤ x) (h3 : x < n) : Asc n (cs ++ [x]) :=
  ⟨List.pairwise_append.mpr ⟨h.1, by simp, fun a ha b hb => by simp at hb; subst hb; exact h1 a ha⟩, fun c hc => by
    rcases List.mem_append.mp hc with hc | hc
    · exact h.2 c hc
    · simp at hc; subst hc; exact ⟨h2, h3⟩⟩
/-- what a place that stands at j must be -/
theorem PlOk.at {n : Int} {ds : List D} {j : Nat} {d : D} {cs : List Int} (h : PlOk n (.lst ds)) (hj : ds[j]? = some d) (ht : ds.take j = cs.map .int) : ∃ x, d = .int x ∧ 0 ≤ x ∧ x < n ∧ ∀ c ∈ cs, c < x := by
  obtain ⟨as, e, h1, h2⟩ := h
  cases e
  obtain ⟨x, hx, rfl⟩ := map_get hj
  have hm := List.mem_of_getElem? hx
  refine ⟨x, rfl, (h2 x hm).1, (h2 x hm).2, fun c hc => ?_⟩
  have e2 : as.take j = cs := by
    rw [← List.map_take] at ht
    exact map_int_inj ht
  rw [← e2] at hc
  obtain ⟨i, hi⟩ := List.mem_iff_getElem?.mp hc
  rw [List.getElem?_take] at hi
  split at hi
  · rename_i hij
    obtain ⟨a1, a2⟩ := List.getElem?_eq_some_iff.mp hi
    obtain ⟨b1, b2⟩ := List.getElem?_eq_some_iff.mp hx
    have := List.pairwise_iff_getElem.mp h1 i j a1 b1 hij
    rw [a2, b2] at this; exact this
  · cases hi
theorem are_places {d : D} {n : Int} (hd : KnL d) : BoolIs (f_are_places [.int n, d]) [.int n, d] (PlOk n d) := by
  refine BoolIs.of fun J hJ => ?_
  unfold m_are_places
  obtain ⟨⟨t, ht⟩, hl⟩ := hd
  cases d <;> simp at ht <;> simp [isTyB_eq]
  case lst ds =>
    refine WS_forB (fun k e => ∃ (cs : List Int) (bef : Int), ds.take k = cs.map .int ∧ Asc n cs ∧ (∀ c ∈ cs, c ≤ bef) ∧ -1 ≤ bef ∧ (bef ∈ cs ∨ bef = -1) ∧ e = [some (0, .int n), some (0, .lst ds), some (0, .int bef), none]) ?_ ?_ ?_
    · exact ⟨[], -1, by simp, ⟨.nil, by simp⟩, by simp, by decide, .inr rfl, rfl⟩
    · rintro K hK j d e hj ⟨cs, bef, h1, h2, h3, h4, h5, rfl⟩
      obtain ⟨b, hb, hi⟩ := is_whole (d := d) (a := bef + 1) (b := n - 1) (hl ds rfl d (List.mem_of_getElem? hj))
      simp [hb]
      refine ⟨fun e => hJ false ?_, fun e => ?_⟩
      · subst e
        simp
        intro p
        obtain ⟨x, rfl, x1, x2, x3⟩ := p.at hj h1
        refine absurd (hi.mpr ⟨x, rfl, ?_, by omega⟩) (by simp)
        rcases h5 with h5 | h5
        · have := x3 bef h5; omega
        · omega
      · subst e
        obtain ⟨x, rfl, x1, x2⟩ := hi.mp rfl
        exact hK _ _ ⟨cs ++ [x], x, by rw [take_get hj, h1]; simp, h2.snoc (fun c hc => by have := h3 c hc; omega) (by omega) (by omega), fun c hc => by
          rcases List.mem_append.mp hc with hc | hc
          · have := h3 c hc; omega
          · simp at hc; omega, by omega, .inl (by simp), rfl⟩
    · rintro e ⟨cs, bef, h1, h2, h3, h4, h5, rfl⟩
      simp
      refine hJ true ?_
      simp at h1 ⊢
      exact ⟨cs, by rw [h1], h2⟩
  all_goals exact hJ _ (by simp [PlOk])
theorem law_places {d : D} {n : Int} (hd : KnL d) : BoolIs (f__law_places [d, .int n]) [d, .int n] (PlOk n d) := by
  refine BoolIs.of fun J hJ => ?_
  unfold m__law_places
  obtain ⟨⟨t, ht⟩, hl⟩ := hd
  cases d <;> simp at ht <;> simp [isTyB_eq]
  case lst ds =>
    refine WS_forB (fun k e => ∃ (cs : List Int) (bef : Int), ds.take k = cs.map .int ∧ Asc n cs ∧ (∀ c ∈ cs, c ≤ bef) ∧ -1 ≤ bef ∧ (bef ∈ cs ∨ bef = -1) ∧ e = [some (0, .lst ds), some (0, .int n), some (0, .int bef), none]) ?_ ?_ ?_
    · exact ⟨[], -1, by simp, ⟨.nil, by simp⟩, by simp, by decide, .inr rfl, rfl⟩
    · rintro K hK j d e hj ⟨cs, bef, h1, h2, h3, h4, h5, rfl⟩
      obtain ⟨b, hb, hi⟩ := whole (d := d) (hl ds rfl d (List.mem_of_getElem? hj))
      simp [hb]
      have bad : ∀ x, d = .int x → (x ≤ bef ∨ n ≤ x) → J 0 (.bl false) := fun x e h => hJ false (by
        subst e
        simp
        intro p
        obtain ⟨y, e, y1, y2, y3⟩ := p.at hj h1
        cases e
        rcases h5 with h5 | h5
        · have := y3 bef h5; omega
        · omega)
      refine ⟨fun e => hJ false ?_, fun e => ?_⟩
      · subst e
        simp
        intro p
        obtain ⟨x, rfl, _⟩ := p.at hj h1
        exact absurd (hi.mpr ⟨x, rfl⟩) (by simp)
      · subst e
        obtain ⟨x, rfl⟩ := hi.mp rfl
        simp
        refine ⟨fun h => bad x rfl (.inl h), fun h => ⟨fun h' => bad x rfl (.inr h'), fun h' => ?_⟩⟩
        exact hK _ _ ⟨cs ++ [x], x, by rw [take_get hj, h1]; simp, h2.snoc (fun c hc => by have := h3 c hc; omega) (by omega) (by omega), fun c hc => by
          rcases List.mem_append.mp hc with hc | hc
          · have := h3 c hc; omega
          · simp at hc; omega, by omega, .inl (by simp), rfl⟩
    · rintro e ⟨cs, bef, h1, h2, h3, h4, h5, rfl⟩
      simp
      refine hJ true ?_
      simp at h1 ⊢
      exact ⟨cs, by rw [h1], h2⟩
  all_goals exact hJ _ (by simp [PlOk])
end W

set_option autoImplicit false
set_option Elab.async false
set_option linter.all false
set_option maxRecDepth 100000
namespace W
open PySem PySem.Spec PyProof.Rows L2 DL
def KnC (c : D) : Prop := Kn c ∧ ∀ ds, c = .tup ds → ∀ x ∈ ds, KnL x
def CovOk (nL nR : Int) (pairs : List (Int × Int)) (c : D) : Prop := ∃ c0 c1 : List Int, c = .tup [.lst (c0.map .int), .lst (c1.map .int)] ∧ Asc nL c0 ∧ Asc nR c1 ∧ ∀ p ∈ pairs, p.1 ∈ c0 ∨ p.2 ∈ c1
theorem two_of {ds : List D} (h : (ds.length : Int) = 2) : ∃ a b, ds = [a, b] := by
  match ds, h with
  | [a, b], _ => exact ⟨a, b, rfl⟩
  | [], h => simp at h
  | [_], h => simp at h
  | _ :: _ :: _ :: _, h => simp at h; omega
theorem three_of {ds : List D} (h : (ds.length : Int) = 3) : ∃ a b c, ds = [a, b, c] := by
  match ds, h with
  | [a, b, c], _ => exact ⟨a, b, c, rfl⟩
  | [], h => simp at h
  | [_], h => simp at h
  | [_, _], h => simp at h
  | _ :: _ :: _ :: _ :: _, h => simp at h; omega
@[simp] theorem atI2_0 {α : Type} {a b : α} : L2.atI [a, b] 0 = some a := rfl
@[simp] theorem atI2_1 {α : Type} {a b : α} : L2.atI [a, b] 1 = some b := rfl
@[simp] theorem atI3_0 {α : Type} {a b c : α} : L2.atI [a, b, c] 0 = some a := rfl
@[simp] theorem atI3_1 {α : Type} {a b c : α} : L2.atI [a, b, c] 1 = some b := rfl
@[simp] theorem atI3_2 {α : Type} {a b c : α} : L2.atI [a, b, c] 2 = some c := rfl
theorem is_pair_cover {Ld Rd : List D} {pairs : List (Int × Int)} {c : D} (hc : KnC c) :
    BoolIs (f_is_pair_cover [.lst Ld, .lst Rd, .lst (pairs.map ipD), c]) [.lst Ld, .lst Rd, .lst (pairs.map ipD), c] (CovOk Ld.length Rd.length pairs c) := by
  refine BoolIs.of fun J hJ => ?_
  unfold m_is_pair_cover
  obtain ⟨b, hb, hi⟩ := is_row (k := 2) hc.1
  simp [hb]
  refine ⟨fun e => hJ false ?_, fun e => ?_⟩
  · subst e
    simp
    rintro ⟨c0, c1, rfl, _⟩
    exact absurd (hi.mpr ⟨_, rfl, rfl⟩) (by simp)
  · subst e
    obtain ⟨ds, rfl, hl⟩ := hi.mp rfl
    obtain ⟨a, b, rfl⟩ := two_of hl
    have ka := hc.2 _ rfl a (by simp)
    have kb := hc.2 _ rfl b (by simp)
    obtain ⟨ba, ha, hia⟩ := are_places (n := Ld.length) ka
    obtain ⟨bb, hb2, hib⟩ := are_places (n := Rd.length) kb
    simp [ha, hb2]
    refine ⟨fun e => hJ false ?_, fun e => ⟨fun e' => hJ false ?_, fun e' => ?_⟩⟩
    · subst e
      simp
      rintro ⟨c0, c1, e, h0, h1, _⟩
      simp at e
      exact absurd (hia.mpr ⟨c0, e.1, h0⟩) (by simp)
    · subst e'
      simp
      rintro ⟨c0, c1, e, h0, h1, _⟩
      simp at e
      exact absurd (hib.mpr ⟨c1, e.2, h1⟩) (by simp)
    · subst e
      subst e'
      obtain ⟨c0, rfl, h0⟩ := hia.mp rfl
      obtain ⟨c1, rfl, h1⟩ := hib.mp rfl
      refine WS_forB (fun k e => (∀ p ∈ pairs.take k, p.1 ∈ c0 ∨ p.2 ∈ c1) ∧ e = [some (0, .lst Ld), some (0, .lst Rd), some (0, .lst (pairs.map ipD)), some (0, .tup [.lst (c0.map .int), .lst (c1.map .int)]), none, none]) ?_ ?_ ?_
      · exact ⟨by simp, rfl⟩
      · rintro K hK j d e hj ⟨h2, rfl⟩
        obtain ⟨p, hp, rfl⟩ := map_get hj
        have go : (p.1 ∈ c0 ∨ p.2 ∈ c1) → ∀ q ∈ pairs.take (j + 1), q.1 ∈ c0 ∨ q.2 ∈ c1 := fun h q hq => by
          rw [take_get hp] at hq
          rcases List.mem_append.mp hq with hq | hq
          · exact h2 q hq
          · simp at hq; subst hq; exact h
        simp [ipD]
        refine ⟨fun n0 => ⟨fun n1 => hJ false ?_, fun n1 => hK _ _ ⟨go (.inr n1), rfl⟩⟩, fun n0 => hK _ _ ⟨go (.inl n0), rfl⟩⟩
        simp
        rintro ⟨a0, a1, e, _, _, h⟩
        simp at e
        obtain rfl := map_int_inj e.1
        obtain rfl := map_int_inj e.2
        rcases h p (List.mem_of_getElem? hp) with h | h
        · exact n0 h
        · exact n1 h
      · rintro e ⟨h2, rfl⟩
        simp
        refine hJ true ?_
        simp at h2 ⊢
        exact ⟨c0, c1, rfl, h0, h1, fun p hp => h2 p.1 p.2 hp⟩
end W

set_option autoImplicit false
set_option Elab.async false
set_option linter.all false
set_option maxRecDepth 100000
namespace W
open PySem PySem.Spec PyProof.Rows L2 DL
abbrev Tp := Int × Int × Int
def tpD (t : Tp) : D := .tup [.int t.1, .int t.2.1, .int t.2.2]
def key (t : Tp) : Int × Int := (t.1, t.2.1)
def KnP (c : D) : Prop := Kn c ∧ ∀ ds, c = .lst ds → ∀ x ∈ ds, Kn x ∧ ∀ es, x = .tup es → ∀ y ∈ es, Kn y
/-- what is used of a place on the left, on the right -/
def useL (ts : List Tp) (i : Int) : Int := (ts.map fun t => if t.1 = i then t.2.2 else 0).sum
def useR (ts : List Tp) (i : Int) : Int := (ts.map fun t => if t.2.1 = i then t.2.2 else 0).sum
theorem useL_snoc (ts : List Tp) (t : Tp) (i : Int) : useL (ts ++ [t]) i = useL ts i + if t.1 = i then t.2.2 else 0 := by simp [useL]
theorem useR_snoc (ts : List Tp) (t : Tp) (i : Int) : useR (ts ++ [t]) i = useR ts i + if t.2.1 = i then t.2.2 else 0 := by simp [useR]
def Good (pairs : List (Int × Int)) (ts : List Tp) : Prop := (∀ t ∈ ts, key t ∈ pairs ∧ 1 ≤ t.2.2) ∧ ts.Pairwise fun s t => lt2 (key s) (key t)
def PackT (lefts rights : List Int) (pairs : List (Int × Int)) (ts : List Tp) : Prop := Good pairs ts ∧ (∀ i : Nat, i < lefts.length → useL ts i ≤ lefts.getD i 0) ∧ ∀ i : Nat, i < rights.length → useR ts i ≤ rights.getD i 0
def PackOk (lefts rights : List Int) (pairs : List (Int × Int)) (d : D) : Prop := ∃ ts, d = .lst (ts.map tpD) ∧ PackT lefts rights pairs ts
theorem tp_inj : ∀ {as bs : List Tp}, as.map tpD = bs.map tpD → as = bs
  | [], [], _ => rfl
  | [], _ :: _, h => by cases h
  | _ :: _, [], h => by cases h
  | a :: as, b :: bs, h => by
    simp only [List.map_cons, List.cons.injEq, tpD, D.tup.injEq, D.int.injEq] at h
    obtain ⟨⟨h1, h2, h3, _⟩, h4⟩ := h
    rw [tp_inj h4]
    obtain ⟨a1, a2, a3⟩ := a
    obtain ⟨b1, b2, b3⟩ := b
    simp only at h1 h2 h3
    rw [h1, h2, h3]
theorem use_ge {f : Tp → Int} : ∀ {ts : List Tp} {t : Tp}, t ∈ ts → (∀ s ∈ ts, 0 ≤ f s) → f t ≤ (ts.map f).sum
  | s :: ts, t, h, hp => by
    have hr : 0 ≤ (ts.map f).sum := by
      have : ∀ l : List Tp, (∀ s ∈ l, 0 ≤ f s) → 0 ≤ (l.map f).sum := fun l => by
        induction l with
        | nil => intro _; simp
        | cons a l ih =>
          intro h
          have h1 := h a List.mem_cons_self
          have h2 := ih fun s hs => h s (List.mem_cons_of_mem _ hs)
          simp only [List.map_cons, List.sum_cons]; omega
      exact this ts fun s hs => hp s (List.mem_cons_of_mem _ hs)
    simp only [List.map_cons, List.sum_cons]
    rcases List.mem_cons.mp h with rfl | h
    · omega
    · have := use_ge h fun s hs => hp s (List.mem_cons_of_mem _ hs)
      have := hp s List.mem_cons_self
      omega
theorem le2_lt2 {p q : Int × Int} : le2 p q = false ↔ lt2 q p := by
  unfold le2 lt2
  split
  · rename_i h; simp [h]
  · rename_i h; simp; omega
/-- the triple at j of what is in order -/
theorem PackOk.at {lefts rights : List Int} {pairs : List (Int × Int)} {ds : List D} {j : Nat} {d : D} {ts : List Tp} (hin : ∀ p ∈ pairs, 0 ≤ p.1 ∧ p.1 < lefts.length ∧ 0 ≤ p.2 ∧ p.2 < rights.length) (h : PackOk lefts rights pairs (.lst ds)) (hj : ds[j]? = some d) (ht : ds.take j = ts.map tpD) :
    ∃ t, d = tpD t ∧ key t ∈ pairs ∧ 1 ≤ t.2.2 ∧ t.2.2 ≤ lefts.getD t.1.toNat 0 ∧ t.2.2 ≤ rights.getD t.2.1.toNat 0 ∧ ∀ s ∈ ts, lt2 (key s) (key t) := by
  obtain ⟨as, e, ⟨h1, h2⟩, h3, h4⟩ := h
  cases e
  obtain ⟨t, htj, rfl⟩ := map_get hj
  have hm := List.mem_of_getElem? htj
  obtain ⟨k1, k2⟩ := h1 t hm
  have hk := hin _ k1
  simp only [key] at hk
  have e2 : as.take j = ts := by
    rw [← List.map_take] at ht
    exact tp_inj ht
  refine ⟨t, rfl, k1, k2, ?_, ?_, fun s hs => ?_⟩
  · have := h3 t.1.toNat (by omega)
    have g := use_ge (f := fun s : Tp => if s.1 = ((t.1.toNat : Nat) : Int) then s.2.2 else 0) hm fun s hs => by have := (h1 s hs).2; split <;> omega
    rw [if_pos (by omega)] at g
    unfold useL at this; omega
  · have := h4 t.2.1.toNat (by omega)
    have g := use_ge (f := fun s : Tp => if s.2.1 = ((t.2.1.toNat : Nat) : Int) then s.2.2 else 0) hm fun s hs => by have := (h1 s hs).2; split <;> omega
    rw [if_pos (by omega)] at g
    unfold useR at this; omega
  · rw [← e2] at hs
    obtain ⟨i, hi⟩ := List.mem_iff_getElem?.mp hs
    rw [List.getElem?_take] at hi
    split at hi
    · rename_i hij
      obtain ⟨a1, a2⟩ := List.getElem?_eq_some_iff.mp hi
      obtain ⟨b1, b2⟩ := List.getElem?_eq_some_iff.mp htj
      have := List.pairwise_iff_getElem.mp h2 i j a1 b1 hij
      rw [a2, b2] at this; exact this
    · cases hi
theorem atI_ints {ns : List Int} {i : Int} (h0 : 0 ≤ i) (h : i < ns.length) : L2.atI ns i = some (ns.getD i.toNat 0) := by
  obtain ⟨a, h1, _, h2⟩ := atI_in h0 h
  rw [h1]
  rw [List.getD_eq_getElem?_getD, h2]; rfl
theorem is_triple {lefts rights : List Int} {pairs : List (Int × Int)} {d : D} (hin : ∀ p ∈ pairs, 0 ≤ p.1 ∧ p.1 < lefts.length ∧ 0 ≤ p.2 ∧ p.2 < rights.length) (hd : Kn d ∧ ∀ es, d = .tup es → ∀ y ∈ es, Kn y) :
    BoolIs (f_is_triple [.lst (lefts.map .int), .lst (rights.map .int), .lst (pairs.map ipD), d]) [.lst (lefts.map .int), .lst (rights.map .int), .lst (pairs.map ipD), d]
      (∃ t, d = tpD t ∧ key t ∈ pairs ∧ 1 ≤ t.2.2 ∧ t.2.2 ≤ lefts.getD t.1.toNat 0 ∧ t.2.2 ≤ rights.getD t.2.1.toNat 0) := by
  refine BoolIs.of fun J hJ => ?_
  unfold m_is_triple
  obtain ⟨b, hb, hi⟩ := is_row (k := 3) hd.1
  simp [hb]
  refine ⟨fun e => hJ false ?_, fun e => ?_⟩
  · subst e
    refine ⟨by simp, ?_⟩
    rintro ⟨t, rfl, _⟩
    exact absurd (hi.mpr ⟨_, rfl, rfl⟩) (by simp)
  subst e
  obtain ⟨ds, rfl, hl⟩ := hi.mp rfl
  obtain ⟨a, b, c, rfl⟩ := three_of hl
  have ka := hd.2 _ rfl a (by simp)
  have kb := hd.2 _ rfl b (by simp)
  have kc := hd.2 _ rfl c (by simp)
  obtain ⟨ba, ha, hia⟩ := is_whole (d := a) (a := 0) (b := (lefts.length : Int) - 1) ka
  obtain ⟨bb, hb2, hib⟩ := is_whole (d := b) (a := 0) (b := (rights.length : Int) - 1) kb
  simp [ha, hb2]
  have no : (∀ t : Tp, .tup [a, b, c] = tpD t → key t ∈ pairs → 1 ≤ t.2.2 → t.2.2 ≤ lefts.getD t.1.toNat 0 → t.2.2 ≤ rights.getD t.2.1.toNat 0 → False) → J 0 (.bl false) := fun h => hJ false ⟨by simp, by
    rintro ⟨t, h1, h2, h3, h4, h5⟩
    exact (h t h1 h2 h3 h4 h5).elim⟩
  refine ⟨fun e => no fun t h1 h2 _ _ _ => ?_, fun e => ⟨fun e' => no fun t h1 h2 _ _ _ => ?_, fun e' => ?_⟩⟩
  · subst e
    simp [tpD] at h1
    have := hin _ h2
    simp only [key] at this
    exact absurd (hia.mpr ⟨t.1, h1.1, by omega, by omega⟩) (by simp)
  · subst e'
    simp [tpD] at h1
    have := hin _ h2
    simp only [key] at this
    exact absurd (hib.mpr ⟨t.2.1, h1.2.1, by omega, by omega⟩) (by simp)
  subst e
  subst e'
  obtain ⟨x, rfl, x0, x1⟩ := hia.mp rfl
  obtain ⟨y, rfl, y0, y1⟩ := hib.mp rfl
  simp
  refine ⟨fun hn => no fun t h1 h2 _ _ _ => ?_, fun hp => ?_⟩
  · simp [tpD] at h1
    refine hn ?_
    rw [h1.1, h1.2.1]; exact h2
  obtain ⟨u, hu⟩ : ∃ u, lefts.getD x.toNat 0 = u := ⟨_, rfl⟩
  obtain ⟨v, hv⟩ : ∃ v, rights.getD y.toNat 0 = v := ⟨_, rfl⟩
  have A1 := atI_ints x0 (show x < lefts.length by omega)
  have A2 := atI_ints y0 (show y < rights.length by omega)
  rw [hu] at A1
  rw [hv] at A2
  obtain ⟨bc, hc, hic⟩ := is_whole (d := c) (a := 1) (b := if v < u then v else u) kc
  simp [A1, A2, hc]
  refine hJ bc ?_
  rw [hic]
  constructor
  · rintro ⟨i, rfl, i1, i2⟩
    refine ⟨(x, y, i), rfl, hp, i1, ?_, ?_⟩
    · show i ≤ lefts.getD x.toNat 0
      rw [hu]
      split at i2 <;> omega
    · show i ≤ rights.getD y.toNat 0
      rw [hv]
      split at i2 <;> omega
  · rintro ⟨t, h1, h2, h3, h4, h5⟩
    simp [tpD] at h1
    obtain ⟨rfl, rfl, rfl⟩ := h1
    rw [hu] at h4
    rw [hv] at h5
    exact ⟨t.2.2, rfl, h3, by split <;> omega⟩
end W

set_option autoImplicit false
set_option Elab.async false
set_option linter.all false
set_option maxRecDepth 100000
namespace W
open PySem PySem.Spec PyProof.Rows L2 DL
theorem minDef_nn : ∀ {ns : List Int}, 0 ≤ KX.minDef ns 0 ↔ ∀ x ∈ ns, 0 ≤ x
  | [] => by simp [KX.minDef]
  | n :: r => by
    obtain ⟨h1, h2, h3⟩ := KX.foldl_min r n
    show 0 ≤ r.foldl min n ↔ _
    constructor
    · intro h x hx
      rcases List.mem_cons.mp hx with rfl | hx
      · omega
      · have := h3 x hx; omega
    · intro h
      rcases h1 with e | e
      · rw [e]; exact h n List.mem_cons_self
      · exact h _ (List.mem_cons_of_mem _ e)
theorem getD_set {ns : List Int} {i j : Nat} {v : Int} (h : i < ns.length) : (ns.set i v).getD j 0 = if i = j then v else ns.getD j 0 := by
  rw [List.getD_eq_getElem?_getD, List.getD_eq_getElem?_getD]
  by_cases e : i = j
  · subst e; rw [List.getElem?_set_self h, if_pos rfl]; rfl
  · rw [List.getElem?_set_ne e, if_neg e]
/-- how far the loop is -/
def Bef (pairs : List (Int × Int)) (ts : List Tp) (bef : Int × Int) : Prop := (∀ s ∈ ts, key s = bef ∨ lt2 (key s) bef) ∧ (bef = (-1, -1) ∨ ∃ s ∈ ts, key s = bef)
theorem lt2_trans {a b c : Int × Int} (h : lt2 a b) (k : lt2 b c) : lt2 a c := by unfold lt2 at *; omega
theorem Good.snoc {pairs : List (Int × Int)} {ts : List Tp} {t : Tp} {bef : Int × Int} (h : Good pairs ts) (hb : Bef pairs ts bef) (h1 : key t ∈ pairs) (h2 : 1 ≤ t.2.2) (h3 : le2 (key t) bef = false) : Good pairs (ts ++ [t]) ∧ Bef pairs (ts ++ [t]) (key t) := by
  have hl := le2_lt2.mp h3
  have all : ∀ s ∈ ts, lt2 (key s) (key t) := fun s hs => by
    rcases hb.1 s hs with e | e
    · rw [e]; exact hl
    · exact lt2_trans e hl
  refine ⟨⟨fun s hs => ?_, List.pairwise_append.mpr ⟨h.2, by simp, fun a ha b hb => by simp at hb; subst hb; exact all a ha⟩⟩, fun s hs => ?_, .inr ⟨t, by simp, rfl⟩⟩
  · rcases List.mem_append.mp hs with hs | hs
    · exact h.1 s hs
    · simp at hs; subst hs; exact ⟨h1, h2⟩
  · rcases List.mem_append.mp hs with hs | hs
    · exact .inr (all s hs)
    · simp at hs; subst hs; exact .inl rfl
/-- what is in order stands behind what was last -/
theorem Bef.late {pairs : List (Int × Int)} {ts : List Tp} {t : Tp} {bef : Int × Int} {l r : Int} (hb : Bef pairs ts bef) (hin : ∀ p ∈ pairs, 0 ≤ p.1 ∧ p.1 < l ∧ 0 ≤ p.2 ∧ p.2 < r) (h1 : key t ∈ pairs) (h2 : ∀ s ∈ ts, lt2 (key s) (key t)) : le2 (key t) bef = false := by
  rw [le2_lt2]
  rcases hb.2 with rfl | ⟨s, hs, rfl⟩
  · have := hin _ h1
    unfold lt2; simp only; omega
  · exact h2 s hs
def RestL (lefts lr : List Int) (ts : List Tp) : Prop := lr.length = lefts.length ∧ ∀ i : Nat, i < lefts.length → lr.getD i 0 = lefts.getD i 0 - useL ts i
def RestR (rights rr : List Int) (ts : List Tp) : Prop := rr.length = rights.length ∧ ∀ i : Nat, i < rights.length → rr.getD i 0 = rights.getD i 0 - useR ts i
theorem RestL.snoc {lefts lr : List Int} {ts : List Tp} {t : Tp} (h : RestL lefts lr ts) (h0 : 0 ≤ t.1) (h1 : t.1 < lefts.length) : RestL lefts (lr.set t.1.toNat (lr.getD t.1.toNat 0 - t.2.2)) (ts ++ [t]) := by
  refine ⟨by rw [List.length_set]; exact h.1, fun i hi => ?_⟩
  rw [getD_set (by rw [h.1]; omega), useL_snoc]
  by_cases e : t.1.toNat = i
  · rw [if_pos e, if_pos (by omega), h.2 _ (by omega), ← e]; omega
  · rw [if_neg e, if_neg (by omega), h.2 i hi]; omega
theorem RestR.snoc {lefts lr : List Int} {ts : List Tp} {t : Tp} (h : RestR lefts lr ts) (h0 : 0 ≤ t.2.1) (h1 : t.2.1 < lefts.length) : RestR lefts (lr.set t.2.1.toNat (lr.getD t.2.1.toNat 0 - t.2.2)) (ts ++ [t]) := by
  refine ⟨by rw [List.length_set]; exact h.1, fun i hi => ?_⟩
  rw [getD_set (by rw [h.1]; omega), useR_snoc]
  by_cases e : t.2.1.toNat = i
  · rw [if_pos e, if_pos (by omega), h.2 _ (by omega), ← e]; omega
  · rw [if_neg e, if_neg (by omega), h.2 i hi]; omega
theorem nn_getD {ns : List Int} : (∀ x ∈ ns, 0 ≤ x) ↔ ∀ i : Nat, i < ns.length → 0 ≤ ns.getD i 0 := by
  constructor
  · intro h i hi
    rw [List.getD_eq_getElem?_getD, List.getElem?_eq_getElem hi]
    exact h _ (List.getElem_mem hi)
  · intro h x hx
    obtain ⟨i, hi, rfl⟩ := List.getElem_of_mem hx
    have := h i hi
    rw [List.getD_eq_getElem?_getD, List.getElem?_eq_getElem hi] at this
    exact this
theorem RestL.end {lefts lr : List Int} {ts : List Tp} (h : RestL lefts lr ts) : 0 ≤ KX.minDef lr 0 ↔ ∀ i : Nat, i < lefts.length → useL ts i ≤ lefts.getD i 0 := by
  rw [minDef_nn, nn_getD, h.1]
  exact ⟨fun k i hi => by have := k i hi; rw [h.2 i hi] at this; omega, fun k i hi => by rw [h.2 i hi]; have := k i hi; omega⟩
theorem RestR.end {lefts lr : List Int} {ts : List Tp} (h : RestR lefts lr ts) : 0 ≤ KX.minDef lr 0 ↔ ∀ i : Nat, i < lefts.length → useR ts i ≤ lefts.getD i 0 := by
  rw [minDef_nn, nn_getD, h.1]
  exact ⟨fun k i hi => by have := k i hi; rw [h.2 i hi] at this; omega, fun k i hi => by rw [h.2 i hi]; have := k i hi; omega⟩
theorem PackOk_lst {lefts rights : List Int} {pairs : List (Int × Int)} {ts : List Tp} : PackOk lefts rights pairs (.lst (ts.map tpD)) ↔ PackT lefts rights pairs ts := by
  constructor
  · rintro ⟨as, e, h⟩
    simp only [D.lst.injEq] at e
    rw [tp_inj e]; exact h
  · exact fun h => ⟨ts, rfl, h⟩
theorem is_pair_packing {lefts rights : List Int} {pairs : List (Int × Int)} {d : D} (hin : ∀ p ∈ pairs, 0 ≤ p.1 ∧ p.1 < lefts.length ∧ 0 ≤ p.2 ∧ p.2 < rights.length) (hd : KnP d) :
    BoolIs (f_is_pair_packing [.lst (lefts.map .int), .lst (rights.map .int), .lst (pairs.map ipD), d]) [.lst (lefts.map .int), .lst (rights.map .int), .lst (pairs.map ipD), d] (PackOk lefts rights pairs d) := by
  refine BoolIs.of fun J hJ => ?_
  unfold m_is_pair_packing
  have notL : (∀ ds, d ≠ .lst ds) → J 0 (.bl false) := fun h => hJ false (by
    simp
    rintro ⟨ts, rfl, _⟩
    exact h _ rfl)
  have hd0 := hd
  obtain ⟨⟨t, ht⟩, hl⟩ := hd0
  cases d <;> simp at ht <;> simp [isTyB_eq]
  case lst ds =>
    refine WS_forB (fun k e => ∃ (ts : List Tp) (bef : Int × Int) (lr rr : List Int), ds.take k = ts.map tpD ∧ Good pairs ts ∧ Bef pairs ts bef ∧ RestL lefts lr ts ∧ RestR rights rr ts ∧
      e = [some (0, .lst (lefts.map .int)), some (0, .lst (rights.map .int)), some (0, .lst (pairs.map ipD)), some (0, .lst ds), some (1, .lst (lr.map .int)), some (1, .lst (rr.map .int)), some (0, .tup [.int bef.1, .int bef.2]), none]) ?_ ?_ ?_
    · exact ⟨[], (-1, -1), lefts, rights, by simp, ⟨by simp, .nil⟩, ⟨by simp, .inl rfl⟩, ⟨rfl, fun i _ => by simp [useL]⟩, ⟨rfl, fun i _ => by simp [useR]⟩, rfl⟩
    · rintro K hK j d e hj ⟨ts, bef, lr, rr, h1, h2, h3, h4, h5, rfl⟩
      obtain ⟨b, hb, hi⟩ := is_triple (d := d) hin (hl ds rfl d (List.mem_of_getElem? hj))
      simp [hb]
      refine ⟨fun e => hJ false ?_, fun e => ?_⟩
      · subst e
        refine ⟨by simp, fun p => ?_⟩
        obtain ⟨t, rfl, a1, a2, a3, a4, _⟩ := p.at hin hj h1
        exact absurd (hi.mpr ⟨t, rfl, a1, a2, a3, a4⟩) (by simp)
      subst e
      obtain ⟨t, rfl, a1, a2, a3, a4⟩ := hi.mp rfl
      have hk := hin _ a1
      simp only [key] at hk
      simp [tpD]
      refine ⟨fun e => hJ false ⟨by simp, fun p => ?_⟩, fun e => ?_⟩
      · obtain ⟨t', e', _, _, _, _, b5⟩ := p.at hin hj h1
        have : t = t' := by have := tp_inj (as := [t]) (bs := [t']) (by simp [e']); simpa using this
        subst this
        have := h3.late hin a1 b5
        simp [key] at this
        rw [this] at e; cases e
      · simp [tmpE, tmp1, backE, back1, okL, okL1, closedM, atI_ints hk.1 (show t.1 < lr.length by rw [h4.1]; omega), atI_ints hk.2.2.1 (show t.2.1 < rr.length by rw [h5.1]; omega), flatT]
        rw [putD_ints hk.1 (by rw [h4.1]; omega)]
        simp [tmpE, tmp1, backE, back1, okL, okL1, closedM, flatT, atI_ints hk.2.2.1 (show t.2.1 < rr.length by rw [h5.1]; omega)]
        rw [putD_ints hk.2.2.1 (by rw [h5.1]; omega)]
        simp
        obtain ⟨g1, g2⟩ := h2.snoc h3 a1 a2 e
        exact hK _ _ ⟨ts ++ [t], key t, _, _, by rw [take_get hj, h1]; simp [tpD], g1, g2, h4.snoc hk.1 hk.2.1, h5.snoc hk.2.2.1 hk.2.2.2, by simp [List.map_set, key]⟩
    · rintro e ⟨ts, bef, lr, rr, h1, h2, h3, h4, h5, rfl⟩
      simp at h1
      subst h1
      simp
      refine ⟨fun e1 => hJ _ ?_, fun e1 => hJ false ⟨by simp, fun p => ?_⟩⟩
      · rw [PackOk_lst]
        simp only [decide_eq_true_eq]
        rw [h5.end]
        exact ⟨fun k => ⟨h2, h4.end.mp e1, k⟩, fun k => k.2.2⟩
      · rw [PackOk_lst] at p
        have := h4.end.mpr p.2.1
        omega
  all_goals exact notL (by simp)
def UsedL (lefts lu : List Int) (ts : List Tp) : Prop := lu.length = lefts.length ∧ ∀ i : Nat, i < lefts.length → lu.getD i 0 = useL ts i
def UsedR (rights ru : List Int) (ts : List Tp) : Prop := ru.length = rights.length ∧ ∀ i : Nat, i < rights.length → ru.getD i 0 = useR ts i
theorem UsedL.snoc {lefts lr : List Int} {ts : List Tp} {t : Tp} (h : UsedL lefts lr ts) (h0 : 0 ≤ t.1) (h1 : t.1 < lefts.length) : UsedL lefts (lr.set t.1.toNat (lr.getD t.1.toNat 0 + t.2.2)) (ts ++ [t]) := by
  refine ⟨by rw [List.length_set]; exact h.1, fun i hi => ?_⟩
  rw [getD_set (by rw [h.1]; omega), useL_snoc]
  by_cases e : t.1.toNat = i
  · rw [if_pos e, if_pos (by omega), h.2 _ (by omega), ← e]
  · rw [if_neg e, if_neg (by omega), h.2 i hi]; omega
theorem UsedR.snoc {lefts lr : List Int} {ts : List Tp} {t : Tp} (h : UsedR lefts lr ts) (h0 : 0 ≤ t.2.1) (h1 : t.2.1 < lefts.length) : UsedR lefts (lr.set t.2.1.toNat (lr.getD t.2.1.toNat 0 + t.2.2)) (ts ++ [t]) := by
  refine ⟨by rw [List.length_set]; exact h.1, fun i hi => ?_⟩
  rw [getD_set (by rw [h.1]; omega), useR_snoc]
  by_cases e : t.2.1.toNat = i
  · rw [if_pos e, if_pos (by omega), h.2 _ (by omega), ← e]
  · rw [if_neg e, if_neg (by omega), h.2 i hi]; omega
theorem cut2 {a b c : D} : cutD [a, b, c] none (some 2) = [a, b] := rfl
theorem law_is_packing {lefts rights : List Int} {pairs : List (Int × Int)} {d : D} (hL : lefts.length ≤ 24) (hR : rights.length ≤ 24) (hin : ∀ p ∈ pairs, 0 ≤ p.1 ∧ p.1 < lefts.length ∧ 0 ≤ p.2 ∧ p.2 < rights.length) (hd : KnP d) :
    BoolIs (f__law_is_packing [.lst (lefts.map .int), .lst (rights.map .int), .lst (pairs.map ipD), d]) [.lst (lefts.map .int), .lst (rights.map .int), .lst (pairs.map ipD), d] (PackOk lefts rights pairs d) := by
  refine BoolIs.of fun J hJ => ?_
  unfold m__law_is_packing
  have notL : (∀ ds, d ≠ .lst ds) → J 0 (.bl false) := fun h => hJ false (by
    simp
    rintro ⟨ts, rfl, _⟩
    exact h _ rfl)
  have hd0 := hd
  obtain ⟨⟨t, ht⟩, hl⟩ := hd0
  have m1 := mulD_zeros (show lefts.length ≤ 16777216 by omega)
  have m2 := mulD_zeros (show rights.length ≤ 16777216 by omega)
  generalize hu0 : List.replicate lefts.length (0 : Int) = u0 at m1
  generalize hv0 : List.replicate rights.length (0 : Int) = v0 at m2
  cases d <;> simp at ht <;> simp [isTyB_eq, m1, m2]
  case lst ds =>
    subst hu0
    subst hv0
    refine WS_forB (fun k e => ∃ (ts : List Tp) (bef : Int × Int) (lu ru : List Int), ds.take k = ts.map tpD ∧ Good pairs ts ∧ Bef pairs ts bef ∧ UsedL lefts lu ts ∧ UsedR rights ru ts ∧
      e = [some (0, .lst (lefts.map .int)), some (0, .lst (rights.map .int)), some (0, .lst (pairs.map ipD)), some (0, .lst ds), some (1, .lst (lu.map .int)), some (1, .lst (ru.map .int)), some (0, .tup [.int bef.1, .int bef.2]), none, none, none]) ?_ ?_ ?_
    · exact ⟨[], (-1, -1), List.replicate lefts.length 0, List.replicate rights.length 0, by simp, ⟨by simp, .nil⟩, ⟨by simp, .inl rfl⟩, ⟨by simp, fun i hi => by simp [useL, hi]⟩, ⟨by simp, fun i hi => by simp [useR, hi]⟩, by simp⟩
    · rintro K hK j d e hj ⟨ts, bef, lu, ru, h1, h2, h3, h4, h5, rfl⟩
      have kd := hl ds rfl d (List.mem_of_getElem? hj)
      have no : (∀ t, d = tpD t → key t ∈ pairs → 1 ≤ t.2.2 → (∀ s ∈ ts, lt2 (key s) (key t)) → False) → J 0 (.bl false) := fun h => hJ false ⟨by simp, fun p => by
        obtain ⟨t, e, a1, a2, _, _, a5⟩ := p.at hin hj h1
        exact (h t e a1 a2 a5).elim⟩
      have kd0 := kd
      obtain ⟨⟨t, ht⟩, kt⟩ := kd0
      cases d <;> simp at ht <;> simp [isTyB_eq]
      case tup es =>
        refine ⟨fun h => no fun t e _ _ _ => ?_, fun h => ?_⟩
        · cases e; simp at h
        obtain ⟨a, b, c, rfl⟩ := three_of (ds := es) (by omega)
        obtain ⟨ba, ha, hia⟩ := whole (kt _ rfl a (by simp))
        obtain ⟨bb, hb, hib⟩ := whole (kt _ rfl b (by simp))
        obtain ⟨bc, hc, hic⟩ := whole (kt _ rfl c (by simp))
        simp [ha, hb, hc]
        refine ⟨fun e => no fun t e' _ _ _ => ?_, fun e => ?_⟩
        · subst e
          simp [tpD] at e'
          exact absurd (hic.mpr ⟨_, e'.2.2⟩) (by simp)
        subst e
        obtain ⟨m, rfl⟩ := hic.mp rfl
        simp
        refine ⟨fun h => no fun t e' _ h2 _ => ?_, fun h => ?_⟩
        · simp [tpD] at e'; omega
        simp [ha]
        refine ⟨fun e => no fun t e' _ _ _ => ?_, fun e => ?_⟩
        · subst e
          simp [tpD] at e'
          exact absurd (hia.mpr ⟨_, e'.1⟩) (by simp)
        subst e
        obtain ⟨x, rfl⟩ := hia.mp rfl
        simp [hb]
        refine ⟨fun e => no fun t e' _ _ _ => ?_, fun e => ?_⟩
        · subst e
          simp [tpD] at e'
          exact absurd (hib.mpr ⟨_, e'.2.1⟩) (by simp)
        subst e
        obtain ⟨y, rfl⟩ := hib.mp rfl
        simp [cut2]
        refine ⟨fun hn => no fun t e' h1 _ _ => ?_, fun hp => ?_⟩
        · simp [tpD] at e'
          refine hn ?_
          rw [e'.1, e'.2.1]; exact h1
        have hk := hin _ hp
        simp only at hk
        refine ⟨fun e => no fun t e' a1 _ a5 => ?_, fun e => ?_⟩
        · simp [tpD] at e'
          have := h3.late hin a1 a5
          simp only [key] at this
          rw [← e'.1, ← e'.2.1] at this
          rw [this] at e; cases e
        simp [tmpE, tmp1, backE, back1, okL, okL1, closedM, flatT, atI_ints hk.1 (show x < lu.length by rw [h4.1]; omega)]
        rw [putD_ints hk.1 (by rw [h4.1]; omega)]
        simp [tmpE, tmp1, backE, back1, okL, okL1, closedM, flatT, atI_ints hk.2.2.1 (show y < ru.length by rw [h5.1]; omega)]
        rw [putD_ints hk.2.2.1 (by rw [h5.1]; omega)]
        simp
        obtain ⟨g1, g2⟩ := h2.snoc (t := (x, y, m)) h3 hp (by omega) e
        exact hK _ _ ⟨ts ++ [(x, y, m)], (x, y), _, _, by rw [take_get hj, h1]; simp [tpD], g1, g2, h4.snoc hk.1 hk.2.1, h5.snoc hk.2.2.1 hk.2.2.2, by simp [List.map_set]⟩
      all_goals exact no fun t e _ _ _ => by cases e
    · rintro e ⟨ts, bef, lu, ru, h1, h2, h3, h4, h5, rfl⟩
      simp at h1
      subst h1
      simp [rng1_nat (show (0 : Int) ≤ lefts.length by omega) (by omega)]
      refine WS_forB (fun k e => (∀ i : Nat, i < k → useL ts i ≤ lefts.getD i 0) ∧
        e = [some (0, .lst (lefts.map .int)), some (0, .lst (rights.map .int)), some (0, .lst (pairs.map ipD)), some (0, .lst (ts.map tpD)), some (1, .lst (lu.map .int)), some (1, .lst (ru.map .int)), some (0, .tup [.int bef.1, .int bef.2]), none, none, none]) ?_ ?_ ?_
      · exact ⟨fun i hi => absurd hi (Nat.not_lt_zero _), rfl⟩
      · rintro K hK j d e hj ⟨k1, rfl⟩
        obtain ⟨hjL, rfl⟩ := rangeD_get hj
        have f1 := atI_ints (ns := lu) (i := (j : Int)) (by omega) (by rw [h4.1]; omega)
        have f2 := atI_ints (ns := lefts) (i := (j : Int)) (by omega) (by omega)
        rw [Int.toNat_natCast] at f1 f2
        rw [h4.2 j hjL] at f1
        simp [tmpE, tmp1, backE, back1, okL, okL1, f1, f2]
        refine ⟨fun h => hJ false ⟨by simp, fun p => ?_⟩, fun h => hK _ _ ⟨fun i hi => ?_, rfl⟩⟩
        · have := (PackOk_lst.mp p).2.1 j hjL
          rw [List.getD_eq_getElem?_getD] at this
          omega
        · rcases Nat.lt_succ_iff_lt_or_eq.mp hi with hi | rfl
          · exact k1 i hi
          · rw [List.getD_eq_getElem?_getD]; omega
      · rintro e ⟨k1, rfl⟩
        simp [rng1_nat (show (0 : Int) ≤ rights.length by omega) (by omega)] at k1 ⊢
        refine WS_forB (fun k e => (∀ i : Nat, i < k → useR ts i ≤ rights.getD i 0) ∧
          e = [some (0, .lst (lefts.map .int)), some (0, .lst (rights.map .int)), some (0, .lst (pairs.map ipD)), some (0, .lst (ts.map tpD)), some (1, .lst (lu.map .int)), some (1, .lst (ru.map .int)), some (0, .tup [.int bef.1, .int bef.2]), none, none, none]) ?_ ?_ ?_
        · exact ⟨fun i hi => absurd hi (Nat.not_lt_zero _), rfl⟩
        · rintro K hK j d e hj ⟨k2, rfl⟩
          obtain ⟨hjL, rfl⟩ := rangeD_get hj
          have f1 := atI_ints (ns := ru) (i := (j : Int)) (by omega) (by rw [h5.1]; omega)
          have f2 := atI_ints (ns := rights) (i := (j : Int)) (by omega) (by omega)
          rw [Int.toNat_natCast] at f1 f2
          rw [h5.2 j hjL] at f1
          simp [tmpE, tmp1, backE, back1, okL, okL1, f1, f2]
          refine ⟨fun h => hJ false ⟨by simp, fun p => ?_⟩, fun h => hK _ _ ⟨fun i hi => ?_, rfl⟩⟩
          · have := (PackOk_lst.mp p).2.2 j hjL
            rw [List.getD_eq_getElem?_getD] at this
            omega
          · rcases Nat.lt_succ_iff_lt_or_eq.mp hi with hi | rfl
            · exact k2 i hi
            · rw [List.getD_eq_getElem?_getD]; omega
        · rintro e ⟨k2, rfl⟩
          simp at k2 ⊢
          refine hJ true ?_
          rw [PackOk_lst]
          exact ⟨fun _ => ⟨h2, fun i hi => by rw [List.getD_eq_getElem?_getD]; exact k1 i hi, fun i hi => by rw [List.getD_eq_getElem?_getD]; exact k2 i hi⟩, fun _ => rfl⟩
  all_goals exact notL (by simp)
end W

set_option autoImplicit false
set_option Elab.async false
set_option linter.all false
set_option maxRecDepth 100000
namespace W
open PySem PySem.Spec PyProof.Rows L2 DL
/-- what _law_same can look through -/
def okS : Nat → D → Bool
  | _, .non => true
  | _, .bl _ => true
  | _, .int _ => true
  | _, .str _ => true
  | n + 1, .lst ds => decide (ds.length ≤ 16777216) && ds.all (okS n)
  | n + 1, .tup ds => decide (ds.length ≤ 16777216) && ds.all (okS n)
  | _, _ => false
theorem same_seq {n : Nat} {ds : List D} (hl : ds.length ≤ 16777216) (ih : ∀ d ∈ ds, f__law_same (n + 1) [d, d] = .ret 0 (.bl true) [d, d]) {d : D} (hd : d = .lst ds ∨ d = .tup ds) {Q : Post} (hq : Q.nx [some (0, d), some (0, d), none]) :
    WS (mForL (gN 2) [2] (mIf (mNot (mTru (mCall [0, 0] (f__law_same (n + 1)) [.ex (mOp2 idxD (mVar 0) (mVar 2)), .ex (mOp2 idxD (mVar 1) (mVar 2))]))) (mRet (mC (.bl false))) mSkip) (rangeD 0 ds.length) [some (0, d), some (0, d), none]) Q := by
  refine WS_forB (fun k e => e = [some (0, d), some (0, d), none]) rfl ?_ ?_
  · rintro K hK j x e hj rfl
    obtain ⟨hjl, rfl⟩ := rangeD_get hj
    have ha := atI_nat hjl
    have hi := ih ds[j] (List.getElem_mem hjl)
    rcases hd with rfl | rfl <;> simp [ha, hi] <;> exact hK _ _ rfl
  · rintro e rfl
    exact hq
theorem eqD_bl {a b : Bool} : eqD (.bl a) (.bl b) = some (a == b) := rfl
theorem eqD_str {a b : Str} : eqD (.str a) (.str b) = some (a == b) := rfl
theorem isD_non {a : D} (h : ∀ b, a ≠ .bl b) : isD a .non = some (isNonD a) := by
  cases a <;> first | rfl | exact absurd rfl (h _)
theorem isD_bln {a : Bool} : isD (.bl a) .non = some false := rfl
set_option maxHeartbeats 4000000 in
theorem same_refl : ∀ (n : Nat) (d : D), okS n d = true → f__law_same (n + 1) [d, d] = .ret 0 (.bl true) [d, d] := by
  intro n
  induction n with
  | zero =>
    intro d h
    suffices h : ∃ m r, f__law_same 1 [d, d] = .ret m r [d, d] ∧ (m = 0 ∧ r = .bl true) by
      obtain ⟨m, r, e, rfl, rfl⟩ := h; exact e
    refine fn_ret ?_
    unfold m__law_same
    cases d <;> simp [okS] at h <;> simp [isTyB_eq, isD_non, isD_bln, isNonD, eqD_bl, eqD_str]
  | succ n ih =>
    intro d h
    suffices h : ∃ m r, f__law_same (n + 2) [d, d] = .ret m r [d, d] ∧ (m = 0 ∧ r = .bl true) by
      obtain ⟨m, r, e, rfl, rfl⟩ := h; exact e
    refine fn_ret ?_
    unfold m__law_same
    cases d <;> simp [okS] at h <;> simp [isTyB_eq, isD_non, isD_bln, isNonD, eqD_bl, eqD_str]
    case lst ds =>
      simp only [rng1_nat (show (0 : Int) ≤ ds.length by omega) (by omega), oP_some]
      exact same_seq h.1 (fun d hd => ih d (h.2 d hd)) (.inl rfl) (by simp)
    case tup ds =>
      simp only [rng1_nat (show (0 : Int) ≤ ds.length by omega) (by omega), oP_some]
      exact same_seq h.1 (fun d hd => ih d (h.2 d hd)) (.inr rfl) (by simp)
def getF (l : List Int) (d : D) : Option D := match isIn d with
  | some i => some (.int (l.getD i.toNat 0))
  | none => none
def wts (l c : List Int) : List Int := c.map fun i => l.getD i.toNat 0
theorem getF_map {l c : List Int} : (c.map D.int).filterMap (getF l) = (wts l c).map .int := by
  unfold wts
  rw [List.filterMap_map, fm_all (g := fun i : Int => D.int (l.getD i.toNat 0)), List.map_map]
  · rfl
  · intro i _; rfl
theorem cover_weight {lefts rights : List Int} {c0 c1 : List Int} (l0 : c0.length ≤ 24) (l1 : c1.length ≤ 24) (h0 : Asc lefts.length c0) (h1 : Asc rights.length c1) :
    f_cover_weight [.lst (lefts.map .int), .lst (rights.map .int), .tup [.lst (c0.map .int), .lst (c1.map .int)]] = .ret 0 (.int ((wts lefts c0).sum + (wts rights c1).sum)) [.lst (lefts.map .int), .lst (rights.map .int), .tup [.lst (c0.map .int), .lst (c1.map .int)]] := by
  suffices h : ∃ m r, f_cover_weight [.lst (lefts.map .int), .lst (rights.map .int), .tup [.lst (c0.map .int), .lst (c1.map .int)]] = .ret m r [.lst (lefts.map .int), .lst (rights.map .int), .tup [.lst (c0.map .int), .lst (c1.map .int)]] ∧ (m = 0 ∧ r = .int ((wts lefts c0).sum + (wts rights c1).sum)) by
    obtain ⟨m, r, e, rfl, rfl⟩ := h; exact e
  refine fn_ret ?_
  unfold m_cover_weight
  simp
  refine WE_compL (getF lefts) _ _ (by simp; omega) (fun d hd => ?_) ?_ (fun _ _ z => z)
  · obtain ⟨i, hi, rfl⟩ := List.mem_map.mp hd
    simp [getF, atI_ints (h0.2 i hi).1 (h0.2 i hi).2]
  rw [List.nil_append, getF_map]
  simp
  refine WE_compL (getF rights) _ _ (by simp; omega) (fun d hd => ?_) ?_ (fun _ _ z => z)
  · obtain ⟨i, hi, rfl⟩ := List.mem_map.mp hd
    simp [getF, atI_ints (h1.2 i hi).1 (h1.2 i hi).2]
  rw [List.nil_append, getF_map]
  simp
end W

set_option autoImplicit false
set_option Elab.async false
set_option linter.all false
set_option maxRecDepth 100000
/-! sums over the pairs; ways along which a flow grows -/
namespace W
open PySem PySem.Spec PyProof.Rows L2 DL
abbrev Pr := Int × Int
def lin (ps : List Pr) (c f : Pr → Int) : Int := (ps.map fun p => c p * f p).sum
theorem lin_nil (c f : Pr → Int) : lin [] c f = 0 := rfl
theorem lin_cons (p : Pr) (ps : List Pr) (c f : Pr → Int) : lin (p :: ps) c f = c p * f p + lin ps c f := by simp [lin]
theorem lin_congr {ps : List Pr} {c c' f f' : Pr → Int} (h : ∀ p ∈ ps, c p * f p = c' p * f' p) : lin ps c f = lin ps c' f' := by
  induction ps with
  | nil => rfl
  | cons p ps ih => rw [lin_cons, lin_cons, h p (by simp), ih fun q hq => h q (by simp [hq])]
theorem lin_mono {ps : List Pr} {c c' f : Pr → Int} (h : ∀ p ∈ ps, c p * f p ≤ c' p * f p) : lin ps c f ≤ lin ps c' f := by
  induction ps with
  | nil => exact Int.le_refl _
  | cons p ps ih => rw [lin_cons, lin_cons]; have := h p (by simp); have := ih fun q hq => h q (by simp [hq]); omega
theorem lin_tight {ps : List Pr} {c c' f : Pr → Int} (h : ∀ p ∈ ps, c p * f p ≤ c' p * f p) (e : lin ps c f = lin ps c' f) : ∀ p ∈ ps, c p * f p = c' p * f p := by
  induction ps with
  | nil => simp
  | cons p ps ih =>
    rw [lin_cons, lin_cons] at e
    have h1 := h p (by simp)
    have h2 := lin_mono (c := c) (c' := c') (f := f) fun q hq => h q (List.mem_cons_of_mem p hq)
    intro q hq
    rcases List.mem_cons.mp hq with rfl | hq
    · omega
    · exact ih (fun q hq => h q (by simp [hq])) (by omega) q hq
theorem lin_add (ps : List Pr) (c c' f : Pr → Int) : lin ps (fun p => c p + c' p) f = lin ps c f + lin ps c' f := by
  induction ps with
  | nil => rfl
  | cons p ps ih => rw [lin_cons, lin_cons, lin_cons, ih, Int.add_mul]; omega
theorem lin_zero (ps : List Pr) (f : Pr → Int) : lin ps (fun _ => 0) f = 0 := by
  induction ps with
  | nil => rfl
  | cons p ps ih => rw [lin_cons, ih]; simp
theorem lin_f0 (ps : List Pr) (c : Pr → Int) : lin ps c (fun _ => 0) = 0 := by
  induction ps with
  | nil => rfl
  | cons p ps ih => rw [lin_cons, ih]; simp
theorem lin_out {ps : List Pr} {p0 : Pr} (h : p0 ∉ ps) (c f : Pr → Int) (d : Int) : lin ps c (fun p => if p = p0 then f p + d else f p) = lin ps c f := lin_congr fun p hp => by
  rw [if_neg (fun e => h (by rw [← e]; exact hp))]
theorem lin_upd {ps : List Pr} {p0 : Pr} (nd : ps.Nodup) (h : p0 ∈ ps) (c f : Pr → Int) (d : Int) : lin ps c (fun p => if p = p0 then f p + d else f p) = lin ps c f + c p0 * d := by
  induction ps with
  | nil => simp at h
  | cons p ps ih =>
    obtain ⟨h1, h2⟩ := List.nodup_cons.mp nd
    rw [lin_cons, lin_cons]
    rcases List.mem_cons.mp h with e | h
    · subst e
      rw [if_pos rfl, lin_out h1, Int.mul_add]; omega
    · rw [if_neg (fun e => h1 (by rw [e]; exact h)), ih h2 h]; omega
def ind (b : Bool) : Int := if b then 1 else 0
def cL (i : Int) : Pr → Int := fun p => if p.1 = i then 1 else 0
def cR (j : Int) : Pr → Int := fun p => if p.2 = j then 1 else 0
theorem sum_linL (ps : List Pr) (f : Pr → Int) : ∀ {cs : List Int}, cs.Nodup → (cs.map fun i => lin ps (cL i) f).sum = lin ps (fun p => if p.1 ∈ cs then 1 else 0) f
  | [], _ => by simp [lin_zero]
  | i :: cs, h => by
    obtain ⟨h1, h2⟩ := List.nodup_cons.mp h
    rw [List.map_cons, List.sum_cons, sum_linL ps f h2, ← lin_add]
    refine lin_congr fun p _ => ?_
    congr 1
    unfold cL
    by_cases e : p.1 = i
    · rw [if_pos e, if_neg (by rw [e]; exact h1), if_pos (by rw [e]; simp)]; rfl
    · rw [if_neg e]
      by_cases e2 : p.1 ∈ cs
      · rw [if_pos e2, if_pos (by simp [e2])]; rfl
      · rw [if_neg e2, if_neg (by simp [e, e2])]; rfl
theorem sum_linR (ps : List Pr) (f : Pr → Int) : ∀ {cs : List Int}, cs.Nodup → (cs.map fun i => lin ps (cR i) f).sum = lin ps (fun p => if p.2 ∈ cs then 1 else 0) f
  | [], _ => by simp [lin_zero]
  | i :: cs, h => by
    obtain ⟨h1, h2⟩ := List.nodup_cons.mp h
    rw [List.map_cons, List.sum_cons, sum_linR ps f h2, ← lin_add]
    refine lin_congr fun p _ => ?_
    congr 1
    unfold cR
    by_cases e : p.2 = i
    · rw [if_pos e, if_neg (by rw [e]; exact h1), if_pos (by rw [e]; simp)]; rfl
    · rw [if_neg e]
      by_cases e2 : p.2 ∈ cs
      · rw [if_pos e2, if_pos (by simp [e2])]; rfl
      · rw [if_neg e2, if_neg (by simp [e, e2])]; rfl
theorem sum_tight {α : Type} {a b : α → Int} : ∀ {l : List α}, (∀ x ∈ l, a x ≤ b x) → (l.map a).sum ≤ (l.map b).sum ∧ ((l.map a).sum = (l.map b).sum → ∀ x ∈ l, a x = b x)
  | [], _ => by simp
  | x :: l, h => by
    have h1 := h x (by simp)
    obtain ⟨h2, h3⟩ := sum_tight (l := l) fun y hy => h y (by simp [hy])
    simp only [List.map_cons, List.sum_cons]
    refine ⟨by omega, fun e y hy => ?_⟩
    rcases List.mem_cons.mp hy with rfl | hy
    · omega
    · exact h3 (by omega) y hy
/-! ### ways -/
/-- a way back from a right place: rows (left, right, 1 or -1); its lefts stand before place n in the queue -/
inductive IsP (fr fl : List (Int × Int)) (q : List Int) : Nat → Int → List Tp → Int → Prop
  | last {n k : Nat} {j i : Int} : dlook fl j = some i → q[k]? = some i → k < n → dlook fr i = some (-1) → IsP fr fl q n j [(i, j, 1)] i
  | step {n k : Nat} {j i j' st : Int} {rest : List Tp} : dlook fl j = some i → q[k]? = some i → k < n → dlook fr i = some j' → 0 ≤ j' → IsP fr fl q k j' rest st → IsP fr fl q n j ((i, j, 1) :: (i, j', -1) :: rest) st
def psum (c : Pr → Int) (path : List Tp) : Int := (path.map fun t => t.2.2 * c (key t)).sum
theorem psum_nil (c : Pr → Int) : psum c [] = 0 := rfl
theorem psum_cons (c : Pr → Int) (t : Tp) (l : List Tp) : psum c (t :: l) = t.2.2 * c (key t) + psum c l := by simp [psum]
section
variable {fr fl : List (Int × Int)} {q : List Int} {n : Nat} {j st : Int} {path : List Tp}
theorem cL_self (i j : Int) : cL i (i, j) = 1 := if_pos rfl
theorem cL_eq (i x j : Int) : cL i (x, j) = if x = i then 1 else 0 := rfl
theorem cR_eq (i x j : Int) : cR i (x, j) = if j = i then 1 else 0 := rfl
theorem IsP.left (h : IsP fr fl q n j path st) (i : Int) : psum (cL i) path = if st = i then 1 else 0 := by
  induction h with
  | last h1 h2 h3 h4 => rw [psum_cons, psum_nil]; show 1 * cL i (_, _) + 0 = _; rw [cL_eq]; omega
  | @step n k j i2 j' st rest h1 h2 h3 h4 h5 h6 ih => rw [psum_cons, psum_cons, ih]; show 1 * cL i (i2, j) + (-1 * cL i (i2, j') + _) = _; rw [cL_eq, cL_eq]; omega
theorem IsP.right (h : IsP fr fl q n j path st) (i : Int) : psum (cR i) path = if j = i then 1 else 0 := by
  induction h with
  | last h1 h2 h3 h4 => rw [psum_cons, psum_nil, key]; show 1 * (if _ = i then (1 : Int) else 0) + 0 = _; rw [Int.one_mul, Int.add_zero]
  | @step n k j i2 j' st rest h1 h2 h3 h4 h5 h6 ih => rw [psum_cons, psum_cons, ih]; show 1 * cR i (i2, j) + (-1 * cR i (i2, j') + _) = _; rw [cR_eq, cR_eq]; omega
theorem IsP.all (h : IsP fr fl q n j path st) {ps : List Pr} {f : Pr → Int} (hf : ∀ j i, dlook fl j = some i → (i, j) ∈ ps) (hr : ∀ i j, dlook fr i = some j → 0 ≤ j → (i, j) ∈ ps ∧ 0 < f (i, j)) : ∀ t ∈ path, key t ∈ ps ∧ (t.2.2 = 1 ∨ (t.2.2 = -1 ∧ 0 < f (key t))) := by
  induction h with
  | last h1 h2 h3 h4 => intro t ht; simp at ht; subst ht; exact ⟨hf _ _ h1, .inl rfl⟩
  | step h1 h2 h3 h4 h5 h6 ih =>
    intro t ht
    rcases List.mem_cons.mp ht with rfl | ht
    · exact ⟨hf _ _ h1, .inl rfl⟩
    rcases List.mem_cons.mp ht with rfl | ht
    · exact ⟨(hr _ _ h4 h5).1, .inr ⟨rfl, (hr _ _ h4 h5).2⟩⟩
    · exact ih t ht
theorem IsP.idx (h : IsP fr fl q n j path st) : ∀ t ∈ path, ∃ k, k < n ∧ q[k]? = some t.1 := by
  induction h with
  | last h1 h2 h3 h4 => intro t ht; simp at ht; subst ht; exact ⟨_, h3, h2⟩
  | step h1 h2 h3 h4 h5 h6 ih =>
    intro t ht
    rcases List.mem_cons.mp ht with rfl | ht
    · exact ⟨_, h3, h2⟩
    rcases List.mem_cons.mp ht with rfl | ht
    · exact ⟨_, h3, h2⟩
    · obtain ⟨k, h7, h8⟩ := ih t ht
      exact ⟨k, by omega, h8⟩
theorem psum_zero {c : Pr → Int} : ∀ {l : List Tp}, (∀ t ∈ l, c (key t) = 0) → psum c l = 0
  | [], _ => rfl
  | t :: l, h => by rw [psum_cons, h t (by simp), psum_zero fun s hs => h s (by simp [hs])]; simp
theorem nodup_idx {q : List Int} (nd : q.Nodup) {k k' : Nat} {i : Int} (h : q[k]? = some i) (h' : q[k']? = some i) : k = k' := by
  obtain ⟨l1, e1⟩ := List.getElem?_eq_some_iff.mp h
  obtain ⟨l2, e2⟩ := List.getElem?_eq_some_iff.mp h'
  rcases Nat.lt_trichotomy k k' with hlt | hlt | hlt
  · exact absurd (by rw [e1, e2]) (List.pairwise_iff_getElem.mp nd k k' l1 l2 hlt)
  · exact hlt
  · exact absurd (by rw [e1, e2]) (List.pairwise_iff_getElem.mp nd k' k l2 l1 hlt)
def cE (p : Pr) : Pr → Int := fun r => if r = p then 1 else 0
theorem cE_eq {p r : Pr} (h : r = p) : cE p r = 1 := if_pos h
theorem cE_ne {p r : Pr} (h : r ≠ p) : cE p r = 0 := if_neg h
theorem cE_01 (p r : Pr) : cE p r = 0 ∨ cE p r = 1 := by
  by_cases h : r = p
  · exact .inr (cE_eq h)
  · exact .inl (cE_ne h)
theorem IsP.once (h : IsP fr fl q n j path st) (nd : q.Nodup) (p : Pr) : -1 ≤ psum (cE p) path ∧ (psum (cE p) path < 0 → ∃ t ∈ path, key t = p ∧ t.2.2 = -1) := by
  induction h with
  | @last n k j i h1 h2 h3 h4 =>
    rw [psum_cons, psum_nil]
    show -1 ≤ 1 * cE p (i, j) + 0 ∧ (1 * cE p (i, j) + 0 < 0 → _)
    have := cE_01 p (i, j)
    exact ⟨by omega, fun h => by omega⟩
  | @step n k j i j' st rest h1 h2 h3 h4 h5 h6 ih =>
    rw [psum_cons, psum_cons]
    show -1 ≤ 1 * cE p (i, j) + (-1 * cE p (i, j') + psum (cE p) rest) ∧ (1 * cE p (i, j) + (-1 * cE p (i, j') + psum (cE p) rest) < 0 → _)
    by_cases hp : p.1 = i
    · have hz : psum (cE p) rest = 0 := psum_zero fun t ht => by
        obtain ⟨k', h7, h8⟩ := h6.idx t ht
        refine cE_ne fun e => ?_
        have : t.1 = i := by rw [← hp, ← e]; rfl
        rw [this] at h8
        have := nodup_idx nd h2 h8
        omega
      rw [hz]
      have c1 := cE_01 p (i, j)
      by_cases e : ((i, j') : Pr) = p
      · rw [cE_eq e]
        exact ⟨by omega, fun _ => ⟨(i, j', -1), by simp, e, rfl⟩⟩
      · rw [cE_ne e]
        exact ⟨by omega, fun h => by omega⟩
    · rw [cE_ne (r := (i, j)) fun e => hp (by rw [← e]), cE_ne (r := (i, j')) fun e => hp (by rw [← e])]
      refine ⟨by have := ih.1; omega, fun h => ?_⟩
      obtain ⟨t, ht, h7⟩ := ih.2 (by omega)
      exact ⟨t, by simp [ht], h7⟩
theorem IsP.ends (h : IsP fr fl q n j path st) : (∃ x r, path = (x, j, 1) :: r) ∧ (∃ r y, path = r ++ [(st, y, 1)]) ∧ dlook fr st = some (-1) ∧ ∃ k : Nat, q[k]? = some st := by
  induction h with
  | @last n k j i h1 h2 h3 h4 => exact ⟨⟨i, [], rfl⟩, ⟨[], j, rfl⟩, h4, _, h2⟩
  | @step n k j i j' st rest h1 h2 h3 h4 h5 h6 ih =>
    obtain ⟨_, ⟨r, y, e⟩, h7⟩ := ih
    exact ⟨⟨i, _, rfl⟩, ⟨(i, j, 1) :: (i, j', -1) :: r, y, by rw [e]; rfl⟩, h7⟩
theorem IsP.len (h : IsP fr fl q n j path st) : path.length ≤ 2 * n := by
  induction h with
  | last h1 h2 h3 h4 => simp; omega
  | step h1 h2 h3 h4 h5 h6 ih => simp only [List.length_cons]; omega
end
/-! ### the flow along a way -/
def fv (l : List (Pr × Int)) (p : Pr) : Int := (dlook l p).getD 0
theorem fv_put (l : List (Pr × Int)) (p : Pr) (v : Int) (r : Pr) : fv (dput l p v) r = if r = p then v else fv l r := by
  unfold fv
  rw [dlook_dput]
  split <;> rfl
def along (amt : Int) : List Tp → List (Pr × Int) → List (Pr × Int)
  | [], l => l
  | t :: ts, l => along amt ts (dput l (key t) (fv l (key t) + t.2.2 * amt))
theorem along_keys {amt : Int} : ∀ {ts : List Tp} {l : List (Pr × Int)} {ps : List Pr}, l.map (·.1) = ps → (∀ t ∈ ts, key t ∈ ps) → (along amt ts l).map (·.1) = ps
  | [], _, _, h, _ => h
  | t :: ts, l, ps, h, hk => by
    refine along_keys (ts := ts) ?_ fun s hs => hk s (by simp [hs])
    rw [dput_keys_old _ _ _ (by rw [h]; exact hk t (by simp))]; exact h
theorem along_lin {amt : Int} {ps : List Pr} (nd : ps.Nodup) (c : Pr → Int) : ∀ {ts : List Tp} {l : List (Pr × Int)}, (∀ t ∈ ts, key t ∈ ps) → lin ps c (fv (along amt ts l)) = lin ps c (fv l) + amt * psum c ts
  | [], _, _ => by simp [along, psum_nil]
  | t :: ts, l, hk => by
    show lin ps c (fv (along amt ts (dput l (key t) (fv l (key t) + t.2.2 * amt)))) = _
    rw [along_lin nd c fun s hs => hk s (by simp [hs])]
    have e : fv (dput l (key t) (fv l (key t) + t.2.2 * amt)) = fun p => if p = key t then fv l p + t.2.2 * amt else fv l p := by
      funext p
      rw [fv_put]
      split
      · rename_i e; rw [e]
      · rfl
    rw [e, lin_upd nd (hk t (by simp)), psum_cons, Int.mul_add, ← Int.add_assoc]
    congr 2
    rw [Int.mul_comm (c (key t)), Int.mul_comm t.2.2 amt, Int.mul_assoc]
theorem along_at {amt : Int} (p : Pr) : ∀ {ts : List Tp} {l : List (Pr × Int)}, fv (along amt ts l) p = fv l p + amt * psum (cE p) ts
  | [], _ => by simp [along, psum_nil]
  | t :: ts, l => by
    show fv (along amt ts (dput l (key t) (fv l (key t) + t.2.2 * amt))) p = _
    rw [along_at p, fv_put, psum_cons, Int.mul_add]
    by_cases e : p = key t
    · rw [if_pos e, cE_eq e.symm, e, Int.mul_one, Int.mul_comm amt t.2.2]; omega
    · rw [if_neg e, cE_ne (fun z => e z.symm)]; simp
end W

set_option autoImplicit false
set_option Elab.async false
set_option linter.all false
set_option maxRecDepth 100000
/-! reach -/
namespace W
open PySem PySem.Spec PyProof.Rows L2 DL
theorem nodup_sub_len {α : Type} [DecidableEq α] : ∀ (l m : List α), l.Nodup → (∀ x ∈ l, x ∈ m) → l.length ≤ m.length
  | [], m, _, _ => by simp
  | x :: l, m, nd, h => by
    obtain ⟨h1, h2⟩ := List.nodup_cons.mp nd
    have hx := h x (by simp)
    have ih := nodup_sub_len l (m.erase x) h2 fun y hy => (List.mem_erase_of_ne (fun e => h1 (by rw [← e]; exact hy))).mpr (h y (by simp [hy]))
    have := List.length_erase_of_mem hx
    have hpos : 0 < m.length := List.length_pos_of_mem hx
    simp only [List.length_cons]
    omega
theorem nodup_int_len {l : List Int} {n : Nat} (nd : l.Nodup) (h : ∀ x ∈ l, 0 ≤ x ∧ x < n) : l.length ≤ n := by
  have := nodup_sub_len l ((List.range n).map fun (k : Nat) => (k : Int)) nd fun x hx => by
    obtain ⟨h1, h2⟩ := h x hx
    exact List.mem_map.mpr ⟨x.toNat, List.mem_range.mpr (by omega), by omega⟩
  simpa using this
def fD (l : List (Int × Int)) : D := .dK (mapK .int l)
def flowD (l : List (Pr × Int)) : D := .dT (mapT l)
theorem fD_len {l : List (Int × Int)} : (mapK D.int l).length = l.length := by simp [mapK]
theorem fD_put (l : List (Int × Int)) (k v : Int) : dput (mapK D.int l) (.inl k) (.int v) = mapK D.int (dput l k v) := dput_mapK D.int l k v
theorem some_map_isSome {l : List (Int × Int)} {k : Int} : (dlook (mapK D.int l) (.inl k)).isSome = (dlook l k).isSome := by
  rw [dlook_mapK]; cases dlook l k <;> rfl
theorem fv_look {l : List (Pr × Int)} {p : Pr} (h : p ∈ l.map (·.1)) : dlook (mapT l) [Sum.inl p.1, Sum.inl p.2] = some (.int (fv l p)) := by
  rw [dlook_mapT]
  unfold fv
  have := (dlook_isSome l p).mpr h
  cases e : dlook l p with
  | none => rw [e] at this; cases this
  | some v => rfl
structure Rs (ps : List Pr) (lr : List Int) (f : Pr → Int) (fr fl : List (Int × Int)) (q : List Int) : Prop where
  frk : fr.map (·.1) = q
  qnd : q.Nodup
  qin : ∀ c ∈ q, 0 ≤ c ∧ c < lr.length
  seed : ∀ i : Int, 0 ≤ i → i < lr.length → 0 < lr.getD i.toNat 0 → i ∈ q
  chain : ∀ (k : Nat) (i : Int), q[k]? = some i → (dlook fr i = some (-1) ∧ 0 < lr.getD i.toNat 0) ∨ ∃ (j : Int) (k' : Nat) (i' : Int), dlook fr i = some j ∧ 0 ≤ j ∧ dlook fl j = some i' ∧ q[k']? = some i' ∧ k' < k ∧ (i, j) ∈ ps ∧ 0 < f (i, j)
  flnd : (fl.map (·.1)).Nodup
  flin : ∀ j i, dlook fl j = some i → i ∈ q ∧ (i, j) ∈ ps
def FullR (ps : List Pr) (f : Pr → Int) (fl : List (Int × Int)) (q : List Int) (ex : Option Int) : Prop := ∀ p ∈ ps, p.2 ∈ fl.map (·.1) → some p.2 ≠ ex → 0 < f p → p.1 ∈ q
def DoneR (ps : List Pr) (fl : List (Int × Int)) (q : List Int) (place : Nat) : Prop := ∀ (k : Nat) (i : Int), k < place → q[k]? = some i → ∀ p ∈ ps, p.1 = i → p.2 ∈ fl.map (·.1)
theorem Rs.newR {ps : List Pr} {lr : List Int} {f : Pr → Int} {fr fl : List (Int × Int)} {q : List Int} (b : Rs ps lr f fr fl q) {j i : Int} (hn : j ∉ fl.map (·.1)) (hi : i ∈ q) (hp : (i, j) ∈ ps) : Rs ps lr f fr (dput fl j i) q where
  frk := b.frk
  qnd := b.qnd
  qin := b.qin
  seed := b.seed
  chain := fun k i h => by
    rcases b.chain k i h with h | ⟨j2, k', i', e1, e2, e3, e4, e5, e6⟩
    · exact .inl h
    · refine .inr ⟨j2, k', i', e1, e2, ?_, e4, e5, e6⟩
      rw [dlook_dput, if_neg]
      · exact e3
      · intro e
        apply hn
        rw [← e, ← dlook_isSome, e3]; rfl
  flnd := dput_nodup _ _ _ b.flnd
  flin := fun j2 i2 h => by
    rw [dlook_dput] at h
    split at h
    · rename_i e; cases h; rw [e]; exact ⟨hi, hp⟩
    · exact b.flin j2 i2 h
theorem Rs.newL {ps : List Pr} {lr : List Int} {f : Pr → Int} {fr fl : List (Int × Int)} {q : List Int} (b : Rs ps lr f fr fl q) {x j here : Int} {place : Nat} (hn : x ∉ q) (hx : 0 ≤ x ∧ x < lr.length) (hd : dlook fl j = some here) (h0 : 0 ≤ j) (hp : q[place]? = some here) (hm : (x, j) ∈ ps) (hf : 0 < f (x, j)) : Rs ps lr f (dput fr x j) fl (q ++ [x]) := by
  have hnk : x ∉ fr.map (·.1) := by rw [b.frk]; exact hn
  have hpl := (List.getElem?_eq_some_iff.mp hp).1
  exact
  { frk := by rw [dput_new _ _ _ hnk, List.map_append, b.frk]; rfl
    qnd := List.nodup_append.mpr ⟨b.qnd, by simp, fun a ha c hc e => by simp at hc; subst hc; subst e; exact hn ha⟩
    qin := fun c hc => by
      rcases List.mem_append.mp hc with h | h
      · exact b.qin c h
      · simp at h; subst h; exact hx
    seed := fun i h1 h2 h3 => List.mem_append_left _ (b.seed i h1 h2 h3)
    flnd := b.flnd
    flin := fun d c h => ⟨List.mem_append_left _ (b.flin d c h).1, (b.flin d c h).2⟩
    chain := fun k c h1 => by
      by_cases hj : k < q.length
      · rw [List.getElem?_append_left hj] at h1
        have hcx : c ≠ x := fun e => hn (by rw [← e]; exact List.mem_of_getElem? h1)
        rcases b.chain k c h1 with ⟨h2, h3⟩ | ⟨j2, k', i', e1, e2, e3, e4, e5, e6⟩
        · exact .inl ⟨by rw [dlook_dput, if_neg hcx]; exact h2, h3⟩
        · exact .inr ⟨j2, k', i', by rw [dlook_dput, if_neg hcx]; exact e1, e2, e3, by rw [List.getElem?_append_left (by omega)]; exact e4, e5, e6⟩
      · have hje : k = q.length := by
          have := (List.getElem?_eq_some_iff.mp h1).1
          simp at this; omega
        subst hje
        simp at h1
        subst h1
        exact .inr ⟨j, place, here, by rw [dlook_dput, if_pos rfl], h0, hd, by rw [List.getElem?_append_left hpl]; exact hp, hpl, hm, hf⟩ }
/-- what a search gives -/
structure Reached (ps : List Pr) (lr : List Int) (f : Pr → Int) (fr fl : List (Int × Int)) (q : List Int) : Prop where
  rs : Rs ps lr f fr fl q
  full : FullR ps f fl q none
  done : DoneR ps fl q q.length
set_option maxHeartbeats 2000000 in
theorem reach {ps : List Pr} {lr : List Int} {fl0 : List (Pr × Int)} (h24 : lr.length ≤ 24) (hlen : ps.length ≤ 576) (inn : ∀ p ∈ ps, 0 ≤ p.1 ∧ p.1 < lr.length ∧ 0 ≤ p.2) (hk : fl0.map (·.1) = ps) :
    ∃ fr fl q, f_reach [.lst (lr.map .int), .lst (ps.map ipD), flowD fl0] = .ret 2 (.tup [fD fr, fD fl]) [.lst (lr.map .int), .lst (ps.map ipD), flowD fl0] ∧ Reached ps lr (fv fl0) fr fl q := by
  obtain ⟨n, r, ds', e, h0, h1, fr, fl, q, rfl, h2⟩ := fn_L (pm := [0, 0, 1]) (kk := 8) (m := m_reach) (ds := [.lst (lr.map .int), .lst (ps.map ipD), flowD fl0]) (fun n r ds' => ds' = [.lst (lr.map .int), .lst (ps.map ipD), flowD fl0] ∧ n = 2 ∧ ∃ fr fl q, r = .tup [fD fr, fD fl] ∧ Reached ps lr (fv fl0) fr fl q) fun J hJ => by
    have hJ' : ∀ fr fl q, Reached ps lr (fv fl0) fr fl q → J 2 (.tup [fD fr, fD fl]) [.lst (lr.map .int), .lst (ps.map ipD), flowD fl0] := fun fr fl q h => hJ _ _ _ ⟨rfl, rfl, fr, fl, q, rfl, h⟩
    unfold m_reach
    simp
    rw [rng1_nat (by omega) (by omega)]
    simp
    refine WS_forB (fun k e => ∃ (fr : List (Int × Int)) (q : List Int), fr.map (·.1) = q ∧ q.Nodup ∧ (∀ c ∈ q, 0 ≤ c ∧ c < k ∧ dlook fr c = some (-1) ∧ 0 < lr.getD c.toNat 0) ∧ (∀ i : Int, 0 ≤ i → i < k → 0 < lr.getD i.toNat 0 → i ∈ q) ∧
      e = [some (0, .lst (lr.map .int)), some (0, .lst (ps.map ipD)), some (1, flowD fl0), some (1, fD fr), some (1, .dK []), some (1, .lst (q.map .int)), none, none, none, none, none]) ⟨[], [], rfl, by simp, by simp, fun i h1 h2 => by omega, rfl⟩ ?_ ?_
    · rintro K hK j d e hj ⟨fr, q, hfk, hnd, hq, hsd, rfl⟩
      obtain ⟨hjl, rfl⟩ := rangeD_get hj
      have at1 := atI_ints (ns := lr) (i := j) (by omega) (by omega)
      have tn : ((j : Int)).toNat = j := by omega
      rw [tn] at at1
      obtain ⟨v, hv⟩ : ∃ v, v = lr.getD j 0 := ⟨_, rfl⟩
      rw [← hv] at at1
      have hqn : q.length ≤ j := nodup_int_len hnd fun c hc => ⟨(hq c hc).1, (hq c hc).2.1⟩
      have hfl : fr.length = q.length := by rw [← hfk]; simp
      by_cases hp : 0 < v
      · have hjq : (j : Int) ∉ q := fun h => by have := (hq _ h).2.1; omega
        have hjk : (j : Int) ∉ fr.map (·.1) := by rw [hfk]; exact hjq
        have put1 : putD (.dK (mapK D.int fr)) (.int j) (.int (-1)) = some (.dK (mapK D.int (dput fr j (-1)))) := by
          rw [putD_dK (by rw [fD_len]; omega), fD_put]
        simp [at1, hp, fD, put1, LIM]
        refine ⟨by omega, hK (j + 1) _ ⟨dput fr j (-1), q ++ [(j : Int)], by rw [dput_new _ _ _ hjk, List.map_append, hfk]; rfl, List.nodup_append.mpr ⟨hnd, by simp, fun a ha c hc e => by simp at hc; subst hc; subst e; exact hjq ha⟩, fun c hc => ?_, fun i h1 h2 h3 => ?_, by simp [fD]⟩⟩
        · rcases List.mem_append.mp hc with h | h
          · obtain ⟨a1, a2, a3, a4⟩ := hq c h
            exact ⟨a1, by omega, by rw [dlook_dput, if_neg (fun e => hjq (by rw [← e]; exact h))]; exact a3, a4⟩
          · simp at h; subst h
            exact ⟨by omega, by omega, by rw [dlook_dput, if_pos rfl], by rw [tn, ← hv]; exact hp⟩
        · by_cases e : i = j
          · subst e; simp
          · exact List.mem_append_left _ (hsd i h1 (by omega) h3)
      · simp [at1, hp]
        refine hK (j + 1) _ ⟨fr, q, hfk, hnd, fun c hc => by obtain ⟨a1, a2, a3⟩ := hq c hc; exact ⟨a1, by omega, a3⟩, fun i h1 h2 h3 => ?_, rfl⟩
        by_cases e : i = j
        · subst e; rw [tn, ← hv] at h3; exact absurd h3 hp
        · exact hsd i h1 (by omega) h3
    · rintro e ⟨fr, q, hfk, hnd, hq, hsd, rfl⟩
      rw [rangeD_length] at hq hsd
      simp
      refine WS_whileB (fun m e => ∃ (fr fl : List (Int × Int)) (q : List Int) (place : Nat), m + place = 25 ∧ place ≤ q.length ∧ Rs ps lr (fv fl0) fr fl q ∧ FullR ps (fv fl0) fl q none ∧ DoneR ps fl q place ∧ fl.length ≤ 576 * place ∧
        e = [some (0, .lst (lr.map .int)), some (0, .lst (ps.map ipD)), some (1, flowD fl0), some (1, fD fr), some (1, fD fl), some (1, .lst (q.map .int)), none, some (0, .int place), none, none, none]) 25 (by decide) ⟨fr, [], q, 0, rfl, by simp, ?_, ?_, ?_, by simp, rfl⟩ ?_
      · exact ⟨hfk, hnd, fun c hc => ⟨(hq c hc).1, (hq c hc).2.1⟩, hsd, fun k i h => .inl (hq i (List.mem_of_getElem? h)).2.2, by simp, fun j i h => by simp [dlook_nil] at h⟩
      · intro p _ h; simp at h
      · intro k i h; omega
      rintro K hK m e ⟨fr, fl, q, place, hm, hpl, hb, hf, hdn, hfl, rfl⟩
      have hqn := nodup_int_len hb.qnd hb.qin
      by_cases hlt : place < q.length
      · have hlt' : (place : Int) < q.length := by omega
        obtain ⟨m, rfl⟩ : ∃ m', m = m' + 1 := ⟨m - 1, by omega⟩
        have hqp : q[place]? = some q[place] := List.getElem?_eq_getElem hlt
        generalize q[place] = here at hqp
        simp [hlt]
        refine WS_forB (fun t e => ∃ (fr fl : List (Int × Int)) (q : List Int), q[place]? = some here ∧ Rs ps lr (fv fl0) fr fl q ∧ FullR ps (fv fl0) fl q none ∧ DoneR ps fl q place ∧ (∀ p ∈ ps.take t, p.1 = here → p.2 ∈ fl.map (·.1)) ∧ fl.length ≤ 576 * place + t ∧
          e = [some (0, .lst (lr.map .int)), some (0, .lst (ps.map ipD)), some (1, flowD fl0), some (1, fD fr), some (1, fD fl), some (1, .lst (q.map .int)), none, some (0, .int place), none, none, none]) ⟨fr, fl, q, hqp, hb, hf, hdn, by simp, by omega, rfl⟩ ?_ ?_
        · rintro KA hKA t d e hj ⟨fr, fl, q, hqp, hb, hf, hdn, htk, hfl, rfl⟩
          obtain ⟨⟨i, j⟩, hpt, rfl⟩ := map_get hj
          have hpm := List.mem_of_getElem? hpt
          have hji := inn _ hpm
          have htl := (List.getElem?_eq_some_iff.mp hpt).1
          have hhq : here ∈ q := List.mem_of_getElem? hqp
          have hpq := (List.getElem?_eq_some_iff.mp hqp).1
          have hqn := nodup_int_len hb.qnd hb.qin
          have aq : L2.atI q (place : Int) = some here := by rw [atI_int (by omega) (by omega)]; simpa using hqp
          have next : ∀ (fr fl : List (Int × Int)) (q : List Int), q[place]? = some here → Rs ps lr (fv fl0) fr fl q → FullR ps (fv fl0) fl q none → DoneR ps fl q place → (∀ p ∈ ps.take t, p.1 = here → p.2 ∈ fl.map (·.1)) → (i = here → j ∈ fl.map (·.1)) → fl.length ≤ 576 * place + (t + 1) →
              KA (t + 1) [some (0, .lst (lr.map .int)), some (0, .lst (ps.map ipD)), some (1, flowD fl0), some (1, fD fr), some (1, fD fl), some (1, .lst (q.map .int)), none, some (0, .int place), none, none, none] := fun fr fl q h1 h2 h3 h4 h5 h6 h7 => hKA _ _ ⟨fr, fl, q, h1, h2, h3, h4, fun p hp => by
            rw [take_get hpt] at hp
            rcases List.mem_append.mp hp with h | h
            · exact h5 p h
            · simp at h; subst h; exact h6, h7, rfl⟩
          by_cases hih : i = here
          · subst hih
            cases hs : (dlook fl j).isSome with
            | true =>
              simp [ipD, aq, fD, some_map_isSome, hs]
              exact next fr fl q hqp hb hf hdn htk (fun _ => (dlook_isSome fl j).mp hs) (by omega)
            | false =>
              have hnk : j ∉ fl.map (·.1) := fun h => by rw [(dlook_isSome fl j).mpr h] at hs; cases hs
              have hb1 := hb.newR hnk hhq hpm
              have hlook : dlook (dput fl j i) j = some i := by rw [dlook_dput, if_pos rfl]
              have hl1 : (dput fl j i).length ≤ fl.length + 1 := dput_len _ _ _
              have keys1 : ∀ d, d ∈ fl.map (·.1) → d ∈ (dput fl j i).map (·.1) := fun d hd => by
                rw [dput_new fl j i hnk, List.map_append]; exact List.mem_append_left _ hd
              have key1 : j ∈ (dput fl j i).map (·.1) := by rw [← dlook_isSome, hlook]; rfl
              have put1 : putD (.dK (mapK D.int fl)) (.int j) (.int i) = some (.dK (mapK D.int (dput fl j i))) := by
                rw [putD_dK (by rw [fD_len]; omega), fD_put]
              simp [ipD, aq, fD, some_map_isSome, hs, put1]
              have hdn1 : DoneR ps (dput fl j i) q place := fun k i2 h1 h2 p hp he => keys1 _ (hdn k i2 h1 h2 p hp he)
              have hf1 : FullR ps (fv fl0) (dput fl j i) q (some j) := fun p hp h1 h2 h3 => by
                refine hf p hp ?_ (by simp) h3
                rw [← dlook_isSome, dlook_dput, if_neg (fun e => h2 (by rw [e]))] at h1
                exact (dlook_isSome _ _).mp h1
              refine WS_forB (fun u e => ∃ (fr : List (Int × Int)) (q : List Int), q[place]? = some i ∧ Rs ps lr (fv fl0) fr (dput fl j i) q ∧ FullR ps (fv fl0) (dput fl j i) q (some j) ∧ DoneR ps (dput fl j i) q place ∧ (∀ p ∈ ps.take u, p.2 = j → 0 < fv fl0 p → p.1 ∈ q) ∧
                e = [some (0, .lst (lr.map .int)), some (0, .lst (ps.map ipD)), some (1, flowD fl0), some (1, fD fr), some (1, fD (dput fl j i)), some (1, .lst (q.map .int)), some (0, .int i), some (0, .int place), some (0, .int j), none, none]) ⟨fr, q, hqp, hb1, hf1, hdn1, by simp, rfl⟩ ?_ ?_
              · rintro KB hKB u d e hj2 ⟨fr, q, hqp, hb, hf, hdn, htq, rfl⟩
                obtain ⟨⟨x, o⟩, hpu, rfl⟩ := map_get hj2
                have hum := List.mem_of_getElem? hpu
                have hxr := inn _ hum
                have hqn := nodup_int_len hb.qnd hb.qin
                have hpq := (List.getElem?_eq_some_iff.mp hqp).1
                have hfl2 : fr.length = q.length := by rw [← hb.frk]; simp
                have tk : ∀ (fr : List (Int × Int)) (q' : List Int), (∃ r, q' = q ++ r) → q'[place]? = some i → Rs ps lr (fv fl0) fr (dput fl j i) q' → (o = j → 0 < fv fl0 (x, o) → x ∈ q') → KB (u + 1) [some (0, .lst (lr.map .int)), some (0, .lst (ps.map ipD)), some (1, flowD fl0), some (1, fD fr), some (1, fD (dput fl j i)), some (1, .lst (q'.map .int)), some (0, .int i), some (0, .int place), some (0, .int j), none, none] := fun fr q' h0 h2 h3 h4 => by
                  obtain ⟨rr, hrr⟩ := h0
                  have h1 : ∀ y ∈ q, y ∈ q' := fun y hy => by rw [hrr]; exact List.mem_append_left _ hy
                  exact hKB (u + 1) _ ⟨fr, q', h2, h3, fun p hp a1 a2 a3 => h1 _ (hf p hp a1 a2 a3), fun k i2 a1 a2 p hp he => by
                    have hkl : k < q.length := by omega
                    have : q'[k]? = q[k]? := by rw [hrr]; exact List.getElem?_append_left hkl
                    rw [this] at a2
                    exact hdn k i2 a1 a2 p hp he, fun p hp a1 a2 => by
                    rw [take_get hpu] at hp
                    rcases List.mem_append.mp hp with h | h
                    · exact h1 _ (htq p h a1 a2)
                    · simp at h; subst h; exact h4 a1 a2, rfl⟩
                by_cases ho : o = j
                · subst ho
                  have lk : dlook (mapT fl0) [Sum.inl x, Sum.inl o] = some (.int (fv fl0 (x, o))) := fv_look (p := (x, o)) (by rw [hk]; exact hum)
                  by_cases hpos : 0 < fv fl0 (x, o)
                  · cases hs2 : (dlook fr x).isSome with
                    | true =>
                      have hxq : x ∈ q := by rw [← hb.frk]; exact (dlook_isSome fr x).mp hs2
                      simp [ipD, flowD, lk, hpos, fD, some_map_isSome, hs2]
                      exact tk fr q ⟨[], by simp⟩ hqp hb fun _ _ => hxq
                    | false =>
                      have hxq : x ∉ q := fun h => by
                        rw [← hb.frk] at h
                        rw [(dlook_isSome fr x).mpr h] at hs2; cases hs2
                      have hb2 := hb.newL hxq ⟨hxr.1, hxr.2.1⟩ hlook hxr.2.2 hqp hum hpos
                      have put2 : putD (.dK (mapK D.int fr)) (.int x) (.int o) = some (.dK (mapK D.int (dput fr x o))) := by
                        rw [putD_dK (by rw [fD_len]; omega), fD_put]
                      simp [ipD, flowD, lk, hpos, fD, some_map_isSome, hs2, put2, LIM]
                      have := tk (dput fr x o) (q ++ [x]) ⟨[x], rfl⟩ (by rw [List.getElem?_append_left hpq]; exact hqp) hb2 (fun _ _ => by simp)
                      simp [flowD, fD] at this
                      exact ⟨by omega, this⟩
                  · simp [ipD, flowD, lk, hpos]
                    exact tk fr q ⟨[], by simp⟩ hqp hb fun _ h => absurd h hpos
                · simp [ipD, ho]
                  exact tk fr q ⟨[], by simp⟩ hqp hb fun h => absurd h ho
              · rintro e ⟨fr, q, hqp, hb, hf, hdn, htq, rfl⟩
                rw [List.length_map, List.take_length] at htq
                simp
                refine next fr (dput fl j i) q hqp hb (fun p hp a1 a2 a3 => ?_) hdn (fun p hp he => keys1 _ (htk p hp he)) (fun _ => key1) (by omega)
                by_cases e : p.2 = j
                · exact htq p hp e a3
                · exact hf p hp a1 (by simpa using e) a3
          · simp [ipD, aq, hih]
            exact next fr fl q hqp hb hf hdn htk (fun h => absurd h hih) (by omega)
        · rintro e ⟨fr, fl, q, hqp, hb, hf, hdn, htk, hfl, rfl⟩
          rw [List.length_map] at hfl htk
          rw [List.take_length] at htk
          have hpq := (List.getElem?_eq_some_iff.mp hqp).1
          simp
          refine hK m _ ⟨fr, fl, q, place + 1, by omega, by omega, hb, hf, fun k i h1 h2 p hp he => ?_, by omega, by simp⟩
          by_cases e : k = place
          · subst e
            rw [hqp] at h2
            cases h2
            exact htk p hp he
          · exact hdn k i (by omega) h2 p hp he
      · have : place = q.length := by omega
        subst this
        simp [flowD, fD]
        exact hJ' fr fl q ⟨hb, hf, hdn⟩
  subst h0; subst h1
  exact ⟨fr, fl, q, e, h2⟩
end W

set_option autoImplicit false
set_option Elab.async false
set_option linter.all false
set_option maxRecDepth 100000
/-! the first open place, the way back, sending along it -/
namespace W
open PySem PySem.Spec PyProof.Rows L2 DL
theorem keys_int (fl : List (Int × Int)) : (mapK D.int fl).map (fun kv => mForKeys.dKey kv.1) = (fl.map (·.1)).map .int := by
  unfold mapK; rw [List.map_map, List.map_map]; rfl
theorem first_open {fl : List (Int × Int)} {rr : List Int} (hin : ∀ j : Int, j ∈ fl.map (·.1) → 0 ≤ j ∧ j < rr.length) :
    ∃ n g, f_first_open [fD fl, .lst (rr.map .int)] = .ret n (.int g) [fD fl, .lst (rr.map .int)] ∧ ((g ∈ fl.map (·.1) ∧ 0 < rr.getD g.toNat 0) ∨ (g = -1 ∧ ∀ j ∈ fl.map (·.1), rr.getD j.toNat 0 ≤ 0)) := by
  obtain ⟨n, r, ds', e, h0, g, rfl, h2⟩ := fn_L (pm := [1, 0]) (kk := 1) (m := m_first_open) (ds := [fD fl, .lst (rr.map .int)]) (fun n r ds' => ds' = [fD fl, .lst (rr.map .int)] ∧ ∃ g : Int, r = .int g ∧ ((g ∈ fl.map (·.1) ∧ 0 < rr.getD g.toNat 0) ∨ (g = -1 ∧ ∀ j ∈ fl.map (·.1), rr.getD j.toNat 0 ≤ 0))) fun J hJ => by
    have hJ' : ∀ n (g : Int), ((g ∈ fl.map (·.1) ∧ 0 < rr.getD g.toNat 0) ∨ (g = -1 ∧ ∀ j ∈ fl.map (·.1), rr.getD j.toNat 0 ≤ 0)) → J n (.int g) [fD fl, .lst (rr.map .int)] := fun n g h => hJ _ _ _ ⟨rfl, g, rfl, h⟩
    unfold m_first_open fD at *
    simp only [mkEnv]
    simp
    rw [keys_int]
    refine WS_forB (fun k e => (∀ j ∈ (fl.map (·.1)).take k, rr.getD j.toNat 0 ≤ 0) ∧ e = [none, some (0, .lst (rr.map .int)), none]) ⟨by simp, rfl⟩ ?_ ?_
    · rintro K hK k d e hj ⟨hz, rfl⟩
      obtain ⟨j, hjk, rfl⟩ := map_get hj
      have hjm := List.mem_of_getElem? hjk
      have hr := hin j hjm
      have at1 := atI_ints (ns := rr) hr.1 hr.2
      obtain ⟨v, hv⟩ : ∃ v, v = rr.getD j.toNat 0 := ⟨_, rfl⟩
      rw [← hv] at at1
      by_cases hp : 0 < v
      · simp [at1, hp]
        exact hJ' _ j (.inl ⟨hjm, by rw [← hv]; exact hp⟩)
      · simp [at1, hp]
        refine hK (k + 1) _ ⟨fun x hx => ?_, rfl⟩
        rw [take_get hjk] at hx
        rcases List.mem_append.mp hx with h | h
        · exact hz x h
        · simp at h; subst h; rw [← hv]; omega
    · rintro e ⟨hz, rfl⟩
      rw [List.length_map, List.take_length] at hz
      simp
      exact hJ' _ _ (.inr ⟨rfl, hz⟩)
  subst h0
  exact ⟨n, g, e, h2⟩
theorem path_to {ps : List Pr} {lr : List Int} {f : Pr → Int} {fr fl : List (Int × Int)} {q : List Int} (b : Rs ps lr f fr fl q) (h24 : lr.length ≤ 24) (inn : ∀ p ∈ ps, 0 ≤ p.1 ∧ p.1 < lr.length ∧ 0 ≤ p.2) {g : Int} (hg : g ∈ fl.map (·.1)) :
    ∃ n path st, f_path_to [fD fr, fD fl, .int g] = .ret n (.lst (path.map tpD)) [fD fr, fD fl, .int g] ∧ IsP fr fl q q.length g path st := by
  obtain ⟨n, r, ds', e, h0, path, st, rfl, h2⟩ := fn_L (pm := [1, 1, 0]) (kk := 3) (m := m_path_to) (ds := [fD fr, fD fl, .int g]) (fun n r ds' => ds' = [fD fr, fD fl, .int g] ∧ ∃ (path : List Tp) (st : Int), r = .lst (path.map tpD) ∧ IsP fr fl q q.length g path st) fun J hJ => by
    have hJ' : ∀ n (path : List Tp) (st : Int), IsP fr fl q q.length g path st → J n (.lst (path.map tpD)) [fD fr, fD fl, .int g] := fun n path st h => hJ _ _ _ ⟨rfl, path, st, rfl, h⟩
    have hqn := nodup_int_len b.qnd b.qin
    have some_of : ∀ j, j ∈ fl.map (·.1) → ∃ i, dlook fl j = some i := fun j hj => by
      have := (dlook_isSome fl j).mpr hj
      cases e : dlook fl j with
      | none => rw [e] at this; cases this
      | some i => exact ⟨i, rfl⟩
    have g0 : 0 ≤ g := by
      obtain ⟨i, hi⟩ := some_of g hg
      exact (inn _ (b.flin g i hi).2).2.2
    unfold m_path_to
    simp
    refine WS_whileB (fun m e => ∃ (acc : List Tp) (here : Int), ((here = -1 ∧ ∃ st, IsP fr fl q q.length g acc st) ∨ ∃ n : Nat, n + 1 ≤ m ∧ 0 ≤ here ∧ (∃ (i : Int) (k : Nat), dlook fl here = some i ∧ q[k]? = some i ∧ k < n) ∧ ∀ rest st, IsP fr fl q n here rest st → IsP fr fl q q.length g (acc ++ rest) st) ∧ acc.length + 2 * m ≤ 60 ∧
      e = [some (1, fD fr), some (1, fD fl), some (0, .int g), some (1, .lst (acc.map tpD)), some (0, .int here), none]) 25 (by decide) ⟨[], g, .inr ⟨q.length, by omega, g0, ?_, fun rest st h => h⟩, by simp, rfl⟩ ?_
    · obtain ⟨i, hi⟩ := some_of g hg
      obtain ⟨k, hk, e⟩ := List.getElem_of_mem (b.flin g i hi).1
      exact ⟨i, k, hi, by rw [List.getElem?_eq_getElem hk, e], hk⟩
    rintro K hK m e ⟨acc, here, hst, hal, rfl⟩
    rcases hst with ⟨rfl, st, hp⟩ | ⟨n, hnm, h0, ⟨i, k, hi, hk, hkn⟩, hctx⟩
    · simp
      exact hJ' _ _ _ hp
    · obtain ⟨m, rfl⟩ : ∃ m', m = m' + 1 := ⟨m - 1, by omega⟩
      have hip := (b.flin here i hi).2
      have hi0 := (inn _ hip).1
      have lk1 : dlook (mapK D.int fl) (.inl here) = some (.int i) := by rw [dlook_mapK, hi]; rfl
      rcases b.chain k i hk with ⟨c1, _⟩ | ⟨j', k', i', c1, c2, c3, c4, c5, c6, c7⟩
      · have lk2 : dlook (mapK D.int fr) (.inl i) = some (.int (-1)) := by rw [dlook_mapK, c1]; rfl
        simp [h0, fD, lk1, lk2, LIM]
        refine ⟨by omega, hK m _ ⟨acc ++ [(i, here, 1)], -1, .inl ⟨rfl, i, hctx _ _ (.last hi hk hkn c1)⟩, by simp; omega, by simp [tpD, fD]⟩⟩
      · have lk2 : dlook (mapK D.int fr) (.inl i) = some (.int j') := by rw [dlook_mapK, c1]; rfl
        simp [h0, fD, lk1, lk2, LIM, c2]
        refine ⟨by omega, by omega, hK m _ ⟨acc ++ [(i, here, 1), (i, j', -1)], j', .inr ⟨k, by omega, c2, ⟨i', k', c3, c4, c5⟩, fun rest st h => ?_⟩, by simp; omega, by simp [tpD, fD]⟩⟩
        have := hctx _ _ (.step hi hk hkn c1 c2 h)
        simpa using this
  subst h0
  exact ⟨n, path, st, e, h2⟩
end W

set_option autoImplicit false
set_option Elab.async false
set_option linter.all false
set_option maxRecDepth 100000
/-! send -/
namespace W
open PySem PySem.Spec PyProof.Rows L2 DL
theorem atI_last {α : Type} (l : List α) (x : α) : L2.atI (l ++ [x]) (-1) = some x := by
  unfold L2.atI L2.ixN
  rw [if_neg (by omega), if_pos (by simp; omega)]
  have : ((-1 : Int) + ((l ++ [x]).length : Nat)).toNat = l.length := by simp; omega
  show (l ++ [x])[((-1 : Int) + ((l ++ [x]).length : Nat)).toNat]? = some x
  rw [this]; simp
theorem putD_lst {ds : List D} {i : Int} {r : D} (h0 : 0 ≤ i) (h : i < ds.length) : putD (.lst ds) (.int i) r = some (.lst (ds.set i.toNat r)) := by
  have : ixN ds.length i = some i.toNat := by unfold ixN; rw [if_pos h0, if_pos h]
  unfold putD
  dsimp only
  rw [this]; rfl
theorem along_snoc {amt : Int} (t : Tp) : ∀ (ts : List Tp) (l : List (Pr × Int)), along amt (ts ++ [t]) l = dput (along amt ts l) (key t) (fv (along amt ts l) (key t) + t.2.2 * amt)
  | [], _ => rfl
  | s :: ts, l => along_snoc t ts _
set_option maxHeartbeats 2000000 in
theorem send {ps : List Pr} {lr rr : List Int} {fl0 : List (Pr × Int)} {fr fl : List (Int × Int)} {q : List Int} {n : Nat} {g st : Int} {path : List Tp} (hlen : ps.length ≤ 576) (hk : fl0.map (·.1) = ps) (h : IsP fr fl q n g path st)
    (hall : ∀ t ∈ path, key t ∈ ps ∧ (t.2.2 = 1 ∨ (t.2.2 = -1 ∧ 0 < fv fl0 (key t)))) (s0 : 0 ≤ st) (s1 : st < lr.length) (sp : 0 < lr.getD st.toNat 0) (su : lr.getD st.toNat 0 ≤ 1000) (g0 : 0 ≤ g) (g1 : g < rr.length) (gp : 0 < rr.getD g.toNat 0) :
    ∃ (n : Nat) (amt : Int), f_send [.lst (lr.map .int), .lst (rr.map .int), flowD fl0, .lst (path.map tpD)] = .ret n .non [.lst ((lr.set st.toNat (lr.getD st.toNat 0 - amt)).map .int), .lst ((rr.set g.toNat (rr.getD g.toNat 0 - amt)).map .int), flowD (along amt path fl0), .lst (path.map tpD)] ∧
      1 ≤ amt ∧ amt ≤ lr.getD st.toNat 0 ∧ amt ≤ rr.getD g.toNat 0 ∧ ∀ t ∈ path, t.2.2 = -1 → amt ≤ fv fl0 (key t) := by
  obtain ⟨n, r, ds', e, amt, rfl, rfl, h2⟩ := fn_L (pm := [1, 1, 1, 0]) (kk := 6) (m := m_send) (ds := [.lst (lr.map .int), .lst (rr.map .int), flowD fl0, .lst (path.map tpD)]) (fun n r ds' => ∃ amt : Int, ds' = [.lst ((lr.set st.toNat (lr.getD st.toNat 0 - amt)).map .int), .lst ((rr.set g.toNat (rr.getD g.toNat 0 - amt)).map .int), flowD (along amt path fl0), .lst (path.map tpD)] ∧ r = .non ∧
      1 ≤ amt ∧ amt ≤ lr.getD st.toNat 0 ∧ amt ≤ rr.getD g.toNat 0 ∧ ∀ t ∈ path, t.2.2 = -1 → amt ≤ fv fl0 (key t)) fun J hJ => by
    have hJ' : ∀ amt : Int, 1 ≤ amt → amt ≤ lr.getD st.toNat 0 → amt ≤ rr.getD g.toNat 0 → (∀ t ∈ path, t.2.2 = -1 → amt ≤ fv fl0 (key t)) → J 0 .non [.lst ((lr.set st.toNat (lr.getD st.toNat 0 - amt)).map .int), .lst ((rr.set g.toNat (rr.getD g.toNat 0 - amt)).map .int), flowD (along amt path fl0), .lst (path.map tpD)] := fun amt h1 h2 h3 h4 => hJ _ _ _ ⟨amt, rfl, rfl, h1, h2, h3, h4⟩
    obtain ⟨⟨x, pr, ep⟩, ⟨pr2, y, ep2⟩, _, _⟩ := h.ends
    have al : L2.atI (path.map tpD) (-1) = some (tpD (st, y, 1)) := by rw [ep2, List.map_append]; exact atI_last _ _
    have af : L2.atI (path.map tpD) 0 = some (tpD (x, g, 1)) := by rw [ep, atI_int (by omega) (by simp)]; rfl
    have a1 := atI_ints (ns := lr) s0 s1
    have a2 := atI_ints (ns := rr) g0 g1
    obtain ⟨v, hv⟩ : ∃ v, v = lr.getD st.toNat 0 := ⟨_, rfl⟩
    obtain ⟨w, hw⟩ : ∃ w, w = rr.getD g.toNat 0 := ⟨_, rfl⟩
    rw [← hv] at a1 sp su
    rw [← hw] at a2 gp
    unfold m_send
    simp [al, af, tpD, a1, a2]
    refine WS_forB (fun k e => ∃ amt : Int, 1 ≤ amt ∧ amt ≤ v ∧ amt ≤ w ∧ (∀ t ∈ path.take k, t.2.2 = -1 → amt ≤ fv fl0 (key t)) ∧ e = [some (1, .lst (lr.map .int)), some (1, .lst (rr.map .int)), some (1, flowD fl0), some (0, .lst (path.map tpD)), some (0, .int st), some (0, .int g), some (0, .int amt), none, none, none]) ⟨if w < v then w else v, by split <;> omega, by split <;> omega, by split <;> omega, by simp, rfl⟩ ?_ ?_
    · rintro K hK k d e hj ⟨amt, m1, m2, m3, m4, rfl⟩
      obtain ⟨⟨i, j, s⟩, ht, rfl⟩ := map_get hj
      have htm := List.mem_of_getElem? ht
      obtain ⟨k1, k2⟩ := hall _ htm
      have next : ∀ amt' : Int, 1 ≤ amt' → amt' ≤ amt → (s = -1 → amt' ≤ fv fl0 (i, j)) → K (k + 1) [some (1, .lst (lr.map .int)), some (1, .lst (rr.map .int)), some (1, flowD fl0), some (0, .lst (path.map tpD)), some (0, .int st), some (0, .int g), some (0, .int amt'), none, none, none] := fun amt' h1 h2 h3 =>
        hK (k + 1) _ ⟨amt', h1, by omega, by omega, fun t htk hs => by
          rw [take_get ht] at htk
          rcases List.mem_append.mp htk with h | h
          · have := m4 t h hs; omega
          · simp at h; subst h; exact h3 hs, rfl⟩
      have lk : dlook (mapT fl0) [Sum.inl i, Sum.inl j] = some (.int (fv fl0 (i, j))) := fv_look (p := (i, j)) (by rw [hk]; exact k1)
      rcases k2 with k2 | ⟨k2, k3⟩
      · simp only at k2
        subst k2
        simp [tpD]
        exact next amt m1 (by omega) (fun h => by omega)
      · simp only at k2
        subst k2
        have k3' : 0 < fv fl0 (i, j) := k3
        simp [tpD, flowD, lk]
        have := next (if fv fl0 (i, j) < amt then fv fl0 (i, j) else amt) (by split <;> omega) (by split <;> omega) (fun _ => by split <;> omega)
        simpa [flowD, tpD] using this
    · rintro e ⟨amt, m1, m2, m3, m4, rfl⟩
      rw [List.length_map, List.take_length] at m4
      simp
      refine WS_forB (fun k e => e = [some (1, .lst (lr.map .int)), some (1, .lst (rr.map .int)), some (1, flowD (along amt (path.take k) fl0)), some (0, .lst (path.map tpD)), some (0, .int st), some (0, .int g), some (0, .int amt), none, none, none]) rfl ?_ ?_
      · rintro K hK k d e hj rfl
        obtain ⟨⟨i, j, s⟩, ht, rfl⟩ := map_get hj
        have htm := List.mem_of_getElem? ht
        obtain ⟨k1, k2⟩ := hall _ htm
        have hkeys : (along amt (path.take k) fl0).map (·.1) = ps := along_keys hk fun t h => (hall t (List.mem_of_mem_take h)).1
        have hll : (along amt (path.take k) fl0).length = ps.length := by rw [← hkeys]; simp
        have e1 := along_snoc (amt := amt) (i, j, s) (path.take k) fl0
        rw [← take_get ht] at e1
        generalize along amt (path.take k) fl0 = l at hkeys hll e1
        have lk : dlook (mapT l) [Sum.inl i, Sum.inl j] = some (.int (fv l (i, j))) := fv_look (p := (i, j)) (by rw [hkeys]; exact k1)
        have put1 : putD (.dT (mapT l)) (.tup [.int i, .int j]) (.int (fv l (i, j) + s * amt)) = some (flowD (along amt (path.take (k + 1)) fl0)) := by
          rw [putD_dT (by simp [mapT]; omega), e1, show ([Sum.inl i, Sum.inl j] : List Key) = [Sum.inl ((i, j) : Pr).1, Sum.inl ((i, j) : Pr).2] from rfl, dput_mapT]; rfl
        have mo : mulD (.int s) (.int amt) = some (0, .int (s * amt)) := mulD_lit (by omega) (by omega)
        simp [tpD, flowD, lk, mo]
        rw [put1]
        simp
        exact hK (k + 1) _ rfl
      · rintro e rfl
        rw [List.length_map, List.take_length]
        have p1 : putD (.lst (lr.map D.int)) (.int st) (.int (v - amt)) = some (.lst ((lr.set st.toNat (v - amt)).map .int)) := by
          rw [putD_lst s0 (by simpa using s1), List.map_set]
        have p2 : putD (.lst (rr.map D.int)) (.int g) (.int (w - amt)) = some (.lst ((rr.set g.toNat (w - amt)).map .int)) := by
          rw [putD_lst g0 (by simpa using g1), List.map_set]
        simp [a1, a2]
        rw [p1]
        simp [a2]
        rw [p2]
        have := hJ' amt m1 (by omega) (by omega) m4
        rw [← hv, ← hw] at this
        simpa using this
  exact ⟨n, amt, e, h2⟩
end W

set_option autoImplicit false
set_option Elab.async false
set_option linter.all false
set_option maxRecDepth 100000
/-! flows that grow -/
namespace W
open PySem PySem.Spec PyProof.Rows L2 DL
structure FlowOk (lefts rights : List Int) (ps : List Pr) (lr rr : List Int) (fl : List (Pr × Int)) : Prop where
  keys : fl.map (·.1) = ps
  nn : ∀ p ∈ ps, 0 ≤ fv fl p
  ll : lr.length = lefts.length
  rl : rr.length = rights.length
  lrow : ∀ i : Int, 0 ≤ i → i < lefts.length → lr.getD i.toNat 0 = lefts.getD i.toNat 0 - lin ps (cL i) (fv fl) ∧ 0 ≤ lr.getD i.toNat 0
  rrow : ∀ j : Int, 0 ≤ j → j < rights.length → rr.getD j.toNat 0 = rights.getD j.toNat 0 - lin ps (cR j) (fv fl) ∧ 0 ≤ rr.getD j.toNat 0
theorem getD_set' {ns : List Int} {i : Int} {v : Int} (h0 : 0 ≤ i) (h : i < ns.length) (k : Int) (hk : 0 ≤ k) : (ns.set i.toNat v).getD k.toNat 0 = if i = k then v else ns.getD k.toNat 0 := by
  rw [getD_set (by omega)]
  by_cases e : i = k
  · subst e; rw [if_pos rfl, if_pos rfl]
  · rw [if_neg (by omega), if_neg e]
theorem FlowOk.grow {lefts rights : List Int} {ps : List Pr} {lr rr : List Int} {fl0 : List (Pr × Int)} {fr fl : List (Int × Int)} {q : List Int} {n : Nat} {g st : Int} {path : List Tp} {amt : Int} (nd : ps.Nodup) (qnd : q.Nodup) (F : FlowOk lefts rights ps lr rr fl0) (h : IsP fr fl q n g path st)
    (hall : ∀ t ∈ path, key t ∈ ps ∧ (t.2.2 = 1 ∨ (t.2.2 = -1 ∧ 0 < fv fl0 (key t)))) (s0 : 0 ≤ st) (s1 : st < lr.length) (g0 : 0 ≤ g) (g1 : g < rr.length) (m1 : 1 ≤ amt) (m2 : amt ≤ lr.getD st.toNat 0) (m3 : amt ≤ rr.getD g.toNat 0) (m4 : ∀ t ∈ path, t.2.2 = -1 → amt ≤ fv fl0 (key t)) :
    FlowOk lefts rights ps (lr.set st.toNat (lr.getD st.toNat 0 - amt)) (rr.set g.toNat (rr.getD g.toNat 0 - amt)) (along amt path fl0) := by
  have hk : ∀ t ∈ path, key t ∈ ps := fun t ht => (hall t ht).1
  refine ⟨along_keys F.keys hk, fun p hp => ?_, by rw [List.length_set]; exact F.ll, by rw [List.length_set]; exact F.rl, fun i h0 h1 => ?_, fun j h0 h1 => ?_⟩
  · rw [along_at]
    obtain ⟨o1, o2⟩ := h.once qnd p
    have := F.nn p hp
    by_cases hz : psum (cE p) path < 0
    · obtain ⟨t, ht, e, hs⟩ := o2 hz
      have := m4 t ht hs
      rw [e] at this
      have e1 : psum (cE p) path = -1 := by omega
      rw [e1]; omega
    · have : 0 ≤ amt * psum (cE p) path := Int.mul_nonneg (by omega) (by omega)
      omega
  · rw [getD_set' s0 s1 i h0, along_lin nd _ hk, h.left]
    obtain ⟨a1, a2⟩ := F.lrow i h0 h1
    by_cases e : st = i
    · subst e; rw [if_pos rfl, if_pos rfl]; omega
    · rw [if_neg e, if_neg e]; omega
  · rw [getD_set' g0 g1 j h0, along_lin nd _ hk, h.right]
    obtain ⟨a1, a2⟩ := F.rrow j h0 h1
    by_cases e : g = j
    · subst e; rw [if_pos rfl, if_pos rfl]; omega
    · rw [if_neg e, if_neg e]; omega
theorem sum_set : ∀ (l : List Int) (i : Nat) (v : Int), i < l.length → (l.set i v).sum = l.sum - l.getD i 0 + v
  | [], _, _, h => by simp at h
  | x :: l, 0, v, _ => by simp; omega
  | x :: l, i + 1, v, h => by
    have := sum_set l i v (by simpa using h)
    simp only [List.set_cons_succ, List.sum_cons, this, List.getD_cons_succ]; omega
theorem sum_nn : ∀ {l : List Int}, (∀ x ∈ l, 0 ≤ x) → 0 ≤ l.sum
  | [], _ => by simp
  | x :: l, h => by
    have := sum_nn (l := l) fun y hy => h y (by simp [hy])
    have := h x (by simp)
    simp; omega
theorem sum_le : ∀ {l : List Int} {b : Int}, (∀ x ∈ l, x ≤ b) → l.sum ≤ b * l.length
  | [], _, _ => by simp
  | x :: l, b, h => by
    have := sum_le (l := l) (b := b) fun y hy => h y (by simp [hy])
    have := h x (by simp)
    simp [Int.mul_add]; omega
theorem FlowOk.lnn {lefts rights : List Int} {ps : List Pr} {lr rr : List Int} {fl0 : List (Pr × Int)} (F : FlowOk lefts rights ps lr rr fl0) : ∀ x ∈ lr, 0 ≤ x := nn_getD.mpr fun i hi => by
  have := (F.lrow i (by omega) (by have := F.ll; omega)).2
  simpa using this
theorem lin_nn {ps : List Pr} {c f : Pr → Int} (hc : ∀ p, 0 ≤ c p) (hf : ∀ p ∈ ps, 0 ≤ f p) : 0 ≤ lin ps c f := by
  induction ps with
  | nil => exact Int.le_refl _
  | cons p ps ih =>
    rw [lin_cons]
    have := ih fun q hq => hf q (by simp [hq])
    have := Int.mul_nonneg (hc p) (hf p (by simp))
    omega
theorem cL_nn (i : Int) (p : Pr) : 0 ≤ cL i p := by unfold cL; split <;> omega
theorem cR_nn (i : Int) (p : Pr) : 0 ≤ cR i p := by unfold cR; split <;> omega
end W

set_option autoImplicit false
set_option Elab.async false
set_option linter.all false
set_option maxRecDepth 100000
/-! best_cover -/
namespace W
open PySem PySem.Spec PyProof.Rows L2 DL
def rg (n : Nat) : List Int := (List.range n).map fun (k : Nat) => (k : Int)
def inK (l : List (Int × Int)) (i : Int) : Bool := (dlook l i).isSome
def chosenOf (n : Nat) (fr : List (Int × Int)) : List Int := (rg n).filter fun i => !inK fr i
def otherOf (n : Nat) (fl : List (Int × Int)) : List Int := (rg n).filter fun j => inK fl j
def packOf (ps : List Pr) (f : Pr → Int) : List Tp := ((sortP ps).filter fun p => decide (0 < f p)).map fun p => (p.1, p.2, f p)
def notF (fr : List (Int × Int)) : D → Option D
  | .int i => if inK fr i then none else some (.int i)
  | _ => none
def yesF (fr : List (Int × Int)) : D → Option D
  | .int i => if inK fr i then some (.int i) else none
  | _ => none
def packF (f : Pr → Int) : D → Option D
  | .tup [.int i, .int j] => if 0 < f (i, j) then some (.tup [.int i, .int j, .int (f (i, j))]) else none
  | _ => none
theorem notF_map (fr : List (Int × Int)) (l : List Int) : (l.map D.int).filterMap (notF fr) = (l.filter fun i => !inK fr i).map .int := by
  induction l with
  | nil => rfl
  | cons i l ih =>
    rw [List.map_cons, List.filterMap_cons, List.filter_cons, ih]
    cases h : inK fr i <;> simp [notF, h]
theorem yesF_map (fr : List (Int × Int)) (l : List Int) : (l.map D.int).filterMap (yesF fr) = (l.filter fun i => inK fr i).map .int := by
  induction l with
  | nil => rfl
  | cons i l ih =>
    rw [List.map_cons, List.filterMap_cons, List.filter_cons, ih]
    cases h : inK fr i <;> simp [yesF, h]
theorem packF_map (f : Pr → Int) (l : List Pr) : (l.map ipD).filterMap (packF f) = ((l.filter fun p => decide (0 < f p)).map fun p => (p.1, p.2, f p)).map tpD := by
  induction l with
  | nil => rfl
  | cons p l ih =>
    rw [List.map_cons, List.filterMap_cons, List.filter_cons, ih]
    by_cases h : 0 < f p
    · simp [packF, ipD, h, tpD]
    · simp [packF, ipD, h]
theorem rangeD_rg (n : Nat) : rangeD 0 n = (rg n).map .int := by
  unfold rangeD rg; rw [List.map_map]
  exact List.map_congr_left fun k _ => by simp
@[simp] theorem closed_fD {n : Nat} {l : List (Int × Int)} : closedM (n + 1) (fD l) = true := by
  unfold fD mapK
  simp
@[simp] theorem closed_flow {n : Nat} {l : List (Pr × Int)} : closedM (n + 1) (flowD l) = true := by
  unfold flowD mapT
  simp
/-- what the end of the search says -/
structure Best (lefts rights : List Int) (ps : List Pr) (c0 c1 : List Int) (pk : List Tp) : Prop where
  ex : ∃ (fr fl : List (Int × Int)) (q lr rr : List Int) (fl0 : List (Pr × Int)), FlowOk lefts rights ps lr rr fl0 ∧ Reached ps lr (fv fl0) fr fl q ∧ (∀ j : Int, j ∈ fl.map (·.1) → rr.getD j.toNat 0 ≤ 0) ∧ c0 = chosenOf lefts.length fr ∧ c1 = otherOf rights.length fl ∧ pk = packOf ps (fv fl0)
theorem sortedX_prs (ps : List Pr) : sortedX [.lst (ps.map ipD)] = some (1, .lst ((sortP ps).map ipD)) := by
  cases ps with
  | nil => rfl
  | cons p r =>
    unfold sortedX
    have e1 : intsOf ((p :: r).map ipD) = none := rfl
    dsimp only
    rw [e1]
    dsimp only
    rw [prsOf_map]
    rfl
theorem Rs.inR {lefts rights : List Int} {ps : List Pr} (Dr : Drawn lefts rights ps) {lr : List Int} {f : Pr → Int} {fr fl : List (Int × Int)} {q : List Int} (b : Rs ps lr f fr fl q) (j : Int) (hj : j ∈ fl.map (·.1)) : 0 ≤ j ∧ j < rights.length := by
  have h := (dlook_isSome fl j).mpr hj
  cases e : dlook fl j with
  | none => rw [e] at h; cases h
  | some i => have := Dr.inn _ (b.flin j i e).2; exact this.2.2
set_option maxHeartbeats 4000000 in
theorem best_cover {lefts rights : List Int} {ps : List Pr} (Dr : Drawn lefts rights ps) : ∃ c0 c1 pk, f_best_cover [.lst (lefts.map .int), .lst (rights.map .int), .lst (ps.map ipD)] = .ret 2 (.tup [.lst (c0.map .int), .lst (c1.map .int), .lst (pk.map tpD)]) [.lst (lefts.map .int), .lst (rights.map .int), .lst (ps.map ipD)] ∧ Best lefts rights ps c0 c1 pk := by
  have hl24 := Dr.l24
  have hr24 := Dr.r24
  have hlen := Dr.len
  have inn : ∀ (lr : List Int), lr.length = lefts.length → ∀ p ∈ ps, 0 ≤ p.1 ∧ p.1 < lr.length ∧ 0 ≤ p.2 := fun lr h p hp => by have := Dr.inn p hp; omega
  have F0 : FlowOk lefts rights ps lefts rights (ps.map fun p => (p, 0)) := by
    have z : ∀ p, fv (ps.map fun p => (p, (0 : Int))) p = 0 := fun p => by
      unfold fv
      have key : ∀ o, dlook (ps.map fun p => (p, (0 : Int))) p = o → o.getD 0 = 0 := fun o e => by
        cases o with
        | none => rfl
        | some v =>
          obtain ⟨p', _, e⟩ := List.mem_map.mp (dlook_mem e)
          exact (Prod.mk.inj e).2.symm
      exact key _ rfl
    have zf : fv (ps.map fun p => (p, (0 : Int))) = fun _ => 0 := funext z
    refine ⟨by rw [List.map_map]; exact List.map_id' ps, fun p _ => by rw [z]; exact Int.le_refl _, rfl, rfl, fun i h0 h1 => ?_, fun i h0 h1 => ?_⟩
    · rw [zf, lin_f0]
      exact ⟨by omega, by have := nn_getD.mp (fun x hx => show 0 ≤ x by have := Dr.lpos x hx; omega) i.toNat (by omega); exact this⟩
    · rw [zf, lin_f0]
      exact ⟨by omega, by have := nn_getD.mp (fun x hx => show 0 ≤ x by have := Dr.rpos x hx; omega) i.toNat (by omega); exact this⟩
  have R0 := reach (lr := lefts) hl24 hlen (inn lefts rfl) F0.keys
  obtain ⟨fr, R0⟩ := R0
  obtain ⟨fl, R0⟩ := R0
  obtain ⟨q, R0⟩ := R0
  obtain ⟨e1, hR⟩ := R0
  obtain ⟨n2, g, e2, hg⟩ := first_open (rr := rights) (hR.rs.inR Dr)
  obtain ⟨n, r, e, rfl, c0, c1, pk, rfl, h⟩ := fn_retB (pm := [0, 0, 0]) (kk := 12) (m := m_best_cover) (ds := [.lst (lefts.map .int), .lst (rights.map .int), .lst (ps.map ipD)]) (fun n r => n = 2 ∧ ∃ c0 c1 pk, r = .tup [.lst (c0.map .int), .lst (c1.map .int), .lst (pk.map tpD)] ∧ Best lefts rights ps c0 c1 pk) fun J hJ => by
    have hJ' : ∀ (c0 c1 : List Int) (pk : List Tp), Best lefts rights ps c0 c1 pk → J 2 (.tup [.lst (c0.map .int), .lst (c1.map .int), .lst (pk.map tpD)]) := fun c0 c1 pk h => hJ _ _ ⟨rfl, c0, c1, pk, rfl, h⟩
    unfold m_best_cover
    simp
    refine WS_forB (fun k e => e = [some (0, .lst (lefts.map .int)), some (0, .lst (rights.map .int)), some (0, .lst (ps.map ipD)), some (1, .lst (lefts.map .int)), some (1, .lst (rights.map .int)), some (1, flowD ((ps.take k).map fun p => (p, 0))), none, none, none, none, none, none, none, none, none]) rfl ?_ ?_
    · rintro K hK k d e hj rfl
      obtain ⟨p, hp, rfl⟩ := map_get hj
      have hkl := (List.getElem?_eq_some_iff.mp hp).1
      have hnew : p ∉ ((ps.take k).map fun p => (p, (0 : Int))).map (·.1) := fun h => by
        rw [List.map_map] at h
        obtain ⟨p', hp', e⟩ := List.mem_map.mp h
        simp at e; subst e
        obtain ⟨a, ha, e⟩ := List.getElem_of_mem hp'
        have ha' : a < k := by rw [List.length_take] at ha; omega
        have : ps[a] = ps[k] := by
          rw [List.getElem_take] at e
          rw [e]
          rw [List.getElem?_eq_getElem hkl] at hp
          exact (Option.some.inj hp).symm
        exact List.pairwise_iff_getElem.mp Dr.nd a k (by omega) hkl ha' this
      have put1 : putD (.dT (mapT ((ps.take k).map fun p => (p, 0)))) (.tup [.int p.1, .int p.2]) (.int 0) = some (flowD ((ps.take (k + 1)).map fun p => (p, 0))) := by
        rw [putD_dT (by simp [mapT]; omega), dput_mapT, dput_new _ _ _ hnew, take_get hp, List.map_append]; rfl
      simp [flowD, ipD]
      rw [← List.map_take, put1]
      exact hK (k + 1) _ rfl
    · rintro e rfl
      rw [List.length_map, List.take_length]
      simp
      simp [e1, e2]
      refine WS_whileB (fun m e => ∃ (fr fl : List (Int × Int)) (q lr rr : List Int) (fl0 : List (Pr × Int)) (g : Int), lr.sum + 1 ≤ m ∧ FlowOk lefts rights ps lr rr fl0 ∧ Reached ps lr (fv fl0) fr fl q ∧ ((g ∈ fl.map (·.1) ∧ 0 < rr.getD g.toNat 0) ∨ (g = -1 ∧ ∀ j : Int, j ∈ fl.map (·.1) → rr.getD j.toNat 0 ≤ 0)) ∧
        e = [some (0, .lst (lefts.map .int)), some (0, .lst (rights.map .int)), some (0, .lst (ps.map ipD)), some (1, .lst (lr.map .int)), some (1, .lst (rr.map .int)), some (1, flowD fl0), none, some (1, fD fr), some (1, fD fl), some (0, .int g), none, none, none, none, none]) 24001 (by decide) ⟨fr, fl, q, lefts, rights, _, g, ?_, F0, hR, hg, rfl⟩ ?_
      · have := sum_le (l := lefts) (b := 1000) fun x hx => (Dr.lpos x hx).2
        omega
      rintro K hK m e ⟨fr, fl, q, lr, rr, fl0, g, hm, F, hR, hg, rfl⟩
      have hs0 := sum_nn F.lnn
      rcases hg with ⟨hgm, hgp⟩ | ⟨rfl, hz⟩
      · have hgr := hR.rs.inR Dr g hgm
        obtain ⟨m, rfl⟩ : ∃ m', m = m' + 1 := ⟨m - 1, by omega⟩
        have hll := F.ll
        have hrl := F.rl
        obtain ⟨n3, path, st, e3, hP⟩ := path_to hR.rs (by omega) (inn lr hll) hgm
        obtain ⟨_, _, hst, k0, hk0⟩ := hP.ends
        have hsq := List.mem_of_getElem? hk0
        have hsr := hR.rs.qin st hsq
        have hsp : 0 < lr.getD st.toNat 0 := by
          rcases hR.rs.chain k0 st hk0 with ⟨_, h⟩ | ⟨j, _, _, h1, h2, _⟩
          · exact h
          · rw [hst] at h1; cases h1; omega
        have hsu : lr.getD st.toNat 0 ≤ 1000 := by
          have h1 := (F.lrow st hsr.1 (by omega)).1
          have h2 := lin_nn (c := cL st) (f := fv fl0) (cL_nn st) F.nn
          have h3 : lefts.getD st.toNat 0 ≤ 1000 := by
            unfold List.getD
            rw [List.getElem?_eq_getElem (by omega)]
            exact (Dr.lpos _ (List.getElem_mem _)).2
          omega
        have hall := hP.all (ps := ps) (f := fv fl0) (fun j i h => (hR.rs.flin j i h).2) fun i j h h0 => by
          have hiq : i ∈ q := by rw [← hR.rs.frk, ← dlook_isSome, h]; rfl
          obtain ⟨k1, hk1, e⟩ := List.getElem_of_mem hiq
          rcases hR.rs.chain k1 i (by rw [List.getElem?_eq_getElem hk1, e]) with ⟨h1, _⟩ | ⟨j2, _, _, h1, _, _, _, _, h6, h7⟩
          · rw [h] at h1; cases h1; omega
          · rw [h] at h1; cases h1; exact ⟨h6, h7⟩
        obtain ⟨n4, amt, e4, m1, m2, m3, m4⟩ := send (rr := rr) hlen F.keys hP hall hsr.1 hsr.2 hsp hsu hgr.1 (by omega) hgp
        have F2 := F.grow Dr.nd hR.rs.qnd hP hall hsr.1 hsr.2 hgr.1 (by omega) m1 m2 m3 m4
        have hsum := sum_set lr st.toNat (lr.getD st.toNat 0 - amt) (by omega)
        generalize lr.set st.toNat (lr.getD st.toNat 0 - amt) = lr2 at e4 F2 hsum
        generalize rr.set g.toNat (rr.getD g.toNat 0 - amt) = rr2 at e4 F2
        generalize along amt path fl0 = fl2 at e4 F2
        have hll2 := F2.ll
        have hrl2 := F2.rl
        obtain ⟨fr2, fl3, q2, e5, hR2⟩ := reach (lr := lr2) (by omega) hlen (inn lr2 hll2) F2.keys
        obtain ⟨n6, g2, e6, hg2⟩ := first_open (rr := rr2) (fun j hj => by have := hR2.rs.inR Dr j hj; omega)
        simp [hgr.1, e3, e4, e5, e6]
        exact hK m _ ⟨fr2, fl3, q2, lr2, rr2, fl2, g2, by push_cast at hm; omega, F2, hR2, hg2, rfl⟩
      · simp
        rw [rng1_nat (by omega) (by omega)]
        simp
        refine WE_compL (notF fr) _ _ (by simp; omega) (fun d hd => ?_) ?_ (fun _ _ z => z)
        · obtain ⟨j, hj, rfl⟩ := rangeD_mem hd
          refine ⟨_, rfl, ?_⟩
          rw [Int.zero_add]
          cases h : inK fr (j : Int) with
          | true =>
            have h2 := h
            unfold inK at h2
            simp [notF, h, fD, some_map_isSome, h2]
          | false =>
            have h2 := h
            unfold inK at h2
            simp [notF, h, fD, some_map_isSome, h2]
        rw [List.nil_append, rangeD_rg, notF_map]
        simp
        rw [rng1_nat (by omega) (by omega)]
        simp
        refine WE_compL (yesF fl) _ _ (by simp; omega) (fun d hd => ?_) ?_ (fun _ _ z => z)
        · obtain ⟨j, hj, rfl⟩ := rangeD_mem hd
          refine ⟨_, rfl, ?_⟩
          rw [Int.zero_add]
          cases h : inK fl (j : Int) with
          | true =>
            have h2 := h
            unfold inK at h2
            simp [yesF, h, fD, some_map_isSome, h2]
          | false =>
            have h2 := h
            unfold inK at h2
            simp [yesF, h, fD, some_map_isSome, h2]
        rw [List.nil_append, rangeD_rg, yesF_map]
        simp [sortedX_prs]
        have hsl := (sortP_perm ps).length_eq
        refine WE_compL (packF (fv fl0)) _ _ (by simp; omega) (fun d hd => ?_) ?_ (fun _ _ z => z)
        · obtain ⟨⟨i, j⟩, hp, rfl⟩ := List.mem_map.mp hd
          have hpm := (sortP_perm ps).mem_iff.mp hp
          have lk : dlook (mapT fl0) [Sum.inl i, Sum.inl j] = some (.int (fv fl0 (i, j))) := fv_look (p := (i, j)) (by rw [F.keys]; exact hpm)
          refine ⟨_, rfl, ?_⟩
          by_cases hp : 0 < fv fl0 (i, j)
          · simp [ipD, packF, flowD, lk, hp]
          · simp [ipD, packF, flowD, lk, hp]
        rw [List.nil_append, packF_map]
        simp
        have := hJ' _ _ _ ⟨fr, fl, q, lr, rr, fl0, F, hR, hz, rfl, rfl, rfl⟩
        unfold chosenOf otherOf packOf at this
        rw [List.map_map] at this
        exact this
  exact ⟨c0, c1, pk, e, h⟩
end W

set_option autoImplicit false
set_option Elab.async false
set_option linter.all false
set_option maxRecDepth 100000
/-! what a best cover is -/
namespace W
open PySem PySem.Spec PyProof.Rows L2 DL
theorem mem_rg {n : Nat} {i : Int} : i ∈ rg n ↔ 0 ≤ i ∧ i < n := by
  unfold rg
  rw [List.mem_map]
  constructor
  · rintro ⟨k, hk, rfl⟩; have := List.mem_range.mp hk; omega
  · rintro ⟨h1, h2⟩; exact ⟨i.toNat, List.mem_range.mpr (by omega), by omega⟩
theorem rg_sorted (n : Nat) : (rg n).Pairwise (· < ·) := by
  unfold rg
  refine List.Pairwise.map _ ?_ List.pairwise_lt_range
  intro a b h; omega
theorem Asc.nodup {n : Int} {cs : List Int} (h : Asc n cs) : cs.Nodup := h.1.imp fun h => by omega
theorem lin_perm {l m : List Pr} (h : l.Perm m) (c f : Pr → Int) : lin l c f = lin m c f := by
  induction h with
  | nil => rfl
  | cons x _ ih => rw [lin_cons, lin_cons, ih]
  | swap x y l => rw [lin_cons, lin_cons, lin_cons, lin_cons]; omega
  | trans _ _ h1 h2 => rw [h1, h2]
def fOf (fl0 : List (Pr × Int)) : Pr → Int := fv fl0
/-- all that is known at the end, with a flow f, the lefts q and the rights r that are reached -/
structure Fin (lefts rights : List Int) (ps : List Pr) (c0 c1 : List Int) (pk : List Tp) (f : Pr → Int) (q : List Int) (fl : List (Int × Int)) : Prop where
  nn : ∀ p ∈ ps, 0 ≤ f p
  a0 : Asc lefts.length c0
  a1 : Asc rights.length c1
  in0 : ∀ i : Int, i ∈ c0 ↔ (0 ≤ i ∧ i < lefts.length) ∧ i ∉ q
  in1 : ∀ j : Int, j ∈ c1 ↔ (0 ≤ j ∧ j < rights.length) ∧ j ∈ fl.map (·.1)
  cap0 : ∀ i : Int, 0 ≤ i → i < lefts.length → lin ps (cL i) f ≤ lefts.getD i.toNat 0
  cap1 : ∀ j : Int, 0 ≤ j → j < rights.length → lin ps (cR j) f ≤ rights.getD j.toNat 0
  t0 : ∀ i ∈ c0, lefts.getD i.toNat 0 = lin ps (cL i) f
  t1 : ∀ j ∈ c1, rights.getD j.toNat 0 = lin ps (cR j) f
  fwd : ∀ p ∈ ps, p.1 ∈ q → p.2 ∈ fl.map (·.1)
  bwd : ∀ p ∈ ps, p.2 ∈ fl.map (·.1) → 0 < f p → p.1 ∈ q
  seed : ∀ i : Int, 0 ≤ i → i < lefts.length → lin ps (cL i) f < lefts.getD i.toNat 0 → i ∈ q
  qin : ∀ i ∈ q, 0 ≤ i ∧ i < lefts.length
  chain : ∀ (k : Nat) (i : Int), q[k]? = some i → lin ps (cL i) f < lefts.getD i.toNat 0 ∨ ∃ (j : Int) (k' : Nat) (i' : Int), q[k']? = some i' ∧ k' < k ∧ (i', j) ∈ ps ∧ (i, j) ∈ ps ∧ 0 < f (i, j)
  flin : ∀ j ∈ fl.map (·.1), ∃ i, i ∈ q ∧ (i, j) ∈ ps
  pk : pk = packOf ps f
theorem Best.fin {lefts rights : List Int} {ps : List Pr} {c0 c1 : List Int} {pk : List Tp} (Dr : Drawn lefts rights ps) (B : Best lefts rights ps c0 c1 pk) : ∃ f q fl, Fin lefts rights ps c0 c1 pk f q fl := by
  obtain ⟨fr, fl, q, lr, rr, fl0, F, R, hz, rfl, rfl, rfl⟩ := B.ex
  have hq : ∀ i, inK fr i = true ↔ i ∈ q := fun i => by unfold inK; rw [dlook_isSome, R.rs.frk]
  have hl : ∀ j, inK fl j = true ↔ j ∈ fl.map (·.1) := fun j => dlook_isSome fl j
  have in0 : ∀ i : Int, i ∈ chosenOf lefts.length fr ↔ (0 ≤ i ∧ i < lefts.length) ∧ i ∉ q := fun i => by
    unfold chosenOf
    rw [List.mem_filter, mem_rg, ← hq]; simp
  have in1 : ∀ j : Int, j ∈ otherOf rights.length fl ↔ (0 ≤ j ∧ j < rights.length) ∧ j ∈ fl.map (·.1) := fun j => by
    unfold otherOf
    rw [List.mem_filter, mem_rg, ← hl]
  refine ⟨fv fl0, q, fl, ⟨F.nn, ⟨(rg_sorted _).filter _, fun c hc => ((in0 c).mp hc).1⟩, ⟨(rg_sorted _).filter _, fun c hc => ((in1 c).mp hc).1⟩, in0, in1, ?_, ?_, ?_, ?_, ?_, ?_, ?_, ?_, ?_, ?_, rfl⟩⟩
  · intro i h0 h1; have := F.lrow i h0 h1; omega
  · intro i h0 h1; have := F.rrow i h0 h1; omega
  · intro i hi
    obtain ⟨⟨h0, h1⟩, h2⟩ := (in0 i).mp hi
    have := F.lrow i h0 h1
    have h3 : ¬ 0 < lr.getD i.toNat 0 := fun h => h2 (R.rs.seed i h0 (by have := F.ll; omega) h)
    omega
  · intro j hj
    obtain ⟨⟨h0, h1⟩, h2⟩ := (in1 j).mp hj
    have := F.rrow j h0 h1
    have h3 := hz j h2
    omega
  · intro p hp h
    obtain ⟨k, hk, e⟩ := List.getElem_of_mem h
    exact R.done k p.1 hk (by rw [List.getElem?_eq_getElem hk, e]) p hp rfl
  · intro p hp h h2
    exact R.full p hp h (by simp) h2
  · intro i h0 h1 h2
    have := F.lrow i h0 h1
    exact R.rs.seed i h0 (by have := F.ll; omega) (by omega)
  · intro i hi; have := R.rs.qin i hi; have := F.ll; omega
  · intro k i hk
    have hi := R.rs.qin i (List.mem_of_getElem? hk)
    have hll := F.ll
    rcases R.rs.chain k i hk with ⟨_, h⟩ | ⟨j, k', i', _, _, h3, h4, h5, h6, h7⟩
    · left
      have := F.lrow i hi.1 (by omega)
      omega
    · exact .inr ⟨j, k', i', h4, h5, (R.rs.flin j i' h3).2, h6, h7⟩
  · intro j hj
    have := (dlook_isSome fl j).mpr hj
    cases e : dlook fl j with
    | none => rw [e] at this; cases this
    | some i => exact ⟨i, R.rs.flin j i e⟩
section
variable {lefts rights : List Int} {ps : List Pr} {c0 c1 : List Int} {pk : List Tp} {f : Pr → Int} {q : List Int} {fl : List (Int × Int)}
def one : Pr → Int := fun _ => 1
theorem Fin.cover (X : Fin lefts rights ps c0 c1 pk f q fl) (Dr : Drawn lefts rights ps) : ∀ p ∈ ps, p.1 ∈ c0 ∨ p.2 ∈ c1 := fun p hp => by
  have h := Dr.inn p hp
  by_cases hq : p.1 ∈ q
  · exact .inr ((X.in1 _).mpr ⟨⟨h.2.2.1, h.2.2.2⟩, X.fwd p hp hq⟩)
  · exact .inl ((X.in0 _).mpr ⟨⟨h.1, h.2.1⟩, hq⟩)
def both (a b : List Int) : Pr → Int := fun p => (if p.1 ∈ a then 1 else 0) + (if p.2 ∈ b then 1 else 0)
theorem Fin.weight (X : Fin lefts rights ps c0 c1 pk f q fl) (Dr : Drawn lefts rights ps) : (wts lefts c0).sum + (wts rights c1).sum = lin ps one f := by
  have e0 : wts lefts c0 = c0.map fun i => lin ps (cL i) f := List.map_congr_left fun i hi => X.t0 i hi
  have e1 : wts rights c1 = c1.map fun j => lin ps (cR j) f := List.map_congr_left fun j hj => X.t1 j hj
  rw [e0, e1, sum_linL ps f X.a0.nodup, sum_linR ps f X.a1.nodup, ← lin_add]
  refine lin_congr fun p hp => ?_
  have h := Dr.inn p hp
  unfold one
  by_cases hq : p.1 ∈ q
  · have h1 : p.2 ∈ c1 := (X.in1 _).mpr ⟨⟨h.2.2.1, h.2.2.2⟩, X.fwd p hp hq⟩
    have h0 : p.1 ∉ c0 := fun z => ((X.in0 _).mp z).2 hq
    rw [if_neg h0, if_pos h1]; rfl
  · have h0 : p.1 ∈ c0 := (X.in0 _).mpr ⟨⟨h.1, h.2.1⟩, hq⟩
    rw [if_pos h0]
    by_cases h1 : p.2 ∈ c1
    · have : f p = 0 := by
        have := X.nn p hp
        have : ¬ 0 < f p := fun z => hq (X.bwd p hp ((X.in1 _).mp h1).2 z)
        omega
      rw [this]; simp
    · rw [if_neg h1]; rfl
/-- no other cover weighs less; one that weighs as much holds the rights -/
theorem Fin.least (X : Fin lefts rights ps c0 c1 pk f q fl) (Dr : Drawn lefts rights ps) {a b : List Int} (ha : Asc lefts.length a) (hb : Asc rights.length b) (hc : ∀ p ∈ ps, p.1 ∈ a ∨ p.2 ∈ b) :
    (wts lefts c0).sum + (wts rights c1).sum ≤ (wts lefts a).sum + (wts rights b).sum ∧ ((wts lefts a).sum + (wts rights b).sum = (wts lefts c0).sum + (wts rights c1).sum → ∀ j ∈ c1, j ∈ b) := by
  rw [X.weight Dr]
  obtain ⟨s0, s0'⟩ := sum_tight (a := fun i => lin ps (cL i) f) (b := fun i : Int => lefts.getD i.toNat 0) (l := a) fun i hi => X.cap0 i (ha.2 i hi).1 (ha.2 i hi).2
  obtain ⟨s1, s1'⟩ := sum_tight (a := fun j => lin ps (cR j) f) (b := fun j : Int => rights.getD j.toNat 0) (l := b) fun j hj => X.cap1 j (hb.2 j hj).1 (hb.2 j hj).2
  have e := lin_add ps (fun p => if p.1 ∈ a then 1 else 0) (fun p => if p.2 ∈ b then 1 else 0) f
  rw [← sum_linL ps f ha.nodup, ← sum_linR ps f hb.nodup] at e
  have hm : ∀ p ∈ ps, one p * f p ≤ ((if p.1 ∈ a then (1 : Int) else 0) + (if p.2 ∈ b then (1 : Int) else 0)) * f p := fun p hp => by
    have := X.nn p hp
    unfold one
    rcases hc p hp with h | h
    · rw [if_pos h]
      by_cases h2 : p.2 ∈ b
      · rw [if_pos h2]; omega
      · rw [if_neg h2]; omega
    · rw [if_pos h]
      by_cases h2 : p.1 ∈ a
      · rw [if_pos h2]; omega
      · rw [if_neg h2]; omega
  have hle := lin_mono (c := one) (f := f) hm
  unfold wts
  refine ⟨by omega, fun he => ?_⟩
  have z0 := s0' (by omega)
  have z1 := s1' (by omega)
  have z2 := lin_tight (c := one) (f := f) hm (by omega)
  have key : ∀ (k : Nat) (i : Int), q[k]? = some i → i ∉ a := by
    intro k
    induction k using Nat.strongRecOn with
    | ind k ih =>
      intro i hk hia
      rcases X.chain k i hk with h | ⟨j, k', i', h1, h2, h3, h4, h5⟩
      · have := z0 i hia; omega
      · have hi' := ih k' h2 i' h1
        have hjb : j ∈ b := by
          rcases hc _ h3 with h | h
          · exact absurd h hi'
          · exact h
        have := z2 _ h4
        unfold one at this
        rw [if_pos hia, if_pos hjb] at this
        omega
  intro j hj
  obtain ⟨i, hi, hp⟩ := X.flin j ((X.in1 j).mp hj).2
  obtain ⟨k, hk, e⟩ := List.getElem_of_mem hi
  rcases hc _ hp with h | h
  · exact absurd h (key k i (by rw [List.getElem?_eq_getElem hk, e]))
  · exact h
end
end W

set_option autoImplicit false
set_option Elab.async false
set_option linter.all false
set_option maxRecDepth 100000
/-! weights, forced lefts, all sets of rights tried -/
namespace W
open PySem PySem.Spec PyProof.Rows L2 DL
theorem law_weight {lefts rights : List Int} {c0 c1 : List Int} (l0 : c0.length ≤ 24) (l1 : c1.length ≤ 24) (h0 : Asc lefts.length c0) (h1 : Asc rights.length c1) :
    f__law_weight [.lst (lefts.map .int), .lst (rights.map .int), .tup [.lst (c0.map .int), .lst (c1.map .int)]] = .ret 0 (.int ((wts lefts c0).sum + (wts rights c1).sum)) [.lst (lefts.map .int), .lst (rights.map .int), .tup [.lst (c0.map .int), .lst (c1.map .int)]] := by
  suffices h : ∃ m r, f__law_weight [.lst (lefts.map .int), .lst (rights.map .int), .tup [.lst (c0.map .int), .lst (c1.map .int)]] = .ret m r [.lst (lefts.map .int), .lst (rights.map .int), .tup [.lst (c0.map .int), .lst (c1.map .int)]] ∧ (m = 0 ∧ r = .int ((wts lefts c0).sum + (wts rights c1).sum)) by
    obtain ⟨m, r, e, rfl, rfl⟩ := h; exact e
  refine fn_ret ?_
  unfold m__law_weight
  simp
  refine WE_compL (getF lefts) _ _ (by simp; omega) (fun d hd => ?_) ?_ (fun _ _ z => z)
  · obtain ⟨i, hi, rfl⟩ := List.mem_map.mp hd
    simp [getF, atI_ints (h0.2 i hi).1 (h0.2 i hi).2]
  rw [List.nil_append, getF_map]
  simp
  refine WE_compL (getF rights) _ _ (by simp; omega) (fun d hd => ?_) ?_ (fun _ _ z => z)
  · obtain ⟨i, hi, rfl⟩ := List.mem_map.mp hd
    simp [getF, atI_ints (h1.2 i hi).1 (h1.2 i hi).2]
  rw [List.nil_append, getF_map]
  simp
def forced (ps : List Pr) (cs : List Int) : List Int := sortU ((ps.filter fun p => !decide (p.2 ∈ cs)).map (·.1))
theorem forced_asc {lefts rights : List Int} {ps : List Pr} (Dr : Drawn lefts rights ps) (cs : List Int) : Asc lefts.length (forced ps cs) := ⟨sortU_sorted _, fun c hc => by
  obtain ⟨p, hp, rfl⟩ := List.mem_map.mp ((sortU_mem _ _).mp hc)
  have := Dr.inn p ((List.mem_filter.mp hp).1)
  exact ⟨this.1, this.2.1⟩⟩
theorem forced_cov (ps : List Pr) (cs : List Int) : ∀ p ∈ ps, p.1 ∈ forced ps cs ∨ p.2 ∈ cs := fun p hp => by
  by_cases h : p.2 ∈ cs
  · exact .inr h
  · exact .inl ((sortU_mem _ _).mpr (List.mem_map.mpr ⟨p, List.mem_filter.mpr ⟨hp, by simp [h]⟩, rfl⟩))
theorem Asc.len {n : Nat} {cs : List Int} (h : Asc n cs) : cs.length ≤ n := asc_len (n := n) _ 0 h.1 fun x hx => by have := h.2 x hx; omega
theorem law_forced {lefts rights : List Int} {ps : List Pr} (Dr : Drawn lefts rights ps) (cs : List Int) : ∃ n, f__law_forced [.lst (ps.map ipD), .lst (cs.map .int)] = .ret n (.lst ((forced ps cs).map .int)) [.lst (ps.map ipD), .lst (cs.map .int)] := by
  suffices h : ∃ m r, f__law_forced [.lst (ps.map ipD), .lst (cs.map .int)] = .ret m r [.lst (ps.map ipD), .lst (cs.map .int)] ∧ r = .lst ((forced ps cs).map .int) by
    obtain ⟨m, r, e, rfl⟩ := h; exact ⟨m, e⟩
  have hlen := Dr.len
  refine fn_ret ?_
  unfold m__law_forced
  simp
  refine WE_compL (fun d => match isPr d with
      | some p => if p.2 ∈ cs then none else some (.int p.1)
      | none => none) _ _ (by simp; omega) (fun d hd => ?_) ?_ (fun _ _ z => z)
  · obtain ⟨p, hp, rfl⟩ := List.mem_map.mp hd
    simp [ipD, isPr]
  · have e1 : ((ps.map ipD).filterMap fun d => match isPr d with
      | some p => if p.2 ∈ cs then none else some (D.int p.1)
      | none => none) = ((ps.filter fun p => !decide (p.2 ∈ cs)).map (·.1)).map D.int := by
      rw [List.filterMap_map, fm_eq (c := fun p : Int × Int => !decide (p.2 ∈ cs)) (g := fun p : Int × Int => D.int p.1)]
      · rw [List.map_map]; rfl
      · intro p _
        by_cases h : p.2 ∈ cs <;> simp [isPr, ipD, h]
    have hl := (forced_asc Dr cs).len
    have h24 := Dr.l24
    have hl2 : ((ps.filter fun p => !decide (p.2 ∈ cs)).map (·.1)).length < 4000 := by
      rw [List.length_map]
      exact Nat.lt_of_le_of_lt (List.length_filter_le _ _) (by omega)
    unfold forced at hl
    simp only [List.nil_append, e1, sortSetD_ints (show (sortU _).length < 64 by omega) hl2, oP_some]
    simp [forced]
def ilD (l : List Int) : D := .lst (l.map .int)
set_option maxHeartbeats 2000000 in
theorem trying {lefts rights : List Int} {ps : List Pr} {c0 c1 : List Int} {pk : List Tp} {f : Pr → Int} {q : List Int} {fl : List (Int × Int)} (Dr : Drawn lefts rights ps) (X : Fin lefts rights ps c0 c1 pk f q fl) (h6 : rights.length ≤ 6) :
    ∃ n, f__law_least_by_trying [.lst (lefts.map .int), .lst (rights.map .int), .lst (ps.map ipD), .tup [.lst (c0.map .int), .lst (c1.map .int)]] = .ret n (.bl true) [.lst (lefts.map .int), .lst (rights.map .int), .lst (ps.map ipD), .tup [.lst (c0.map .int), .lst (c1.map .int)]] := by
  have hl24 := Dr.l24
  have lw := law_weight (lefts := lefts) (rights := rights) (by have := X.a0.len; omega) (by have := X.a1.len; omega) X.a0 X.a1
  suffices h : ∃ m r, f__law_least_by_trying [.lst (lefts.map .int), .lst (rights.map .int), .lst (ps.map ipD), .tup [.lst (c0.map .int), .lst (c1.map .int)]] = .ret m r [.lst (lefts.map .int), .lst (rights.map .int), .lst (ps.map ipD), .tup [.lst (c0.map .int), .lst (c1.map .int)]] ∧ r = .bl true by
    obtain ⟨m, r, e, rfl⟩ := h; exact ⟨m, e⟩
  refine fn_retB (fun _ r => r = .bl true) fun J hJ => ?_
  unfold m__law_least_by_trying
  simp
  rw [rng1_nat (by omega) (by omega)]
  simp
  refine WS_forB (fun k e => ∃ parts : List (List Int), parts.length ≤ 2 ^ k ∧ (∀ part ∈ parts, Asc k part) ∧ e = [some (0, .lst (lefts.map .int)), some (0, .lst (rights.map .int)), some (0, .lst (ps.map ipD)), some (0, .tup [.lst (c0.map .int), .lst (c1.map .int)]), some (0, .lst (parts.map ilD)), none, none, none, none]) ⟨[[]], by simp, fun part h => by simp at h; subst h; exact ⟨.nil, by simp⟩, rfl⟩ ?_ ?_
  · rintro K hK k d e hj ⟨parts, hpl, hpa, rfl⟩
    obtain ⟨hkl, rfl⟩ := rangeD_get hj
    have hp6 : 2 ^ k ≤ 2 ^ 5 := Nat.pow_le_pow_right (by omega) (by omega)
    simp
    refine WE_compL (fun d => match d with
      | .lst ds => some (.lst (ds ++ [.int k]))
      | _ => none) _ _ (by simp; omega) (fun d hd => ?_) ?_ (fun _ _ z => z)
    · obtain ⟨part, hp, rfl⟩ := List.mem_map.mp hd
      have := (hpa part hp).len
      refine ⟨_, rfl, ?_⟩
      simp [ilD]
      rw [addD_lst (by simp; omega)]
      simp
    · have e1 : (parts.map ilD).filterMap (fun d => match d with
        | .lst ds => some (D.lst (ds ++ [.int k]))
        | _ => none) = (parts.map fun part => part ++ [(k : Int)]).map ilD := by
        rw [List.filterMap_map, fm_all (g := fun part : List Int => ilD (part ++ [(k : Int)])), List.map_map]
        · rfl
        · intro part _; simp [ilD]
      rw [List.nil_append, e1]
      simp
      rw [addD_lst (by simp; omega)]
      simp
      refine hK (k + 1) _ ⟨parts ++ parts.map fun part => part ++ [(k : Int)], by simp; rw [Nat.pow_succ]; omega, fun part hp => ?_, by simp⟩
      rcases List.mem_append.mp hp with h | h
      · obtain ⟨h1, h2⟩ := hpa part h
        exact ⟨h1, fun c hc => by have := h2 c hc; omega⟩
      · obtain ⟨part', h3, rfl⟩ := List.mem_map.mp h
        obtain ⟨h1, h2⟩ := hpa part' h3
        refine ⟨List.pairwise_append.mpr ⟨h1, by simp, fun a ha b hb => by simp at hb; subst hb; exact (h2 a ha).2⟩, fun c hc => ?_⟩
        rcases List.mem_append.mp hc with h | h
        · have := h2 c h; omega
        · simp at h; omega
  · rintro e ⟨parts, hpl, hpa, rfl⟩
    rw [rangeD_length] at hpa
    simp [lw]
    refine WS_forB (fun k e => e = [some (0, .lst (lefts.map .int)), some (0, .lst (rights.map .int)), some (0, .lst (ps.map ipD)), some (0, .tup [.lst (c0.map .int), .lst (c1.map .int)]), some (0, .lst (parts.map ilD)), none, some (0, .int ((wts lefts c0).sum + (wts rights c1).sum)), none, none]) rfl ?_ ?_
    · rintro K hK k d e hj rfl
      obtain ⟨part, hp, rfl⟩ := map_get hj
      have ha := hpa part (List.mem_of_getElem? hp)
      have hf := forced_asc Dr part
      obtain ⟨n1, e1⟩ := law_forced Dr part
      have e2 := law_weight (lefts := lefts) (rights := rights) (by have := hf.len; omega) (by have := ha.len; omega) hf ha
      obtain ⟨w1, w2⟩ := X.least Dr hf ha (forced_cov ps part)
      generalize (wts lefts c0).sum + (wts rights c1).sum = w at *
      generalize (wts lefts (forced ps part)).sum + (wts rights part).sum = w' at *
      have nlt : ¬ w' < w := by omega
      simp [ilD, e1, e2, nlt]
      refine ⟨fun hw => ?_, fun _ => hK (k + 1) _ rfl⟩
      have hsub := w2 hw
      refine WE_compL (fun _ => none) _ _ (by have := X.a1.len; have := Dr.r24; simp; omega) (fun d hd => ?_) ?_ (fun _ _ z => z)
      · obtain ⟨j, hj, rfl⟩ := List.mem_map.mp hd
        refine ⟨_, rfl, ?_⟩
        simp [hsub j hj]
      · rw [List.nil_append, show (c1.map D.int).filterMap (fun _ => (none : Option D)) = [] from by simp]
        simp
        exact hK (k + 1) _ rfl
    · rintro e rfl
      simp
      exact hJ _ _ rfl
end W

set_option autoImplicit false
set_option Elab.async false
set_option linter.all false
set_option maxRecDepth 100000
/-! the packing -/
namespace W
open PySem PySem.Spec PyProof.Rows L2 DL
theorem pack_sum {f : Pr → Int} (c : Pr → Int) : ∀ {l : List Pr}, (∀ p ∈ l, 0 ≤ f p) → (((l.filter fun p => decide (0 < f p)).map fun p => ((p.1, p.2, f p) : Tp)).map fun t => c (key t) * t.2.2).sum = lin l c f
  | [], _ => rfl
  | p :: l, h => by
    have ih := pack_sum c (l := l) fun q hq => h q (by simp [hq])
    rw [lin_cons, ← ih, List.filter_cons]
    by_cases hp : 0 < f p
    · rw [if_pos (by simpa using hp)]
      simp only [List.map_cons, List.sum_cons]
      rfl
    · have : f p = 0 := by have := h p (by simp); omega
      rw [if_neg (by simpa using hp), this]; simp
theorem packOf_lin {ps : List Pr} {f : Pr → Int} (h : ∀ p ∈ ps, 0 ≤ f p) (c : Pr → Int) : ((packOf ps f).map fun t => c (key t) * t.2.2).sum = lin ps c f := by
  unfold packOf
  rw [pack_sum c fun p hp => h p ((sortP_perm ps).mem_iff.mp hp)]
  exact lin_perm (sortP_perm ps) c f
theorem packOf_useL {ps : List Pr} {f : Pr → Int} (h : ∀ p ∈ ps, 0 ≤ f p) (i : Int) : useL (packOf ps f) i = lin ps (cL i) f := by
  rw [← packOf_lin h]
  unfold useL
  congr 1
  refine List.map_congr_left fun t _ => ?_
  show _ = cL i (t.1, t.2.1) * t.2.2
  rw [cL_eq]
  split <;> simp
theorem packOf_useR {ps : List Pr} {f : Pr → Int} (h : ∀ p ∈ ps, 0 ≤ f p) (i : Int) : useR (packOf ps f) i = lin ps (cR i) f := by
  rw [← packOf_lin h]
  unfold useR
  congr 1
  refine List.map_congr_left fun t _ => ?_
  show _ = cR i (t.1, t.2.1) * t.2.2
  rw [cR_eq]
  split <;> simp
theorem packOf_sum {ps : List Pr} {f : Pr → Int} (h : ∀ p ∈ ps, 0 ≤ f p) : ((packOf ps f).map fun t => t.2.2).sum = lin ps one f := by
  rw [← packOf_lin h]
  congr 1
  exact List.map_congr_left fun t _ => by unfold one; simp
theorem packOf_mem {ps : List Pr} {f : Pr → Int} {t : Tp} : t ∈ packOf ps f ↔ key t ∈ ps ∧ t.2.2 = f (key t) ∧ 0 < f (key t) := by
  unfold packOf
  rw [List.mem_map]
  constructor
  · rintro ⟨p, hp, rfl⟩
    obtain ⟨h1, h2⟩ := List.mem_filter.mp hp
    exact ⟨(sortP_perm ps).mem_iff.mp h1, rfl, of_decide_eq_true h2⟩
  · rintro ⟨h1, h2, h3⟩
    exact ⟨key t, List.mem_filter.mpr ⟨(sortP_perm ps).mem_iff.mpr h1, by simpa using h3⟩, by rw [← h2]; rfl⟩
section
variable {lefts rights : List Int} {ps : List Pr} {c0 c1 : List Int} {pk : List Tp} {f : Pr → Int} {q : List Int} {fl : List (Int × Int)}
theorem Fin.pack (X : Fin lefts rights ps c0 c1 pk f q fl) (Dr : Drawn lefts rights ps) : PackT lefts rights ps pk := by
  rw [X.pk]
  refine ⟨⟨fun t ht => ?_, ?_⟩, fun i hi => ?_, fun i hi => ?_⟩
  · obtain ⟨h1, h2, h3⟩ := packOf_mem.mp ht
    exact ⟨h1, by omega⟩
  · unfold packOf
    refine List.Pairwise.map _ (fun a b h => h) (?_ : List.Pairwise (fun p r => lt2 p r) _)
    refine List.Pairwise.filter _ ?_
    have hn : (sortP ps).Nodup := (sortP_perm ps).nodup_iff.mpr Dr.nd
    refine ((sortP_sorted ps).and hn).imp fun {a b} ⟨h1, h2⟩ => ?_
    unfold LeP at h1
    unfold lt2
    have : ¬ (a.1 = b.1 ∧ a.2 = b.2) := fun ⟨e1, e2⟩ => h2 (Prod.ext e1 e2)
    omega
  · rw [packOf_useL X.nn]; have := X.cap0 i (by omega) (by omega); simpa using this
  · rw [packOf_useR X.nn]; have := X.cap1 i (by omega) (by omega); simpa using this
theorem packOf_len (ps : List Pr) (f : Pr → Int) : (packOf ps f).length ≤ ps.length := by
  unfold packOf
  rw [List.length_map]
  have := List.length_filter_le (fun p => decide (0 < f p)) (sortP ps)
  rw [(sortP_perm ps).length_eq] at this
  exact this
end
theorem asc_ext : ∀ {a b : List Int}, a.Pairwise (· < ·) → b.Pairwise (· < ·) → (∀ x, x ∈ a ↔ x ∈ b) → a = b
  | [], [], _, _, _ => rfl
  | [], y :: b, _, _, h => absurd ((h y).mpr (by simp)) (by simp)
  | x :: a, [], _, _, h => absurd ((h x).mp (by simp)) (by simp)
  | x :: a, y :: b, ha, hb, h => by
    obtain ⟨a1, a2⟩ := List.pairwise_cons.mp ha
    obtain ⟨b1, b2⟩ := List.pairwise_cons.mp hb
    have e : x = y := by
      rcases List.mem_cons.mp ((h x).mp (by simp)) with e | h1
      · exact e
      · rcases List.mem_cons.mp ((h y).mpr (by simp)) with e | h2
        · exact e.symm
        · have := a1 y h2; have := b1 x h1; omega
    subst e
    rw [asc_ext a2 b2 fun z => ?_]
    constructor
    · intro hz
      rcases List.mem_cons.mp ((h z).mp (by simp [hz])) with e | h1
      · have := a1 z hz; omega
      · exact h1
    · intro hz
      rcases List.mem_cons.mp ((h z).mpr (by simp [hz])) with e | h1
      · have := b1 z hz; omega
      · exact h1
end W

set_option autoImplicit false
set_option Elab.async false
set_option linter.all false
set_option maxRecDepth 100000
/-! the cover that is walked to -/
namespace W
open PySem PySem.Spec PyProof.Rows L2 DL
def ClosedW (ps : List Pr) (pk : List Tp) (near far : List Int) : Prop := (∀ p ∈ ps, p.1 ∈ near → p.2 ∈ far) ∧ ∀ t ∈ pk, t.2.1 ∈ far → t.1 ∈ near
section
variable {lefts rights : List Int} {ps : List Pr} {c0 c1 : List Int} {pk : List Tp} {f : Pr → Int} {q : List Int} {fl : List (Int × Int)}
structure Nf (lefts : List Int) (ps : List Pr) (f : Pr → Int) (q : List Int) (fl : List (Int × Int)) (near far : List Int) : Prop where
  nd0 : near.Nodup
  nd1 : far.Nodup
  s0 : ∀ i ∈ near, i ∈ q
  s1 : ∀ j ∈ far, j ∈ fl.map (·.1)
  seed : ∀ i : Int, 0 ≤ i → i < lefts.length → lin ps (cL i) f < lefts.getD i.toNat 0 → i ∈ near
theorem Nf.all (X : Fin lefts rights ps c0 c1 pk f q fl) {near far : List Int} (N : Nf lefts ps f q fl near far) (C : ClosedW ps pk near far) : (∀ i, i ∈ near ↔ i ∈ q) ∧ ∀ j, j ∈ far ↔ j ∈ fl.map (·.1) := by
  have key : ∀ (k : Nat) (i : Int), q[k]? = some i → i ∈ near := by
    intro k
    induction k using Nat.strongRecOn with
    | ind k ih =>
      intro i hk
      have hi := X.qin i (List.mem_of_getElem? hk)
      rcases X.chain k i hk with h | ⟨j, k', i', h1, h2, h3, h4, h5⟩
      · exact N.seed i hi.1 hi.2 h
      · have hj := C.1 _ h3 (ih k' h2 i' h1)
        exact C.2 (i, j, f (i, j)) (by rw [X.pk]; exact packOf_mem.mpr ⟨h4, rfl, h5⟩) hj
  have kq : ∀ i, i ∈ q → i ∈ near := fun i hi => by
    obtain ⟨k, hk, e⟩ := List.getElem_of_mem hi
    exact key k i (by rw [List.getElem?_eq_getElem hk, e])
  refine ⟨fun i => ⟨N.s0 i, kq i⟩, fun j => ⟨N.s1 j, fun hj => ?_⟩⟩
  obtain ⟨i, hi, hp⟩ := X.flin j hj
  exact C.1 _ hp (kq i hi)
set_option maxHeartbeats 4000000 in
theorem walked (Dr : Drawn lefts rights ps) (X : Fin lefts rights ps c0 c1 pk f q fl) :
    ∃ n, f__law_walked [.lst (lefts.map .int), .lst (rights.map .int), .lst (ps.map ipD), .lst (pk.map tpD)] = .ret n (.tup [.lst (c0.map .int), .lst (c1.map .int)]) [.lst (lefts.map .int), .lst (rights.map .int), .lst (ps.map ipD), .lst (pk.map tpD)] := by
  have hl24 := Dr.l24
  have hr24 := Dr.r24
  have hlen := Dr.len
  have hpl := packOf_len ps f
  rw [← X.pk] at hpl
  have hpk : ∀ t ∈ pk, key t ∈ ps ∧ t.2.2 = f (key t) ∧ 0 < f (key t) := fun t ht => by rw [X.pk] at ht; exact packOf_mem.mp ht
  suffices h : ∃ m r, f__law_walked [.lst (lefts.map .int), .lst (rights.map .int), .lst (ps.map ipD), .lst (pk.map tpD)] = .ret m r [.lst (lefts.map .int), .lst (rights.map .int), .lst (ps.map ipD), .lst (pk.map tpD)] ∧ r = .tup [.lst (c0.map .int), .lst (c1.map .int)] by
    obtain ⟨m, r, e, rfl⟩ := h; exact ⟨m, e⟩
  refine fn_retB (fun _ r => r = .tup [.lst (c0.map .int), .lst (c1.map .int)]) fun J hJ => ?_
  have q2 : mulD (.lst [D.int 0]) (.int lefts.length) = some (1, .lst ((List.replicate lefts.length (0 : Int)).map .int)) := by
    unfold mulD
    dsimp only
    rw [if_pos (by simp [LIM]; omega)]
    simp [repD]
  have hu2 : ∀ lu : List Int, UsedL lefts lu pk → ∀ i : Int, 0 ≤ i → i < lefts.length → lu.getD i.toNat 0 = lin ps (cL i) f := fun lu hu i h0 h1 => by
    have := hu.2 i.toNat (by omega)
    rw [this, X.pk, packOf_useL X.nn, show ((i.toNat : Nat) : Int) = i by omega]
  have seedF : ∀ lu : List Int, UsedL lefts lu pk → Nf lefts ps f q fl ((rg lefts.length).filter fun i => decide (lu.getD i.toNat 0 < lefts.getD i.toNat 0)) [] := fun lu hu =>
    ⟨(rg_sorted _).imp (fun h => by omega) |>.filter _, by simp, fun i hi => by
      obtain ⟨h1, h2⟩ := List.mem_filter.mp hi
      have h3 := mem_rg.mp h1
      have h4 := of_decide_eq_true h2
      rw [hu2 lu hu i h3.1 h3.2] at h4
      exact X.seed i h3.1 h3.2 h4, by simp, fun i h0 h1 h2 => List.mem_filter.mpr ⟨mem_rg.mpr ⟨h0, h1⟩, by
      rw [← hu2 lu hu i h0 h1] at h2
      exact decide_eq_true h2⟩⟩
  unfold m__law_walked
  simp only [List.map_replicate] at q2
  simp [q2]
  refine WS_forB (fun k e => ∃ lu : List Int, UsedL lefts lu (pk.take k) ∧ e = [some (0, .lst (lefts.map .int)), some (0, .lst (rights.map .int)), some (0, .lst (ps.map ipD)), some (0, .lst (pk.map tpD)), some (1, .lst (lu.map .int)), none, none, none, none, none, none]) ⟨List.replicate lefts.length 0, ⟨by simp, fun i hi => by simp [useL, List.getD, hi]⟩, by simp⟩ ?_ ?_
  · rintro K hK k d e hj ⟨lu, hu, rfl⟩
    obtain ⟨t, ht, rfl⟩ := map_get hj
    have hin := Dr.inn _ (hpk t (List.mem_of_getElem? ht)).1
    have h0 : 0 ≤ t.1 := hin.1
    have h1 : t.1 < lefts.length := hin.2.1
    have a1 := atI_ints (ns := lu) h0 (by rw [hu.1]; exact h1)
    have hs := hu.snoc h0 h1
    rw [← take_get ht] at hs
    obtain ⟨v, hv⟩ : ∃ v, v = lu.getD t.1.toNat 0 := ⟨_, rfl⟩
    rw [← hv] at a1 hs
    have put1 : putD (.lst (lu.map D.int)) (.int t.1) (.int (v + t.2.2)) = some (.lst ((lu.set t.1.toNat (v + t.2.2)).map .int)) := by
      rw [putD_lst h0 (by simp; rw [hu.1]; exact h1), List.map_set]
    simp [tpD, a1]
    rw [put1]
    simp
    exact hK (k + 1) _ ⟨_, hs, by simp [tpD]⟩
  · rintro e ⟨lu, hu, rfl⟩
    rw [List.length_map, List.take_length] at hu
    simp
    rw [rng1_nat (by omega) (by omega)]
    simp
    refine WE_compL (fun d => match isIn d with
      | some i => if lu.getD i.toNat 0 < lefts.getD i.toNat 0 then some (.int i) else none
      | none => none) _ _ (by simp; omega) (fun d hd => ?_) ?_ (fun _ _ z => z)
    · obtain ⟨j, hj, rfl⟩ := rangeD_mem hd
      refine ⟨_, rfl, ?_⟩
      rw [Int.zero_add]
      have a1 := atI_ints (ns := lu) (i := j) (by omega) (by rw [hu.1]; omega)
      have a2 := atI_ints (ns := lefts) (i := j) (by omega) (by omega)
      obtain ⟨v, hv⟩ : ∃ v, v = lu.getD ((j : Int)).toNat 0 := ⟨_, rfl⟩
      obtain ⟨w, hw⟩ : ∃ w, w = lefts.getD ((j : Int)).toNat 0 := ⟨_, rfl⟩
      simp only [isIn]
      rw [← hv] at a1 ⊢
      rw [← hw] at a2 ⊢
      by_cases hvw : v < w
      · simp [a1, a2, hvw]
      · simp [a1, a2, hvw]
    · have e1 : (rangeD 0 lefts.length).filterMap (fun d => match isIn d with
        | some i => if lu.getD i.toNat 0 < lefts.getD i.toNat 0 then some (D.int i) else none
        | none => none) = ((rg lefts.length).filter fun i => decide (lu.getD i.toNat 0 < lefts.getD i.toNat 0)).map .int := by
        rw [rangeD_rg, List.filterMap_map, fm_eq (c := fun i : Int => decide (lu.getD i.toNat 0 < lefts.getD i.toNat 0)) (g := fun i : Int => D.int i)]
        intro i _
        by_cases h : lu.getD i.toNat 0 < lefts.getD i.toNat 0
        · simp only [Function.comp, isIn, if_pos h, decide_eq_true h, if_true]
        · simp only [Function.comp, isIn, if_neg h, decide_eq_false h]; rfl
      have N0 := seedF lu hu
      rw [List.nil_append, e1]
      generalize (rg lefts.length).filter (fun i => decide (lu.getD i.toNat 0 < lefts.getD i.toNat 0)) = near0 at N0 ⊢
      simp
      rw [rng1_nat (by omega) (by omega)]
      simp
      have kin : ∀ j ∈ fl.map (·.1), 0 ≤ j ∧ j < (rights.length : Int) := fun j hj => by
        obtain ⟨i, _, hp⟩ := X.flin j hj
        exact (Dr.inn _ hp).2.2
      have n24 : ∀ near far, Nf lefts ps f q fl near far → near.length ≤ 24 ∧ far.length ≤ 24 ∧ near.length ≤ lefts.length := fun near far N => by
        have h1 := nodup_int_len N.nd0 fun x hx => X.qin x (N.s0 x hx)
        have h2 := nodup_int_len N.nd1 fun x hx => kin x (N.s1 x hx)
        omega
      refine WS_forB (fun k e => ∃ near far : List Int, Nf lefts ps f q fl near far ∧ (ClosedW ps pk near far ∨ k ≤ near.length) ∧ e = [some (0, .lst (lefts.map .int)), some (0, .lst (rights.map .int)), some (0, .lst (ps.map ipD)), some (0, .lst (pk.map tpD)), some (1, .lst (lu.map .int)), none, none, none, some (1, .lst (near.map .int)), some (1, .lst (far.map .int)), none]) ⟨near0, [], N0, .inr (Nat.zero_le _), rfl⟩ ?_ ?_
      · rintro K hK k d e hj ⟨near, far, N, hC, rfl⟩
        obtain ⟨hkl, rfl⟩ := rangeD_get hj
        simp
        refine WS_forB (fun t e => ∃ far' : List Int, Nf lefts ps f q fl near far' ∧ (∀ p ∈ ps.take t, p.1 ∈ near → p.2 ∈ far') ∧ (ClosedW ps pk near far → far' = far) ∧ e = [some (0, .lst (lefts.map .int)), some (0, .lst (rights.map .int)), some (0, .lst (ps.map ipD)), some (0, .lst (pk.map tpD)), some (1, .lst (lu.map .int)), none, none, none, some (1, .lst (near.map .int)), some (1, .lst (far'.map .int)), some (0, .int k)]) ⟨far, N, by simp, fun _ => rfl, rfl⟩ ?_ ?_
        · rintro KA hKA t d e hj ⟨far', N, htk, hcl, rfl⟩
          obtain ⟨⟨i, j⟩, hp, rfl⟩ := map_get hj
          have hpm := List.mem_of_getElem? hp
          have hlens := n24 _ _ N
          have tk : ∀ far2 : List Int, (∀ y ∈ far', y ∈ far2) → (i ∈ near → j ∈ far2) → ∀ p ∈ ps.take (t + 1), p.1 ∈ near → p.2 ∈ far2 := fun far2 h1 h2 p hq hn => by
            rw [take_get hp] at hq
            rcases List.mem_append.mp hq with h | h
            · exact h1 _ (htk p h hn)
            · simp at h; subst h; exact h2 hn
          by_cases h1 : i ∈ near
          · by_cases h2 : j ∈ far'
            · simp [ipD, h1, h2]
              exact hKA (t + 1) _ ⟨far', N, tk far' (fun _ h => h) (fun _ => h2), hcl, rfl⟩
            · simp [ipD, h1, h2, LIM]
              refine ⟨by omega, hKA (t + 1) _ ⟨far' ++ [j], ⟨N.nd0, List.nodup_append.mpr ⟨N.nd1, by simp, fun a ha c hc e => by simp at hc; subst hc; subst e; exact h2 ha⟩, N.s0, fun y hy => ?_, N.seed⟩, tk _ (fun y h => List.mem_append_left _ h) (fun _ => by simp), fun hc => absurd ?_ h2, by simp⟩⟩
              · rcases List.mem_append.mp hy with h | h
                · exact N.s1 y h
                · simp at h; subst h; exact X.fwd _ hpm (N.s0 i h1)
              · rw [hcl hc]; exact hc.1 _ hpm h1
          · simp [ipD, h1]
            exact hKA (t + 1) _ ⟨far', N, tk far' (fun _ h => h) (fun h => absurd h h1), hcl, rfl⟩
        · rintro e ⟨far', N, htk, hcl, rfl⟩
          rw [List.length_map, List.take_length] at htk
          simp
          refine WS_forB (fun t e => ∃ r : List Int, Nf lefts ps f q fl (near ++ r) far' ∧ (∀ s ∈ pk.take t, s.2.1 ∈ far' → s.1 ∈ near ++ r) ∧ (ClosedW ps pk near far → r = []) ∧ e = [some (0, .lst (lefts.map .int)), some (0, .lst (rights.map .int)), some (0, .lst (ps.map ipD)), some (0, .lst (pk.map tpD)), some (1, .lst (lu.map .int)), none, none, none, some (1, .lst ((near ++ r).map .int)), some (1, .lst (far'.map .int)), some (0, .int k)]) ⟨[], by simpa using N, by simp, fun _ => rfl, by simp⟩ ?_ ?_
          · rintro KB hKB t d e hj ⟨r, N, htq, hcr, rfl⟩
            obtain ⟨⟨i, j, a⟩, hp, rfl⟩ := map_get hj
            have hpm := List.mem_of_getElem? hp
            have hps := hpk _ hpm
            have hlens := n24 _ _ N
            have tk : ∀ r2 : List Int, (∀ y ∈ near ++ r, y ∈ near ++ r2) → (j ∈ far' → i ∈ near ++ r2) → ∀ s ∈ pk.take (t + 1), s.2.1 ∈ far' → s.1 ∈ near ++ r2 := fun r2 h1 h2 s hq hn => by
              rw [take_get hp] at hq
              rcases List.mem_append.mp hq with h | h
              · exact h1 _ (htq s h hn)
              · simp at h; subst h; exact h2 hn
            generalize hnr : near ++ r = nr at N htq hlens tk
            by_cases h1 : j ∈ far'
            · by_cases h2 : i ∈ nr
              · simp [tpD, h1, h2]
                refine hKB (t + 1) _ ⟨r, by rw [hnr]; exact N, tk r (fun y h => by rw [hnr]; exact h) (fun _ => by rw [hnr]; exact h2), hcr, by rw [hnr]⟩
              · simp [tpD, h1, h2, LIM]
                refine ⟨by omega, hKB (t + 1) _ ⟨r ++ [i], ?_, tk (r ++ [i]) (fun y h => by rw [← List.append_assoc, hnr]; exact List.mem_append_left _ h) (fun _ => by simp), fun hc => absurd ?_ h2, by rw [← List.append_assoc, hnr]; simp⟩⟩
                · rw [← List.append_assoc, hnr]
                  exact ⟨List.nodup_append.mpr ⟨N.nd0, by simp, fun a ha c hc e => by simp at hc; subst hc; subst e; exact h2 ha⟩, N.nd1, fun y hy => by
                    rcases List.mem_append.mp hy with h | h
                    · exact N.s0 y h
                    · simp at h; subst h; exact X.bwd _ hps.1 (N.s1 j h1) hps.2.2, N.s1, fun i2 a1 a2 a3 => List.mem_append_left _ (N.seed i2 a1 a2 a3)⟩
                · rw [← hnr, hcr hc, List.append_nil]
                  rw [hcl hc] at h1
                  exact hc.2 _ hpm h1
            · simp [tpD, h1]
              refine hKB (t + 1) _ ⟨r, by rw [hnr]; exact N, tk r (fun y h => by rw [hnr]; exact h) (fun h => absurd h h1), hcr, by rw [hnr]⟩
          · rintro e ⟨r, N, htq, hcr, rfl⟩
            rw [List.length_map, List.take_length] at htq
            generalize hnr : near ++ r = nr at N htq
            simp
            refine hK (k + 1) _ ⟨nr, far', N, ?_, rfl⟩
            by_cases hr : r = []
            · left
              have : nr = near := by rw [← hnr, hr, List.append_nil]
              subst this
              exact ⟨htk, htq⟩
            · right
              have h1 : 0 < r.length := List.length_pos_iff.mpr hr
              rcases hC with hC | hC
              · exact absurd (hcr hC) hr
              · rw [← hnr, List.length_append]; omega
      · rintro e ⟨near, far, N, hC, rfl⟩
        rw [rangeD_length] at hC
        have hlens := n24 _ _ N
        simp
        have hcl : ClosedW ps pk near far := by
          rcases hC with h | h
          · exact h
          · omega
        have hnf := N.all X hcl
        have hn := hnf.1
        have hf := hnf.2
        have es : sortedX [.lst (far.map .int)] = some (1, .lst ((sortI far).map .int)) := by
          unfold sortedX
          dsimp only
          rw [intsOf_map]
        have e1 : sortI far = c1 := by
          refine asc_ext ?_ X.a1.1 fun j => ?_
          · have hnd : (sortI far).Nodup := (sortI_perm far).nodup_iff.mpr N.nd1
            exact ((sortI_sorted far).and hnd).imp fun ⟨h1, h2⟩ => by omega
          · rw [(sortI_perm far).mem_iff, hf, X.in1]
            exact ⟨fun h => ⟨kin j h, h⟩, fun h => h.2⟩
        have e0 : ((rg lefts.length).filter fun i => !decide (i ∈ near)) = c0 := by
          refine asc_ext ((rg_sorted _).filter _) X.a0.1 fun i => ?_
          rw [List.mem_filter, mem_rg, X.in0, ← hn]
          simp
        rw [e1] at es
        rw [rng1_nat (by omega) (by omega)]
        simp
        refine WE_compL (fun d => match isIn d with
          | some i => if i ∈ near then none else some (.int i)
          | none => none) _ _ (by simp; omega) (fun d hd => ?_) ?_ (fun _ _ z => z)
        · obtain ⟨j, hj, rfl⟩ := rangeD_mem hd
          refine ⟨_, rfl, ?_⟩
          rw [Int.zero_add]
          by_cases h : (j : Int) ∈ near
          · simp [isIn, h]
          · simp [isIn, h]
        · have e2 : (rangeD 0 lefts.length).filterMap (fun d => match isIn d with
            | some i => if i ∈ near then none else some (D.int i)
            | none => none) = c0.map .int := by
            rw [← e0, rangeD_rg, List.filterMap_map, fm_eq (c := fun i : Int => !decide (i ∈ near)) (g := fun i : Int => D.int i)]
            intro i _
            by_cases h : i ∈ near <;> simp [isIn, h]
          rw [List.nil_append, e2]
          simp [es]
          exact hJ _ _ rfl
end
end W

set_option autoImplicit false
set_option Elab.async false
set_option linter.all false
set_option maxRecDepth 100000
/-! the draw -/
namespace W
open PySem PySem.Spec PyProof.Rows L2 DL
theorem lt2_nodup {l : List Pr} (h : l.Pairwise lt2) : l.Nodup := h.imp fun {a b} h e => by subst e; unfold lt2 at h; omega
def swp (p : Pr) : Pr := (p.2, p.1)
theorem swp_swp (l : List Pr) : (l.map swp).map swp = l := by
  rw [List.map_map]
  exact List.map_id' l
theorem Drawn.perm {lefts rights : List Int} {ps ps' : List Pr} (D : Drawn lefts rights ps) (h : ps'.Perm ps) : Drawn lefts rights ps' :=
  ⟨D.l24, D.r24, D.lpos, D.rpos, fun p hp => D.inn p (h.mem_iff.mp hp), h.nodup_iff.mpr D.nd, by rw [h.length_eq]; exact D.len⟩
set_option maxHeartbeats 4000000 in
theorem draw (ns : List Int) : ∃ (lefts rights : List Int) (pairs : List (Int × Int)), Drawn lefts rights pairs ∧
    ∃ n, f__law_draw [.scr (ns.map .int)] = .ret n (.tup [.lst (lefts.map .int), .lst (rights.map .int), .lst (pairs.map ipD)]) [.scr (ns.map .int)] := by
  suffices h : ∃ n d, f__law_draw [.scr (ns.map .int)] = .ret n d [.scr (ns.map .int)] ∧ (∃ (lefts rights : List Int) (pairs : List (Int × Int)), Drawn lefts rights pairs ∧ d = .tup [.lst (lefts.map .int), .lst (rights.map .int), .lst (pairs.map ipD)]) by
    obtain ⟨n, d, e, l, r, p, D, rfl⟩ := h
    exact ⟨l, r, p, D, n, e⟩
  refine fn_retB (fun _ d => ∃ (lefts rights : List Int) (pairs : List (Int × Int)), Drawn lefts rights pairs ∧ d = .tup [.lst (lefts.map .int), .lst (rights.map .int), .lst (pairs.map ipD)]) fun J hJ => ?_
  have h0 := number ns 0 (by decide)
  generalize numv ns 0 = z0 at h0
  have hd := digits z0 [6, 7, 7, 25, 25, 3, 3, 4] (by decide) (by decide)
  simp [digs] at hd
  unfold m__law_draw
  rw [WS_assoc, WS_assoc, WS_assoc, WS_assoc]
  refine WS_cut (fun e => ∃ L R : Int, 0 ≤ L ∧ L ≤ 24 ∧ 0 ≤ R ∧ R ≤ 24 ∧ ∃ most : Int, 0 < most ∧ most < 1000 ∧ ∃ dl : List D, ((∃ q : Int, L2.atI dl 7 = some (.int q)) ∧ ∃ q : Int, L2.atI dl 6 = some (.int q)) ∧ e = [some (0, .scr (ns.map .int)), some (0, .lst dl), some (0, .int L), some (0, .int R), some (0, .int most), none, none, none, none, none, none, none, none]) ?_ ?_
  · have ats : ∀ a0 a1 a2 a3 a4 a5 a6 a7 : Int, L2.atI [D.int a0, .int a1, .int a2, .int a3, .int a4, .int a5, .int a6, .int a7] 0 = some (.int a0) ∧ L2.atI [D.int a0, .int a1, .int a2, .int a3, .int a4, .int a5, .int a6, .int a7] 1 = some (.int a1) ∧ L2.atI [D.int a0, .int a1, .int a2, .int a3, .int a4, .int a5, .int a6, .int a7] 2 = some (.int a2) ∧ L2.atI [D.int a0, .int a1, .int a2, .int a3, .int a4, .int a5, .int a6, .int a7] 3 = some (.int a3) ∧ L2.atI [D.int a0, .int a1, .int a2, .int a3, .int a4, .int a5, .int a6, .int a7] 4 = some (.int a4) ∧ L2.atI [D.int a0, .int a1, .int a2, .int a3, .int a4, .int a5, .int a6, .int a7] 5 = some (.int a5) ∧ L2.atI [D.int a0, .int a1, .int a2, .int a3, .int a4, .int a5, .int a6, .int a7] 6 = some (.int a6) ∧ L2.atI [D.int a0, .int a1, .int a2, .int a3, .int a4, .int a5, .int a6, .int a7] 7 = some (.int a7) := fun _ _ _ _ _ _ _ _ => ⟨rfl, rfl, rfl, rfl, rfl, rfl, rfl, rfl⟩
    have b1 : 0 ≤ z0 / 6 % 7 ∧ z0 / 6 % 7 ≤ 24 := by omega
    have b2 : 0 ≤ z0 / 6 / 7 % 7 ∧ z0 / 6 / 7 % 7 ≤ 24 := by omega
    have b3 : 0 ≤ z0 / 6 / 7 / 7 % 25 ∧ z0 / 6 / 7 / 7 % 25 ≤ 24 := by omega
    have b4 : 0 ≤ z0 / 6 / 7 / 7 / 25 % 25 ∧ z0 / 6 / 7 / 7 / 25 % 25 ≤ 24 := by omega
    have b5 : 0 ≤ z0 / 6 / 7 / 7 / 25 / 25 % 3 ∧ z0 / 6 / 7 / 7 / 25 / 25 % 3 < 3 := by omega
    generalize z0 % 6 = d0 at hd
    generalize z0 / 6 % 7 = d1 at hd b1
    generalize z0 / 6 / 7 % 7 = d2 at hd b2
    generalize z0 / 6 / 7 / 7 % 25 = d3 at hd b3
    generalize z0 / 6 / 7 / 7 / 25 % 25 = d4 at hd b4
    generalize z0 / 6 / 7 / 7 / 25 / 25 % 3 = d5 at hd b5
    generalize z0 / 6 / 7 / 7 / 25 / 25 / 3 % 3 = d6 at hd
    generalize z0 / 6 / 7 / 7 / 25 / 25 / 3 / 3 % 4 = d7 at hd
    obtain ⟨t0, t1, t2, t3, t4, t5, t6, t7⟩ := ats d0 d1 d2 d3 d4 d5 d6 d7
    have hm : ∃ most : Int, 0 < most ∧ most < 1000 ∧ L2.atI [D.int 3, D.int 9, D.int 999] d5 = some (.int most) := by
      have h1 : d5 = 0 ∨ d5 = 1 ∨ d5 = 2 := by omega
      rcases h1 with h1 | h1 | h1 <;> rw [h1]
      · exact ⟨3, by decide, by decide, rfl⟩
      · exact ⟨9, by decide, by decide, rfl⟩
      · exact ⟨999, by decide, by decide, rfl⟩
    obtain ⟨most, m1, m2, hm⟩ := hm
    simp [h0, hd]
    generalize hdl : [D.int d0, .int d1, .int d2, .int d3, .int d4, .int d5, .int d6, .int d7] = dl at t0 t1 t2 t3 t4 t5 t6 t7 ⊢
    simp [t0, t1, t2, t3, t4, t5, t6, t7, hm]
    refine ⟨fun _ => ⟨d3, b3.1, b3.2, d4, b4.1, b4.2, most, m1, m2, dl, ⟨⟨d7, t7⟩, d6, t6⟩, rfl, rfl, rfl, rfl⟩, fun _ => ⟨d1, b1.1, b1.2, d2, b2.1, b2.2, most, m1, m2, dl, ⟨⟨d7, t7⟩, d6, t6⟩, rfl, rfl, rfl, rfl⟩⟩
  · rintro e ⟨L, R, l0, l1, r0, r1, most, m1, m2, dl, ⟨⟨q, hq⟩, q6, hq6⟩, rfl⟩
    simp [rng1_nat l0 (by omega)]
    refine WS_forB (fun k e => ∃ (lefts : List Int) (pairs : List (Int × Int)), lefts.length = k ∧ (∀ x ∈ lefts, 1 ≤ x ∧ x ≤ 1000) ∧ pairs.Pairwise lt2 ∧ (∀ p ∈ pairs, 0 ≤ p.1 ∧ p.1 < k ∧ 0 ≤ p.2 ∧ p.2 < R) ∧ pairs.length ≤ 24 * k ∧
      e = [some (0, .scr (ns.map .int)), some (0, .lst dl), some (0, .int L), some (0, .int R), some (0, .int most), some (1, .lst (lefts.map .int)), some (1, .lst (pairs.map ipD)), none, none, none, none, none, none]) ?_ ?_ ?_
    · exact ⟨[], [], rfl, by simp, .nil, by simp, by simp, rfl⟩
    · rintro J hJ i d e hi ⟨lefts, pairs, hl, hp, hs, hin, hlen, rfl⟩
      obtain ⟨hiL, rfl⟩ := rangeD_get hi
      have hn := number ns (1 + (0 + (i : Int))) (by omega)
      simp only [Int.zero_add] at hn ⊢
      simp [hn, LIM, hl, modD_int m1, fdivD_int m1 (show most < 2 ^ 30 by omega), rng1_nat r0 (by omega)]
      refine ⟨by omega, ?_⟩
      refine WS_forB (fun k e => ∃ (pairs : List (Int × Int)) (num : Int), pairs.Pairwise lt2 ∧ (∀ p ∈ pairs, 0 ≤ p.1 ∧ (p.1 < i ∨ p.1 = i ∧ p.2 < k) ∧ 0 ≤ p.2 ∧ p.2 < R) ∧ pairs.length ≤ 24 * i + k ∧
        e = [some (0, .scr (ns.map .int)), some (0, .lst dl), some (0, .int L), some (0, .int R), some (0, .int most), some (1, .lst (lefts.map .int ++ [.int (1 + numv ns (1 + (i : Int)) % most)])), some (1, .lst (pairs.map ipD)), some (0, .int i), none, some (0, .int num), none, none, none]) ?_ ?_ ?_
      · exact ⟨pairs, _, hs, fun p h => ⟨(hin p h).1, .inl (hin p h).2.1, (hin p h).2.2⟩, hlen, rfl⟩
      · rintro J hJ j d e hj ⟨ps, num, hs, hin, hlen, rfl⟩
        obtain ⟨hjR, rfl⟩ := rangeD_get hj
        simp only [Int.zero_add]
        simp [hq, LIM]
        refine ⟨fun _ => ⟨by omega, hJ _ _ ⟨ps ++ [((i : Int), (j : Int))], num / 4, ?_, ?_, ?_, by simp [ipD]⟩⟩, fun _ => hJ _ _ ⟨ps, num / 4, hs, fun p h => ?_, by omega, rfl⟩⟩
        · refine List.pairwise_append.mpr ⟨hs, by simp, fun a ha b hb => ?_⟩
          simp at hb
          subst hb
          have := hin a ha
          unfold lt2
          omega
        · intro p hp
          rcases List.mem_append.mp hp with hp | hp
          · have := hin p hp; omega
          · simp at hp; subst hp; simp; omega
        · simp; omega
        · have := hin p h; omega
      · rintro e ⟨ps, num, hs, hin, hlen, rfl⟩
        simp at hin hlen ⊢
        refine hJ _ _ ⟨lefts ++ [1 + numv ns (1 + (i : Int)) % most], ps, by simp [hl], fun x hx => ?_, hs, fun p hp => ?_, by omega, by simp⟩
        · rcases List.mem_append.mp hx with hx | hx
          · exact hp x hx
          · simp at hx
            have := Int.emod_nonneg (numv ns (1 + (i : Int))) (show most ≠ 0 by omega)
            have := Int.emod_lt_of_pos (numv ns (1 + (i : Int))) m1
            omega
        · have := hin p.1 p.2 hp; omega
    · rintro e ⟨lefts, pairs, hl, hp, hs, hin, hlen, rfl⟩
      simp [rng1_nat r0 (by omega)]
      refine WE_compL (fun d => match d with
        | .int j => some (.int (1 + numv ns (25 + j) % most))
        | _ => none) _ _ (by simp; omega) (fun d hd => ?_) ?_ (fun _ _ z => z)
      · obtain ⟨j, hj, rfl⟩ := rangeD_mem hd
        have hn := number ns (25 + (0 + (j : Int))) (by omega)
        simp only [Int.zero_add] at hn ⊢
        simp [hn, modD_int m1]
      · have e1 : (rangeD 0 R.toNat).filterMap (fun d => match d with
          | .int j => some (D.int (1 + numv ns (25 + j) % most))
          | _ => none) = ((List.range R.toNat).map fun (j : Nat) => 1 + numv ns (25 + (j : Int)) % most).map D.int := by
          unfold rangeD
          rw [List.filterMap_map, List.map_map]
          simp
          rw [← List.filterMap_eq_map]
          rfl
        simp at hl hin hlen
        simp [e1]
        have D0 : Drawn lefts ((List.range R.toNat).map fun (j : Nat) => 1 + numv ns (25 + (j : Int)) % most) pairs := by
          refine ⟨by omega, by simp; omega, hp, fun x hx => ?_, fun p hp => ?_, lt2_nodup hs, by omega⟩
          · obtain ⟨j, _, rfl⟩ := List.mem_map.mp hx
            have := Int.emod_nonneg (numv ns (25 + (j : Int))) (show most ≠ 0 by omega)
            have := Int.emod_lt_of_pos (numv ns (25 + (j : Int))) m1
            omega
          · have := hin p.1 p.2 hp
            simp; omega
        rw [← List.map_map (f := fun (j : Nat) => 1 + numv ns (25 + (j : Int)) % most) (g := D.int)]
        generalize (List.range R.toNat).map (fun (j : Nat) => 1 + numv ns (25 + (j : Int)) % most) = rights at D0 ⊢
        have fin : ∀ ps : List Pr, ps.Perm pairs → J 0 (.tup [.lst (lefts.map .int), .lst (rights.map .int), .lst (ps.map ipD)]) := fun ps h => hJ _ _ ⟨lefts, rights, ps, D0.perm h, rfl⟩
        have hlen := D0.len
        have comp : ∀ (l : List Pr) (e : DEnv) (P : Nat × D → DEnv → Prop), l.length ≤ 576 → (∀ d, get0 (e.set 12 (some (0, d))) 12 = some d) → e.set 12 none = e → P (1, .lst ((l.map swp).map ipD)) e → WE (fun _ _ => False) (compL (gN 12) [12] mYes (mTup (mCons (mOp2 idxD (mVar 12) (mC (.int 1))) (mCons (mOp2 idxD (mVar 12) (mC (.int 0))) mNil))) (l.map ipD) [] e) P := fun l e P hl he hs hp => by
          refine WE_compL (fun d => match isPr d with
            | some p => some (ipD (swp p))
            | none => none) _ _ (by simp; omega) (fun d hd => ?_) ?_ (fun _ _ z => z)
          · obtain ⟨p, _, rfl⟩ := List.mem_map.mp hd
            refine ⟨_, rfl, ?_⟩
            have g1 := he (ipD p)
            have w1 : (e.set 12 (some (0, ipD p))).set 12 none = e := by rw [List.set_set]; exact hs
            have i1 : L2.atI [D.int p.1, D.int p.2] 1 = some (.int p.2) := rfl
            have i0 : L2.atI [D.int p.1, D.int p.2] 0 = some (.int p.1) := rfl
            simp only [ipD] at g1 w1 ⊢
            simp [g1, i1, i0, isPr, ipD, swp, w1]
          · have e2 : (l.map ipD).filterMap (fun d => match isPr d with
              | some p => some (ipD (swp p))
              | none => none) = (l.map swp).map ipD := by
              rw [List.filterMap_map, fm_all (g := fun p : Pr => ipD (swp p)), List.map_map]
              · rfl
              · intro p _; rfl
            rw [List.nil_append, e2]
            exact hp
        simp [hq6]
        by_cases h1 : q6 = 1
        · subst h1
          simp [hq6]
          rw [← List.map_reverse]
          exact fin _ (List.reverse_perm _)
        · by_cases h2 : q6 = 2
          · subst h2
            simp [hq6]
            refine comp pairs _ _ hlen ?_ ?_ ?_
            · exact fun _ => rfl
            · rfl
            have sx : sortedX [.lst (pairs.map (ipD ∘ swp))] = some (1, .lst ((sortP (pairs.map swp)).map ipD)) := by rw [← List.map_map]; exact sortedX_prs _
            simp [sx]
            refine comp (sortP (pairs.map swp)) _ _ (by rw [(sortP_perm _).length_eq, List.length_map]; exact hlen) ?_ ?_ ?_
            · exact fun _ => rfl
            · rfl
            simp
            have := fin ((sortP (pairs.map swp)).map swp) (by have := (sortP_perm (pairs.map swp)).map swp; rw [swp_swp] at this; exact this)
            simpa using this
          · simp [hq6, h1, h2]
            exact fin _ (.refl _)
end W

set_option autoImplicit false
set_option Elab.async false
set_option linter.all false
set_option maxRecDepth 100000
/-! the law -/
namespace W
open PySem PySem.Spec PyProof.Rows L2 DL
theorem same_int (i : Int) : f__law_same 6 [.int i, .int i] = .ret 0 (.bl true) [.int i, .int i] := same_refl 5 _ rfl
theorem BoolIs.tru {o : FR} {ds : List D} {p : Prop} (h : BoolIs o ds p) (hp : p) : o = .ret 0 (.bl true) ds := by
  obtain ⟨b, e, h⟩ := h
  rw [h.mpr hp] at e; exact e
theorem okS_lst_mk {n : Nat} {ds : List D} (h : ds.length ≤ 100) (k : ∀ d ∈ ds, okS n d = true) : okS (n + 1) (.lst ds) = true := by
  simp only [okS, Bool.and_eq_true, decide_eq_true_eq]
  exact ⟨by omega, List.all_eq_true.mpr k⟩
theorem okS_tup_mk {n : Nat} {ds : List D} (h : ds.length ≤ 100) (k : ∀ d ∈ ds, okS n d = true) : okS (n + 1) (.tup ds) = true := by
  simp only [okS, Bool.and_eq_true, decide_eq_true_eq]
  exact ⟨by omega, List.all_eq_true.mpr k⟩
theorem okS_ints {n : Nat} {ns : List Int} (h : ns.length ≤ 24) : okS (n + 1) (.lst (ns.map .int)) = true := by
  simp only [okS, Bool.and_eq_true, decide_eq_true_eq, List.length_map]
  refine ⟨by omega, ?_⟩
  rw [List.all_map]
  exact List.all_eq_true.mpr fun i _ => by cases n <;> simp [okS]
theorem okS_prs {n : Nat} {ps : List Pr} (h : ps.length ≤ 576) : okS (n + 2) (.lst (ps.map ipD)) = true := by
  simp only [okS, Bool.and_eq_true, decide_eq_true_eq, List.length_map]
  refine ⟨by omega, ?_⟩
  rw [List.all_map]
  exact List.all_eq_true.mpr fun p _ => by cases n <;> simp [ipD, okS]
theorem Kn.int {i : Int} : Kn (.int i) := ⟨_, rfl⟩
theorem Kn.lst {ds : List D} : Kn (.lst ds) := ⟨_, rfl⟩
theorem Kn.tup {ds : List D} : Kn (.tup ds) := ⟨_, rfl⟩
theorem KnL.ints {l : List Int} : KnL (.lst (l.map .int)) := ⟨.lst, fun ds h x hx => by
  cases h
  obtain ⟨i, _, rfl⟩ := List.mem_map.mp hx
  exact .int⟩
theorem KnP.tps {l : List Tp} : KnP (.lst (l.map tpD)) := ⟨.lst, fun ds h x hx => by
  cases h
  obtain ⟨t, _, rfl⟩ := List.mem_map.mp hx
  refine ⟨.tup, fun es h y hy => ?_⟩
  cases h
  simp at hy
  rcases hy with rfl | rfl | rfl <;> exact .int⟩
theorem sum_tps {l : List Tp} : (l.map tpD).filterMap (fun d => match d with
    | .tup [_, _, .int a] => some (D.int a)
    | _ => none) = (l.map fun t => t.2.2).map .int := by
  rw [List.filterMap_map, fm_all (g := fun t : Tp => D.int t.2.2), List.map_map]
  · rfl
  · intro t _; rfl
set_option maxHeartbeats 8000000 in
theorem law_holds : LawD f_law := by
  intro ns _ _
  suffices h : ∃ m r, f_law [.scr (ns.map .int)] = .ret m r [.scr (ns.map .int)] ∧ r = .bl true by
    obtain ⟨m, r, e, rfl⟩ := h; exact ⟨m, _, e⟩
  obtain ⟨lefts, rights, ps, Dr, n0, e0⟩ := draw ns
  obtain ⟨c0, c1, pk, e1, B⟩ := best_cover Dr
  obtain ⟨f, q, fl, X⟩ := B.fin Dr
  have hl24 := Dr.l24
  have hr24 := Dr.r24
  have hlen := Dr.len
  have hpl := packOf_len ps f
  rw [← X.pk] at hpl
  have l0 : c0.length ≤ 24 := by have := X.a0.len; omega
  have l1 : c1.length ≤ 24 := by have := X.a1.len; omega
  have p0 := (law_places (n := lefts.length) (KnL.ints (l := c0))).tru ⟨c0, rfl, X.a0⟩
  have p1 := (law_places (n := rights.length) (KnL.ints (l := c1))).tru ⟨c1, rfl, X.a1⟩
  have ip := (law_is_packing hl24 hr24 Dr.inn (KnP.tps (l := pk))).tru ⟨pk, rfl, X.pack Dr⟩
  have ip2 := (is_pair_packing Dr.inn (KnP.tps (l := pk))).tru ⟨pk, rfl, X.pack Dr⟩
  have lw := law_weight (lefts := lefts) (rights := rights) l0 l1 X.a0 X.a1
  have cw := cover_weight (lefts := lefts) (rights := rights) l0 l1 X.a0 X.a1
  have hw := X.weight Dr
  have hsum := packOf_sum X.nn
  rw [← X.pk, ← hw] at hsum
  obtain ⟨nw, ew⟩ := walked Dr X
  have et : ∃ nt, rights.length ≤ 6 → f__law_least_by_trying [.lst (lefts.map .int), .lst (rights.map .int), .lst (ps.map ipD), .tup [.lst (c0.map .int), .lst (c1.map .int)]] = .ret nt (.bl true) [.lst (lefts.map .int), .lst (rights.map .int), .lst (ps.map ipD), .tup [.lst (c0.map .int), .lst (c1.map .int)]] := by
    by_cases h6 : rights.length ≤ 6
    · obtain ⟨nt, h⟩ := trying Dr X h6
      exact ⟨nt, fun _ => h⟩
    · exact ⟨0, fun h => absurd h h6⟩
  obtain ⟨nt, et⟩ := et
  have sm : sumD [.lst (pk.map (D.int ∘ fun t => t.2.2))] = some (0, .int ((wts lefts c0).sum + (wts rights c1).sum)) := by
    rw [← List.map_map, sumD_ints, hsum]
  have shl : ([D.lst (c0.map .int), D.lst (c1.map .int), D.lst (pk.map tpD)].all shortL) = true := by
    simp [shortL, LIM]; omega
  generalize (wts lefts c0).sum + (wts rights c1).sum = w at *
  have sc : f__law_same 6 [.tup [.lst (c0.map .int), .lst (c1.map .int)], .tup [.lst (c0.map .int), .lst (c1.map .int)]] = .ret 0 (.bl true) [.tup [.lst (c0.map .int), .lst (c1.map .int)], .tup [.lst (c0.map .int), .lst (c1.map .int)]] := same_refl 5 _ (by
    have h0 := okS_ints (n := 3) l0
    have h1 := okS_ints (n := 3) l1
    exact okS_tup_mk (by simp) fun d hd => by
      simp at hd; rcases hd with rfl | rfl <;> assumption)
  have sp : f__law_same 6 [.lst [.lst (lefts.map .int), .lst (rights.map .int), .lst (ps.map ipD)], .lst [.lst (lefts.map .int), .lst (rights.map .int), .lst (ps.map ipD)]] = .ret 0 (.bl true) [.lst [.lst (lefts.map .int), .lst (rights.map .int), .lst (ps.map ipD)], .lst [.lst (lefts.map .int), .lst (rights.map .int), .lst (ps.map ipD)]] := same_refl 5 _ (by
    have h0 := okS_ints (n := 3) hl24
    have h1 := okS_ints (n := 3) hr24
    have h2 := okS_prs (n := 2) hlen
    exact okS_lst_mk (by simp) fun d hd => by
      simp at hd; rcases hd with rfl | rfl | rfl <;> assumption)
  have kc : KnC (.tup [.lst (c0.map .int), .lst (c1.map .int)]) := ⟨.tup, fun ds h x hx => by
    cases h
    simp at hx
    rcases hx with rfl | rfl <;> exact .ints⟩
  have ic := (is_pair_cover (Ld := lefts.map .int) (Rd := rights.map .int) (pairs := ps) kc).tru ⟨c0, c1, rfl, by simpa using X.a0, by simpa using X.a1, X.cover Dr⟩
  have P0 : L2.atI [D.lst (lefts.map .int), D.lst (rights.map .int), D.lst (ps.map ipD)] 0 = some (.lst (lefts.map .int)) := rfl
  have P1 : L2.atI [D.lst (lefts.map .int), D.lst (rights.map .int), D.lst (ps.map ipD)] 1 = some (.lst (rights.map .int)) := rfl
  have P2 : L2.atI [D.lst (lefts.map .int), D.lst (rights.map .int), D.lst (ps.map ipD)] 2 = some (.lst (ps.map ipD)) := rfl
  have T0 : L2.atI [D.lst (c0.map .int), D.lst (c1.map .int), D.lst (pk.map tpD)] 0 = some (.lst (c0.map .int)) := rfl
  have T1 : L2.atI [D.lst (c0.map .int), D.lst (c1.map .int), D.lst (pk.map tpD)] 1 = some (.lst (c1.map .int)) := rfl
  have T2 : L2.atI [D.lst (c0.map .int), D.lst (c1.map .int), D.lst (pk.map tpD)] 2 = some (.lst (pk.map tpD)) := rfl
  have C0 : L2.atI [D.lst (c0.map .int), D.lst (c1.map .int)] 0 = some (.lst (c0.map .int)) := rfl
  have C1 : L2.atI [D.lst (c0.map .int), D.lst (c1.map .int)] 1 = some (.lst (c1.map .int)) := rfl
  have cut : cutD [D.lst (c0.map .int), D.lst (c1.map .int), D.lst (pk.map tpD)] none (some 2) = [.lst (c0.map .int), .lst (c1.map .int)] := rfl
  refine fn_retB (fun _ r => r = .bl true) fun J hJ => ?_
  have good : ∀ n, J n (.bl true) := fun n => hJ n _ rfl
  unfold m_law
  simp [e0, e1, P0, P1, P2, T0, T1, T2, isTyB_eq, p0, p1]
  refine WS_forB (fun k e => e = [some (0, .scr (ns.map .int)), some (0, .lst (lefts.map .int)), some (0, .lst (rights.map .int)), some (0, .lst (ps.map ipD)), some (0, .lst [.lst (lefts.map .int), .lst (rights.map .int), .lst (ps.map ipD)]), some (2, .tup [.lst (c0.map .int), .lst (c1.map .int), .lst (pk.map tpD)]), some (0, .tup [.lst (c0.map .int), .lst (c1.map .int)]), none, none, none, none, none]) rfl ?_ ?_
  · rintro K hK k d e hj rfl
    obtain ⟨p, hp, rfl⟩ := map_get hj
    have hc := X.cover Dr p (List.mem_of_getElem? hp)
    by_cases h1 : p.1 ∈ c0
    · simp [ipD, C0, C1, h1]
      exact hK (k + 1) _ rfl
    · have h2 : p.2 ∈ c1 := hc.resolve_left h1
      simp [ipD, C0, C1, h1, h2]
      exact hK (k + 1) _ rfl
  · rintro e rfl
    simp [T2, ip, lw]
    refine WE_compL (fun d => match d with
      | .tup [_, _, .int a] => some (D.int a)
      | _ => none) _ _ (by simp; omega) (fun d hd => ?_) ?_ (fun _ _ z => z)
    · obtain ⟨t, _, rfl⟩ := List.mem_map.mp hd
      refine ⟨_, rfl, ?_⟩
      have i2 : L2.atI [D.int t.1, D.int t.2.1, D.int t.2.2] 2 = some (.int t.2.2) := rfl
      simp [tpD, i2]
    · rw [List.nil_append, sum_tps]
      simp [sm, P0, P1, P2, C0, C1, cw, same_int]
      have rest : WS (mSeq (mSpoil 5 10)
            (mSeq (mIf (mAnd (mCmp leD (mCallB lenD (mCons (mVar 1) (mNil))) (mC (.int 6))) (mNot (mTru (mCall [0, 0] (f__law_same 6) [.ex (mSlice sliceD (mCall [0, 0, 0] f_best_cover [.ex (mOp2 idxD (mVar 4) (mC (.int 0))), .ex (mOp2 idxD (mVar 4) (mC (.int 1))), .ex (mOp2 idxD (mVar 4) (mC (.int 2)))]) (mONone) (mOSome (mC (.int 2)))), .ex (mVar 6)]))))
            (mRet (mC (.bl false)))
            (mSkip))
            (mRet (mCall [0, 0] (f__law_same 6) [.ex (mVar 4), .ex (mLst (mCons (mVar 1) (mCons (mVar 2) (mCons (mVar 3) (mNil)))))]))) [some (0, .scr (ns.map .int)), some (0, .lst (lefts.map .int)), some (0, .lst (rights.map .int)), some (0, .lst (ps.map ipD)), some (0, .lst [.lst (lefts.map .int), .lst (rights.map .int), .lst (ps.map ipD)]), some (2, .tup [.lst (c0.map .int), .lst (c1.map .int), .lst (pk.map tpD)]), some (0, .tup [.lst (c0.map .int), .lst (c1.map .int)]), none, none, some (0, .int w), none, none]) (bodyP [0] [D.scr (ns.map .int)] J) := by
        rw [WS_seq]
        refine U.WS_spoil rfl shl (by simp) ?_
        simp [e1, P0, P1, P2, cut, sc, sp, good]
      have isn : isntD (.bl true) (.bl true) = some false := by decide +kernel
      refine ⟨fun h => ?_, fun h => ?_⟩
      · have e := et (by omega)
        simp [e, T2, ew, sc, ic, ip2, P0, P1, P2, isn]
        simp only [WS_seq] at rest
        exact rest
      · simp [T2, ew, sc, ic, ip2, P0, P1, P2, isn]
        simp only [WS_seq] at rest
        exact rest
end W

open PySem PySem.W PyProof.Rows
set_option maxRecDepth 100000 in
set_option maxHeartbeats 0 in
theorem PySem.Challenge.cw_shredday_k47_least_pair_covers_holds : PySem.Challenge.rw_shredday_k47_least_pair_covers.Holds := by
  w_on; o_law; k_head; (case hw => w_witness2)
  k_fill
  refine DL.walkL (l := PySem.Challenge.rw_shredday_k47_least_pair_covers) (k := 8) rfl rfl ⟨rfl, by decide, by decide⟩ (fun w h Y => PySem.W.kIn_of Y) ?F
  case F =>
    intro w mg fa h KX G hmg
    refine' W.all_mk W.law_holds KX G hmg ⟨W.has_is_whole KX G ?a0 ?l0 ?c0 ?k0, W.has_is_row KX G ?a1 ?l1 ?c1 ?k1, W.has_are_places KX G ?a2 ?l2 ?c2 ?k2, W.has_is_pair_cover KX G ?a3 ?l3 ?c3 ?k3, W.has_cover_weight KX G ?a4 ?l4 ?c4 ?k4, W.has_is_triple KX G ?a5 ?l5 ?c5 ?k5, W.has_is_pair_packing KX G ?a6 ?l6 ?c6 ?k6, W.has_reach KX G ?a7 ?l7 ?c7 ?k7, W.has_first_open KX G ?a8 ?l8 ?c8 ?k8, W.has_path_to KX G ?a9 ?l9 ?c9 ?k9, W.has_send KX G ?a10 ?l10 ?c10 ?k10, W.has_best_cover KX G ?a11 ?l11 ?c11 ?k11, W.has__law_number KX G ?a12 ?l12 ?c12 ?k12, W.has__law_digits KX G ?a13 ?l13 ?c13 ?k13, W.has__law_same KX G ?a14 ?l14 ?c14 ?k14, W.has__law_whole KX G ?a15 ?l15 ?c15 ?k15, W.has__law_draw KX G ?a16 ?l16 ?c16 ?k16, W.has__law_places KX G ?a17 ?l17 ?c17 ?k17, W.has__law_is_packing KX G ?a18 ?l18 ?c18 ?k18, W.has__law_forced KX G ?a19 ?l19 ?c19 ?k19, W.has__law_weight KX G ?a20 ?l20 ?c20 ?k20, W.has__law_least_by_trying KX G ?a21 ?l21 ?c21 ?k21, W.has__law_walked KX G ?a22 ?l22 ?c22 ?k22, PySem.W.mg_none_of KX G ?z0, PySem.W.mg_none_of KX G ?z1, PySem.W.mg_none_of KX G ?z2, PySem.W.mg_none_of KX G ?z3, PySem.W.mg_none_of KX G ?z4, PySem.W.mg_none_of KX G ?z5, PySem.W.mg_none_of KX G ?z6, PySem.W.mg_none_of KX G ?z7, PySem.W.mg_none_of KX G ?z8, PySem.W.mg_none_of KX G ?z9, PySem.W.mg_none_of KX G ?z10, PySem.W.mg_none_of KX G ?z11⟩ ?aL ?lL ?cL ?kL
    (case a0 => k_is); (case l0 => k_is); (case c0 => k_is); (case k0 => k_is)
    (case a1 => k_is); (case l1 => k_is); (case c1 => k_is); (case k1 => k_is)
    (case a2 => k_is); (case l2 => k_is); (case c2 => k_is); (case k2 => k_is)
    (case a3 => k_is); (case l3 => k_is); (case c3 => k_is); (case k3 => k_is)
    (case a4 => k_is); (case l4 => k_is); (case c4 => k_is); (case k4 => k_is)
    (case a5 => k_is); (case l5 => k_is); (case c5 => k_is); (case k5 => k_is)
    (case a6 => k_is); (case l6 => k_is); (case c6 => k_is); (case k6 => k_is)
    (case a7 => k_is); (case l7 => k_is); (case c7 => k_is); (case k7 => k_is)
    (case a8 => k_is); (case l8 => k_is); (case c8 => k_is); (case k8 => k_is)
    (case a9 => k_is); (case l9 => k_is); (case c9 => k_is); (case k9 => k_is)
    (case a10 => k_is); (case l10 => k_is); (case c10 => k_is); (case k10 => k_is)
    (case a11 => k_is); (case l11 => k_is); (case c11 => k_is); (case k11 => k_is)
    (case a12 => k_is); (case l12 => k_is); (case c12 => k_is); (case k12 => k_is)
    (case a13 => k_is); (case l13 => k_is); (case c13 => k_is); (case k13 => k_is)
    (case a14 => k_is); (case l14 => k_is); (case c14 => k_is); (case k14 => k_is)
    (case a15 => k_is); (case l15 => k_is); (case c15 => k_is); (case k15 => k_is)
    (case a16 => k_is); (case l16 => k_is); (case c16 => k_is); (case k16 => k_is)
    (case a17 => k_is); (case l17 => k_is); (case c17 => k_is); (case k17 => k_is)
    (case a18 => k_is); (case l18 => k_is); (case c18 => k_is); (case k18 => k_is)
    (case a19 => k_is); (case l19 => k_is); (case c19 => k_is); (case k19 => k_is)
    (case a20 => k_is); (case l20 => k_is); (case c20 => k_is); (case k20 => k_is)
    (case a21 => k_is); (case l21 => k_is); (case c21 => k_is); (case k21 => k_is)
    (case a22 => k_is); (case l22 => k_is); (case c22 => k_is); (case k22 => k_is)
    (case aL => k_is); (case lL => k_is); (case cL => k_is); (case kL => k_is)
    (case z0 => k_is)
    (case z1 => k_is)
    (case z2 => k_is)
    (case z3 => k_is)
    (case z4 => k_is)
    (case z5 => k_is)
    (case z6 => k_is)
    (case z7 => k_is)
    (case z8 => k_is)
    (case z9 => k_is)
    (case z10 => k_is)
    (case z11 => k_is)
