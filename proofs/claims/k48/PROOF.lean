import PyProof.Rows.All
import Wide.All
import OpenK.AllK
import Wide.FinOn
import HandS.ForMost
import HandS.Deep
import HandS.IsInst
import HandS.ForExc
import HandS.TupLe
import HandS.TupAny
import HandS.Codes
import HandS.SortInts
import HandS.Wide
import HandS.SetFor
import HandS.SortKw
import HandS.Strs
import PyProof.WalkInts
import KE.KMinKey
import HandS.Conv
import HandS.EndBits
import PySem.Challenge.RW_shredday_k48_judges_of_covers_and_packin
set_option Elab.async false
set_option linter.all false
set_option maxRecDepth 100000
/-! DL: values as trees, what represents them on the abstract heap, owned and shared parts. -/
namespace DL
open PySem PySem.Spec PyProof.Rows L2

inductive D where
  | non | bl (b : Bool) | int (i : Int) | str (x : Str) | ty (n : String)
  | lst (xs : List D) | tup (xs : List D) | scr (xs : List D)
  | dK (kvs : List (Key × D)) | dT (kvs : List (List Key × D))

theorem SqT.mono {K : PySem.W.Frag} {H H' : Hp} {a : Addr} {xs : List V} (e : Same H H') (h : SqT K H a xs) : SqT K H' a xs := by
  rcases h with (h | ⟨o, h⟩) | h
  · exact .inl (.inl (e _ _ h))
  · exact .inl (.inr ⟨o, e _ _ h⟩)
  · exact .inr h

def isIntD : D → Bool
  | .int _ => true
  | _ => false
def isTyD : D → Bool
  | .ty _ => true
  | _ => false
/-- tuples that are told apart from those of the written part -/
def badK (ds : List D) : Bool := ds.all isIntD || ds.any isTyD
mutual
inductive Rep (K : PySem.W.Frag) (F : Hp) : D → V → Prop
  | non : Rep K F .non .non
  | bl (b : Bool) : Rep K F (.bl b) (.bl b)
  | int (i : Int) : Rep K F (.int i) (.int i)
  | str (x : Str) : Rep K F (.str x) (.str x)
  | ty (n : String) : Rep K F (.ty n) (.ty n)
  | lst {a : Addr} {vs : List V} {ds : List D} : F a = some (.lst vs) → Reps K F ds vs → Rep K F (.lst ds) (.ref a)
  | scr {a : Addr} {vs : List V} {ds : List D} : SqL K F a vs → Reps K F ds vs → Rep K F (.scr ds) (.ref a)
  | tup {a : Addr} {vs : List V} {ds : List D} : F a = some (.tup vs) → Reps K F ds vs → Rep K F (.tup ds) (.ref a)
  | tupK {a : Addr} {vs : List V} {ds : List D} : SqT K F a vs → badK ds = false → Reps K F ds vs → Rep K F (.tup ds) (.ref a)
  | dK {a : Addr} {kvs : List (Key × D)} {kws : List (Key × V)} : F a = some (.dK kws) → kvs.map (·.1) = kws.map (·.1) → Reps K F (kvs.map (·.2)) (kws.map (·.2)) → Rep K F (.dK kvs) (.ref a)
  | dT {a : Addr} {kvs : List (List Key × D)} {kws : List (List Key × V)} : F a = some (.dT kws) → kvs.map (·.1) = kws.map (·.1) → Reps K F (kvs.map (·.2)) (kws.map (·.2)) → Rep K F (.dT kvs) (.ref a)
inductive Reps (K : PySem.W.Frag) (F : Hp) : List D → List V → Prop
  | nil : Reps K F [] []
  | cons {d : D} {v : V} {ds : List D} {vs : List V} : Rep K F d v → Reps K F ds vs → Reps K F (d :: ds) (v :: vs)
end

mutual
theorem Rep.mono {K : PySem.W.Frag} {F F' : Hp} (e : Same F F') : ∀ {d : D} {v : V}, Rep K F d v → Rep K F' d v
  | _, _, .non => .non
  | _, _, .bl b => .bl b
  | _, _, .int i => .int i
  | _, _, .str x => .str x
  | _, _, .ty n => .ty n
  | _, _, .lst h r => .lst (e _ _ h) (Reps.mono e r)
  | _, _, .scr h r => .scr (e.seq h) (Reps.mono e r)
  | _, _, .tup h r => .tup (e _ _ h) (Reps.mono e r)
  | _, _, .tupK h c r => .tupK (SqT.mono e h) c (Reps.mono e r)
  | _, _, .dK h k r => .dK (e _ _ h) k (Reps.mono e r)
  | _, _, .dT h k r => .dT (e _ _ h) k (Reps.mono e r)
theorem Reps.mono {K : PySem.W.Frag} {F F' : Hp} (e : Same F F') : ∀ {ds : List D} {vs : List V}, Reps K F ds vs → Reps K F' ds vs
  | _, _, .nil => .nil
  | _, _, .cons a b => .cons (Rep.mono e a) (Reps.mono e b)
end

theorem Reps.length {K : PySem.W.Frag} {F : Hp} : ∀ {ds : List D} {vs : List V}, Reps K F ds vs → ds.length = vs.length
  | _, _, .nil => rfl
  | _, _, .cons _ b => by simp [Reps.length b]
theorem Reps.get {K : PySem.W.Frag} {F : Hp} : ∀ {ds : List D} {vs : List V} {i : Nat} {d : D}, Reps K F ds vs → ds[i]? = some d → ∃ v, vs[i]? = some v ∧ Rep K F d v
  | _, _, _, _, .nil, e => by simp at e
  | _, _, 0, _, .cons r _, e => by simp at e; subst e; exact ⟨_, rfl, r⟩
  | _, _, i + 1, d, .cons _ t, e => by
    obtain ⟨u, h1, h2⟩ := Reps.get (i := i) (d := d) t (by simpa using e)
    exact ⟨u, by simpa using h1, h2⟩
theorem Reps.getV {K : PySem.W.Frag} {F : Hp} : ∀ {ds : List D} {vs : List V} {i : Nat} {v : V}, Reps K F ds vs → vs[i]? = some v → ∃ d, ds[i]? = some d ∧ Rep K F d v
  | _, _, _, _, .nil, e => by simp at e
  | _, _, 0, _, .cons r _, e => by simp at e; subst e; exact ⟨_, rfl, r⟩
  | _, _, i + 1, d, .cons _ t, e => by
    obtain ⟨u, h1, h2⟩ := Reps.getV (i := i) (v := d) t (by simpa using e)
    exact ⟨u, by simpa using h1, h2⟩
theorem Reps.append {K : PySem.W.Frag} {F : Hp} : ∀ {ds es : List D} {vs ws : List V}, Reps K F ds vs → Reps K F es ws → Reps K F (ds ++ es) (vs ++ ws)
  | _, _, _, _, .nil, s => s
  | _, _, _, _, .cons r t, s => .cons r (Reps.append t s)
theorem Reps.set {K : PySem.W.Frag} {F : Hp} {d : D} {v : V} (r : Rep K F d v) : ∀ {ds : List D} {vs : List V} (i : Nat), Reps K F ds vs → Reps K F (ds.set i d) (vs.set i v)
  | _, _, _, .nil => .nil
  | _, _, 0, .cons _ t => .cons r t
  | _, _, i + 1, .cons q t => .cons q (Reps.set r i t)
theorem Reps.take {K : PySem.W.Frag} {F : Hp} : ∀ {ds : List D} {vs : List V} (n : Nat), Reps K F ds vs → Reps K F (ds.take n) (vs.take n)
  | _, _, 0, _ => by simp; exact .nil
  | _, _, _ + 1, .nil => .nil
  | _, _, n + 1, .cons r t => .cons r (Reps.take n t)
theorem Reps.drop {K : PySem.W.Frag} {F : Hp} : ∀ {ds : List D} {vs : List V} (n : Nat), Reps K F ds vs → Reps K F (ds.drop n) (vs.drop n)
  | _, _, 0, r => r
  | _, _, _ + 1, .nil => .nil
  | _, _, n + 1, .cons _ t => Reps.drop n t
theorem Reps.reverse {K : PySem.W.Frag} {F : Hp} : ∀ {ds : List D} {vs : List V}, Reps K F ds vs → Reps K F ds.reverse vs.reverse
  | _, _, .nil => .nil
  | _, _, .cons r t => by
    rw [List.reverse_cons, List.reverse_cons]
    exact (Reps.reverse t).append (.cons r .nil)

/-! ### owned values: depth n; the addresses of the owned lists and dicts lie in S -/
def RepA (R : D → V → (Addr → Prop) → Prop) : List D → List V → (Addr → Prop) → Prop
  | [], [], _ => True
  | d :: ds, v :: vs, S => ∃ S1 S2 : Addr → Prop, (∀ a, S1 a → S a) ∧ (∀ a, S2 a → S a) ∧ (∀ a, S1 a → S2 a → False) ∧ R d v S1 ∧ RepA R ds vs S2
  | _, _, _ => False
def RepM (K : PySem.W.Frag) (F H : Hp) : Nat → D → V → (Addr → Prop) → Prop
  | 0, d, v, _ => Rep K F d v
  | n + 1, .lst ds, v, S => ∃ p vs, v = .ref p ∧ S p ∧ H p = some (.lst vs) ∧ RepA (RepM K F H n) ds vs (fun a => S a ∧ a ≠ p)
  | n + 1, .dK kvs, v, S => ∃ p kws, v = .ref p ∧ S p ∧ H p = some (.dK kws) ∧ kvs.map (·.1) = kws.map (·.1) ∧ RepA (RepM K F H n) (kvs.map (·.2)) (kws.map (·.2)) (fun a => S a ∧ a ≠ p)
  | n + 1, .dT kvs, v, S => ∃ p kws, v = .ref p ∧ S p ∧ H p = some (.dT kws) ∧ kvs.map (·.1) = kws.map (·.1) ∧ RepA (RepM K F H n) (kvs.map (·.2)) (kws.map (·.2)) (fun a => S a ∧ a ≠ p)
  | n + 1, .tup ds, v, S => ∃ p vs, v = .ref p ∧ F p = some (.tup vs) ∧ RepA (RepM K F H n) ds vs S
  | _ + 1, .non, v, _ => Rep K F .non v
  | _ + 1, .bl b, v, _ => Rep K F (.bl b) v
  | _ + 1, .int i, v, _ => Rep K F (.int i) v
  | _ + 1, .str x, v, _ => Rep K F (.str x) v
  | _ + 1, .ty x, v, _ => Rep K F (.ty x) v
  | _ + 1, .scr x, v, _ => Rep K F (.scr x) v

theorem RepA.imp {R R' : D → V → (Addr → Prop) → Prop} : ∀ {ds : List D} {vs : List V} {S S' : Addr → Prop}, RepA R ds vs S → (∀ a, S a → S' a) → (∀ d v T, (∀ a, T a → S a) → R d v T → R' d v T) → RepA R' ds vs S'
  | [], [], _, _, _, _, _ => trivial
  | [], _ :: _, _, _, h, _, _ => h.elim
  | _ :: _, [], _, _, h, _, _ => h.elim
  | _ :: _, _ :: _, _, _, ⟨S1, S2, h1, h2, h3, h4, h5⟩, hs, hr =>
    ⟨S1, S2, fun a q => hs a (h1 a q), fun a q => hs a (h2 a q), h3, hr _ _ _ h1 h4, RepA.imp h5 (fun _ q => q) fun d v T ht => hr d v T fun a q => h2 a (ht a q)⟩
theorem RepA.length {R : D → V → (Addr → Prop) → Prop} : ∀ {ds : List D} {vs : List V} {S : Addr → Prop}, RepA R ds vs S → ds.length = vs.length
  | [], [], _, _ => rfl
  | [], _ :: _, _, h => h.elim
  | _ :: _, [], _, h => h.elim
  | _ :: _, _ :: _, _, ⟨_, _, _, _, _, _, h5⟩ => by simp [RepA.length h5]
theorem RepA.of_reps {K : PySem.W.Frag} {F H : Hp} : ∀ {ds : List D} {vs : List V} {S : Addr → Prop}, Reps K F ds vs → RepA (RepM K F H 0) ds vs S
  | _, _, _, .nil => trivial
  | _, _, _, .cons r t => ⟨fun _ => False, fun _ => False, fun _ q => q.elim, fun _ q => q.elim, fun _ q _ => q, r, RepA.of_reps t⟩
theorem RepA.reps {K : PySem.W.Frag} {F H : Hp} : ∀ {ds : List D} {vs : List V} {S : Addr → Prop}, RepA (RepM K F H 0) ds vs S → Reps K F ds vs
  | [], [], _, _ => .nil
  | [], _ :: _, _, h => h.elim
  | _ :: _, [], _, h => h.elim
  | _ :: _, _ :: _, _, ⟨_, _, _, _, _, h4, h5⟩ => .cons h4 (RepA.reps h5)

/-- a larger set; a larger shared part; the owned objects as they were -/
theorem RepM.imp {K : PySem.W.Frag} {F F' H H' : Hp} (e : Same F F') : ∀ {n : Nat} {d : D} {v : V} {S S' : Addr → Prop}, RepM K F H n d v S → (∀ a, S a → S' a) → (∀ a o, S a → H a = some o → H' a = some o) → RepM K F' H' n d v S'
  | 0, d, v, _, _, h, _, _ => Rep.mono e (d := d) (v := v) h
  | n + 1, .lst ds, v, S, S', ⟨p, vs, h1, h2, h3, h4⟩, hs, hk =>
    ⟨p, vs, h1, hs _ h2, hk _ _ h2 h3, RepA.imp h4 (fun a q => ⟨hs a q.1, q.2⟩) fun d v T ht r => RepM.imp e r (fun _ q => q) fun a o q => hk a o (ht a q).1⟩
  | n + 1, .dK kvs, v, S, S', ⟨p, vs, h1, h2, h3, hks, h4⟩, hs, hk =>
    ⟨p, vs, h1, hs _ h2, hk _ _ h2 h3, hks, RepA.imp h4 (fun a q => ⟨hs a q.1, q.2⟩) fun d v T ht r => RepM.imp e r (fun _ q => q) fun a o q => hk a o (ht a q).1⟩
  | n + 1, .dT kvs, v, S, S', ⟨p, vs, h1, h2, h3, hks, h4⟩, hs, hk =>
    ⟨p, vs, h1, hs _ h2, hk _ _ h2 h3, hks, RepA.imp h4 (fun a q => ⟨hs a q.1, q.2⟩) fun d v T ht r => RepM.imp e r (fun _ q => q) fun a o q => hk a o (ht a q).1⟩
  | n + 1, .tup ds, v, S, S', ⟨p, vs, h1, h3, h4⟩, hs, hk =>
    ⟨p, vs, h1, e _ _ h3, RepA.imp h4 hs fun d v T ht r => RepM.imp e r (fun _ q => q) fun a o q => hk a o (ht a q)⟩
  | n + 1, .non, v, _, _, h, _, _ => Rep.mono e (d := .non) (v := v) h
  | n + 1, .bl b, v, _, _, h, _, _ => Rep.mono e (d := .bl b) (v := v) h
  | n + 1, .int i, v, _, _, h, _, _ => Rep.mono e (d := .int i) (v := v) h
  | n + 1, .str x, v, _, _, h, _, _ => Rep.mono e (d := .str x) (v := v) h
  | n + 1, .ty x, v, _, _, h, _, _ => Rep.mono e (d := .ty x) (v := v) h
  | n + 1, .scr x, v, _, _, h, _, _ => Rep.mono e (d := .scr x) (v := v) h
theorem RepM.wid {K : PySem.W.Frag} {F H : Hp} {n : Nat} {d : D} {v : V} {S S' : Addr → Prop} (h : RepM K F H n d v S) (hs : ∀ a, S a → S' a) : RepM K F H n d v S' :=
  h.imp (Same.refl _) hs fun _ _ _ q => q

/-- owned things become shared -/
theorem RepM.share {K : PySem.W.Frag} {F F' H : Hp} (e : Same F F') : ∀ {n : Nat} {d : D} {v : V} {S : Addr → Prop}, RepM K F H n d v S → (∀ a o, S a → H a = some o → F' a = some o) → Rep K F' d v
  | 0, d, v, _, h, _ => Rep.mono e (d := d) (v := v) h
  | n + 1, .lst ds, v, S, ⟨p, vs, h1, h2, h3, h4⟩, hk => by
    subst h1
    refine .lst (hk _ _ h2 h3) (RepA.reps (H := H) (S := fun a => S a ∧ a ≠ p) (RepA.imp h4 (fun _ q => q) fun d v T ht r => ?_))
    exact RepM.share e r fun a o q => hk a o (ht a q).1
  | n + 1, .dK kvs, v, S, ⟨p, vs, h1, h2, h3, hks, h4⟩, hk => by
    subst h1
    refine .dK (hk _ _ h2 h3) hks (RepA.reps (H := H) (S := fun a => S a ∧ a ≠ p) (RepA.imp h4 (fun _ q => q) fun d v T ht r => ?_))
    exact RepM.share e r fun a o q => hk a o (ht a q).1
  | n + 1, .dT kvs, v, S, ⟨p, vs, h1, h2, h3, hks, h4⟩, hk => by
    subst h1
    refine .dT (hk _ _ h2 h3) hks (RepA.reps (H := H) (S := fun a => S a ∧ a ≠ p) (RepA.imp h4 (fun _ q => q) fun d v T ht r => ?_))
    exact RepM.share e r fun a o q => hk a o (ht a q).1
  | n + 1, .tup ds, v, S, ⟨p, vs, h1, h3, h4⟩, hk => by
    subst h1
    refine .tup (e _ _ h3) (RepA.reps (H := H) (S := S) (RepA.imp h4 (fun _ q => q) fun d v T ht r => ?_))
    exact RepM.share e r fun a o q => hk a o (ht a q)
  | n + 1, .non, v, _, h, _ => Rep.mono e (d := .non) (v := v) h
  | n + 1, .bl b, v, _, h, _ => Rep.mono e (d := .bl b) (v := v) h
  | n + 1, .int i, v, _, h, _ => Rep.mono e (d := .int i) (v := v) h
  | n + 1, .str x, v, _, h, _ => Rep.mono e (d := .str x) (v := v) h
  | n + 1, .ty x, v, _, h, _ => Rep.mono e (d := .ty x) (v := v) h
  | n + 1, .scr x, v, _, h, _ => Rep.mono e (d := .scr x) (v := v) h

/-! ### values without shared lists or dicts -/
mutual
def flatT : D → Bool
  | .non | .bl _ | .int _ | .str _ | .ty _ => true
  | .tup ds => flatTs ds
  | _ => false
def flatTs : List D → Bool
  | [] => true
  | d :: ds => flatT d && flatTs ds
end
def closedM : Nat → D → Bool
  | 0, d => flatT d
  | n + 1, .lst ds => ds.all (closedM n)
  | n + 1, .dK kvs => kvs.all fun p => closedM n p.2
  | n + 1, .dT kvs => kvs.all fun p => closedM n p.2
  | n + 1, .tup ds => ds.all (closedM n)
  | _ + 1, .scr _ => false
  | _ + 1, _ => true

/-- less is shared: only what no flat value leans on is taken away -/
def Keeps (F F' : Hp) : Prop := ∀ a xs, (F a = some (.tup xs) → F' a = some (.tup xs)) ∧ ∀ o, F a = some (.frz o (.tup xs)) → F' a = some (.frz o (.tup xs))
theorem SqT.keeps {K : PySem.W.Frag} {H H' : Hp} {a : Addr} {xs : List V} (e : Keeps H H') (h : SqT K H a xs) : SqT K H' a xs := by
  rcases h with (h | ⟨o, h⟩) | h
  · exact .inl (.inl ((e _ _).1 h))
  · exact .inl (.inr ⟨o, (e _ _).2 o h⟩)
  · exact .inr h
mutual
theorem Rep.keeps {K : PySem.W.Frag} {F F' : Hp} (e : Keeps F F') : ∀ {d : D} {v : V}, Rep K F d v → flatT d = true → Rep K F' d v
  | _, _, .non, _ => .non
  | _, _, .bl b, _ => .bl b
  | _, _, .int i, _ => .int i
  | _, _, .str x, _ => .str x
  | _, _, .ty x, _ => .ty x
  | _, _, .tup h r, f => .tup ((e _ _).1 h) (Reps.keeps e r f)
  | _, _, .tupK h c r, f => .tupK (SqT.keeps e h) c (Reps.keeps e r f)
  | _, _, .lst _ _, f => by simp [flatT] at f
  | _, _, .scr _ _, f => by simp [flatT] at f
  | _, _, .dK _ _ _, f => by simp [flatT] at f
  | _, _, .dT _ _ _, f => by simp [flatT] at f
theorem Reps.keeps {K : PySem.W.Frag} {F F' : Hp} (e : Keeps F F') : ∀ {ds : List D} {vs : List V}, Reps K F ds vs → flatTs ds = true → Reps K F' ds vs
  | _, _, .nil, _ => .nil
  | _, _, .cons a b, f => by
    simp only [flatTs, Bool.and_eq_true] at f
    exact .cons (Rep.keeps e a f.1) (Reps.keeps e b f.2)
end
theorem RepA.keeps {R R' : D → V → (Addr → Prop) → Prop} {p : D → Bool} (hr : ∀ d v T, R d v T → p d = true → R' d v T) : ∀ {ds : List D} {vs : List V} {S : Addr → Prop}, RepA R ds vs S → ds.all p = true → RepA R' ds vs S
  | [], [], _, _, _ => trivial
  | [], _ :: _, _, h, _ => h.elim
  | _ :: _, [], _, h, _ => h.elim
  | _ :: _, _ :: _, _, ⟨S1, S2, h1, h2, h3, h4, h5⟩, q => by
    rw [List.all_cons, Bool.and_eq_true] at q
    exact ⟨S1, S2, h1, h2, h3, hr _ _ _ h4 q.1, RepA.keeps hr h5 q.2⟩
theorem RepM.keeps {K : PySem.W.Frag} {F F' H : Hp} (e : Keeps F F') : ∀ {n : Nat} {d : D} {v : V} {S : Addr → Prop}, RepM K F H n d v S → closedM n d = true → RepM K F' H n d v S
  | 0, d, v, _, h, c => Rep.keeps e (d := d) (v := v) h c
  | n + 1, .lst ds, v, S, ⟨p, vs, h1, h2, h3, h4⟩, c => ⟨p, vs, h1, h2, h3, RepA.keeps (p := closedM n) (fun _ _ _ r q => RepM.keeps e r q) h4 (show ds.all (closedM n) = true by simpa only [closedM] using c)⟩
  | n + 1, .dK kvs, v, S, ⟨p, vs, h1, h2, h3, hks, h4⟩, c => ⟨p, vs, h1, h2, h3, hks, RepA.keeps (p := closedM n) (fun _ _ _ r q => RepM.keeps e r q) h4 (by rw [List.all_map]; show kvs.all (fun p => closedM n p.2) = true; simpa only [closedM] using c)⟩
  | n + 1, .dT kvs, v, S, ⟨p, vs, h1, h2, h3, hks, h4⟩, c => ⟨p, vs, h1, h2, h3, hks, RepA.keeps (p := closedM n) (fun _ _ _ r q => RepM.keeps e r q) h4 (by rw [List.all_map]; show kvs.all (fun p => closedM n p.2) = true; simpa only [closedM] using c)⟩
  | n + 1, .tup ds, v, S, ⟨p, vs, h1, h3, h4⟩, c => ⟨p, vs, h1, (e _ _).1 h3, RepA.keeps (p := closedM n) (fun _ _ _ r q => RepM.keeps e r q) h4 (show ds.all (closedM n) = true by simpa only [closedM] using c)⟩
  | n + 1, .non, v, _, h, _ => Rep.keeps e (d := .non) (v := v) h rfl
  | n + 1, .bl b, v, _, h, _ => Rep.keeps e (d := .bl b) (v := v) h rfl
  | n + 1, .int i, v, _, h, _ => Rep.keeps e (d := .int i) (v := v) h rfl
  | n + 1, .str x, v, _, h, _ => Rep.keeps e (d := .str x) (v := v) h rfl
  | n + 1, .ty x, v, _, h, _ => Rep.keeps e (d := .ty x) (v := v) h rfl
  | n + 1, .scr x, v, _, h, c => by simp [closedM] at c

/-! ### what a value's form says -/
section
variable {K : PySem.W.Frag} {F H : Hp} {v : V}
theorem Rep.tup_inv {ds : List D} (r : Rep K F (.tup ds) v) : ∃ a vs, v = .ref a ∧ SqT K F a vs ∧ Reps K F ds vs := by
  cases r with
  | tup h r => exact ⟨_, _, rfl, SqT.of h, r⟩
  | tupK h _ r => exact ⟨_, _, rfl, h, r⟩
theorem Rep.tup_strict {ds : List D} (r : Rep K F (.tup ds) v) (h : badK ds = true) : ∃ a vs, v = .ref a ∧ F a = some (.tup vs) ∧ Reps K F ds vs := by
  cases r with
  | tup h r => exact ⟨_, _, rfl, h, r⟩
  | tupK _ c _ => rw [h] at c; cases c
theorem Rep.tup_ints {ds : List D} (r : Rep K F (.tup ds) v) (h : ds.all isIntD = true) : ∃ a vs, v = .ref a ∧ F a = some (.tup vs) ∧ Reps K F ds vs := r.tup_strict (by unfold badK; rw [h]; rfl)
theorem Rep.lst_inv {ds : List D} (r : Rep K F (.lst ds) v) : ∃ a vs, v = .ref a ∧ SqL K F a vs ∧ Reps K F ds vs := by
  cases r with
  | lst h r => exact ⟨_, _, rfl, SqL.of h, r⟩
theorem Rep.lst_inv' {ds : List D} (r : Rep K F (.lst ds) v) : ∃ a vs, v = .ref a ∧ F a = some (.lst vs) ∧ Reps K F ds vs := by
  cases r with
  | lst h r => exact ⟨_, _, rfl, h, r⟩
theorem Rep.scr_inv {ds : List D} (r : Rep K F (.scr ds) v) : ∃ a vs, v = .ref a ∧ SqL K F a vs ∧ Reps K F ds vs := by
  cases r with
  | scr h r => exact ⟨_, _, rfl, h, r⟩
theorem Rep.dK_inv {kvs : List (Key × D)} (r : Rep K F (.dK kvs) v) : ∃ a kws, v = .ref a ∧ F a = some (.dK kws) ∧ kvs.map (·.1) = kws.map (·.1) ∧ Reps K F (kvs.map (·.2)) (kws.map (·.2)) := by
  cases r with
  | dK h k r => exact ⟨_, _, rfl, h, k, r⟩
theorem Rep.dT_inv {kvs : List (List Key × D)} (r : Rep K F (.dT kvs) v) : ∃ a kws, v = .ref a ∧ F a = some (.dT kws) ∧ kvs.map (·.1) = kws.map (·.1) ∧ Reps K F (kvs.map (·.2)) (kws.map (·.2)) := by
  cases r with
  | dT h k r => exact ⟨_, _, rfl, h, k, r⟩
theorem Rep.int_inv {i : Int} (r : Rep K F (.int i) v) : v = .int i := by cases r; rfl
theorem Rep.bl_inv {b : Bool} (r : Rep K F (.bl b) v) : v = .bl b := by cases r; rfl
theorem Rep.str_inv {x : Str} (r : Rep K F (.str x) v) : v = .str x := by cases r; rfl
theorem Rep.ty_inv {x : String} (r : Rep K F (.ty x) v) : v = .ty x := by cases r; rfl
theorem Rep.non_inv (r : Rep K F .non v) : v = .non := by cases r; rfl
theorem Reps.ints : ∀ {ns : List Int} {vs : List V}, Reps K F (ns.map D.int) vs → vs = ns.map V.int
  | [], _, .nil => rfl
  | n :: ns, _, .cons a b => by rw [Rep.int_inv a, Reps.ints b]; rfl
theorem Reps.strs : ∀ {ns : List Str} {vs : List V}, Reps K F (ns.map D.str) vs → vs = ns.map V.str
  | [], _, .nil => rfl
  | n :: ns, _, .cons a b => by rw [Rep.str_inv a, Reps.strs b]; rfl
theorem reps_ints : ∀ (ns : List Int), Reps K F (ns.map D.int) (ns.map V.int)
  | [] => .nil
  | n :: ns => .cons (.int n) (reps_ints ns)
theorem reps_strs : ∀ (ns : List Str), Reps K F (ns.map D.str) (ns.map V.str)
  | [] => .nil
  | n :: ns => .cons (.str n) (reps_strs ns)
end

end DL

set_option autoImplicit false
set_option Elab.async false
set_option linter.all false
set_option maxRecDepth 100000
/-! DL: what an expression, a test, an argument list, a statement comes to, over values as trees; what that says of the hand layer's readings. -/
namespace DL
open PySem PySem.Spec PyProof.Rows L2

abbrev DEnv := List (Option (Nat × D))
structure Exc where
  cls : Str
  args : List (Str × D)
inductive Out (α : Type) where
  | ok (a : α) (e : DEnv) | exc (x : Exc) (e : DEnv) | stuck
def Out.bind {α β : Type} (o : Out α) (f : α → DEnv → Out β) : Out β :=
  match o with
  | .ok a e => f a e
  | .exc x e => .exc x e
  | .stuck => .stuck
inductive OutS where
  | nx (e : DEnv) | ret (n : Nat) (d : D) (e : DEnv) | brk (e : DEnv) | cont (e : DEnv) | exc (x : Exc) (e : DEnv) | stuck
def Out.bindS {α : Type} (o : Out α) (f : α → DEnv → OutS) : OutS :=
  match o with
  | .ok a e => f a e
  | .exc x e => .exc x e
  | .stuck => .stuck
abbrev ME := DEnv → Out (Nat × D)
abbrev MT := DEnv → Out Bool
abbrev MA := DEnv → Out (List D)
abbrev MS := DEnv → OutS

/-! ### the state -/
def LD : Option HO → Prop
  | some (.lst _) => True
  | some (.dK _) => True
  | some (.dT _) => True
  | _ => False
theorem LD.mut {o : Option HO} (h : LD o) : L2.Mut o := by
  cases o with
  | none => exact h.elim
  | some u => cases u <;> first | trivial | exact h.elim
theorem LD.some {o : Option HO} (h : LD o) : o ≠ none := by
  intro e; subst e; exact h
abbrev Fp := Nat → Addr → Prop
structure SS (K : PySem.W.Frag) (G F H : Hp) (σ : L2.St) (env : DEnv) (fp : Fp) : Prop where
  len : env.length = σ.length
  slot : ∀ i n d, env[i]? = some (some (n, d)) → ∃ v, σ[i]? = some (some v) ∧ RepM K F H n d v (fp i)
  dis : ∀ i j a, i ≠ j → fp i a → fp j a → False
  ld : ∀ i a, fp i a → LD (H a)
  nf : ∀ i a, fp i a → F a = none
  ng : ∀ i a, fp i a → G a = none
  sf : Same F H
  sg : Same G H
structure SV (K : PySem.W.Frag) (G F H : Hp) (σ : L2.St) (env : DEnv) (fp : Fp) (n : Nat) (d : D) (v : V) (S : Addr → Prop) : Prop where
  ss : SS K G F H σ env fp
  val : RepM K F H n d v S
  vld : ∀ a, S a → LD (H a)
  vnf : ∀ a, S a → F a = none
  vng : ∀ a, S a → G a = none
  vdis : ∀ i a, S a → fp i a → False
structure FrExt (G F F' : Hp) : Prop where
  same : Same F F'
  out : ∀ a, G a ≠ none → F a = none → F' a = none
theorem FrExt.refl {G F : Hp} : FrExt G F F := ⟨Same.refl _, fun _ _ h => h⟩
theorem FrExt.trans {G F F1 F2 : Hp} (a : FrExt G F F1) (b : FrExt G F1 F2) : FrExt G F F2 := ⟨a.same.trans b.same, fun x h1 h2 => b.out x h1 (a.out x h1 h2)⟩

/-- an exception of the program's own class, its fields -/
def RepX (K : PySem.W.Frag) (mg : Str → Option Value) (F H : Hp) (x : Exc) (c : Value) (dd : Option Addr) : Prop :=
  ∃ C d fs, mg x.cls = some (.ref C) ∧ c = .ref C ∧ dd = some d ∧ H d = some (.xd fs) ∧ x.args.map (·.1) = fs.map (·.1) ∧ Reps K F (x.args.map (·.2)) (fs.map (·.2))

/-- what an outcome wants: of a value P, of an exception W -/
def RG {α : Type} (K : PySem.W.Frag) (mg : Str → Option Value) (W : WX) (G F : Hp) (σ : L2.St) (P : α → DEnv → Prop) (o : Out α) : Prop :=
  match o with
  | .ok a e => P a e
  | .exc x e => ∀ c dd F' H' fp', SS K G F' H' σ e fp' → FrExt G F F' → RepX K mg F' H' x c dd → W c dd σ H'
  | .stuck => False
theorem RG.bind {α β : Type} {K : PySem.W.Frag} {mg : Str → Option Value} {W : WX} {G F : Hp} {σ : L2.St} {P : β → DEnv → Prop} {o : Out α} {k : α → DEnv → Out β} (h : RG K mg W G F σ P (o.bind k)) : RG K mg W G F σ (fun a e => RG K mg W G F σ P (k a e)) o := by
  cases o <;> exact h
theorem RG.imp {α : Type} {K : PySem.W.Frag} {mg : Str → Option Value} {W : WX} {G F F1 : Hp} {σ : L2.St} {P P' : α → DEnv → Prop} {o : Out α} (h : RG K mg W G F σ P o) (f : FrExt G F F1) (i : ∀ a e, P a e → P' a e) : RG K mg W G F1 σ P' o := by
  cases o with
  | ok a e => exact i _ _ h
  | exc x e => exact fun c dd F' H' fp' s fe r => h c dd F' H' fp' s (f.trans fe) r
  | stuck => exact h
abbrev PV (K : PySem.W.Frag) (G F : Hp) (σ : L2.St) (Q : VK) : Nat × D → DEnv → Prop := fun r e => ∀ v F' H' fp' S, SV K G F' H' σ e fp' r.1 r.2 v S → FrExt G F F' → Q v H'
abbrev PB (K : PySem.W.Frag) (G F : Hp) (σ : L2.St) (Q : Bool → Hp → Prop) : Bool → DEnv → Prop := fun b e => ∀ F' H' fp', SS K G F' H' σ e fp' → FrExt G F F' → Q b H'
abbrev PL (K : PySem.W.Frag) (G F : Hp) (σ : L2.St) (Q : List V → Hp → Prop) : List D → DEnv → Prop := fun ds e => ∀ vs F' H' fp', SS K G F' H' σ e fp' → Reps K F' ds vs → FrExt G F F' → Q vs H'
def tE (K : PySem.W.Frag) (mg : Str → Option Value) (W : WX) (m : ME) : TE := fun σ H Q => ∃ G F env fp, SS K G F H σ env fp ∧ RG K mg W G F σ (PV K G F σ Q) (m env)
def tT (K : PySem.W.Frag) (mg : Str → Option Value) (W : WX) (m : MT) : TT := fun σ H Q => ∃ G F env fp, SS K G F H σ env fp ∧ RG K mg W G F σ (PB K G F σ Q) (m env)
def tA (K : PySem.W.Frag) (mg : Str → Option Value) (W : WX) (m : MA) : TA := fun σ H Q => ∃ G F env fp, SS K G F H σ env fp ∧ RG K mg W G F σ (PL K G F σ Q) (m env)
def Agree (A : List Nat) (σ σ' : L2.St) : Prop := σ'.length = σ.length ∧ ∀ i, i ∉ A → σ'[i]? = σ[i]?
/-- what a statement's outcome wants -/
def RGS (K : PySem.W.Frag) (mg : Str → Option Value) (W : WX) (G F : Hp) (A : List Nat) (σ : L2.St) (De : L2.Ends) (o : OutS) : Prop :=
  match o with
  | .nx env' => ∀ σ' F' H' fp', Agree A σ σ' → SS K G F' H' σ' env' fp' → FrExt G F F' → De.nx σ' H'
  | .brk env' => ∀ σ' F' H' fp', Agree A σ σ' → SS K G F' H' σ' env' fp' → FrExt G F F' → De.bk σ' H'
  | .cont env' => ∀ σ' F' H' fp', Agree A σ σ' → SS K G F' H' σ' env' fp' → FrExt G F F' → De.ct σ' H'
  | .ret n d env' => ∀ v σ' F' H' fp' S, Agree A σ σ' → SV K G F' H' σ' env' fp' n d v S → FrExt G F F' → De.rt v H'
  | .exc x env' => ∀ c dd σ' F' H' fp', Agree A σ σ' → SS K G F' H' σ' env' fp' → FrExt G F F' → RepX K mg F' H' x c dd → W c dd σ' H'
  | .stuck => False
def tS (K : PySem.W.Frag) (mg : Str → Option Value) (W : WX) (A : List Nat) (m : MS) : TS := fun De σ H => ∃ G F env fp, SS K G F H σ env fp ∧ RGS K mg W G F A σ De (m env)

def DE (X : Cx) (W : WX) (m : ME) (e : Expr) : Prop := PE X e (tE X.K X.mg W m)
def DT (X : Cx) (W : WX) (m : MT) (e : Expr) : Prop := PT X e (tT X.K X.mg W m)
def DW (X : Cx) (W : WX) (m : MT) (e : Expr) : Prop := PW X e (tT X.K X.mg W m)
def DA (X : Cx) (W : WX) (m : MA) (es : List Expr) : Prop := PA X es (tA X.K X.mg W m)
def DS (X : Cx) (W : WX) (A : List Nat) (m : MS) (st : Stmt) : Prop := PS X st (tS X.K X.mg W A m)
def DSs (X : Cx) (W : WX) (A : List Nat) (m : MS) (sts : List Stmt) : Prop := PSs X sts (tS X.K X.mg W A m)

theorem PE.to {X : Cx} {e : Expr} {t t' : TE} (h : PE X e t) (i : ∀ σ H Q, t' σ H Q → t σ H Q) : PE X e t' := ⟨fun pins s σ H Q I q => h.run pins s σ H Q I (i σ H Q q)⟩
theorem PT.to {X : Cx} {e : Expr} {t t' : TT} (h : PT X e t) (i : ∀ σ H Q, t' σ H Q → t σ H Q) : PT X e t' := ⟨fun pins s σ H Q I q => h.run pins s σ H Q I (i σ H Q q)⟩
theorem PW.to {X : Cx} {e : Expr} {t t' : TT} (h : PW X e t) (i : ∀ σ H Q, t' σ H Q → t σ H Q) : PW X e t' := ⟨fun wh pins s σ H Q I q => h.run wh pins s σ H Q I (i σ H Q q)⟩
theorem PA.to {X : Cx} {e : List Expr} {t t' : TA} (h : PA X e t) (i : ∀ σ H Q, t' σ H Q → t σ H Q) : PA X e t' := ⟨fun pos pins s σ H Q I q => h.run pos pins s σ H Q I (i σ H Q q)⟩
theorem PS.to {X : Cx} {e : Stmt} {t t' : TS} (h : PS X e t) (i : ∀ De σ H, t' De σ H → t De σ H) : PS X e t' := ⟨fun pins s σ H De I q => h.run pins s σ H De I (i De σ H q)⟩
theorem PSs.to {X : Cx} {e : List Stmt} {t t' : TS} (h : PSs X e t) (i : ∀ De σ H, t' De σ H → t De σ H) : PSs X e t' := ⟨fun pins s σ H De I q => h.run pins s σ H De I (i De σ H q)⟩

/-! ### sharing what a value owns -/
open Classical in
noncomputable def addH (F H : Hp) (S : Addr → Prop) : Hp := fun a => match F a with
  | some o => some o
  | none => if S a then H a else none
theorem addH_same {F H : Hp} {S : Addr → Prop} : Same F (addH F H S) := fun a o e => by unfold addH; rw [e]
theorem addH_in {F H : Hp} {S : Addr → Prop} (sf : Same F H) {a : Addr} {o : HO} (h : S a) (e : H a = some o) : addH F H S a = some o := by
  unfold addH
  cases q : F a with
  | some u => have := sf _ _ q; rw [e] at this; simpa using this.symm
  | none => simp [h, e]
theorem addH_out {F H : Hp} {S : Addr → Prop} {a : Addr} (h : ¬ S a) : addH F H S a = F a := by
  unfold addH
  cases q : F a with
  | some u => rfl
  | none => simp [h]
theorem addH_sub {F H : Hp} {S : Addr → Prop} (sf : Same F H) : Same (addH F H S) H := fun a o e => by
  by_cases h : S a
  · unfold addH at e
    cases q : F a with
    | some u => rw [q] at e; exact sf _ _ (q.trans e)
    | none => rw [q] at e; simpa [h] using e
  · rw [addH_out h] at e; exact sf _ _ e
theorem Same.eq_none {F H : Hp} (s : Same F H) {a : Addr} (h : H a = none) : F a = none := s.free h
theorem RepM.rep {K : PySem.W.Frag} {F H : Hp} {n : Nat} {d : D} {v : V} {S : Addr → Prop} (sf : Same F H) (h : RepM K F H n d v S) : Rep K (addH F H S) d v :=
  h.share addH_same fun a o q e => addH_in sf q e

section
variable {K : PySem.W.Frag} {mg : Str → Option Value} {G F F' H H' : Hp} {σ : L2.St} {env env' : DEnv} {fp fp' : Fp} {n : Nat} {d : D} {v : V} {S : Addr → Prop}
/-- a larger shared part that touches nothing owned; a heap in which all that counts stands -/
theorem SS.grow (s : SS K G F H σ env fp) (e : Same F F') (sf : Same F' H') (k : ∀ a o, H a = some o → (∃ i, fp i a) ∨ G a ≠ none → H' a = some o) (hn : ∀ i a, fp i a → F' a = none) : SS K G F' H' σ env fp where
  len := s.len
  slot := fun i n d q => by
    obtain ⟨v, h1, h2⟩ := s.slot i n d q
    exact ⟨v, h1, h2.imp e (fun _ q => q) fun a o z q => k a o q (.inl ⟨i, z⟩)⟩
  dis := s.dis
  ld := fun i a q => by
    have h := s.ld i a q
    cases e' : H a with
    | none => exact absurd e' h.some
    | some o => rw [k a o e' (.inl ⟨i, q⟩), ← e']; exact h
  nf := hn
  ng := s.ng
  sf := sf
  sg := fun a o e => k a o (s.sg a o e) (.inr (by rw [e]; simp))
/-- the value of an expression is shared -/
theorem SV.share (s : SV K G F H σ env fp n d v S) : SS K G (addH F H S) H σ env fp ∧ Rep K (addH F H S) d v ∧ FrExt G F (addH F H S) := by
  have hS : ∀ a, G a ≠ none → ¬ S a := fun a h q => h (s.vng a q)
  refine ⟨s.ss.grow addH_same (addH_sub s.ss.sf) (fun a o e _ => e) (fun i a q => ?_), s.val.rep s.ss.sf, ⟨addH_same, fun a h e => ?_⟩⟩
  · rw [addH_out (fun z => s.vdis i a z q)]; exact s.ss.nf i a q
  · rw [addH_out (hS a h)]; exact e
theorem SV.of_rep (s : SS K G F H σ env fp) (r : Rep K F d v) : SV K G F H σ env fp 0 d v (fun _ => False) :=
  ⟨s, r, fun _ q => q.elim, fun _ q => q.elim, fun _ q => q.elim, fun _ _ q => q.elim⟩
end

/-- what an operation may hand back: nothing that stood is changed; what is owned is new -/
structure NewV (K : PySem.W.Frag) (F H F' H' : Hp) (n : Nat) (d : D) (v : V) (S : Addr → Prop) : Prop where
  ff : Same F F'
  hh : Same H H'
  fh : Same F' H'
  rep : RepM K F' H' n d v S
  ld : ∀ a, S a → LD (H' a)
  new : ∀ a, S a → H a = none
  nf : ∀ a, S a → F' a = none
  fn : ∀ a, F a = none → H a ≠ none → F' a = none
theorem NewV.of_rep {K : PySem.W.Frag} {F H : Hp} {d : D} {v : V} (sf : Same F H) (r : Rep K F d v) : NewV K F H F H 0 d v (fun _ => False) :=
  ⟨Same.refl _, Same.refl _, sf, r, fun _ q => q.elim, fun _ q => q.elim, fun _ q => q.elim, fun _ h _ => h⟩
theorem same_upd {H : Hp} {p : Addr} {o : HO} (h : H p = none) : Same H (upd H p o) := fun a u e => by rw [upd_ne (ne_of_none e h)]; exact e
theorem same_upd2 {F H : Hp} {p : Addr} {o : HO} (s : Same F H) (h : F p = none) : Same F (upd H p o) := fun a u e => by rw [upd_ne (ne_of_none e h)]; exact s _ _ e
theorem NewV.lst {K : PySem.W.Frag} {F H : Hp} {ds : List D} {vs : List V} {p : Addr} (sf : Same F H) (hp : H p = none) (r : Reps K F ds vs) : NewV K F H F (upd H p (.lst vs)) 1 (.lst ds) (.ref p) (fun a => a = p) := by
  refine ⟨Same.refl _, same_upd hp, same_upd2 sf (sf.free hp), ⟨p, vs, rfl, rfl, upd_same, RepA.of_reps r⟩, fun a q => ?_, fun a q => ?_, fun a q => ?_, fun _ h _ => h⟩
  · subst q; rw [upd_same]; trivial
  · subst q; exact hp
  · subst q; exact sf.free hp
theorem NewV.dK {K : PySem.W.Frag} {F H : Hp} {kvs : List (Key × D)} {kws : List (Key × V)} {p : Addr} (sf : Same F H) (hp : H p = none) (hk : kvs.map (·.1) = kws.map (·.1)) (r : Reps K F (kvs.map (·.2)) (kws.map (·.2))) : NewV K F H F (upd H p (.dK kws)) 1 (.dK kvs) (.ref p) (fun a => a = p) := by
  refine ⟨Same.refl _, same_upd hp, same_upd2 sf (sf.free hp), ⟨p, kws, rfl, rfl, upd_same, hk, RepA.of_reps r⟩, fun a q => ?_, fun a q => ?_, fun a q => ?_, fun _ h _ => h⟩
  · subst q; rw [upd_same]; trivial
  · subst q; exact hp
  · subst q; exact sf.free hp
theorem NewV.dT {K : PySem.W.Frag} {F H : Hp} {kvs : List (List Key × D)} {kws : List (List Key × V)} {p : Addr} (sf : Same F H) (hp : H p = none) (hk : kvs.map (·.1) = kws.map (·.1)) (r : Reps K F (kvs.map (·.2)) (kws.map (·.2))) : NewV K F H F (upd H p (.dT kws)) 1 (.dT kvs) (.ref p) (fun a => a = p) := by
  refine ⟨Same.refl _, same_upd hp, same_upd2 sf (sf.free hp), ⟨p, kws, rfl, rfl, upd_same, hk, RepA.of_reps r⟩, fun a q => ?_, fun a q => ?_, fun a q => ?_, fun _ h _ => h⟩
  · subst q; rw [upd_same]; trivial
  · subst q; exact hp
  · subst q; exact sf.free hp
theorem NewV.tup {K : PySem.W.Frag} {F H : Hp} {ds : List D} {vs : List V} {p : Addr} (sf : Same F H) (hp : H p = none) (r : Reps K F ds vs) : NewV K F H (upd F p (.tup vs)) (upd H p (.tup vs)) 0 (.tup ds) (.ref p) (fun _ => False) := by
  have hf := sf.free hp
  refine ⟨same_upd hf, same_upd hp, fun a u e => ?_, ?_, fun _ q => q.elim, fun _ q => q.elim, fun _ q => q.elim, fun a h1 h2 => ?_⟩
  · by_cases h : a = p
    · subst h; rw [upd_same] at e ⊢; exact e
    · rw [upd_ne h] at e ⊢; exact sf _ _ e
  · exact Rep.tup upd_same (Reps.mono (same_upd hf) r)
  · rw [upd_ne (fun z => h2 (by rw [z]; exact hp))]; exact h1
section
variable {K : PySem.W.Frag} {mg : Str → Option Value} {G F F' H H' : Hp} {σ : L2.St} {env env' : DEnv} {fp fp' : Fp} {n : Nat} {d : D} {v : V} {S : Addr → Prop}
theorem SS.new (s : SS K G F H σ env fp) (w : NewV K F H F' H' n d v S) : SV K G F' H' σ env fp n d v S ∧ FrExt G F F' := by
  refine ⟨⟨s.grow w.ff w.fh (fun a o e _ => w.hh a o e) fun i a q => w.fn a (s.nf i a q) (s.ld i a q).some, w.rep, w.ld, w.nf, fun a q => s.sg.free (w.new a q), fun i a q z => ?_⟩, ⟨w.ff, fun a h e => w.fn a e fun z => h (s.sg.free z)⟩⟩
  exact (s.ld i a z).some (w.new a q)
end

/-! ### constants, names -/
section
variable {X : Cx} {W : WX}
def mC (d : D) : ME := fun env => .ok (0, d) env
theorem de_const {e : Expr} {d : D} {v : V} (h : PE X e (tC v)) (r : ∀ K F, Rep K F d v) : DE X W (mC d) e :=
  PE.to h fun σ H Q ⟨G, F, env, fp, s, q⟩ => q v F H fp _ (SV.of_rep s (r _ _)) .refl
theorem de_int {i : Int} {j pos} : DE X W (mC (.int i)) (.Constant (.int i) j pos) := de_const pe_int fun _ _ => .int i
theorem de_bl {b : Bool} {j pos} : DE X W (mC (.bl b)) (.Constant (.bool b) j pos) := de_const pe_bl fun _ _ => .bl b
theorem de_non {j pos} : DE X W (mC .non) (.Constant .none j pos) := de_const pe_non fun _ _ => .non
theorem de_str {x : Str} {j pos} : DE X W (mC (.str x)) (.Constant (.str x) j pos) := de_const pe_str fun _ _ => .str x
def mVar (i : Nat) : ME := fun env => match env[i]? with
  | some (some (0, d)) => .ok (0, d) env
  | _ => .stuck
theorem de_var {i : Nat} {e : Expr} (h : PE X e (tVar i)) : DE X W (mVar i) e := by
  refine PE.to h fun σ H Q ⟨G, F, env, fp, s, q⟩ => ?_
  unfold mVar at q
  split at q
  · rename_i d hd
    obtain ⟨v, hv, r⟩ := s.slot i 0 d hd
    exact ⟨v, hv, q v F H fp _ (SV.of_rep s r) .refl⟩
  · exact q.elim
/-- a name is given away: what it owned goes with the value -/
def mMove (i : Nat) : ME := fun env => match env[i]? with
  | some (some (n, d)) => .ok (n, d) (env.set i none)
  | _ => .stuck
theorem SS.drop {K : PySem.W.Frag} {G F H : Hp} {σ : L2.St} {env : DEnv} {fp : Fp} (i : Nat) (s : SS K G F H σ env fp) : SS K G F H σ (env.set i none) (fun j a => j ≠ i ∧ fp j a) where
  len := by rw [List.length_set]; exact s.len
  slot := fun j n d q => by
    by_cases h : i = j
    · subst h
      by_cases hl : i < env.length
      · rw [List.getElem?_set_self hl] at q; cases q
      · rw [List.getElem?_eq_none (by simpa using hl)] at q; cases q
    · rw [List.getElem?_set_ne h] at q
      obtain ⟨v, h1, h2⟩ := s.slot j n d q
      exact ⟨v, h1, h2.wid fun a q => ⟨fun e => h e.symm, q⟩⟩
  dis := fun i j a h p q => s.dis i j a h p.2 q.2
  ld := fun i a q => s.ld i a q.2
  nf := fun i a q => s.nf i a q.2
  ng := fun i a q => s.ng i a q.2
  sf := s.sf
  sg := s.sg
theorem de_move {i : Nat} {e : Expr} (h : PE X e (tVar i)) : DE X W (mMove i) e := by
  refine PE.to h fun σ H Q ⟨G, F, env, fp, s, q⟩ => ?_
  unfold mMove at q
  split at q
  · rename_i n d hd
    obtain ⟨v, hv, r⟩ := s.slot i n d hd
    exact ⟨v, hv, q v F H _ (fp i) ⟨s.drop i, r, s.ld i, s.nf i, s.ng i, fun j a p z => s.dis i j a (fun e => z.1 e.symm) p z.2⟩ .refl⟩
  · exact q.elim

/-! ### operations -/
def mOp2 (f : D → D → Option (Nat × D)) (ma mb : ME) : ME := fun env => (ma env).bind fun a e1 => (mb e1).bind fun b e2 =>
  match f a.2 b.2 with
  | some r => .ok r e2
  | none => .stuck
def mOp1 (f : D → Option (Nat × D)) (ma : ME) : ME := fun env => (ma env).bind fun a e1 =>
  match f a.2 with
  | some r => .ok r e1
  | none => .stuck
def OpD (X : Cx) (g : Value → Value → Sem Value) (f : D → D → Option (Nat × D)) : Prop :=
  ∃ r : R2, OpR X g r ∧ ∀ d1 d2 n d, f d1 d2 = some (n, d) → ∀ (F H : Hp) (x y : V) (Q : VK), Same F H → Rep X.K F d1 x → Rep X.K F d2 y →
    (∀ v F' H' S, NewV X.K F H F' H' n d v S → Q v H') → r x y H Q
def UnD (X : Cx) (g : Value → Sem Value) (f : D → Option (Nat × D)) : Prop :=
  ∃ r : V → Hp → VK → Prop, UnR X g r ∧ ∀ d1 n d, f d1 = some (n, d) → ∀ (F H : Hp) (x : V) (Q : VK), Same F H → Rep X.K F d1 x →
    (∀ v F' H' S, NewV X.K F H F' H' n d v S → Q v H') → r x H Q
/-- one value, then what is made of it -/
theorem tE.of {K : PySem.W.Frag} {mg : Str → Option Value} {W : WX} {G F H : Hp} {ma : ME} {P : Nat × D → DEnv → Prop} {σ : L2.St} {env : DEnv} {fp : Fp} {Q' : VK} (s : SS K G F H σ env fp) (h : RG K mg W G F σ P (ma env))
    (hk : ∀ r e F1 H1 fp1 v, P r e → SS K G F1 H1 σ e fp1 → Rep K F1 r.2 v → FrExt G F F1 → Q' v H1) : tE K mg W ma σ H Q' := by
  refine ⟨G, F, env, fp, s, h.imp .refl fun r e p v F' H' fp' S sv fe => ?_⟩
  obtain ⟨s1, r1, f1⟩ := sv.share
  exact hk r e _ H' fp' v p s1 r1 (fe.trans f1)
theorem tT.of {K : PySem.W.Frag} {mg : Str → Option Value} {W : WX} {G F H : Hp} {ma : MT} {P : Bool → DEnv → Prop} {σ : L2.St} {env : DEnv} {fp : Fp} {Q' : Bool → Hp → Prop} (s : SS K G F H σ env fp) (h : RG K mg W G F σ P (ma env))
    (hk : ∀ b e F1 H1 fp1, P b e → SS K G F1 H1 σ e fp1 → FrExt G F F1 → Q' b H1) : tT K mg W ma σ H Q' :=
  ⟨G, F, env, fp, s, h.imp .refl fun b e p F' H' fp' s' fe => hk b e F' H' fp' p s' fe⟩
theorem tA.of {K : PySem.W.Frag} {mg : Str → Option Value} {W : WX} {G F H : Hp} {ma : MA} {P : List D → DEnv → Prop} {σ : L2.St} {env : DEnv} {fp : Fp} {Q' : List V → Hp → Prop} (s : SS K G F H σ env fp) (h : RG K mg W G F σ P (ma env))
    (hk : ∀ ds e F1 H1 fp1 vs, P ds e → SS K G F1 H1 σ e fp1 → Reps K F1 ds vs → FrExt G F F1 → Q' vs H1) : tA K mg W ma σ H Q' :=
  ⟨G, F, env, fp, s, h.imp .refl fun ds e p vs F' H' fp' s' r fe => hk ds e F' H' fp' vs p s' r fe⟩
/-- the end: something new, or nothing -/
theorem RG.end {K : PySem.W.Frag} {mg : Str → Option Value} {W : WX} {G F F1 H1 : Hp} {σ : L2.St} {e : DEnv} {fp1 : Fp} {Q : VK} {o : Option (Nat × D)} (s : SS K G F1 H1 σ e fp1) (fe : FrExt G F F1)
    (h : RG K mg W G F σ (PV K G F σ Q) (match o with | some r => Out.ok r e | none => .stuck)) : ∃ n d, o = some (n, d) ∧ ∀ v F' H' S, NewV K F1 H1 F' H' n d v S → Q v H' := by
  cases o with
  | none => exact h.elim
  | some r =>
    refine ⟨r.1, r.2, rfl, fun v F' H' S w => ?_⟩
    obtain ⟨sv, f2⟩ := s.new w
    exact h v F' H' fp1 S sv (fe.trans f2)
theorem de_op {a b : Expr} {op : Operator} {pos : Pos} {f : D → D → Option (Nat × D)} {ma mb : ME} (ho : OpD X (binaryOp op) f) (ha : DE X W ma a) (hb : DE X W mb b) : DE X W (mOp2 f ma mb) (.BinOp a op b pos) := by
  obtain ⟨r, hr, hq⟩ := ho
  refine PE.to (pe_op hr ha hb) fun σ H Q ⟨G, F, env, fp, s, h⟩ => ?_
  refine tE.of s h.bind fun r1 e1 F1 H1 fp1 v1 p1 s1 rep1 fe1 => ?_
  refine tE.of s1 (RG.imp p1.bind fe1 fun _ _ q => q) fun r2 e2 F2 H2 fp2 v2 p2 s2 rep2 fe2 => ?_
  obtain ⟨n, d, ho, hk⟩ := RG.end s2 (fe1.trans fe2) p2
  exact hq _ _ n d ho F2 H2 v1 v2 Q s2.sf (rep1.mono fe2.same) rep2 hk
theorem de_un {a : Expr} {op : UnaryOp} {pos : Pos} {f : D → Option (Nat × D)} {ma : ME} (ho : UnD X (unaryOp op) f) (ha : DE X W ma a) : DE X W (mOp1 f ma) (.UnaryOp op a pos) := by
  obtain ⟨r, hr, hq⟩ := ho
  refine PE.to (pe_un hr ha) fun σ H Q ⟨G, F, env, fp, s, h⟩ => ?_
  refine tE.of s h.bind fun r1 e1 F1 H1 fp1 v1 p1 s1 rep1 fe1 => ?_
  obtain ⟨n, d, ho, hk⟩ := RG.end s1 fe1 p1
  exact hq _ n d ho F1 H1 v1 Q s1.sf rep1 hk
/-- a comparison as a value -/
theorem de_cmp {a b : Expr} {op : CmpOp} {pos : Pos} {f : D → D → Option (Nat × D)} {ma mb : ME} (ho : OpD X (compareOp op) f) (ha : DE X W ma a) (hb : DE X W mb b) (hm : behindInMarks op b = false := by first | exact nomark _ | rfl) : DE X W (mOp2 f ma mb) (.Compare a [op] [b] pos) := by
  obtain ⟨r, hr, hq⟩ := ho
  refine PE.to (pe_cmpR hr ha hb hm) fun σ H Q ⟨G, F, env, fp, s, h⟩ => ?_
  refine tE.of s h.bind fun r1 e1 F1 H1 fp1 v1 p1 s1 rep1 fe1 => ?_
  refine tE.of s1 (RG.imp p1.bind fe1 fun _ _ q => q) fun r2 e2 F2 H2 fp2 v2 p2 s2 rep2 fe2 => ?_
  obtain ⟨n, d, ho, hk⟩ := RG.end s2 (fe1.trans fe2) p2
  exact hq _ _ n d ho F2 H2 v1 v2 Q s2.sf (rep1.mono fe2.same) rep2 hk
end
end DL

set_option autoImplicit false
set_option Elab.async false
set_option linter.all false
set_option maxRecDepth 100000
/-! DL: comparisons, tests, conditional values, items, displays, calls of what is built in. -/
namespace DL
open PySem PySem.Spec PyProof.Rows L2
section
variable {X : Cx} {W : WX}

/-! ### comparisons -/
def CmpD (X : Cx) (op : CmpOp) (f : D → D → Option Bool) : Prop :=
  ∃ r : R2, OpR X (compareOp op) r ∧ ∀ d1 d2 k, f d1 d2 = some k → ∀ (F H : Hp) (x y : V) (Q : VK), Same F H → Rep X.K F d1 x → Rep X.K F d2 y → Q (.bl k) H → r x y H Q
def oB {α : Type} (o : Option α) (e : DEnv) : Out α := match o with
  | some k => .ok k e
  | none => .stuck
def mCmp (f : D → D → Option Bool) (ma mb : ME) : MT := fun env => (ma env).bind fun a e1 => (mb e1).bind fun b e2 => oB (f a.2 b.2) e2
def mChain (f g : D → D → Option Bool) (ma mb mc : ME) : MT := fun env => (ma env).bind fun a e1 => (mb e1).bind fun b e2 => (oB (f a.2 b.2) e2).bind fun k e2 =>
  if k = true then (mc e2).bind fun c e3 => oB (g b.2 c.2) e3 else .ok false e2
def mBool (m : MT) : ME := fun env => (m env).bind fun b e => .ok (0, .bl b) e
def DB (X : Cx) (W : WX) (m : MT) (e : Expr) : Prop := DE X W (mBool m) e

theorem RG.ofO {α : Type} {K : PySem.W.Frag} {mg : Str → Option Value} {G F : Hp} {σ : L2.St} {P : α → DEnv → Prop} {o : Option α} {e : DEnv} (h : RG K mg W G F σ P (oB o e)) : ∃ k, o = some k ∧ P k e := by
  cases o with
  | none => exact h.elim
  | some k => exact ⟨k, rfl, h⟩
theorem PV.bl {K : PySem.W.Frag} {G F F1 H1 : Hp} {σ : L2.St} {Q : VK} {b : Bool} {e : DEnv} {fp : Fp} (h : PV K G F σ Q (0, .bl b) e) (s : SS K G F1 H1 σ e fp) (fe : FrExt G F F1) : Q (.bl b) H1 :=
  h _ F1 H1 fp _ (SV.of_rep s (.bl b)) fe

theorem db_cmp {a b : Expr} {op : CmpOp} {pos : Pos} {f : D → D → Option Bool} {ma mb : ME} (ho : CmpD X op f) (ha : DE X W ma a) (hb : DE X W mb b) (hm : behindInMarks op b = false := by first | exact nomark _ | rfl | with_unfolding_all rfl) : DB X W (mCmp f ma mb) (.Compare a [op] [b] pos) := by
  obtain ⟨r, hr, hq⟩ := ho
  refine PE.to (pe_cmpR hr ha hb hm) fun σ H Q ⟨G, F, env, fp, s, h⟩ => ?_
  refine tE.of s h.bind.bind fun r1 e1 F1 H1 fp1 v1 p1 s1 rep1 fe1 => ?_
  refine tE.of s1 (RG.imp p1.bind fe1 fun _ _ q => q) fun r2 e2 F2 H2 fp2 v2 p2 s2 rep2 fe2 => ?_
  obtain ⟨k, ho, hk⟩ := p2.ofO
  exact hq _ _ k ho F2 H2 v1 v2 Q s2.sf (rep1.mono fe2.same) rep2 (PV.bl hk s2 (fe1.trans fe2))
theorem dt_cmp {a b : Expr} {op : CmpOp} {pos : Pos} {f : D → D → Option Bool} {ma mb : ME} (ho : CmpD X op f) (ha : DE X W ma a) (hb : DE X W mb b) (hm : behindInMarks op b = false := by first | exact nomark _ | rfl | with_unfolding_all rfl) : DT X W (mCmp f ma mb) (.Compare a [op] [b] pos) := by
  obtain ⟨r, hr, hq⟩ := ho
  refine PT.to (pt_cmpR hr ha hb hm) fun σ H Q ⟨G, F, env, fp, s, h⟩ => ?_
  refine tE.of s h.bind fun r1 e1 F1 H1 fp1 v1 p1 s1 rep1 fe1 => ?_
  refine tE.of s1 (RG.imp p1.bind fe1 fun _ _ q => q) fun r2 e2 F2 H2 fp2 v2 p2 s2 rep2 fe2 => ?_
  obtain ⟨k, ho, hk⟩ := p2.ofO
  exact hq _ _ k ho F2 H2 v1 v2 _ s2.sf (rep1.mono fe2.same) rep2 ⟨k, rfl, hk F2 H2 fp2 s2 (fe1.trans fe2)⟩
theorem db_chain {a b c : Expr} {op op' : CmpOp} {pos : Pos} {f g : D → D → Option Bool} {ma mb mc : ME} (ho : CmpD X op f) (ho' : CmpD X op' g) (ha : DE X W ma a) (hb : DE X W mb b) (hc : DE X W mc c) (hm : lastMarks [op, op'] [b, c] = false := by with_unfolding_all rfl) :
    DB X W (mChain f g ma mb mc) (.Compare a [op, op'] [b, c] pos) := by
  obtain ⟨r, hr, hq⟩ := ho
  obtain ⟨r', hr', hq'⟩ := ho'
  refine PE.to (pe_chain hr hr' ha hb hc hm) fun σ H Q ⟨G, F, env, fp, s, h⟩ => ?_
  refine tE.of s h.bind.bind fun r1 e1 F1 H1 fp1 v1 p1 s1 rep1 fe1 => ?_
  refine tE.of s1 (RG.imp p1.bind fe1 fun _ _ q => q) fun r2 e2 F2 H2 fp2 v2 p2 s2 rep2 fe2 => ?_
  obtain ⟨k, ho, hk⟩ := p2.bind.ofO
  refine hq _ _ k ho F2 H2 v1 v2 _ s2.sf (rep1.mono fe2.same) rep2 ⟨k, rfl, ?_⟩
  cases k with
  | false => exact PV.bl hk s2 (fe1.trans fe2)
  | true =>
    refine tE.of s2 (RG.imp (RG.bind hk) (fe1.trans fe2) fun _ _ q => q) fun r3 e3 F3 H3 fp3 v3 p3 s3 rep3 fe3 => ?_
    obtain ⟨k, ho, hk⟩ := p3.ofO
    exact hq' _ _ k ho F3 H3 v2 v3 _ s3.sf (rep2.mono fe3.same) rep3 (PV.bl hk s3 ((fe1.trans fe2).trans fe3))
theorem dt_chain {a b c : Expr} {op op' : CmpOp} {pos : Pos} {f g : D → D → Option Bool} {ma mb mc : ME} (ho : CmpD X op f) (ho' : CmpD X op' g) (ha : DE X W ma a) (hb : DE X W mb b) (hc : DE X W mc c) (hm : lastMarks [op, op'] [b, c] = false := by with_unfolding_all rfl) :
    DT X W (mChain f g ma mb mc) (.Compare a [op, op'] [b, c] pos) := by
  obtain ⟨r, hr, hq⟩ := ho
  obtain ⟨r', hr', hq'⟩ := ho'
  refine PT.to (pt_chain hr hr' ha hb hc hm) fun σ H Q ⟨G, F, env, fp, s, h⟩ => ?_
  refine tE.of s h.bind fun r1 e1 F1 H1 fp1 v1 p1 s1 rep1 fe1 => ?_
  refine tE.of s1 (RG.imp p1.bind fe1 fun _ _ q => q) fun r2 e2 F2 H2 fp2 v2 p2 s2 rep2 fe2 => ?_
  obtain ⟨k, ho, hk⟩ := p2.bind.ofO
  refine hq _ _ k ho F2 H2 v1 v2 _ s2.sf (rep1.mono fe2.same) rep2 ⟨k, rfl, ?_⟩
  cases k with
  | false => exact ⟨false, rfl, hk F2 H2 fp2 s2 (fe1.trans fe2)⟩
  | true =>
    refine tE.of s2 (RG.imp (RG.bind hk) (fe1.trans fe2) fun _ _ q => q) fun r3 e3 F3 H3 fp3 v3 p3 s3 rep3 fe3 => ?_
    obtain ⟨k, ho, hk⟩ := p3.ofO
    exact hq' _ _ k ho F3 H3 v2 v3 _ s3.sf (rep2.mono fe3.same) rep3 ⟨k, rfl, hk F3 H3 fp3 s3 ((fe1.trans fe2).trans fe3)⟩

/-! ### and, or, not -/
def mAnd (ma mb : MT) : MT := fun env => (ma env).bind fun a e => if a = true then mb e else .ok false e
def mOr (ma mb : MT) : MT := fun env => (ma env).bind fun a e => if a = true then .ok true e else mb e
def mNot (ma : MT) : MT := fun env => (ma env).bind fun a e => .ok (!a) e
def mIsB (m : ME) : MT := fun env => (m env).bind fun r e => match r.2 with
  | .bl b => .ok b e
  | _ => .stuck
def DBs (X : Cx) (W : WX) (m : MT) (op : BoolOp) (es : List Expr) : Prop := ∀ pos, DB X W m (.BoolOp op es pos)
theorem db_of {e : Expr} {m : ME} (h : DE X W m e) : DB X W (mIsB m) e := by
  refine PE.to h fun σ H Q ⟨G, F, env, fp, s, h⟩ => ⟨G, F, env, fp, s, RG.imp h.bind.bind .refl fun r e q v F' H' fp' S sv fe => ?_⟩
  obtain ⟨n, d⟩ := r
  cases d <;> first | exact q.elim | skip
  rename_i b
  obtain ⟨s1, r1, f1⟩ := sv.share
  cases Rep.bl_inv r1
  exact q _ _ H' fp' _ (SV.of_rep s1 (.bl b)) (fe.trans f1)
theorem de_db {e : Expr} {m : MT} (h : DB X W m e) : DE X W (mBool m) e := h
theorem dbs_one {op : BoolOp} {a : Expr} {m : MT} (h : DB X W m a) : DBs X W m op [a] := fun _ => pe_one h
/-- a bool first -/
theorem tE.ofB {K : PySem.W.Frag} {mg : Str → Option Value} {G F H : Hp} {ma : MT} {P : Bool → DEnv → Prop} {σ : L2.St} {env : DEnv} {fp : Fp} {Q' : VK} (s : SS K G F H σ env fp) (h : RG K mg W G F σ P (ma env))
    (hk : ∀ b e F1 H1 fp1, P b e → SS K G F1 H1 σ e fp1 → FrExt G F F1 → Q' (.bl b) H1) : tE K mg W (mBool ma) σ H Q' := by
  refine ⟨G, F, env, fp, s, ?_⟩
  unfold mBool
  cases q : ma env with
  | stuck => rw [q] at h; exact h
  | exc x e => rw [q] at h; exact h
  | ok b e =>
    rw [q] at h
    intro v F' H' fp' S sv fe
    obtain ⟨s1, r1, f1⟩ := sv.share
    cases Rep.bl_inv r1
    exact hk b e _ H' fp' h s1 (fe.trans f1)
theorem dbs_and {a b : Expr} {rest : List Expr} {ma mb : MT} (ha : DB X W ma a) (hb : DBs X W mb .And (b :: rest)) : DBs X W (mAnd ma mb) .And (a :: b :: rest) := fun pos => by
  refine PE.to (pe_and ha (hb pos)) fun σ H Q ⟨G, F, env, fp, s, h⟩ => ?_
  refine tE.ofB s h.bind.bind fun k e1 F1 H1 fp1 p1 s1 fe1 => ⟨k, rfl, ?_⟩
  cases k with
  | false => exact PV.bl p1 s1 fe1
  | true => exact tE.ofB s1 (RG.imp (o := mb e1) p1 fe1 fun _ _ q => q) fun k e2 F2 H2 fp2 p2 s2 fe2 => PV.bl p2 s2 (fe1.trans fe2)
theorem dbs_or {a b : Expr} {rest : List Expr} {ma mb : MT} (ha : DB X W ma a) (hb : DBs X W mb .Or (b :: rest)) : DBs X W (mOr ma mb) .Or (a :: b :: rest) := fun pos => by
  refine PE.to (pe_or ha (hb pos)) fun σ H Q ⟨G, F, env, fp, s, h⟩ => ?_
  refine tE.ofB s h.bind.bind fun k e1 F1 H1 fp1 p1 s1 fe1 => ⟨k, rfl, ?_⟩
  cases k with
  | true => exact PV.bl p1 s1 fe1
  | false => exact tE.ofB s1 (RG.imp (o := mb e1) p1 fe1 fun _ _ q => q) fun k e2 F2 H2 fp2 p2 s2 fe2 => PV.bl p2 s2 (fe1.trans fe2)
theorem db_bop {op : BoolOp} {es : List Expr} {m : MT} {pos : Pos} (h : DBs X W m op es) : DB X W m (.BoolOp op es pos) := h pos

/-! ### tests -/
def truthD : D → Option Bool
  | .non => some false
  | .bl b => some b
  | .int i => some (i != 0)
  | .str x => if x.length ≤ sizeLine then some ((x.length : Int) != 0) else none
  | .lst ds => some (!ds.isEmpty)
  | .scr ds => some (!ds.isEmpty)
  | .tup ds => some (!ds.isEmpty)
  | .dK kvs => some (!kvs.isEmpty)
  | .dT _ => none
  | .ty _ => none
def mTru (m : ME) : MT := fun env => (m env).bind fun r e => oB (truthD r.2) e
theorem isEmpty_len {α β : Type} {xs : List α} {ys : List β} (h : xs.length = ys.length) : xs.isEmpty = ys.isEmpty := by
  cases xs <;> cases ys <;> simp_all
theorem truthD_ok {K : PySem.W.Frag} {F H : Hp} {d : D} {v : V} {k : Bool} (sf : Same F H) (r : Rep K F d v) (h : truthD d = some k) : TruV K v H k := by
  cases r with
  | non => exact (Option.some.inj h).symm
  | bl b => exact (Option.some.inj h).symm
  | int i => exact (Option.some.inj h).symm
  | str x =>
    simp only [truthD] at h
    split at h
    · rename_i hx; exact ⟨hx, (Option.some.inj h).symm⟩
    · cases h
  | lst hs hr => exact .inl ⟨_, SqL.of (sf _ _ hs), by rw [← isEmpty_len hr.length]; exact (Option.some.inj h).symm⟩
  | scr hs hr => exact .inl ⟨_, sf.seq hs, by rw [← isEmpty_len hr.length]; exact (Option.some.inj h).symm⟩
  | tup hs hr => exact .inr (.inl ⟨_, SqT.of (sf _ _ hs), by rw [← isEmpty_len hr.length]; exact (Option.some.inj h).symm⟩)
  | tupK hs _ hr => exact .inr (.inl ⟨_, SqT.mono sf hs, by rw [← isEmpty_len hr.length]; exact (Option.some.inj h).symm⟩)
  | dK hs hk hr =>
    refine .inr (.inr ⟨_, sf _ _ hs, ?_⟩)
    have e := congrArg List.length hk
    rw [List.length_map, List.length_map] at e
    rw [← isEmpty_len e]
    exact (Option.some.inj h).symm
  | dT _ _ _ => cases h
  | ty _ => cases h
theorem dt_val {e : Expr} {m : ME} (h : DE X W m e) (he : ∀ whole, isTrue e X.env whole = (do let v ← whole; standAt e.pos; holding [v] (truthy v)) := by intro _; rfl) : DT X W (mTru m) e := by
  refine PT.to (pt_truth h he) fun σ H Q ⟨G, F, env, fp, s, h⟩ => ?_
  refine tE.of s h.bind fun r1 e1 F1 H1 fp1 v1 p1 s1 rep1 fe1 => ?_
  obtain ⟨k, ho, hk⟩ := p1.ofO
  exact ⟨k, truthD_ok s1.sf rep1 ho, hk F1 H1 fp1 s1 fe1⟩
theorem dt_not {a : Expr} {m : MT} {pos : Pos} (h : DT X W m a) : DT X W (mNot m) (.UnaryOp .Not a pos) := by
  refine PT.to (pt_not h) fun σ H Q ⟨G, F, env, fp, s, h⟩ => ?_
  exact tT.of s h.bind fun b e F1 H1 fp1 p s1 fe => p F1 H1 fp1 s1 fe
def DWs (X : Cx) (W : WX) (m : MT) (op : BoolOp) (es : List Expr) : Prop := ∀ pos, DW X W m (.BoolOp op es pos)
theorem dws_and1 {a : Expr} {m : MT} (h : DT X W m a) : DWs X W m .And [a] := fun _ => pw_and1 h
theorem dws_or1 {a : Expr} {m : MT} (h : DT X W m a) : DWs X W m .Or [a] := fun _ => pw_or1 h
theorem dws_and {a b : Expr} {rest : List Expr} {ma mb : MT} (ha : DT X W ma a) (hb : DWs X W mb .And (b :: rest)) : DWs X W (mAnd ma mb) .And (a :: b :: rest) := fun pos => by
  refine PW.to (pw_and ha (hb pos)) fun σ H Q ⟨G, F, env, fp, s, h⟩ => ?_
  refine tT.of s h.bind fun k e1 F1 H1 fp1 p1 s1 fe1 => ?_
  cases k with
  | false => exact p1 F1 H1 fp1 s1 fe1
  | true => exact tT.of s1 (RG.imp (o := mb e1) p1 fe1 fun _ _ q => q) fun k e2 F2 H2 fp2 p2 s2 fe2 => p2 F2 H2 fp2 s2 (fe1.trans fe2)
theorem dws_or {a b : Expr} {rest : List Expr} {ma mb : MT} (ha : DT X W ma a) (hb : DWs X W mb .Or (b :: rest)) : DWs X W (mOr ma mb) .Or (a :: b :: rest) := fun pos => by
  refine PW.to (pw_or ha (hb pos)) fun σ H Q ⟨G, F, env, fp, s, h⟩ => ?_
  refine tT.of s h.bind fun k e1 F1 H1 fp1 p1 s1 fe1 => ?_
  cases k with
  | true => exact p1 F1 H1 fp1 s1 fe1
  | false => exact tT.of s1 (RG.imp (o := mb e1) p1 fe1 fun _ _ q => q) fun k e2 F2 H2 fp2 p2 s2 fe2 => p2 F2 H2 fp2 s2 (fe1.trans fe2)
theorem dt_bop {op : BoolOp} {es : List Expr} {m : MT} {pos : Pos} (h : DWs X W m op es) : DT X W m (.BoolOp op es pos) := (h pos).pt
/-- not x as a value -/
theorem db_not {a : Expr} {m : MT} {pos : Pos} (h : DB X W m a) : DB X W (mNot m) (.UnaryOp .Not a pos) := by
  refine PE.to (pe_not h) fun σ H Q ⟨G, F, env, fp, s, h⟩ => ?_
  exact tE.ofB s h.bind.bind fun k e1 F1 H1 fp1 p1 s1 fe1 => ⟨k, rfl, PV.bl p1 s1 fe1⟩
/-- a if c else b -/
def mIfE (c : MT) (ma mb : ME) : ME := fun env => (c env).bind fun k e => if k = true then ma e else mb e
theorem de_ifE {c a b : Expr} {mc : MT} {ma mb : ME} {pos : Pos} (hc : DT X W mc c) (ha : DE X W ma a) (hb : DE X W mb b) : DE X W (mIfE mc ma mb) (.IfExp c a b pos) := by
  refine PE.to (pe_ifExp hc ha hb) fun σ H Q ⟨G, F, env, fp, s, h⟩ => ?_
  refine tT.of s h.bind fun k e1 F1 H1 fp1 p1 s1 fe1 => ?_
  cases k with
  | true => exact ⟨G, F1, e1, fp1, s1, RG.imp (o := ma e1) p1 fe1 fun _ _ q v F' H' fp' S sv fe => q v F' H' fp' S sv (fe1.trans fe)⟩
  | false => exact ⟨G, F1, e1, fp1, s1, RG.imp (o := mb e1) p1 fe1 fun _ _ q v F' H' fp' S sv fe => q v F' H' fp' S sv (fe1.trans fe)⟩

/-! ### items, slices -/
def IxD (X : Cx) (f : D → D → Option (Nat × D)) : Prop :=
  ∃ r : R2, IxR X r ∧ ∀ d1 d2 n d, f d1 d2 = some (n, d) → ∀ (F H : Hp) (x y : V) (Q : VK), Same F H → Rep X.K F d1 x → Rep X.K F d2 y →
    (∀ v F' H' S, NewV X.K F H F' H' n d v S → Q v H') → r x y H Q
theorem de_ix {a b : Expr} {pos : Pos} {f : D → D → Option (Nat × D)} {ma mb : ME} (ho : IxD X f) (ha : DE X W ma a) (hb : DE X W mb b) (hs : PlainIx b := by intro _ _; rfl) : DE X W (mOp2 f ma mb) (.Subscript a b pos) := by
  obtain ⟨r, hr, hq⟩ := ho
  refine PE.to (pe_ix hr ha hb hs) fun σ H Q ⟨G, F, env, fp, s, h⟩ => ?_
  refine tE.of s h.bind fun r1 e1 F1 H1 fp1 v1 p1 s1 rep1 fe1 => ?_
  refine tE.of s1 (RG.imp p1.bind fe1 fun _ _ q => q) fun r2 e2 F2 H2 fp2 v2 p2 s2 rep2 fe2 => ?_
  obtain ⟨n, d, ho, hk⟩ := RG.end s2 (fe1.trans fe2) p2
  exact hq _ _ n d ho F2 H2 v1 v2 Q s2.sf (rep1.mono fe2.same) rep2 hk

def SlD (X : Cx) (f : D → Option Int → Option Int → Option (Nat × D)) : Prop :=
  ∃ r : V → Option Int → Option Int → Hp → VK → Prop, SlR X r ∧ ∀ d1 lo hi n d, f d1 lo hi = some (n, d) → ∀ (F H : Hp) (x : V) (Q : VK), Same F H → Rep X.K F d1 x →
    (∀ v F' H' S, NewV X.K F H F' H' n d v S → Q v H') → r x lo hi H Q
abbrev MO := DEnv → Out (Option Int)
abbrev PO' (K : PySem.W.Frag) (G F : Hp) (σ : L2.St) (Q : Option Int → Hp → Prop) : Option Int → DEnv → Prop := fun b e => ∀ F' H' fp', SS K G F' H' σ e fp' → FrExt G F F' → Q b H'
def tO (K : PySem.W.Frag) (mg : Str → Option Value) (W : WX) (m : MO) : TO := fun σ H Q => ∃ G F env fp, SS K G F H σ env fp ∧ RG K mg W G F σ (PO' K G F σ Q) (m env)
def DO (X : Cx) (W : WX) (m : MO) (e : Option Expr) : Prop := PO X e (tO X.K X.mg W m)
theorem tO.of {K : PySem.W.Frag} {mg : Str → Option Value} {W : WX} {G F H : Hp} {ma : MO} {P : Option Int → DEnv → Prop} {σ : L2.St} {env : DEnv} {fp : Fp} {Q' : Option Int → Hp → Prop} (s : SS K G F H σ env fp) (h : RG K mg W G F σ P (ma env))
    (hk : ∀ b e F1 H1 fp1, P b e → SS K G F1 H1 σ e fp1 → FrExt G F F1 → Q' b H1) : tO K mg W ma σ H Q' :=
  ⟨G, F, env, fp, s, h.imp .refl fun b e p F' H' fp' s' fe => hk b e F' H' fp' p s' fe⟩
theorem PO.to {X : Cx} {e : Option Expr} {t t' : TO} (h : PO X e t) (i : ∀ σ H Q, t' σ H Q → t σ H Q) : PO X e t' := by
  constructor
  intros
  apply h.run <;> first | assumption | (apply i; assumption)
def mONone : MO := fun env => .ok none env
def mOSome (m : ME) : MO := fun env => (m env).bind fun r e => match r.2 with
  | .int i => .ok (some i) e
  | _ => .stuck
theorem do_none : DO X W mONone none := PO.to po_none fun σ H Q ⟨G, F, env, fp, s, h⟩ => h F H fp s .refl
theorem do_some {e : Expr} {m : ME} (h : DE X W m e) : DO X W (mOSome m) (some e) := by
  refine PO.to (po_some h) fun σ H Q ⟨G, F, env, fp, s, h⟩ => ?_
  refine tE.of s h.bind fun r1 e1 F1 H1 fp1 v1 p1 s1 rep1 fe1 => ?_
  obtain ⟨n, d⟩ := r1
  cases d <;> first | exact p1.elim | skip
  rename_i i
  exact ⟨i, Rep.int_inv rep1, p1 F1 H1 fp1 s1 fe1⟩
def mSlice (f : D → Option Int → Option Int → Option (Nat × D)) (ma : ME) (ml mh : MO) : ME := fun env => (ma env).bind fun a e1 => (ml e1).bind fun lo e2 => (mh e2).bind fun hi e3 => oB (f a.2 lo hi) e3
theorem RG.end2 {K : PySem.W.Frag} {mg : Str → Option Value} {G F F1 H1 : Hp} {σ : L2.St} {e : DEnv} {fp1 : Fp} {Q : VK} {o : Option (Nat × D)} (s : SS K G F1 H1 σ e fp1) (fe : FrExt G F F1)
    (h : RG K mg W G F σ (PV K G F σ Q) (oB o e)) : ∃ n d, o = some (n, d) ∧ ∀ v F' H' S, NewV K F1 H1 F' H' n d v S → Q v H' := by
  obtain ⟨r, e, p⟩ := h.ofO
  refine ⟨r.1, r.2, e, fun v F' H' S w => ?_⟩
  obtain ⟨sv, f2⟩ := s.new w
  exact p v F' H' fp1 S sv (fe.trans f2)
theorem de_slice {a : Expr} {lo hi : Option Expr} {p2 pos : Pos} {f : D → Option Int → Option Int → Option (Nat × D)} {ma : ME} {ml mh : MO} (ho : SlD X f) (ha : DE X W ma a) (hl : DO X W ml lo) (hh : DO X W mh hi) :
    DE X W (mSlice f ma ml mh) (.Subscript a (.Slice lo hi none p2) pos) := by
  obtain ⟨r, hr, hq⟩ := ho
  refine PE.to (pe_slice hr ha hl hh) fun σ H Q ⟨G, F, env, fp, s, h⟩ => ?_
  refine tE.of s h.bind fun r1 e1 F1 H1 fp1 v1 p1 s1 rep1 fe1 => ?_
  refine tO.of s1 (RG.imp p1.bind fe1 fun _ _ q => q) fun lo e2 F2 H2 fp2 p2 s2 fe2 => ?_
  refine tO.of s2 (RG.imp p2.bind (fe1.trans fe2) fun _ _ q => q) fun hi e3 F3 H3 fp3 p3 s3 fe3 => ?_
  obtain ⟨n, d, ho, hk⟩ := RG.end2 s3 ((fe1.trans fe2).trans fe3) p3
  exact hq _ _ _ n d ho F3 H3 v1 Q s3.sf (rep1.mono (fe2.same.trans fe3.same)) hk

/-! ### arguments, displays -/
def mNil : MA := fun env => .ok [] env
def mCons (m : ME) (ms : MA) : MA := fun env => (m env).bind fun a e1 => (ms e1).bind fun ds e2 => .ok (a.2 :: ds) e2
theorem da_nil : DA X W mNil [] := PA.to pa_nil fun σ H Q ⟨G, F, env, fp, s, h⟩ => h [] F H fp s .nil .refl
theorem da_cons {e : Expr} {es : List Expr} {m : ME} {ms : MA} (h : DE X W m e) (hs : DA X W ms es) (hst : starEach (e :: es) X.env = (false, eval e X.env) :: starEach es X.env := by rfl) : DA X W (mCons m ms) (e :: es) := by
  refine PA.to (pa_cons h hs hst) fun σ H Q ⟨G, F, env, fp, s, h⟩ => ?_
  refine tE.of s h.bind fun r1 e1 F1 H1 fp1 v1 p1 s1 rep1 fe1 => ?_
  refine tA.of s1 (RG.imp p1.bind fe1 fun _ _ q => q) fun ds e2 F2 H2 fp2 vs p2 s2 rep2 fe2 => ?_
  exact p2 _ F2 H2 fp2 s2 (.cons (rep1.mono fe2.same) rep2) (fe1.trans fe2)
def mTup (ms : MA) : ME := fun env => (ms env).bind fun ds e => if ds.length ≤ 1000 then .ok (0, .tup ds) e else .stuck
def mLst (ms : MA) : ME := fun env => (ms env).bind fun ds e => if ds.length ≤ 1000 then .ok (1, .lst ds) e else .stuck
theorem le_line {n : Nat} (h : n ≤ 1000) : n ≤ sizeLine := by rw [sizeLine_eq]; omega
theorem de_tup {es : List Expr} {ms : MA} {x1} {pos : Pos} (h : DA X W ms es) : DE X W (mTup ms) (.Tuple es x1 pos) := by
  refine PE.to (pe_tup h) fun σ H Q ⟨G, F, env, fp, s, h⟩ => ?_
  refine tA.of s h.bind fun ds e1 F1 H1 fp1 vs p1 s1 rep1 fe1 => ?_
  by_cases hl : ds.length ≤ 1000
  · simp only [hl, if_true] at p1
    refine ⟨by rw [← rep1.length]; exact le_line hl, fun p hp => ?_⟩
    obtain ⟨sv, f2⟩ := s1.new (NewV.tup s1.sf hp rep1)
    exact p1 _ _ _ fp1 _ sv (fe1.trans f2)
  · simp only [hl, if_false] at p1; exact p1.elim
theorem de_lst {es : List Expr} {ms : MA} {pos : Pos} (h : DA X W ms es) : DE X W (mLst ms) (.List es pos) := by
  refine PE.to (pe_lst h) fun σ H Q ⟨G, F, env, fp, s, h⟩ => ?_
  refine tA.of s h.bind fun ds e1 F1 H1 fp1 vs p1 s1 rep1 fe1 => ?_
  by_cases hl : ds.length ≤ 1000
  · simp only [hl, if_true] at p1
    refine ⟨by rw [← rep1.length]; exact le_line hl, fun p hp => ?_⟩
    obtain ⟨sv, f2⟩ := s1.new (NewV.lst s1.sf hp rep1)
    exact p1 _ _ _ fp1 _ sv (fe1.trans f2)
  · simp only [hl, if_false] at p1; exact p1.elim

/-! ### calls of what is built in -/
def CallD (X : Cx) (f : Value) (g : List D → Option (Nat × D)) : Prop :=
  ∃ r : List V → Hp → VK → Prop, CallR X f r ∧ ∀ ds n d, g ds = some (n, d) → ∀ (F H : Hp) (xs : List V) (Q : VK), Same F H → Reps X.K F ds xs →
    (∀ v F' H' S, NewV X.K F H F' H' n d v S → Q v H') → r xs H Q
def mCallB (g : List D → Option (Nat × D)) (ms : MA) : ME := fun env => (ms env).bind fun ds e => oB (g ds) e
theorem de_callB {x : Str} {id : String} {p pos : Pos} {e : Expr} {es : List Expr} {g : List D → Option (Nat × D)} {ms : MA} (hc : CallD X (.builtin id) g) (hg : Gl X x) (hm : X.mg x = none) (hv : bootBuiltins x = some (.builtin id)) (ha : DA X W ms (e :: es)) (hn : x ≠ "__name__" := by decide) (hdb : (x == ("__debug__" : Str)) = false := by decide) (he : starEach (e :: es) X.env = (false, eval e X.env) :: starEach es X.env := by rfl) (hpl : (backTo pos (starEach es X.env)).any (·.1) = false := by rfl) :
    DE X W (mCallB g ms) (.Call (.Name x p) (e :: es) [] pos) := by
  obtain ⟨r, hr, hq⟩ := hc
  refine PE.to (pe_callB hr hg hm hv ha hn hdb he hpl) fun σ H Q ⟨G, F, env, fp, s, h⟩ => ?_
  refine tA.of s h.bind fun ds e1 F1 H1 fp1 vs p1 s1 rep1 fe1 => ?_
  obtain ⟨n, d, ho, hk⟩ := RG.end2 s1 fe1 p1
  exact hq _ n d ho F1 H1 vs Q s1.sf rep1 hk
theorem de_callTy {x : Str} {T : String} {p pos : Pos} {e : Expr} {es : List Expr} {g : List D → Option (Nat × D)} {ms : MA} (hc : CallD X (.type T) g) (hg : Gl X x) (hm : X.mg x = none) (hv : bootBuiltins x = some (.type T)) (ha : DA X W ms (e :: es)) (hn : x ≠ "__name__" := by decide) (hdb : (x == ("__debug__" : Str)) = false := by decide) (he : starEach (e :: es) X.env = (false, eval e X.env) :: starEach es X.env := by rfl) (hpl : (backTo pos (starEach es X.env)).any (·.1) = false := by rfl) :
    DE X W (mCallB g ms) (.Call (.Name x p) (e :: es) [] pos) := by
  obtain ⟨r, hr, hq⟩ := hc
  refine PE.to (pe_callTy hr hg hm hv ha hn hdb he hpl) fun σ H Q ⟨G, F, env, fp, s, h⟩ => ?_
  refine tA.of s h.bind fun ds e1 F1 H1 fp1 vs p1 s1 rep1 fe1 => ?_
  obtain ⟨n, d, ho, hk⟩ := RG.end2 s1 fe1 p1
  exact hq _ n d ho F1 H1 vs Q s1.sf rep1 hk
/-- a method of a built-in type that changes nothing -/
def MtD (X : Cx) (T id : String) (g : D → List D → Option (Nat × D)) : Prop :=
  ∃ r : V → List V → Hp → VK → Prop, MtR X id r ∧ (∀ (F H : Hp) d x, Same F H → Rep X.K F d x → (∃ ds n e, g d ds = some (n, e)) → tyV X.K T x H) ∧
    ∀ d0 ds n d, g d0 ds = some (n, d) → ∀ (F H : Hp) (x : V) (xs : List V) (Q : VK), Same F H → Rep X.K F d0 x → Reps X.K F ds xs →
    (∀ v F' H' S, NewV X.K F H F' H' n d v S → Q v H') → r x xs H Q
def mMeth (ok : D → Bool) (g : D → List D → Option (Nat × D)) (mo : ME) (ms : MA) : ME := fun env => (mo env).bind fun o e1 => if ok o.2 = true then (ms e1).bind fun ds e => oB (g o.2 ds) e else .stuck
def isTy (T : String) : D → Bool
  | .str _ => T == "str"
  | .lst _ => T == "list"
  | .dK _ => T == "dict"
  | .dT _ => T == "dict"
  | _ => false
theorem isTy_ok {K : PySem.W.Frag} {F H : Hp} {T : String} {d : D} {x : V} (sf : Same F H) (r : Rep K F d x) (h : isTy T d = true) : tyV K T x H := by
  cases r with
  | str x => exact (show T = "str" by simpa [isTy] using h)
  | lst hs _ => exact .inl ⟨by simpa [isTy] using h, _, SqL.of (sf _ _ hs)⟩
  | dK hs _ _ => exact .inr (.inr (.inl ⟨by simpa [isTy] using h, .inl ⟨_, sf _ _ hs⟩⟩))
  | dT hs _ _ => exact .inr (.inr (.inl ⟨by simpa [isTy] using h, .inr ⟨_, sf _ _ hs⟩⟩))
  | _ => cases h
def MtD' (X : Cx) (id : String) (g : D → List D → Option (Nat × D)) : Prop :=
  ∃ r : V → List V → Hp → VK → Prop, MtR X id r ∧
    ∀ d0 ds n d, g d0 ds = some (n, d) → ∀ (F H : Hp) (x : V) (xs : List V) (Q : VK), Same F H → Rep X.K F d0 x → Reps X.K F ds xs →
    (∀ v F' H' S, NewV X.K F H F' H' n d v S → Q v H') → r x xs H Q
theorem de_meth {o e : Expr} {es : List Expr} {name : Str} {apos cpos : Pos} {T id : String} {g : D → List D → Option (Nat × D)} {mo : ME} {ms : MA} (pa : PlainAttrs T) (slot : Slot T name id) (hty : typeOf (.builtin id) = pure (.type "method_descriptor")) (hm : MtD' X id g) (ho : DE X W mo o) (ha : DA X W ms (e :: es))
    (hbase : attributeBase o name X.env (eval o X.env) = eval o X.env := by rfl)
    (hfew : ((backTo cpos (starEach (e :: es) X.env)).all (fun x => !x.1) && (backToKw cpos (keywordEach [] X.env)).all (fun x => x.1.isSome)
      && decide ((e :: es).length + ([] : List Keyword).length + (if ([] : List Keyword).isEmpty then 0 else 1) < 30)) = true := by rfl)
    (hline : (apos.endLine == cpos.line) = true := by rfl) (hs : starEach (e :: es) X.env = (false, eval e X.env) :: starEach es X.env := by rfl) (hplain : (backTo cpos (starEach es X.env)).any (·.1) = false := by rfl) :
    DE X W (mMeth (isTy T) g mo ms) (.Call (.Attribute o name apos) (e :: es) [] cpos) := by
  obtain ⟨r, hr, hq⟩ := hm
  refine PE.to (pe_bm pa slot hty hr ho ha hbase hfew hline hs hplain) fun σ H Q ⟨G, F, env, fp, s, h⟩ => ?_
  refine tE.of s h.bind fun r1 e1 F1 H1 fp1 v1 p1 s1 rep1 fe1 => ?_
  by_cases hT : isTy T r1.2 = true
  · simp only [hT, if_true] at p1
    refine ⟨isTy_ok s1.sf rep1 hT, ?_⟩
    refine tA.of s1 (RG.imp p1.bind fe1 fun _ _ q => q) fun ds e2 F2 H2 fp2 vs p2 s2 rep2 fe2 => ?_
    obtain ⟨n, d, ho, hk⟩ := RG.end2 s2 (fe1.trans fe2) p2
    exact hq _ _ n d ho F2 H2 v1 vs Q s2.sf (rep1.mono fe2.same) rep2 hk
  · simp only [hT, if_false] at p1; exact p1.elim
theorem de_meth0 {o : Expr} {name : Str} {apos cpos : Pos} {T id : String} {g : D → List D → Option (Nat × D)} {mo : ME} (pa : PlainAttrs T) (slot : Slot T name id) (hty : typeOf (.builtin id) = pure (.type "method_descriptor")) (hm : MtD' X id g) (ho : DE X W mo o)
    (hbase : attributeBase o name X.env (eval o X.env) = eval o X.env := by rfl) (hline : (apos.endLine == cpos.line) = true := by rfl) :
    DE X W (mMeth (isTy T) g mo mNil) (.Call (.Attribute o name apos) [] [] cpos) := by
  obtain ⟨r, hr, hq⟩ := hm
  refine PE.to (pe_bm0 pa slot hty hr ho hbase hline) fun σ H Q ⟨G, F, env, fp, s, h⟩ => ?_
  refine tE.of s h.bind fun r1 e1 F1 H1 fp1 v1 p1 s1 rep1 fe1 => ?_
  by_cases hT : isTy T r1.2 = true
  · simp only [hT, if_true] at p1
    refine ⟨isTy_ok s1.sf rep1 hT, ?_⟩
    obtain ⟨n, d, ho, hk⟩ := RG.end2 s1 fe1 (RG.bind (o := mNil e1) p1)
    exact hq _ _ n d ho F1 H1 v1 [] Q s1.sf rep1 .nil hk
  · simp only [hT, if_false] at p1; exact p1.elim
end
end DL

set_option autoImplicit false
set_option Elab.async false
set_option linter.all false
set_option maxRecDepth 100000
/-! DL: statements. -/
namespace DL
open PySem PySem.Spec PyProof.Rows L2

theorem Agree.refl (A : List Nat) (σ : L2.St) : Agree A σ σ := ⟨rfl, fun _ _ => rfl⟩
theorem Agree.trans {A A1 A2 : List Nat} {σ σ1 σ2 : L2.St} (a : Agree A1 σ σ1) (b : Agree A2 σ1 σ2) (h1 : ∀ i ∈ A1, i ∈ A) (h2 : ∀ i ∈ A2, i ∈ A) : Agree A σ σ2 :=
  ⟨b.1.trans a.1, fun i hi => (b.2 i fun z => hi (h2 i z)).trans (a.2 i fun z => hi (h1 i z))⟩
theorem Agree.mono {A A1 : List Nat} {σ σ1 : L2.St} (a : Agree A1 σ σ1) (h1 : ∀ i ∈ A1, i ∈ A) : Agree A σ σ1 := ⟨a.1, fun i hi => a.2 i fun z => hi (h1 i z)⟩
theorem Agree.set (σ : L2.St) (i : Nat) (v : Option V) : Agree [i] σ (σ.set i v) := ⟨List.length_set .., fun j hj => List.getElem?_set_ne (fun e => hj (by rw [e]; exact List.mem_cons_self))⟩

section
variable {K : PySem.W.Frag} {mg : Str → Option Value} {W : WX} {G F F1 H H' : Hp} {σ σ1 : L2.St} {env env' : DEnv} {fp fp' : Fp} {n : Nat} {d : D} {v : V} {S : Addr → Prop} {A A1 A0 : List Nat} {De De' : L2.Ends} {o : OutS}
theorem RGS.imp (h : RGS K mg W G F A σ De o) (f : FrExt G F F1) (ha : ∀ σ', Agree A1 σ1 σ' → Agree A σ σ') (hn : ∀ e, o = .nx e → ∀ σ' H', De.nx σ' H' → De'.nx σ' H') (hb : ∀ e, o = .brk e → ∀ σ' H', De.bk σ' H' → De'.bk σ' H')
    (hc : ∀ e, o = .cont e → ∀ σ' H', De.ct σ' H' → De'.ct σ' H') (hr : ∀ v' H', De.rt v' H' → De'.rt v' H') : RGS K mg W G F1 A1 σ1 De' o := by
  cases o with
  | nx e => exact fun σ' F' H' fp' a s fe => hn e rfl _ _ (h σ' F' H' fp' (ha _ a) s (f.trans fe))
  | brk e => exact fun σ' F' H' fp' a s fe => hb e rfl _ _ (h σ' F' H' fp' (ha _ a) s (f.trans fe))
  | cont e => exact fun σ' F' H' fp' a s fe => hc e rfl _ _ (h σ' F' H' fp' (ha _ a) s (f.trans fe))
  | ret n d e => exact fun v σ' F' H' fp' S a s fe => hr _ _ (h v σ' F' H' fp' S (ha _ a) s (f.trans fe))
  | exc x e => exact fun c dd σ' F' H' fp' a s fe r => h c dd σ' F' H' fp' (ha _ a) s (f.trans fe) r
  | stuck => exact h
theorem RGS.same (h : RGS K mg W G F A σ De o) (f : FrExt G F F1) (ha : ∀ σ', Agree A1 σ1 σ' → Agree A σ σ') : RGS K mg W G F1 A1 σ1 De o :=
  h.imp f ha (fun _ _ _ _ q => q) (fun _ _ _ _ q => q) (fun _ _ _ _ q => q) fun _ _ q => q
theorem RGS.ofO {α : Type} {o : Out α} {k : α → DEnv → OutS} (h : RGS K mg W G F A σ De (o.bindS k)) : RG K mg W G F σ (fun a e => RGS K mg W G F A σ De (k a e)) o := by
  cases o with
  | ok a e => exact h
  | exc x e => exact fun c dd F' H' fp' s f r => h c dd σ F' H' fp' (Agree.refl _ _) s f r
  | stuck => exact h
/-- a name takes a value -/
theorem SV.put (s : SV K G F H σ env fp n d v S) (i : Nat) : SS K G F H (σ.set i (some v)) (env.set i (some (n, d))) (fun j a => if j = i then S a else fp j a) where
  len := by rw [List.length_set, List.length_set]; exact s.ss.len
  slot := fun j m e q => by
    by_cases h : i = j
    · subst h
      by_cases hl : i < env.length
      · rw [List.getElem?_set_self hl] at q
        cases q
        refine ⟨v, by rw [List.getElem?_set_self (by rw [← s.ss.len]; exact hl)], ?_⟩
        simpa using s.val
      · rw [List.getElem?_eq_none (by simpa using hl)] at q; cases q
    · rw [List.getElem?_set_ne h] at q
      obtain ⟨u, h1, h2⟩ := s.ss.slot j m e q
      refine ⟨u, by rw [List.getElem?_set_ne h]; exact h1, h2.wid fun a z => ?_⟩
      simp only [if_neg (Ne.symm h)]; exact z
  dis := fun j k a h p q => by
    by_cases hj : j = i
    · by_cases hk : k = i
      · exact h (hj.trans hk.symm)
      · simp only [hj, hk, if_true, if_false] at p q
        exact s.vdis k a p q
    · by_cases hk : k = i
      · simp only [hj, hk, if_true, if_false] at p q
        exact s.vdis j a q p
      · simp only [hj, hk, if_false] at p q
        exact s.ss.dis j k a h p q
  ld := fun j a q => by
    by_cases hj : j = i
    · simp only [hj, if_true] at q; exact s.vld a q
    · simp only [hj, if_false] at q; exact s.ss.ld j a q
  nf := fun j a q => by
    by_cases hj : j = i
    · simp only [hj, if_true] at q; exact s.vnf a q
    · simp only [hj, if_false] at q; exact s.ss.nf j a q
  ng := fun j a q => by
    by_cases hj : j = i
    · simp only [hj, if_true] at q; exact s.vng a q
    · simp only [hj, if_false] at q; exact s.ss.ng j a q
  sf := s.ss.sf
  sg := s.ss.sg
end

/-! ### blocks, ifs, returns, assignments -/
def mSkip : MS := fun env => .nx env
def mSeq (m1 m2 : MS) : MS := fun env => match m1 env with
  | .nx e => m2 e
  | o => o
def mSet (i : Nat) (m : ME) : MS := fun env => (m env).bindS fun r e => .nx (e.set i (some r))
/-- .. shared at once -/
def mSetF (i : Nat) (m : ME) : MS := fun env => (m env).bindS fun r e => .nx (e.set i (some (0, r.2)))
def mDrop (m : ME) : MS := fun env => (m env).bindS fun _ e => .nx e
def mRet (m : ME) : MS := fun env => (m env).bindS fun r e => .ret r.1 r.2 e
def mRetN : MS := fun env => .ret 0 .non env
def mIf (c : MT) (m1 m2 : MS) : MS := fun env => (c env).bindS fun b e => if b = true then m1 e else m2 e
section
variable {X : Cx} {W : WX} {A A1 A2 : List Nat}
theorem dss_nil : DSs X W [] mSkip [] := PSs.to pss_nil fun De σ H ⟨G, F, env, fp, s, h⟩ => h σ F H fp (Agree.refl _ _) s .refl
theorem tS.of {K : PySem.W.Frag} {mg : Str → Option Value} {G F F1 H : Hp} {σ σ1 : L2.St} {env : DEnv} {fp : Fp} {De De' : L2.Ends} {m : MS} (s : SS K G F1 H σ1 env fp) (h : RGS K mg W G F A σ De (m env)) (f : FrExt G F F1) (ha : ∀ σ', Agree A1 σ1 σ' → Agree A σ σ')
    (hn : ∀ e, m env = .nx e → ∀ σ' H', De.nx σ' H' → De'.nx σ' H') (hb : ∀ e, m env = .brk e → ∀ σ' H', De.bk σ' H' → De'.bk σ' H')
    (hc : ∀ e, m env = .cont e → ∀ σ' H', De.ct σ' H' → De'.ct σ' H') (hr : ∀ v' H', De.rt v' H' → De'.rt v' H') : tS K mg W A1 m De' σ1 H := ⟨G, F1, env, fp, s, h.imp f ha hn hb hc hr⟩
theorem dss_cons {st : Stmt} {sts : List Stmt} {m1 m2 : MS} (h1 : DS X W A1 m1 st) (h2 : DSs X W A2 m2 sts) : DSs X W (A1 ++ A2) (mSeq m1 m2) (st :: sts) := by
  refine PSs.to (pss_cons h1 h2) fun De σ H ⟨G, F, env, fp, s, h⟩ => ⟨G, F, env, fp, s, ?_⟩
  unfold mSeq at h
  have l1 : ∀ i ∈ A1, i ∈ A1 ++ A2 := fun i hi => List.mem_append_left _ hi
  have l2 : ∀ i ∈ A2, i ∈ A1 ++ A2 := fun i hi => List.mem_append_right _ hi
  cases e : m1 env with
  | nx e1 =>
    rw [e] at h
    exact fun σ' F' H' fp' a s' fe => ⟨G, F', e1, fp', s', h.same fe fun σ2 b => a.trans b l1 l2⟩
  | brk e1 => rw [e] at h; exact RGS.imp (De' := { De with nx := _ }) h .refl (fun σ' a => a.mono l1) (fun _ q => nomatch q) (fun _ _ _ _ q => q) (fun _ q => nomatch q) fun _ _ q => q
  | cont e1 => rw [e] at h; exact RGS.imp (De' := { De with nx := _ }) h .refl (fun σ' a => a.mono l1) (fun _ q => nomatch q) (fun _ q => nomatch q) (fun _ _ _ _ q => q) fun _ _ q => q
  | ret n d e1 => rw [e] at h; exact RGS.imp (De' := { De with nx := _ }) h .refl (fun σ' a => a.mono l1) (fun _ q => nomatch q) (fun _ q => nomatch q) (fun _ q => nomatch q) fun _ _ q => q
  | exc x e1 => rw [e] at h; exact RGS.imp (De' := { De with nx := _ }) h .refl (fun σ' a => a.mono l1) (fun _ q => nomatch q) (fun _ q => nomatch q) (fun _ q => nomatch q) fun _ _ q => q
  | stuck => rw [e] at h; exact h.elim
theorem dss_one {st : Stmt} {m : MS} (h : DS X W A m st) : DSs X W A m [st] := PSs.to (pss_one h) fun De σ H q => q
theorem ds_set {i : Nat} {x : Str} {e : Expr} {m : ME} {pos pos' : Pos} (hN : X.N.Nodup) (hi : X.N[i]? = some x) (hx : Loc X.env.scope x) (he : DE X W m e) (hs : swapsWith e (some (.Name x pos')) pos.line X.env = pure false := by rfl) (hf : X.fn x = true ∨ X.env.scope.names.lookup x = some .local := by first | exact .inl rfl | exact .inr rfl | assumption) :
    DS X W [i] (mSet i m) (.Assign [.Name x pos'] e pos) := by
  refine PS.to (ps_set hN hi hx he hs hf) fun De σ H ⟨G, F, env, fp, s, h⟩ => ?_
  refine ⟨G, F, env, fp, s, h.ofO.imp .refl fun r e p v F' H' fp' S sv fe => ?_⟩
  exact p _ F' H' _ (Agree.set σ i _) (sv.put i) fe
theorem ds_setF {i : Nat} {x : Str} {e : Expr} {m : ME} {pos pos' : Pos} (hN : X.N.Nodup) (hi : X.N[i]? = some x) (hx : Loc X.env.scope x) (he : DE X W m e) (hs : swapsWith e (some (.Name x pos')) pos.line X.env = pure false := by rfl) (hf : X.fn x = true ∨ X.env.scope.names.lookup x = some .local := by first | exact .inl rfl | exact .inr rfl | assumption) :
    DS X W [i] (mSetF i m) (.Assign [.Name x pos'] e pos) := by
  refine PS.to (ps_set hN hi hx he hs hf) fun De σ H ⟨G, F, env, fp, s, h⟩ => ?_
  refine ⟨G, F, env, fp, s, h.ofO.imp .refl fun r e p v F' H' fp' S sv fe => ?_⟩
  obtain ⟨s1, r1, f1⟩ := sv.share
  exact p _ _ H' _ (Agree.set σ i _) ((SV.of_rep s1 r1).put i) (fe.trans f1)
theorem ds_drop {e : Expr} {m : ME} {pos : Pos} (he : DE X W m e) (hs : swapsWith e none pos.line X.env = pure false := by rfl) : DS X W [] (mDrop m) (.Expr e pos) := by
  refine PS.to (ps_expr he hs) fun De σ H ⟨G, F, env, fp, s, h⟩ => ?_
  exact ⟨G, F, env, fp, s, h.ofO.imp .refl fun r e p v F' H' fp' S sv fe => p σ F' H' fp' (Agree.refl _ _) sv.ss fe⟩
theorem ds_ret {e : Expr} {m : ME} {pos : Pos} (he : DE X W m e) : DS X W [] (mRet m) (.Return (some e) pos) := by
  refine PS.to (ps_ret he) fun De σ H ⟨G, F, env, fp, s, h⟩ => ?_
  exact ⟨G, F, env, fp, s, h.ofO.imp .refl fun r e p v F' H' fp' S sv fe => p v σ F' H' fp' S (Agree.refl _ _) sv fe⟩
theorem ds_retN {pos : Pos} : DS X W [] mRetN (.Return none pos) := by
  refine PS.to ps_retN fun De σ H ⟨G, F, env, fp, s, h⟩ => ?_
  exact h .non σ F H fp _ (Agree.refl _ _) (SV.of_rep s .non) .refl
theorem ds_pass {pos : Pos} : DS X W [] mSkip (.Pass pos) := PS.to ps_pass fun De σ H ⟨G, F, env, fp, s, h⟩ => h σ F H fp (Agree.refl _ _) s .refl
def mBrk : MS := fun env => .brk env
def mCnt : MS := fun env => .cont env
theorem ds_brk {pos : Pos} : DS X W [] mBrk (.Break pos) := PS.to ps_break fun De σ H ⟨G, F, env, fp, s, h⟩ => h σ F H fp (Agree.refl _ _) s .refl
theorem ds_cnt {pos : Pos} : DS X W [] mCnt (.Continue pos) := PS.to ps_continue fun De σ H ⟨G, F, env, fp, s, h⟩ => h σ F H fp (Agree.refl _ _) s .refl
theorem ds_if {c : Expr} {a b : List Stmt} {mc : MT} {m1 m2 : MS} {pos : Pos} (hc : DT X W mc c) (ha : DSs X W A1 m1 a) (hb : DSs X W A2 m2 b) : DS X W (A1 ++ A2) (mIf mc m1 m2) (.If c a b pos) := by
  refine PS.to (ps_if hc ha hb) fun De σ H ⟨G, F, env, fp, s, h⟩ => ?_
  refine tT.of s h.ofO fun k e1 F1 H1 fp1 p1 s1 fe1 => ?_
  cases k with
  | true => exact ⟨G, F1, e1, fp1, s1, RGS.same (o := m1 e1) p1 fe1 fun σ' a => a.mono fun i hi => List.mem_append_left _ hi⟩
  | false => exact ⟨G, F1, e1, fp1, s1, RGS.same (o := m2 e1) p1 fe1 fun σ' a => a.mono fun i hi => List.mem_append_right _ hi⟩

/-! ### targets -/
abbrev DTg := D → DEnv → Option DEnv
def DG (X : Cx) (A : List Nat) (g : DTg) (tg : Expr) : Prop := ∃ t : TG, PG X tg t ∧ ∀ (G F H : Hp) (σ : L2.St) (env : DEnv) (fp : Fp) (d : D) (v : V) (e' : DEnv), SS X.K G F H σ env fp → Rep X.K F d v → g d env = some e' →
  ∀ Q : L2.St → Hp → Prop, (∀ σ' fp', Agree A σ σ' → SS X.K G F H σ' e' fp' → Q σ' H) → t v σ H Q
def gN (i : Nat) : DTg := fun d e => some (e.set i (some (0, d)))
theorem dg_name {i : Nat} {x : Str} {pos : Pos} (hN : X.N.Nodup) (hi : X.N[i]? = some x) (hx : Loc X.env.scope x) (hf : X.fn x = true ∨ X.env.scope.names.lookup x = some .local := by first | exact .inl rfl | exact .inr rfl | assumption) : DG X [i] (gN i) (.Name x pos) := by
  refine ⟨gName i, pg_name hN hi hx hf, fun G F H σ env fp d v e' s r h Q q => ?_⟩
  cases h
  exact q _ _ (Agree.set σ i _) ((SV.of_rep s r).put i)
def setAll : List Nat → List D → DEnv → Option DEnv
  | [], [], e => some e
  | i :: is, d :: ds, e => setAll is ds (e.set i (some (0, d)))
  | _, _, _ => none
def gT (is : List Nat) : DTg := fun d e => match d with
  | .tup ds => setAll is ds e
  | _ => none
def gL (is : List Nat) : DTg := fun d e => match d with
  | .lst ds => setAll is ds e
  | _ => none
def DGs (X : Cx) (is : List Nat) (tgs : List Expr) : Prop := ∃ t : TGs, PGs X tgs t ∧ ∀ (G F H : Hp) (σ : L2.St) (env : DEnv) (fp : Fp) (ds : List D) (vs : List V) (e' : DEnv), SS X.K G F H σ env fp → Reps X.K F ds vs → setAll is ds env = some e' →
  ∀ Q : L2.St → Hp → Prop, (∀ σ' fp', Agree is σ σ' → SS X.K G F H σ' e' fp' → Q σ' H) → t vs σ H Q
theorem dgs_nil : DGs X [] [] := ⟨gNil, pgs_nil, fun G F H σ env fp ds vs e' s r h Q q => by
  cases r with
  | nil => cases h; exact ⟨rfl, q σ fp (Agree.refl _ _) s⟩
  | cons _ _ => cases h⟩
theorem dgs_cons {i : Nat} {is : List Nat} {x : Str} {pos : Pos} {tgs : List Expr} (hN : X.N.Nodup) (hi : X.N[i]? = some x) (hx : Loc X.env.scope x) (ht : DGs X is tgs) (hf : X.fn x = true ∨ X.env.scope.names.lookup x = some .local := by first | exact .inl rfl | exact .inr rfl | assumption) : DGs X (i :: is) (.Name x pos :: tgs) := by
  obtain ⟨t, h1, h2⟩ := ht
  refine ⟨gCons (gName i) t, pgs_cons (pg_name hN hi hx hf) h1, fun G F H σ env fp ds vs e' s r h Q q => ?_⟩
  cases r with
  | nil => cases h
  | cons r1 rs =>
    refine ⟨_, _, rfl, ?_⟩
    refine h2 G F H _ _ _ _ _ e' ((SV.of_rep s r1).put i) rs h Q fun σ' fp' a s' => q σ' fp' ?_ s'
    exact (Agree.set σ i _).trans a (fun j hj => by rw [List.mem_singleton.mp hj]; exact List.mem_cons_self) fun j hj => List.mem_cons_of_mem _ hj
theorem setAll_len : ∀ (is : List Nat) (ds : List D) (e e' : DEnv), setAll is ds e = some e' → ds.length = is.length
  | [], [], _, _, _ => rfl
  | i :: is, d :: ds, e, e', h => by
    have h' : setAll is ds (e.set i (some (0, d))) = some e' := h
    rw [List.length_cons, List.length_cons, setAll_len is ds _ e' h']
  | [], _ :: _, _, _, h => nomatch h
  | _ :: _, [], _, _, h => nomatch h
theorem dg_tup {is : List Nat} {tgs : List Expr} {pos : Pos} {k : Nat} (hc : X.calm = true) (h : DGs X is tgs) (hl : (assignEach tgs X.env).length = is.length := by rfl) (hst : ((assignEach tgs X.env).findIdx? (·.1)) = none := by rfl) : DG X is (gT is) (.Tuple tgs k pos) := by
  obtain ⟨t, h1, h2⟩ := h
  refine ⟨gTup X.K is.length t, pg_tup hc h1 hl hst, fun G F H σ env fp d v e' s r h Q q => ?_⟩
  unfold gT at h
  cases d <;> first | cases h | skip
  obtain ⟨a, vs, rfl, hs, hr⟩ := Rep.tup_inv r
  exact ⟨a, vs, rfl, SqT.mono s.sf hs, by rw [← hr.length]; exact setAll_len _ _ _ _ h, h2 G F H σ env fp _ _ e' s hr h Q q⟩
end
end DL

set_option autoImplicit false
set_option Elab.async false
set_option linter.all false
set_option maxRecDepth 100000
/-! DL: loops. -/
namespace DL
open PySem PySem.Spec PyProof.Rows L2

/-- what an iterator yields, as trees -/
structure WkD (K : PySem.W.Frag) (J : It) (F : Hp) (ds : List D) : Prop where
  go : ∀ i H F2, Same F F2 → Same F2 H → i < ds.length → J.go i H
  stop : ∀ H F2, Same F F2 → Same F2 H → J.stop ds.length H
  yld : ∀ i H x H' F2, Same F F2 → Same F2 H → i < ds.length → J.yld i H x H' → ∃ d F3, ds[i]? = some d ∧ NewV K F2 H F3 H' 0 d x (fun _ => False)
abbrev MI := DEnv → Out (List D)
def tI (K : PySem.W.Frag) (mg : Str → Option Value) (W : WX) (m : MI) : TI := fun σ H R => ∃ G F env fp, SS K G F H σ env fp ∧
  RG K mg W G F σ (fun ds e => ∀ J F' H' fp', SS K G F' H' σ e fp' → FrExt G F F' → WkD K J F' ds → R J H') (m env)
def DI (X : Cx) (W : WX) (m : MI) (tg iter : Expr) : Prop := PI X tg iter (tI X.K X.mg W m)
theorem PI.to {X : Cx} {tg e : Expr} {t t' : TI} (h : PI X tg e t) (i : ∀ σ H Q, t' σ H Q → t σ H Q) : PI X tg e t' := ⟨fun pins s σ H R I q => h.run pins s σ H R I (i σ H R q)⟩

theorem wk_list {K : PySem.W.Frag} {F : Hp} {a : Addr} {vs : List V} {ds : List D} (h : SqL K F a vs) (r : Reps K F ds vs) : WkD K (Itl K a) F ds where
  go := fun i H F2 e1 e2 hi => by
    have hi' : i < vs.length := by rw [← r.length]; exact hi
    exact ⟨vs, vs[i], (e1.trans e2).seq h, List.getElem?_eq_getElem hi'⟩
  stop := fun H F2 e1 e2 => ⟨vs, (e1.trans e2).seq h, by rw [r.length]; exact Nat.le_refl _⟩
  yld := fun i H x H' F2 e1 e2 hi ⟨e, y⟩ => by
    subst e
    obtain ⟨d, hd, rd⟩ := r.getV (y vs ((e1.trans e2).seq h))
    exact ⟨d, F2, hd, NewV.of_rep e2 (rd.mono e1)⟩
theorem wk_tup {K : PySem.W.Frag} {F : Hp} {a : Addr} {vs : List V} {ds : List D} (h : SqT K F a vs) (r : Reps K F ds vs) : WkD K (Itt K a) F ds where
  go := fun i H F2 e1 e2 hi => by
    have hi' : i < vs.length := by rw [← r.length]; exact hi
    exact ⟨vs, vs[i], SqT.mono (e1.trans e2) h, List.getElem?_eq_getElem hi'⟩
  stop := fun H F2 e1 e2 => ⟨vs, SqT.mono (e1.trans e2) h, by rw [r.length]; exact Nat.le_refl _⟩
  yld := fun i H x H' F2 e1 e2 hi ⟨e, y⟩ => by
    subst e
    obtain ⟨d, hd, rd⟩ := r.getV (y vs (SqT.mono (e1.trans e2) h))
    exact ⟨d, F2, hd, NewV.of_rep e2 (rd.mono e1)⟩
def rangeD (lo : Int) (n : Nat) : List D := (List.range n).map fun (k : Nat) => D.int (lo + k)
theorem wk_range {K : PySem.W.Frag} {F : Hp} (lo : Int) (n : Nat) : WkD K (Itr lo n) F (rangeD lo n) where
  go := fun i H F2 e1 e2 hi => by show i < n; simpa [rangeD] using hi
  stop := fun H F2 e1 e2 => by show n ≤ _; simp [rangeD]
  yld := fun i H x H' F2 e1 e2 hi ⟨e, y⟩ => by
    subst e y
    have hi' : i < n := by simpa [rangeD] using hi
    exact ⟨.int (lo + i), F2, by simp [rangeD, hi'], NewV.of_rep e2 (.int _)⟩

section
variable {X : Cx} {W : WX} {A A1 A2 : List Nat}
/-- a list or a tuple is walked -/
def iSeqI (K : PySem.W.Frag) (tl : TE) : TI := fun σ H R => tl σ H fun x H1 => ∃ a, x = .ref a ∧ ((∃ xs, SqL K H1 a xs ∧ R (Itl K a) H1) ∨ ∃ xs, SqT K H1 a xs ∧ R (Itt K a) H1)
theorem pi_seqI {tg l : Expr} {tl : TE} (hl : PE X l tl) : PI X tg l (iSeqI X.K tl) := by
  refine ⟨fun pins s σ H R I h => ?_⟩
  refine thn (hl.run pins s σ H _ I h) fun v s1 ⟨x, H1, I1, r1, q1⟩ => ?_
  obtain ⟨a, e, q⟩ := q1
  subst e
  cases r1
  rcases q with ⟨xs, hq, q⟩ | ⟨xs, hq, q⟩
  · obtain ⟨its, rv, p, hz⟩ := I1.list hq
    refine wpAny_pyIter_list p.isList ?_
    refine ⟨s1.heap.objs.size, [s1.heap.objs.size], _, _, H1, rfl, I1.kept (t' := s1.toks) fun b o e => Heap.get?_push_of_some _ e, turn_list a _, ⟨_, Heap.get?_push_size _ rfl, rfl, rfl⟩, fun b hb => ?_, q⟩
    have e : b = s1.heap.objs.size := by simpa using hb
    subst e
    exact I1.fpOk (Nat.le_refl _) (I1.hok.fresh (Nat.le_refl _))
  · obtain ⟨its, rv, p, hz⟩ := I1.tuple hq
    refine wpAny_pyIter_tuple (show s1.heap.IsTuple a its.toArray from p) ?_
    refine ⟨s1.heap.objs.size, [s1.heap.objs.size], _, _, H1, rfl, I1.kept (t' := s1.toks) fun b o e => Heap.get?_push_of_some _ e, turn_tuple a _, ⟨_, Heap.get?_push_size _ rfl, rfl, rfl⟩, fun b hb => ?_, q⟩
    have e : b = s1.heap.objs.size := by simpa using hb
    subst e
    exact I1.fpOk (Nat.le_refl _) (I1.hok.fresh (Nat.le_refl _))
def mItems (m : ME) : MI := fun env => (m env).bind fun r e => match r.2 with
  | .lst ds => .ok ds e
  | .tup ds => .ok ds e
  | .scr ds => .ok ds e
  | _ => .stuck
theorem di_seq {tg l : Expr} {m : ME} (h : DE X W m l) : DI X W (mItems m) tg l := by
  refine PI.to (pi_seqI h) fun σ H R ⟨G, F, env, fp, s, h⟩ => ?_
  refine tE.of s h.bind fun r1 e1 F1 H1 fp1 v1 p1 s1 rep1 fe1 => ?_
  obtain ⟨n, d⟩ := r1
  cases d <;> first | exact p1.elim | skip
  · obtain ⟨a, vs, rfl, hs, hr⟩ := Rep.lst_inv rep1
    exact ⟨a, rfl, .inl ⟨vs, s1.sf.seq hs, p1 _ F1 H1 fp1 s1 fe1 (wk_list hs hr)⟩⟩
  · obtain ⟨a, vs, rfl, hs, hr⟩ := Rep.tup_inv rep1
    exact ⟨a, rfl, .inr ⟨vs, SqT.mono s1.sf hs, p1 _ F1 H1 fp1 s1 fe1 (wk_tup hs hr)⟩⟩
  · obtain ⟨a, vs, rfl, hs, hr⟩ := Rep.scr_inv rep1
    exact ⟨a, rfl, .inl ⟨vs, s1.sf.seq hs, p1 _ F1 H1 fp1 s1 fe1 (wk_list hs hr)⟩⟩
def rng1 : List D → Option (List D)
  | [.int j] => if -(2 ^ 62) ≤ j ∧ j < 2 ^ 62 then some (rangeD 0 j.toNat) else none
  | _ => none
def rng2 : List D → Option (List D)
  | [.int i, .int j] => if -(2 ^ 62) ≤ i ∧ i < 2 ^ 62 ∧ -(2 ^ 62) ≤ j ∧ j < 2 ^ 62 then some (rangeD i (j - i).toNat) else none
  | _ => none
def mRng (f : List D → Option (List D)) (ms : MA) : MI := fun env => (ms env).bind fun ds e => oB (f ds) e
theorem di_range1 {tg a : Expr} {ms : MA} {p pos : Pos} (hg : Gl X "range") (hm : X.mg "range" = none) (ha : DA X W ms [a]) (hs : starEach [a] X.env = [(false, eval a X.env)] := by rfl) : DI X W (mRng rng1 ms) tg (.Call (.Name "range" p) [a] [] pos) := by
  refine PI.to (pi_range1 hg hm ha hs) fun σ H R ⟨G, F, env, fp, s, h⟩ => ?_
  refine tA.of s h.bind fun ds e1 F1 H1 fp1 vs p1 s1 rep1 fe1 => ?_
  obtain ⟨l, hl, p⟩ := p1.ofO
  unfold rng1 at hl
  split at hl
  · rename_i j
    split at hl
    · rename_i hj
      cases hl
      cases rep1 with
      | cons r1 rs =>
        cases rs
        cases Rep.int_inv r1
        exact ⟨j, rfl, hj.1, hj.2, p _ F1 H1 fp1 s1 fe1 (wk_range 0 _)⟩
    · cases hl
  · cases hl
theorem di_range2 {tg a b : Expr} {ms : MA} {p pos : Pos} (hg : Gl X "range") (hm : X.mg "range" = none) (ha : DA X W ms [a, b]) (hs : starEach [a, b] X.env = [(false, eval a X.env), (false, eval b X.env)] := by rfl) (hs2 : starEach [b] X.env = [(false, eval b X.env)] := by rfl) : DI X W (mRng rng2 ms) tg (.Call (.Name "range" p) [a, b] [] pos) := by
  refine PI.to (pi_range2 hg hm ha hs hs2) fun σ H R ⟨G, F, env, fp, s, h⟩ => ?_
  refine tA.of s h.bind fun ds e1 F1 H1 fp1 vs p1 s1 rep1 fe1 => ?_
  obtain ⟨l, hl, p⟩ := p1.ofO
  unfold rng2 at hl
  split at hl
  · rename_i i j
    split at hl
    · rename_i hj
      cases hl
      cases rep1 with
      | cons r1 rs =>
        cases rs with
        | cons r2 rs =>
          cases rs
          cases Rep.int_inv r1
          cases Rep.int_inv r2
          exact ⟨i, j, rfl, hj, p _ F1 H1 fp1 s1 fe1 (wk_range i _)⟩
    · cases hl
  · cases hl

/-! ### for -/
def wipeD : List Nat → DEnv → DEnv
  | [], e => e
  | j :: js, e => (wipeD js e).set j none
theorem SS.wipe {K : PySem.W.Frag} {G F H : Hp} {σ : L2.St} : ∀ (js : List Nat) {env : DEnv} {fp : Fp}, SS K G F H σ env fp → ∃ fp', SS K G F H σ (wipeD js env) fp'
  | [], _, _, s => ⟨_, s⟩
  | j :: js, _, _, s => let ⟨fp, s'⟩ := SS.wipe js s; ⟨_, s'.drop j⟩
def mForL (g : DTg) (js : List Nat) (b : MS) : List D → MS
  | [], env => .nx env
  | d :: ds, env => match g d env with
    | none => .stuck
    | some e1 => match b e1 with
      | .nx e2 => mForL g js b ds (wipeD js e2)
      | .cont e2 => mForL g js b ds (wipeD js e2)
      | .brk e2 => .nx (wipeD js e2)
      | o => o
def mFor (js : List Nat) (g : DTg) (mi : MI) (b : MS) : MS := fun env => (mi env).bindS fun ds e => mForL g js b ds e
theorem ds_for {tg iter : Expr} {body : List Stmt} {mi : MI} {g : DTg} {b : MS} {pos : Pos} (js : List Nat) (hp : PassesOwn (model X.prog X.w) X.A X.env X.xe) (hc : X.calm = true) (hi : DI X W mi tg iter) (hg : DG X A1 g tg) (hb : DSs X W A2 b body) (hfs : ∀ x, foldedSetIterable iter X.env x = pure x := by intro _; rfl) :
    DS X W (A1 ++ A2) (mFor js g mi b) (.For tg iter body [] pos) := by
  obtain ⟨t, ht, hgq⟩ := hg
  refine PS.to (ps_for hp hc hi ht hb hfs) fun De σ0 H ⟨G, F, env, fp, s, h⟩ => ?_
  refine ⟨G, F, env, fp, s, h.ofO.imp .refl fun ds e p J F' H' fp' s' fe wk => ?_⟩
  have l1 : ∀ i ∈ A1, i ∈ A1 ++ A2 := fun i hi => List.mem_append_left _ hi
  have l2 : ∀ i ∈ A2, i ∈ A1 ++ A2 := fun i hi => List.mem_append_right _ hi
  refine ⟨fun i m σ H => m = ds.length - i ∧ i ≤ ds.length ∧ ∃ F1 e1 fp1, SS X.K G F1 H σ e1 fp1 ∧ FrExt G F F1 ∧ Same F' F1 ∧ Agree (A1 ++ A2) σ0 σ ∧ RGS X.K X.mg W G F (A1 ++ A2) σ0 De (mForL g js b (ds.drop i) e1),
    ⟨ds.length, by simp, Nat.zero_le _, F', e, fp', s', fe, Same.refl _, Agree.refl _ _, by simpa using p⟩, ?_⟩
  rintro i m σ H ⟨rfl, hi, F1, e1, fp1, s1, fe1, sf1, ag, q⟩
  by_cases hlt : i < ds.length
  · refine .inr ⟨wk.go i H F1 sf1 s1.sf hlt, fun σ' H' => i + 1 ≤ ds.length ∧ ∃ F1 e1 fp1, SS X.K G F1 H' σ' e1 fp1 ∧ FrExt G F F1 ∧ Same F' F1 ∧ Agree (A1 ++ A2) σ0 σ' ∧ RGS X.K X.mg W G F (A1 ++ A2) σ0 De (mForL g js b (ds.drop (i + 1)) e1),
      fun σ' H' p' => ⟨ds.length - (i + 1), by omega, rfl, p'⟩, fun x H' y => ?_⟩
    obtain ⟨d, F3, hd, nv⟩ := wk.yld i H x H' F1 sf1 s1.sf hlt y
    rw [List.drop_eq_getElem_cons hlt] at q
    have ed : ds[i] = d := by rw [List.getElem?_eq_getElem hlt] at hd; exact Option.some.inj hd
    rw [ed] at q
    unfold mForL at q
    obtain ⟨sv, f3⟩ := s1.new nv
    cases eg : g d e1 with
    | none => rw [eg] at q; exact q.elim
    | some e2 =>
      rw [eg] at q
      refine hgq G F3 H' σ e1 fp1 d x e2 sv.ss sv.val eg _ fun σ2 fp2 a2 s2 => ?_
      have f03 := fe1.trans f3
      have sf3 := sf1.trans f3.same
      have ag2 : Agree (A1 ++ A2) σ0 σ2 := ag.trans a2 (fun _ z => z) l1
      refine ⟨G, F3, e2, fp2, s2, ?_⟩
      dsimp only at q
      cases eb : b e2 with
      | stuck => rw [eb] at q; exact q.elim
      | nx e3 =>
        rw [eb] at q
        intro σ' F'' H'' fp'' a s'' fe''
        obtain ⟨fpw, sw⟩ := s''.wipe js
        exact ⟨hlt, F'', _, fpw, sw, f03.trans fe'', sf3.trans fe''.same, ag2.trans a (fun _ z => z) l2, q⟩
      | cont e3 =>
        rw [eb] at q
        intro σ' F'' H'' fp'' a s'' fe''
        obtain ⟨fpw, sw⟩ := s''.wipe js
        exact ⟨hlt, F'', _, fpw, sw, f03.trans fe'', sf3.trans fe''.same, ag2.trans a (fun _ z => z) l2, q⟩
      | brk e3 =>
        rw [eb] at q
        intro σ' F'' H'' fp'' a s'' fe''
        obtain ⟨fpw, sw⟩ := s''.wipe js
        exact q σ' F'' H'' fpw (ag2.trans a (fun _ z => z) l2) sw (f03.trans fe'')
      | ret n d e3 =>
        rw [eb] at q
        exact fun v σ' F'' H'' fp'' S a sv fe'' => q v σ' F'' H'' fp'' S (ag2.trans a (fun _ z => z) l2) sv (f03.trans fe'')
      | exc x e3 =>
        rw [eb] at q
        exact fun c dd σ' F'' H'' fp'' a s'' fe'' r => q c dd σ' F'' H'' fp'' (ag2.trans a (fun _ z => z) l2) s'' (f03.trans fe'') r
  · have e : i = ds.length := by omega
    subst e
    refine .inl ⟨wk.stop H F1 sf1 s1.sf, ?_⟩
    rw [List.drop_length] at q
    exact q σ F1 H fp1 ag s1 fe1

/-! ### while -/
def mWhileN (c : MT) (js : List Nat) (b : MS) : Nat → MS
  | 0, _ => .stuck
  | n + 1, env => (c env).bindS fun k e => if k = true then (match b e with
      | .nx e2 => mWhileN c js b n (wipeD js e2)
      | .cont e2 => mWhileN c js b n (wipeD js e2)
      | .brk e2 => .nx (wipeD js e2)
      | o => o) else .nx e
@[irreducible] def FUEL : Nat := 1000000
def mWhile (js : List Nat) (c : MT) (b : MS) : MS := fun env => mWhileN c js b FUEL env
theorem ds_while {c : Expr} {body : List Stmt} {mc : MT} {b : MS} {pos : Pos} (js : List Nat) (hp : PassesOwn (model X.prog X.w) X.A X.env X.xe) (hc : DT X W mc c) (hb : DSs X W A b body) : DS X W A (mWhile js mc b) (.While c body [] pos) := by
  refine PS.to (ps_while hp hc hb) fun De σ0 H ⟨G, F, env, fp, s, h⟩ => ?_
  refine ⟨fun m σ H => ∃ F1 e1 fp1, SS X.K G F1 H σ e1 fp1 ∧ FrExt G F F1 ∧ Agree A σ0 σ ∧ RGS X.K X.mg W G F A σ0 De (mWhileN mc js b m e1), ⟨FUEL, F, env, fp, s, .refl, Agree.refl _ _, h⟩, ?_⟩
  rintro m σ H ⟨F1, e1, fp1, s1, fe1, ag, q⟩
  cases m with
  | zero => exact q.elim
  | succ m =>
    unfold mWhileN at q
    have q' : RG X.K X.mg W G F1 σ _ (mc e1) := RG.imp (F := F) (P' := fun k e => RGS X.K X.mg W G F A σ0 De (if k = true then (match b e with
      | .nx e2 => mWhileN mc js b m (wipeD js e2)
      | .cont e2 => mWhileN mc js b m (wipeD js e2)
      | .brk e2 => .nx (wipeD js e2)
      | o => o) else .nx e)) (by
        cases em : mc e1 with
        | ok k e => rw [em] at q; exact q
        | exc x e => rw [em] at q; exact fun c dd F' H' fp' s f r => q c dd σ F' H' fp' ag s f r
        | stuck => rw [em] at q; exact q) fe1 (fun _ _ z => z)
    refine tT.of s1 q' fun k e2 F2 H2 fp2 p2 s2 fe2 => ?_
    have f02 := fe1.trans fe2
    cases k with
    | false => exact p2 σ F2 H2 fp2 ag s2 f02
    | true =>
      refine ⟨fun σ' H' => ∃ F1 e1 fp1, SS X.K G F1 H' σ' e1 fp1 ∧ FrExt G F F1 ∧ Agree A σ0 σ' ∧ RGS X.K X.mg W G F A σ0 De (mWhileN mc js b m e1), fun σ' H' p' => ⟨m, Nat.lt_succ_self _, p'⟩, G, F2, e2, fp2, s2, ?_⟩
      simp only [if_true] at p2
      cases eb : b e2 with
      | stuck => rw [eb] at p2; exact p2.elim
      | nx e3 =>
        rw [eb] at p2
        intro σ' F'' H'' fp'' a s'' fe''
        obtain ⟨fpw, sw⟩ := s''.wipe js
        exact ⟨F'', _, fpw, sw, f02.trans fe'', ag.trans a (fun _ z => z) fun _ z => z, p2⟩
      | cont e3 =>
        rw [eb] at p2
        intro σ' F'' H'' fp'' a s'' fe''
        obtain ⟨fpw, sw⟩ := s''.wipe js
        exact ⟨F'', _, fpw, sw, f02.trans fe'', ag.trans a (fun _ z => z) fun _ z => z, p2⟩
      | brk e3 =>
        rw [eb] at p2
        intro σ' F'' H'' fp'' a s'' fe''
        obtain ⟨fpw, sw⟩ := s''.wipe js
        exact p2 σ' F'' H'' fpw (ag.trans a (fun _ z => z) fun _ z => z) sw (f02.trans fe'')
      | ret n d e3 =>
        rw [eb] at p2
        exact fun v σ' F'' H'' fp'' S a sv fe'' => p2 v σ' F'' H'' fp'' S (ag.trans a (fun _ z => z) fun _ z => z) sv (f02.trans fe'')
      | exc x e3 =>
        rw [eb] at p2
        exact fun c dd σ' F'' H'' fp'' a s'' fe'' r => p2 c dd σ' F'' H'' fp'' (ag.trans a (fun _ z => z) fun _ z => z) s'' (f02.trans fe'') r
end
end DL

set_option autoImplicit false
set_option Elab.async false
set_option linter.all false
set_option maxRecDepth 100000
/-! DL: sharing for a while, sharing for good; calls of the program's own defs; comprehensions; stores. -/
namespace DL
open PySem PySem.Spec PyProof.Rows L2

/-! ### shared for good -/
def frz1 (i : Nat) (env : DEnv) : DEnv := match env[i]? with
  | some (some (_, d)) => env.set i (some (0, d))
  | _ => env
def frzE : List Nat → DEnv → DEnv
  | [], e => e
  | i :: is, e => frzE is (frz1 i e)
section
variable {K : PySem.W.Frag} {mg : Str → Option Value} {W : WX} {G F H : Hp} {σ : L2.St} {env : DEnv} {fp : Fp}
theorem SS.frz1 (i : Nat) (s : SS K G F H σ env fp) : ∃ F' fp', SS K G F' H σ (frz1 i env) fp' ∧ FrExt G F F' := by
  unfold DL.frz1
  split
  · rename_i n d he
    obtain ⟨v, hv, r⟩ := s.slot i n d he
    have s0 := s.drop i
    have sv : SV K G F H σ (env.set i none) (fun j a => j ≠ i ∧ fp j a) n d v (fp i) := ⟨s0, r, s.ld i, s.nf i, s.ng i, fun j a p z => s.dis i j a (fun e => z.1 e.symm) p z.2⟩
    obtain ⟨s1, r1, f1⟩ := sv.share
    have s2 := (SV.of_rep s1 r1).put i
    rw [List.set_set] at s2
    have hσ : σ.set i (some v) = σ := by
      apply List.ext_getElem?
      intro j
      by_cases h : i = j
      · subst h; rw [List.getElem?_set_self (List.getElem?_eq_some_iff.mp hv).1, hv]
      · rw [List.getElem?_set_ne h]
    rw [hσ] at s2
    exact ⟨_, _, s2, f1⟩
  · exact ⟨F, fp, s, .refl⟩
theorem SS.frz : ∀ (is : List Nat) {F : Hp} {env : DEnv} {fp : Fp}, SS K G F H σ env fp → ∃ F' fp', SS K G F' H σ (frzE is env) fp' ∧ FrExt G F F'
  | [], F, _, fp, s => ⟨F, fp, s, .refl⟩
  | i :: is, F, env, fp, s => by
    obtain ⟨F1, fp1, s1, f1⟩ := s.frz1 i
    obtain ⟨F2, fp2, s2, f2⟩ := SS.frz is s1
    exact ⟨F2, fp2, s2, f1.trans f2⟩
end
section
variable {X : Cx} {W : WX} {A : List Nat}
def mFrzS (is : List Nat) (m : MS) : MS := fun env => m (frzE is env)
def mFrz (is : List Nat) (m : ME) : ME := fun env => m (frzE is env)
theorem ds_frz {st : Stmt} {m : MS} (is : List Nat) (h : DS X W A m st) : DS X W A (mFrzS is m) st := by
  refine PS.to h fun De σ H ⟨G, F, env, fp, s, q⟩ => ?_
  obtain ⟨F1, fp1, s1, f1⟩ := s.frz is
  exact ⟨G, F1, _, fp1, s1, RGS.same q f1 fun _ a => a⟩
theorem de_frz {e : Expr} {m : ME} (is : List Nat) (h : DE X W m e) : DE X W (mFrz is m) e := by
  refine PE.to h fun σ H Q ⟨G, F, env, fp, s, q⟩ => ?_
  obtain ⟨F1, fp1, s1, f1⟩ := s.frz is
  exact ⟨G, F1, _, fp1, s1, RG.imp q f1 fun r e p v F' H' fp' S sv fe => p v F' H' fp' S sv (f1.trans fe)⟩
end

/-! ### shared for a while -/
def tmp1 (Z L : List Nat) (i : Nat) (x : Option (Nat × D)) : Option (Nat × D) :=
  if Z.contains i = true then x.map (fun p => (0, p.2)) else if L.contains i = true then x else match x with
    | some (0, d) => some (0, d)
    | _ => none
def tmpE (Z L : List Nat) : Nat → DEnv → DEnv
  | _, [] => []
  | i, x :: e => tmp1 Z L i x :: tmpE Z L (i + 1) e
def back1 (Z L : List Nat) (i : Nat) (x y : Option (Nat × D)) : Option (Nat × D) :=
  if Z.contains i = true then x else if L.contains i = true then y else x
def backE (Z L : List Nat) : Nat → DEnv → DEnv → DEnv
  | i, x :: e, y :: e2 => back1 Z L i x y :: backE Z L (i + 1) e e2
  | _, _, _ => []
def okL1 (Z L : List Nat) (i : Nat) (y : Option (Nat × D)) : Bool :=
  if Z.contains i = true then true else if L.contains i = true then (match y with
    | some (n, d) => closedM n d
    | none => true) else true
def okL (Z L : List Nat) : Nat → DEnv → Bool
  | _, [] => true
  | i, y :: e => okL1 Z L i y && okL Z L (i + 1) e
theorem tmpE_get (Z L : List Nat) : ∀ (k : Nat) (env : DEnv) (i : Nat), (tmpE Z L k env)[i]? = (env[i]?).map (tmp1 Z L (k + i))
  | _, [], i => by simp [tmpE]
  | k, x :: e, 0 => by simp [tmpE]
  | k, x :: e, i + 1 => by
    have := tmpE_get Z L (k + 1) e i
    rw [show k + 1 + i = k + (i + 1) by omega] at this
    simpa [tmpE] using this
theorem tmpE_length (Z L : List Nat) : ∀ (k : Nat) (env : DEnv), (tmpE Z L k env).length = env.length
  | _, [] => rfl
  | k, x :: e => by simp [tmpE, tmpE_length Z L (k + 1) e]
theorem backE_get (Z L : List Nat) : ∀ (k : Nat) (e e2 : DEnv) (i : Nat) (x : Option (Nat × D)), (backE Z L k e e2)[i]? = some x → ∃ a b, e[i]? = some a ∧ e2[i]? = some b ∧ x = back1 Z L (k + i) a b
  | _, [], _, i, x, h => by simp [backE] at h
  | _, _ :: _, [], i, x, h => by simp [backE] at h
  | k, a :: e, b :: e2, 0, x, h => by
    simp only [backE, List.getElem?_cons_zero, Option.some.injEq] at h
    exact ⟨a, b, rfl, rfl, h.symm⟩
  | k, a :: e, b :: e2, i + 1, x, h => by
    simp only [backE, List.getElem?_cons_succ] at h
    obtain ⟨a', b', h1, h2, h3⟩ := backE_get Z L (k + 1) e e2 i x h
    rw [show k + 1 + i = k + (i + 1) by omega] at h3
    exact ⟨a', b', by simpa using h1, by simpa using h2, h3⟩
theorem backE_length (Z L : List Nat) : ∀ (k : Nat) (e e2 : DEnv), e.length = e2.length → (backE Z L k e e2).length = e.length
  | _, [], _, _ => by simp [backE]
  | _, _ :: _, [], h => by simp at h
  | k, a :: e, b :: e2, h => by simp [backE, backE_length Z L (k + 1) e e2 (by simpa using h)]
theorem okL_get (Z L : List Nat) : ∀ (k : Nat) (e : DEnv) (i : Nat) (y : Option (Nat × D)), okL Z L k e = true → e[i]? = some y → okL1 Z L (k + i) y = true
  | _, [], i, y, _, h => by simp at h
  | k, a :: e, 0, y, o, h => by
    simp only [okL, Bool.and_eq_true] at o
    simp only [List.getElem?_cons_zero, Option.some.injEq] at h
    subst h; exact o.1
  | k, a :: e, i + 1, y, o, h => by
    simp only [okL, Bool.and_eq_true] at o
    have := okL_get Z L (k + 1) e i y o.2 (by simpa using h)
    rw [show k + 1 + i = k + (i + 1) by omega] at this
    exact this

section
variable {K : PySem.W.Frag} {mg : Str → Option Value} {W : WX} {G F H : Hp} {σ : L2.St} {env : DEnv} {fp : Fp}
open Classical in
/-- what is shared for a while; what stands aside -/
noncomputable def tmpG (G H : Hp) (fp : Fp) (Z L : List Nat) : Hp := fun a => match G a with
  | some o => some o
  | none => if (∃ i, Z.contains i = false ∧ L.contains i = false ∧ fp i a) then H a else none
def tmpT (fp : Fp) (Z : List Nat) : Addr → Prop := fun a => ∃ i, Z.contains i = true ∧ fp i a
theorem tmpG_of {Z L : List Nat} {a : Addr} {o : HO} (h : G a = some o) : tmpG G H fp Z L a = some o := by unfold tmpG; rw [h]
theorem tmpG_hid {Z L : List Nat} {a : Addr} (hg : G a = none) {i : Nat} (h1 : Z.contains i = false) (h2 : L.contains i = false) (h3 : fp i a) : tmpG G H fp Z L a = H a := by
  unfold tmpG; rw [hg]; exact if_pos ⟨i, h1, h2, h3⟩
theorem tmpG_none {Z L : List Nat} {a : Addr} (hg : G a = none) (h : ∀ i, Z.contains i = false → L.contains i = false → fp i a → False) : tmpG G H fp Z L a = none := by
  unfold tmpG; rw [hg]; exact if_neg fun ⟨i, h1, h2, h3⟩ => h i h1 h2 h3
theorem tmpG_le {Z L : List Nat} {a : Addr} (h : tmpG G H fp Z L a = none) : G a = none := by
  cases q : G a with
  | none => rfl
  | some o => rw [tmpG_of q] at h; cases h
open Classical in
noncomputable def lessT (F : Hp) (T : Addr → Prop) : Hp := fun a => if T a then none else F a
theorem SS.temp (s : SS K G F H σ env fp) (Z L : List Nat) : SS K (tmpG G H fp Z L) (addH F H (tmpT fp Z)) H σ (tmpE Z L 0 env) (fun i a => Z.contains i = false ∧ L.contains i = true ∧ fp i a) where
  len := by rw [tmpE_length]; exact s.len
  slot := fun i n d q => by
    rw [tmpE_get, Nat.zero_add] at q
    cases e : env[i]? with
    | none => rw [e] at q; cases q
    | some x =>
      rw [e, Option.map_some, Option.some.injEq] at q
      unfold tmp1 at q
      by_cases hZ : Z.contains i = true
      · rw [if_pos hZ] at q
        cases x with
        | none => cases q
        | some p =>
          obtain ⟨m, d'⟩ := p
          cases q
          obtain ⟨v, h1, h2⟩ := s.slot i m _ e
          exact ⟨v, h1, h2.share addH_same fun a o z w => addH_in s.sf ⟨i, hZ, z⟩ w⟩
      · rw [if_neg hZ] at q
        have hZ' : Z.contains i = false := by simpa using hZ
        by_cases hL : L.contains i = true
        · rw [if_pos hL] at q
          subst q
          obtain ⟨v, h1, h2⟩ := s.slot i n d e
          exact ⟨v, h1, h2.imp addH_same (fun a z => ⟨hZ', hL, z⟩) fun _ _ _ w => w⟩
        · rw [if_neg hL] at q
          split at q
          · cases q
            obtain ⟨v, h1, h2⟩ := s.slot i 0 _ e
            exact ⟨v, h1, Rep.mono addH_same h2⟩
          · cases q
  dis := fun i j a h p q => s.dis i j a h p.2.2 q.2.2
  ld := fun i a p => s.ld i a p.2.2
  nf := fun i a p => by
    rw [addH_out]
    · exact s.nf i a p.2.2
    · rintro ⟨j, hj, z⟩
      exact s.dis i j a (fun e => by subst e; rw [hj] at p; exact nomatch p.1) p.2.2 z
  ng := fun i a p => tmpG_none (s.ng i a p.2.2) fun j h1 h2 z => s.dis i j a (fun e => by subst e; rw [h2] at p; exact nomatch p.2.1) p.2.2 z
  sf := addH_sub s.sf
  sg := fun a o e => by
    unfold tmpG at e
    cases q : G a with
    | some u => rw [q] at e; exact s.sg _ _ (q.trans e)
    | none =>
      rw [q] at e
      simp only at e
      split at e
      · exact e
      · cases e
structure TmpBack (K : PySem.W.Frag) (G F H : Hp) (σ : L2.St) (env : DEnv) (fp : Fp) (Z L : List Nat) (F2 H2 : Hp) (e2 : DEnv) (fp2 : Fp) (F3 : Hp) (fp3 : Fp) : Prop where
  ss : SS K G F3 H2 σ (backE Z L 0 env e2) fp3
  fe : FrExt G F F3
  keeps : Keeps F2 F3
  nf : ∀ a, F2 a = none → F3 a = none
  ng : ∀ a, tmpG G H fp Z L a = none → G a = none
  out : ∀ a, F2 a = none → tmpG G H fp Z L a = none → (∀ i, ¬ fp2 i a) → ∀ i, ¬ fp3 i a
theorem SS.back (s : SS K G F H σ env fp) (Z L : List Nat) {F2 H2 : Hp} {e2 : DEnv} {fp2 : Fp} (s2 : SS K (tmpG G H fp Z L) F2 H2 σ e2 fp2) (fe : FrExt (tmpG G H fp Z L) (addH F H (tmpT fp Z)) F2) (ok : okL Z L 0 e2 = true) :
    ∃ F3 fp3, TmpBack K G F H σ env fp Z L F2 H2 e2 fp2 F3 fp3 := by
  have hT2 : ∀ a, tmpT fp Z a → LD (F2 a) ∧ F2 a = H a := fun a ⟨i, hi, z⟩ => by
    have l := s.ld i a z
    cases e : H a with
    | none => exact absurd e l.some
    | some o =>
      have := fe.same a o (addH_in s.sf ⟨i, hi, z⟩ e)
      rw [this, ← e]
      exact ⟨l, rfl⟩
  have sFF : Same F (lessT F2 (tmpT fp Z)) := fun a o e => by
    unfold lessT
    rw [if_neg (fun ⟨i, hi, z⟩ => by rw [s.nf i a z] at e; cases e)]
    exact fe.same a o (addH_same a o e)
  have keeps : Keeps F2 (lessT F2 (tmpT fp Z)) := fun a xs => by
    have nT : ∀ o, F2 a = some o → ¬ LD (some o) → ¬ tmpT fp Z a := fun o e nl t => nl (by rw [← e]; exact (hT2 a t).1)
    refine ⟨fun e => ?_, fun o e => ?_⟩
    · unfold lessT; rw [if_neg (nT _ e fun z => z)]; exact e
    · unfold lessT; rw [if_neg (nT _ e fun z => z)]; exact e
  have nf : ∀ a, F2 a = none → lessT F2 (tmpT fp Z) a = none := fun a e => by
    unfold lessT; split
    · rfl
    · exact e
  have stand : ∀ i, (Z.contains i = true ∨ L.contains i = false) → ∀ a o, fp i a → H a = some o → H2 a = some o := fun i hi a o z e => by
    by_cases hZ : Z.contains i = true
    · have := fe.same a o (addH_in s.sf ⟨i, hZ, z⟩ e)
      exact s2.sf _ _ this
    · rcases hi with hi | hi
      · exact absurd hi hZ
      · have hZ' : Z.contains i = false := by simpa using hZ
        exact s2.sg _ _ ((tmpG_hid (s.ng i a z) hZ' hi z).trans e)
  refine ⟨lessT F2 (tmpT fp Z), fun i a => (Z.contains i = false ∧ L.contains i = true ∧ fp2 i a) ∨ ((Z.contains i = true ∨ L.contains i = false) ∧ fp i a), ⟨⟨?_, ?_, ?_, ?_, ?_, ?_, ?_, ?_⟩, ?_, keeps, nf, fun a => tmpG_le, ?_⟩⟩
  · rw [backE_length]
    · exact s.len
    · rw [s.len, s2.len]
  · intro i n d q
    obtain ⟨x, y, hx, hy, e⟩ := backE_get Z L 0 env e2 i _ q
    rw [Nat.zero_add] at e
    unfold back1 at e
    have own : (Z.contains i = true ∨ L.contains i = false) → x = some (n, d) → ∃ v, σ[i]? = some (some v) ∧ RepM K (lessT F2 (tmpT fp Z)) H2 n d v (fun a => (Z.contains i = false ∧ L.contains i = true ∧ fp2 i a) ∨ ((Z.contains i = true ∨ L.contains i = false) ∧ fp i a)) := fun hi ex => by
      subst ex
      obtain ⟨v, h1, h2⟩ := s.slot i n d hx
      exact ⟨v, h1, h2.imp sFF (fun a z => .inr ⟨hi, z⟩) fun a o z w => stand i hi a o z w⟩
    by_cases hZ : Z.contains i = true
    · rw [if_pos hZ] at e; exact own (.inl hZ) e.symm
    · rw [if_neg hZ] at e
      have hZ' : Z.contains i = false := by simpa using hZ
      by_cases hL : L.contains i = true
      · rw [if_pos hL] at e
        subst e
        obtain ⟨v, h1, h2⟩ := s2.slot i n d hy
        have o := okL_get Z L 0 e2 i _ ok hy
        rw [Nat.zero_add] at o
        unfold okL1 at o
        rw [if_neg hZ, if_pos hL] at o
        exact ⟨v, h1, (h2.keeps keeps o).wid fun a z => .inl ⟨hZ', hL, z⟩⟩
      · rw [if_neg hL] at e
        exact own (.inr (by simpa using hL)) e.symm
  · intro i j a h p q
    have mix : ∀ i j, L.contains i = true → Z.contains i = false → fp2 i a → (Z.contains j = true ∨ L.contains j = false) → fp j a → False := fun i j hL hZ z hj w => by
      by_cases hZj : Z.contains j = true
      · exact (hT2 a ⟨j, hZj, w⟩).1.some (s2.nf i a z)
      · have hZ' : Z.contains j = false := by simpa using hZj
        rcases hj with hj | hj
        · exact hZj hj
        · have g := tmpG_hid (H := H) (s.ng j a w) hZ' hj w
          rw [s2.ng i a z] at g
          exact (s.ld j a w).some g.symm
    rcases p with ⟨p1, p2, p3⟩ | ⟨p1, p3⟩ <;> rcases q with ⟨q1, q2, q3⟩ | ⟨q1, q3⟩
    · exact s2.dis i j a h p3 q3
    · exact mix i j p2 p1 p3 q1 q3
    · exact mix j i q2 q1 q3 p1 p3
    · exact s.dis i j a h p3 q3
  · intro i a p
    rcases p with ⟨p1, p2, p3⟩ | ⟨p1, p3⟩
    · exact s2.ld i a p3
    · have l := s.ld i a p3
      cases e : H a with
      | none => exact absurd e l.some
      | some o => rw [stand i p1 a o p3 e, ← e]; exact l
  · intro i a p
    rcases p with ⟨p1, p2, p3⟩ | ⟨p1, p3⟩
    · exact nf a (s2.nf i a p3)
    · by_cases hZ : Z.contains i = true
      · unfold lessT; rw [if_pos ⟨i, hZ, p3⟩]
      · have hZ' : Z.contains i = false := by simpa using hZ
        rcases p1 with p1 | p1
        · exact absurd p1 hZ
        · refine nf a (fe.out a ?_ ?_)
          · rw [tmpG_hid (s.ng i a p3) hZ' p1 p3]; exact (s.ld i a p3).some
          · rw [addH_out]
            · exact s.nf i a p3
            · rintro ⟨j, hj, z⟩
              exact s.dis i j a (fun e => by subst e; exact hZ hj) p3 z
  · intro i a p
    rcases p with ⟨p1, p2, p3⟩ | ⟨p1, p3⟩
    · exact tmpG_le (s2.ng i a p3)
    · exact s.ng i a p3
  · intro a o e
    unfold lessT at e
    split at e
    · cases e
    · exact s2.sf _ _ e
  · intro a o e
    exact s2.sg _ _ (tmpG_of e)
  · refine ⟨sFF, fun a hg e => nf a (fe.out a ?_ ?_)⟩
    · cases q : G a with
      | none => exact absurd q hg
      | some o => rw [tmpG_of q]; simp
    · rw [addH_out]
      · exact e
      · rintro ⟨j, hj, z⟩
        exact hg (s.ng j a z)
  · intro a h1 h2 h3 i p
    rcases p with ⟨p1, p2, p3⟩ | ⟨p1, p3⟩
    · exact h3 i p3
    · by_cases hZ : Z.contains i = true
      · exact (hT2 a ⟨i, hZ, p3⟩).1.some h1
      · have hZ' : Z.contains i = false := by simpa using hZ
        rcases p1 with p1 | p1
        · exact hZ p1
        · have g := tmpG_hid (H := H) (s.ng i a p3) hZ' p1 p3
          rw [h2] at g
          exact (s.ld i a p3).some g.symm
end
section
variable {X : Cx} {W : WX} {A : List Nat}
def flatX (x : Exc) : Bool := flatTs (x.args.map (·.2))
theorem RepX.keeps {K : PySem.W.Frag} {mg : Str → Option Value} {F F' H : Hp} {x : Exc} {c : Value} {dd : Option Addr} (h : RepX K mg F H x c dd) (k : Keeps F F') (f : flatX x = true) : RepX K mg F' H x c dd := by
  obtain ⟨C, d, fs, h1, h2, h3, h4, h5, h6⟩ := h
  exact ⟨C, d, fs, h1, h2, h3, h4, h5, Reps.keeps k h6 f⟩
def mTmp (Z L : List Nat) (m : ME) : ME := fun env => match m (tmpE Z L 0 env) with
  | .ok r e2 => if closedM r.1 r.2 && okL Z L 0 e2 then .ok r (backE Z L 0 env e2) else .stuck
  | .exc x e2 => if flatX x && okL Z L 0 e2 then .exc x (backE Z L 0 env e2) else .stuck
  | .stuck => .stuck
def mTmpT (Z L : List Nat) (m : MT) : MT := fun env => match m (tmpE Z L 0 env) with
  | .ok r e2 => if okL Z L 0 e2 then .ok r (backE Z L 0 env e2) else .stuck
  | .exc x e2 => if flatX x && okL Z L 0 e2 then .exc x (backE Z L 0 env e2) else .stuck
  | .stuck => .stuck
theorem de_tmp {e : Expr} {m : ME} (Z L : List Nat) (h : DE X W m e) : DE X W (mTmp Z L m) e := by
  refine PE.to h fun σ H Q ⟨G, F, env, fp, s, q⟩ => ?_
  refine ⟨_, _, _, _, s.temp Z L, ?_⟩
  unfold mTmp at q
  cases em : m (tmpE Z L 0 env) with
  | stuck => rw [em] at q; exact q
  | ok r e2 =>
    rw [em] at q
    simp only at q
    split at q
    · rename_i c
      rw [Bool.and_eq_true] at c
      intro v F' H' fp' S sv fe
      obtain ⟨F3, fp3, b⟩ := s.back Z L sv.ss fe c.2
      exact q v F3 H' fp3 S ⟨b.ss, sv.val.keeps b.keeps c.1, sv.vld, fun a z => b.nf a (sv.vnf a z), fun a z => b.ng a (sv.vng a z), fun i a z => b.out a (sv.vnf a z) (sv.vng a z) (fun i w => sv.vdis i a z w) i⟩ b.fe
    · exact q.elim
  | exc x e2 =>
    rw [em] at q
    simp only at q
    split at q
    · rename_i c
      rw [Bool.and_eq_true] at c
      intro cc dd F' H' fp' s' fe rx
      obtain ⟨F3, fp3, b⟩ := s.back Z L s' fe c.2
      exact q cc dd F3 H' fp3 b.ss b.fe (rx.keeps b.keeps c.1)
    · exact q.elim
theorem dt_tmp {e : Expr} {m : MT} (Z L : List Nat) (h : DT X W m e) : DT X W (mTmpT Z L m) e := by
  refine PT.to h fun σ H Q ⟨G, F, env, fp, s, q⟩ => ?_
  refine ⟨_, _, _, _, s.temp Z L, ?_⟩
  unfold mTmpT at q
  cases em : m (tmpE Z L 0 env) with
  | stuck => rw [em] at q; exact q
  | ok r e2 =>
    rw [em] at q
    simp only at q
    split at q
    · rename_i c
      intro F' H' fp' s' fe
      obtain ⟨F3, fp3, b⟩ := s.back Z L s' fe c
      exact q F3 H' fp3 b.ss b.fe
    · exact q.elim
  | exc x e2 =>
    rw [em] at q
    simp only at q
    split at q
    · rename_i c
      rw [Bool.and_eq_true] at c
      intro cc dd F' H' fp' s' fe rx
      obtain ⟨F3, fp3, b⟩ := s.back Z L s' fe c.2
      exact q cc dd F3 H' fp3 b.ss b.fe (rx.keeps b.keeps c.1)
    · exact q.elim
end
end DL

set_option autoImplicit false
set_option Elab.async false
set_option linter.all false
set_option maxRecDepth 100000
/-! DL: the program's own defs: what they promise over trees, their calls. -/
namespace DL
open PySem PySem.Spec PyProof.Rows L2

inductive FR where
  | ret (n : Nat) (d : D) (ds : List D) | exc (x : Exc) (ds : List D) | stuck
abbrev FSem := List D → FR
def mkEnv : List Nat → List D → DEnv
  | n :: pm, d :: ds => some (n, d) :: mkEnv pm ds
  | _, _ => []
theorem mkEnv_get : ∀ (pm : List Nat) (ds : List D) (i n : Nat) (d : D), (mkEnv pm ds)[i]? = some (some (n, d)) ↔ pm[i]? = some n ∧ ds[i]? = some d
  | [], _, i, n, d => by simp [mkEnv]
  | _ :: _, [], i, n, d => by simp [mkEnv]
  | m :: pm, e :: ds, 0, n, d => by simp [mkEnv]
  | m :: pm, e :: ds, i + 1, n, d => by simpa [mkEnv] using mkEnv_get pm ds i n d
theorem mkEnv_length : ∀ (pm : List Nat) (ds : List D), ds.length = pm.length → (mkEnv pm ds).length = pm.length
  | [], _, _ => by simp [mkEnv]
  | _ :: _, [], h => by simp at h
  | m :: pm, e :: ds, h => by simp [mkEnv, mkEnv_length pm ds (by simpa using h)]
/-- what a def promises over trees: pm the parameters' depths (0: shared; more: lent, handed back changed) -/
def spD (K : PySem.W.Frag) (mg : Str → Option Value) (pm : List Nat) (f : FSem) : Sp := fun vs H Q E => ∃ G F fp ds, ds.length = pm.length ∧ vs.length = pm.length ∧ SS K G F H (vs.map some) (mkEnv pm ds) fp ∧
  match f ds with
  | .ret n d ds' => ∀ v F' H' fp' S, ds'.length = pm.length → SV K G F' H' (vs.map some) (mkEnv pm ds') fp' n d v S → FrExt G F F' → Q v H'
  | .exc x ds' => ∀ c dd F' H' fp', ds'.length = pm.length → SS K G F' H' (vs.map some) (mkEnv pm ds') fp' → FrExt G F F' → RepX K mg F' H' x c dd → E c dd H'
  | .stuck => False

/-! ### from the body -/
def outs : List Nat → List D → DEnv → Option (List D)
  | [], [], _ => some []
  | 0 :: pm, d :: ds, _ :: e => (outs pm ds e).map (d :: ·)
  | (n + 1) :: pm, _ :: ds, some (m, d) :: e => if m = n + 1 then (outs pm ds e).map (d :: ·) else none
  | _, _, _ => none
theorem outs_get : ∀ (pm : List Nat) (ds : List D) (e : DEnv) (ds' : List D), outs pm ds e = some ds' → ds'.length = pm.length ∧ ∀ (i n : Nat) (d : D), pm[i]? = some n → ds'[i]? = some d → (n = 0 ∧ ds[i]? = some d) ∨ (n ≠ 0 ∧ e[i]? = some (some (n, d)))
  | [], [], e, ds', h => by simp only [outs, Option.some.injEq] at h; subst h; exact ⟨rfl, fun i n d h => by simp at h⟩
  | [], _ :: _, e, ds', h => by simp [outs] at h
  | 0 :: pm, [], e, ds', h => by simp [outs] at h
  | (n + 1) :: pm, [], e, ds', h => by simp [outs] at h
  | 0 :: pm, d :: ds, [], ds', h => by simp [outs] at h
  | (n + 1) :: pm, d :: ds, [], ds', h => by simp [outs] at h
  | (n + 1) :: pm, d :: ds, none :: e, ds', h => by simp [outs] at h
  | 0 :: pm, d :: ds, x :: e, ds', h => by
    simp only [outs] at h
    cases q : outs pm ds e with
    | none => rw [q] at h; cases h
    | some l =>
      rw [q] at h
      cases h
      obtain ⟨h1, h2⟩ := outs_get pm ds e l q
      refine ⟨by simp [h1], fun i n d' hn hd => ?_⟩
      cases i with
      | zero => simp at hn hd; subst hn hd; exact .inl ⟨rfl, rfl⟩
      | succ i => simpa using h2 i n d' (by simpa using hn) (by simpa using hd)
  | (k + 1) :: pm, d :: ds, some (m, x) :: e, ds', h => by
    simp only [outs] at h
    split at h
    · rename_i hm
      cases q : outs pm ds e with
      | none => rw [q] at h; cases h
      | some l =>
        rw [q] at h
        cases h
        obtain ⟨h1, h2⟩ := outs_get pm ds e l q
        refine ⟨by simp [h1], fun i n d' hn hd => ?_⟩
        cases i with
        | zero => simp at hn hd; subst hn hd hm; exact .inr ⟨by simp, rfl⟩
        | succ i => simpa using h2 i n d' (by simpa using hn) (by simpa using hd)
    · cases h
def fin (pm : List Nat) (ds : List D) (n : Nat) (d : D) (e : DEnv) : FR := match outs pm ds e with
  | some ds' => .ret n d ds'
  | none => .stuck
/-- a def from its body: nothing is raised -/
def fnSem (pm : List Nat) (k : Nat) (m : MS) : FSem := fun ds => match m (mkEnv pm ds ++ List.replicate k none) with
  | .nx e => fin pm ds 0 .non e
  | .ret n d e => fin pm ds n d e
  | _ => .stuck
abbrev W0 : WX := fun _ _ _ _ => False
theorem start_eq (N : List Str) (vs : List V) : start N vs = vs.map some ++ List.replicate (N.length - vs.length) none := rfl
section
variable {K : PySem.W.Frag} {mg : Str → Option Value} {G F H : Hp} {fp : Fp}
theorem SS.body {vs : List V} {pm : List Nat} {ds : List D} (s : SS K G F H (vs.map some) (mkEnv pm ds) fp) (k : Nat) : SS K G F H (vs.map some ++ List.replicate k none) (mkEnv pm ds ++ List.replicate k none) fp where
  len := by rw [List.length_append, List.length_append, s.len, List.length_replicate, List.length_replicate]
  slot := fun i n d q => by
    by_cases hi : i < (mkEnv pm ds).length
    · rw [List.getElem?_append_left hi] at q
      obtain ⟨v, h1, h2⟩ := s.slot i n d q
      exact ⟨v, by rw [List.getElem?_append_left (by rw [← s.len]; exact hi)]; exact h1, h2⟩
    · rw [List.getElem?_append_right (Nat.le_of_not_lt hi)] at q
      by_cases hk : i - (mkEnv pm ds).length < k
      · rw [List.getElem?_replicate_of_lt hk] at q; cases q
      · rw [List.getElem?_eq_none (by simpa using hk)] at q; cases q
  dis := s.dis
  ld := s.ld
  nf := s.nf
  ng := s.ng
  sf := s.sf
  sg := s.sg
/-- back at the parameters -/
theorem SS.params {vs : List V} {pm : List Nat} {ds ds' : List D} {k : Nat} {A : List Nat} {F' H' : Hp} {σ' : L2.St} {e : DEnv} {fp' : Fp} (s : SS K G F H (vs.map some) (mkEnv pm ds) fp) (hl : ds.length = pm.length) (hA : ∀ i n, pm[i]? = some n → n ≠ 0 → i ∉ A)
    (ag : Agree A (vs.map some ++ List.replicate k none) σ') (s' : SS K G F' H' σ' e fp') (fe : FrExt G F F') (ho : outs pm ds e = some ds') : ds'.length = pm.length ∧ SS K G F' H' (vs.map some) (mkEnv pm ds') fp' := by
  obtain ⟨h1, h2⟩ := outs_get pm ds e ds' ho
  refine ⟨h1, ⟨by rw [mkEnv_length pm ds' h1, ← mkEnv_length pm ds hl, s.len], fun i n d q => ?_, s'.dis, s'.ld, s'.nf, s'.ng, s'.sf, s'.sg⟩⟩
  obtain ⟨q1, q2⟩ := (mkEnv_get pm ds' i n d).mp q
  rcases h2 i n d q1 q2 with ⟨rfl, hd⟩ | ⟨hn, he⟩
  · obtain ⟨v, e1, e2⟩ := s.slot i 0 d ((mkEnv_get pm ds i 0 d).mpr ⟨q1, hd⟩)
    exact ⟨v, e1, Rep.mono fe.same e2⟩
  · obtain ⟨v, e1, e2⟩ := s'.slot i n d he
    have hi : i < (vs.map some).length := by
      rw [← s.len, mkEnv_length pm ds hl]
      exact (List.getElem?_eq_some_iff.mp q1).1
    rw [ag.2 i (hA i n q1 hn), List.getElem?_append_left hi] at e1
    exact ⟨v, e1, e2⟩
end
section
variable {P : Program} {w : World} {K : PySem.W.Frag} {mg : Str → Option Value} {base : Heap}
theorem fn_ok {x qual : Str} {st : Stmt} {f : Addr} {fd : FuncData} {N ps : List Str} {k : Nat} {pm A : List Nat} {m : MS} (Fn : Fun K x qual st f fd) (S : FnScope N ps (defScope st)) (hp : ps.length = pm.length) (kk : Nat) (hk : N.length - pm.length = kk) (hA : (List.range pm.length).all (fun i => pm[i]? == some 0 || !A.contains i) = true)
    (hbody : ∀ (cdv : Value) (Ar : Around) (outer : List PySem.Env) (s : Shared) (H : Hp) (E : XK), Room k (Ar.deeper (envOfC qual (defScope st) s.heap.objs.size f cdv)) →
      DSs (cxOf CX0 P w K mg base N qual (defScope st) f cdv Ar outer s H E).nox W0 A m (defBody st)) : FnOk P w K mg base CX0 (k + 1) f fd ps (spD K mg pm (fnSem pm kk m)) := by
  refine Fn.ok S (fun vs H Q E h => ?_) (fun cdv Ar outer s H vs Q E hr h => ⟨_, hbody cdv Ar outer s H E hr, ?_⟩)
  · obtain ⟨G, F, fp, ds, h1, h2, _⟩ := h
    rw [h2, hp]
  · obtain ⟨G, F, fp, ds, h1, h2, ss, q⟩ := h
    have hA' : ∀ i n, pm[i]? = some n → n ≠ 0 → i ∉ A := fun i n hn h0 hi => by
      have := List.all_eq_true.mp hA i (List.mem_range.mpr (List.getElem?_eq_some_iff.mp hn).1)
      rw [hn] at this
      simp [hi, h0] at this
    refine ⟨G, F, _, fp, (by rw [start_eq, h2, hk]; exact ss.body kk), ?_⟩
    unfold fnSem fin at q
    show RGS K mg W0 G F A (start N vs) _ (m (mkEnv pm ds ++ List.replicate kk none))
    rw [start_eq, h2, hk]
    cases e : m (mkEnv pm ds ++ List.replicate kk none) with
    | nx e1 =>
      rw [e] at q
      dsimp only at q
      cases eo : outs pm ds e1 with
      | none => rw [eo] at q; exact q.elim
      | some ds' =>
        rw [eo] at q
        intro σ' F' H' fp' ag s' fe
        obtain ⟨l, s2⟩ := ss.params h1 hA' ag s' fe eo
        exact q .non F' H' fp' _ l (SV.of_rep s2 .non) fe
    | ret n d e1 =>
      rw [e] at q
      dsimp only at q
      cases eo : outs pm ds e1 with
      | none => rw [eo] at q; exact q.elim
      | some ds' =>
        rw [eo] at q
        intro v σ' F' H' fp' S' ag s' fe
        obtain ⟨l, s2⟩ := ss.params h1 hA' ag s'.ss fe eo
        exact q v F' H' fp' _ l ⟨s2, s'.val, s'.vld, s'.vnf, s'.vng, s'.vdis⟩ fe
    | brk e1 => rw [e] at q; exact q.elim
    | cont e1 => rw [e] at q; exact q.elim
    | exc x e1 => rw [e] at q; exact q.elim
    | stuck => rw [e] at q; exact q.elim
end

/-! ### calls -/
inductive DArg where
  | ex (m : ME) | ln (i : Nat)
def mArgs : List DArg → DEnv → Out (List (Sum D Nat))
  | [], env => .ok [] env
  | .ex m :: r, env => (m env).bind fun a e1 => (mArgs r e1).bind fun l e2 => .ok (.inl a.2 :: l) e2
  | .ln i :: r, env => match env[i]? with
    | some (some _) => (mArgs r env).bind fun l e2 => .ok (.inr i :: l) e2
    | _ => .stuck
def ArgOk (K : PySem.W.Frag) (F : Hp) (σ : L2.St) : List (Sum D Nat) → List V → Prop
  | [], [] => True
  | .inl d :: l, v :: vs => Rep K F d v ∧ ArgOk K F σ l vs
  | .inr i :: l, v :: vs => σ[i]? = some (some v) ∧ ArgOk K F σ l vs
  | _, _ => False
theorem ArgOk.mono {K : PySem.W.Frag} {F F' : Hp} {σ : L2.St} (e : Same F F') : ∀ {l : List (Sum D Nat)} {vs : List V}, ArgOk K F σ l vs → ArgOk K F' σ l vs
  | [], [], _ => trivial
  | .inl _ :: _, _ :: _, h => ⟨h.1.mono e, ArgOk.mono e h.2⟩
  | .inr _ :: _, _ :: _, h => ⟨h.1, ArgOk.mono e h.2⟩
  | [], _ :: _, h => h.elim
  | .inl _ :: _, [], h => h.elim
  | .inr _ :: _, [], h => h.elim
theorem ArgOk.length {K : PySem.W.Frag} {F : Hp} {σ : L2.St} : ∀ {l : List (Sum D Nat)} {vs : List V}, ArgOk K F σ l vs → l.length = vs.length
  | [], [], _ => rfl
  | .inl _ :: _, _ :: _, h => by simp [ArgOk.length h.2]
  | .inr _ :: _, _ :: _, h => by simp [ArgOk.length h.2]
  | [], _ :: _, h => h.elim
  | .inl _ :: _, [], h => h.elim
  | .inr _ :: _, [], h => h.elim
theorem ArgOk.get {K : PySem.W.Frag} {F : Hp} {σ : L2.St} : ∀ {l : List (Sum D Nat)} {vs : List V} {k : Nat} {a : Sum D Nat}, ArgOk K F σ l vs → l[k]? = some a → ∃ v, vs[k]? = some v ∧ (match a with | .inl d => Rep K F d v | .inr i => σ[i]? = some (some v))
  | [], [], _, _, _, e => by simp at e
  | .inl _ :: _, _ :: _, 0, a, h, e => by simp at e; subst e; exact ⟨_, rfl, h.1⟩
  | .inr _ :: _, _ :: _, 0, a, h, e => by simp at e; subst e; exact ⟨_, rfl, h.1⟩
  | .inl _ :: _, _ :: _, k + 1, a, h, e => by
    obtain ⟨v, h1, h2⟩ := ArgOk.get (k := k) (a := a) h.2 (by simpa using e)
    exact ⟨v, by simpa using h1, h2⟩
  | .inr _ :: _, _ :: _, k + 1, a, h, e => by
    obtain ⟨v, h1, h2⟩ := ArgOk.get (k := k) (a := a) h.2 (by simpa using e)
    exact ⟨v, by simpa using h1, h2⟩
  | [], _ :: _, _, _, h, _ => h.elim
  | .inl _ :: _, [], _, _, h, _ => h.elim
  | .inr _ :: _, [], _, _, h, _ => h.elim
def tAr (K : PySem.W.Frag) (mg : Str → Option Value) (W : WX) (l : List DArg) : TA := fun σ H Q => ∃ G F env fp, SS K G F H σ env fp ∧
  RG K mg W G F σ (fun l e => ∀ vs F' H' fp', SS K G F' H' σ e fp' → ArgOk K F' σ l vs → FrExt G F F' → Q vs H') (mArgs l env)
def DAr (X : Cx) (W : WX) (l : List DArg) (es : List Expr) : Prop := PA X es (tAr X.K X.mg W l)
section
variable {X : Cx} {W : WX} {A : List Nat}
theorem dar_nil : DAr X W [] [] := PA.to pa_nil fun σ H Q ⟨G, F, env, fp, s, h⟩ => h [] F H fp s trivial .refl
theorem dar_ex {e : Expr} {es : List Expr} {m : ME} {l : List DArg} (h : DE X W m e) (hs : DAr X W l es) (hst : starEach (e :: es) X.env = (false, eval e X.env) :: starEach es X.env := by rfl) : DAr X W (.ex m :: l) (e :: es) := by
  refine PA.to (pa_cons h hs hst) fun σ H Q ⟨G, F, env, fp, s, h⟩ => ?_
  refine tE.of s h.bind fun r1 e1 F1 H1 fp1 v1 p1 s1 rep1 fe1 => ?_
  refine ⟨G, F1, e1, fp1, s1, RG.imp p1.bind fe1 fun l e p vs F' H' fp' s' a fe => ?_⟩
  exact p _ F' H' fp' s' ⟨rep1.mono fe.same, a⟩ (fe1.trans fe)
theorem dar_ln {i : Nat} {e : Expr} {es : List Expr} {l : List DArg} (h : PE X e (tVar i)) (hs : DAr X W l es) (hst : starEach (e :: es) X.env = (false, eval e X.env) :: starEach es X.env := by rfl) : DAr X W (.ln i :: l) (e :: es) := by
  refine PA.to (pa_cons h hs hst) fun σ H Q ⟨G, F, env, fp, s, h⟩ => ?_
  unfold mArgs at h
  split at h
  · rename_i p hp
    obtain ⟨n, d⟩ := p
    obtain ⟨v, hv, _⟩ := s.slot i n d hp
    refine ⟨v, hv, G, F, env, fp, s, RG.imp h.bind .refl fun l e p vs F' H' fp' s' a fe => ?_⟩
    exact p _ F' H' fp' s' ⟨hv, a⟩ fe
  · exact h.elim
end
def resolve : List Nat → List (Sum D Nat) → DEnv → Option (List D)
  | [], [], _ => some []
  | 0 :: pm, .inl d :: l, e => (resolve pm l e).map (d :: ·)
  | (n + 1) :: pm, .inr i :: l, e => match e[i]? with
    | some (some (m, d)) => if m = n + 1 then (resolve pm l e).map (d :: ·) else none
    | _ => none
  | _, _, _ => none
theorem resolve_get : ∀ (pm : List Nat) (l : List (Sum D Nat)) (e : DEnv) (ds : List D), resolve pm l e = some ds → ds.length = pm.length ∧ l.length = pm.length ∧ ∀ (k n : Nat) (d : D), pm[k]? = some n → ds[k]? = some d →
    (n = 0 ∧ l[k]? = some (Sum.inl d)) ∨ (∃ i : Nat, n ≠ 0 ∧ l[k]? = some (Sum.inr i) ∧ e[i]? = some (some (n, d)))
  | [], [], e, ds, h => by simp only [resolve, Option.some.injEq] at h; subst h; exact ⟨rfl, rfl, fun k n d h => by simp at h⟩
  | [], _ :: _, e, ds, h => by simp [resolve] at h
  | 0 :: pm, [], e, ds, h => by simp [resolve] at h
  | (n + 1) :: pm, [], e, ds, h => by simp [resolve] at h
  | 0 :: pm, .inr _ :: l, e, ds, h => by simp [resolve] at h
  | (n + 1) :: pm, .inl _ :: l, e, ds, h => by simp [resolve] at h
  | 0 :: pm, .inl x :: l, e, ds, h => by
    simp only [resolve] at h
    cases q : resolve pm l e with
    | none => rw [q] at h; cases h
    | some r =>
      rw [q] at h
      cases h
      obtain ⟨h1, h2, h3⟩ := resolve_get pm l e r q
      refine ⟨by simp [h1], by simp [h2], fun k n d hn hd => ?_⟩
      cases k with
      | zero => simp at hn hd; subst hn hd; exact .inl ⟨rfl, rfl⟩
      | succ k => simpa using h3 k n d (by simpa using hn) (by simpa using hd)
  | (j + 1) :: pm, .inr i :: l, e, ds, h => by
    simp only [resolve] at h
    split at h
    · rename_i m x hx
      split at h
      · rename_i hm
        cases q : resolve pm l e with
        | none => rw [q] at h; cases h
        | some r =>
          rw [q] at h
          cases h
          obtain ⟨h1, h2, h3⟩ := resolve_get pm l e r q
          refine ⟨by simp [h1], by simp [h2], fun k n d hn hd => ?_⟩
          cases k with
          | zero => simp at hn hd; subst hn hd hm; exact .inr ⟨i, by simp, rfl, hx⟩
          | succ k => simpa using h3 k n d (by simpa using hn) (by simpa using hd)
      · cases h
    · cases h
/-- what was lent comes back -/
def putBack : List Nat → List (Sum D Nat) → List D → DEnv → DEnv
  | n :: pm, .inr i :: l, d :: ds, e => putBack pm l ds (e.set i (some (n, d)))
  | _ :: pm, .inl _ :: l, _ :: ds, e => putBack pm l ds e
  | _, _, _, e => e
def lentOf : List (Sum D Nat) → List Nat
  | [] => []
  | .inl _ :: l => lentOf l
  | .inr i :: l => i :: lentOf l
theorem lentOf_mem : ∀ {l : List (Sum D Nat)} {i : Nat}, i ∈ lentOf l ↔ ∃ k : Nat, l[k]? = some (Sum.inr i)
  | [], i => by simp [lentOf]
  | .inl d :: l, i => by
    rw [lentOf, lentOf_mem]
    constructor
    · rintro ⟨k, h⟩; exact ⟨k + 1, by simpa using h⟩
    · rintro ⟨k, h⟩
      cases k with
      | zero => simp at h
      | succ k => exact ⟨k, by simpa using h⟩
  | .inr j :: l, i => by
    rw [lentOf, List.mem_cons, lentOf_mem]
    constructor
    · rintro (rfl | ⟨k, h⟩)
      · exact ⟨0, rfl⟩
      · exact ⟨k + 1, by simpa using h⟩
    · rintro ⟨k, h⟩
      cases k with
      | zero => simp at h; exact .inl h.symm
      | succ k => exact .inr ⟨k, by simpa using h⟩
theorem lentOf_inj : ∀ {l : List (Sum D Nat)} {i k k' : Nat}, (lentOf l).Nodup → l[k]? = some (Sum.inr i) → l[k']? = some (Sum.inr i) → k = k'
  | [], i, k, k', _, h, _ => by simp at h
  | .inl d :: l, i, k, k', nd, h, h' => by
    cases k with
    | zero => simp at h
    | succ k =>
      cases k' with
      | zero => simp at h'
      | succ k' => exact congrArg (· + 1) (lentOf_inj (l := l) (i := i) (k := k) (k' := k') nd (by simpa using h) (by simpa using h'))
  | .inr j :: l, i, k, k', nd, h, h' => by
    rw [lentOf, List.nodup_cons] at nd
    cases k with
    | zero =>
      cases k' with
      | zero => rfl
      | succ k' =>
        simp at h; subst h
        exact absurd (lentOf_mem.mpr ⟨k', by simpa using h'⟩) nd.1
    | succ k =>
      cases k' with
      | zero =>
        simp at h'; subst h'
        exact absurd (lentOf_mem.mpr ⟨k, by simpa using h⟩) nd.1
      | succ k' => exact congrArg (· + 1) (lentOf_inj (l := l) (i := i) (k := k) (k' := k') nd.2 (by simpa using h) (by simpa using h'))
theorem putBack_length : ∀ (pm : List Nat) (l : List (Sum D Nat)) (ds : List D) (e : DEnv), (putBack pm l ds e).length = e.length
  | [], _, _, e => by simp [putBack]
  | _ :: _, [], _, e => by simp [putBack]
  | _ :: _, .inl _ :: _, [], e => by simp [putBack]
  | _ :: _, .inr _ :: _, [], e => by simp [putBack]
  | n :: pm, .inl _ :: l, _ :: ds, e => by simp only [putBack]; exact putBack_length pm l ds e
  | n :: pm, .inr i :: l, d :: ds, e => by simp only [putBack]; rw [putBack_length pm l ds]; simp
theorem putBack_out : ∀ (pm : List Nat) (l : List (Sum D Nat)) (ds : List D) (e : DEnv) (i : Nat), i ∉ lentOf l → (putBack pm l ds e)[i]? = e[i]?
  | [], _, _, e, i, _ => by simp [putBack]
  | _ :: _, [], _, e, i, _ => by simp [putBack]
  | _ :: _, .inl _ :: _, [], e, i, _ => by simp [putBack]
  | _ :: _, .inr _ :: _, [], e, i, _ => by simp [putBack]
  | n :: pm, .inl _ :: l, _ :: ds, e, i, h => by simp only [putBack]; exact putBack_out pm l ds e i h
  | n :: pm, .inr j :: l, d :: ds, e, i, h => by
    simp only [lentOf, List.mem_cons, not_or] at h
    simp only [putBack]
    rw [putBack_out pm l ds _ i h.2, List.getElem?_set_ne (Ne.symm h.1)]
theorem putBack_in : ∀ (pm : List Nat) (l : List (Sum D Nat)) (ds : List D) (e : DEnv) (i k n : Nat) (d : D), (lentOf l).Nodup → i < e.length → pm[k]? = some n → l[k]? = some (.inr i) → ds[k]? = some d → (putBack pm l ds e)[i]? = some (some (n, d))
  | [], _, _, e, i, k, n, d, _, _, h, _, _ => by simp at h
  | _ :: _, [], _, e, i, k, n, d, _, _, _, h, _ => by simp at h
  | _ :: _, .inl _ :: _, [], e, i, k, n, d, _, _, _, _, h => by simp at h
  | _ :: _, .inr _ :: _, [], e, i, k, n, d, _, _, _, _, h => by simp at h
  | m :: pm, .inl _ :: l, _ :: ds, e, i, 0, n, d, nd, hi, h1, h2, h3 => by simp at h2
  | m :: pm, .inl _ :: l, _ :: ds, e, i, k + 1, n, d, nd, hi, h1, h2, h3 => by
    simp only [putBack]
    exact putBack_in pm l ds e i k n d nd hi (by simpa using h1) (by simpa using h2) (by simpa using h3)
  | m :: pm, .inr j :: l, x :: ds, e, i, 0, n, d, nd, hi, h1, h2, h3 => by
    simp at h1 h2 h3; subst h1 h2 h3
    rw [lentOf, List.nodup_cons] at nd
    simp only [putBack]
    rw [putBack_out pm l ds _ j nd.1, List.getElem?_set_self hi]
  | m :: pm, .inr j :: l, x :: ds, e, i, k + 1, n, d, nd, hi, h1, h2, h3 => by
    rw [lentOf, List.nodup_cons] at nd
    simp only [putBack]
    exact putBack_in pm l ds _ i k n d nd.2 (by simpa using hi) (by simpa using h1) (by simpa using h2) (by simpa using h3)
/-- a call: the callee's answer; what was lent comes back changed -/
def mCallK (pm : List Nat) (f : FSem) (l : List (Sum D Nat)) (env : DEnv) : Out (Nat × D) :=
  if (lentOf l).Nodup then match resolve pm l env with
    | none => .stuck
    | some ds => match f ds with
      | .ret n d ds' => if ds'.length = pm.length then .ok (n, d) (putBack pm l ds' env) else .stuck
      | .exc x ds' => if ds'.length = pm.length then .exc x (putBack pm l ds' env) else .stuck
      | .stuck => .stuck
  else .stuck
def mCall (pm : List Nat) (f : FSem) (l : List DArg) : ME := fun env => (mArgs l env).bind (mCallK pm f)
open Classical in
noncomputable def lessG (H : Hp) (fp : Fp) (l : List (Sum D Nat)) : Hp := fun a => if (∃ i, i ∈ lentOf l ∧ fp i a) then none else H a
theorem lessG_in {H : Hp} {fp : Fp} {l : List (Sum D Nat)} {a : Addr} (h : ∀ i, i ∈ lentOf l → fp i a → False) : lessG H fp l a = H a := if_neg fun ⟨i, h1, h2⟩ => h i h1 h2
theorem lessG_out {H : Hp} {fp : Fp} {l : List (Sum D Nat)} {a : Addr} {i : Nat} (h1 : i ∈ lentOf l) (h2 : fp i a) : lessG H fp l a = none := if_pos ⟨i, h1, h2⟩
def fpIn (fp : Fp) (l : List (Sum D Nat)) : Fp := fun k a => ∃ i, l[k]? = some (.inr i) ∧ fp i a
/-- behind the call -/
def fpOut (fp fp' : Fp) (l : List (Sum D Nat)) : Fp := fun i a => (∃ k, l[k]? = some (.inr i) ∧ fp' k a) ∨ (i ∉ lentOf l ∧ fp i a)
section
variable {K : PySem.W.Frag} {mg : Str → Option Value} {G F H : Hp} {σ : L2.St} {env : DEnv} {fp : Fp}
theorem SS.callee {l : List (Sum D Nat)} {pm : List Nat} {ds : List D} {vs : List V} (s : SS K G F H σ env fp) (nd : (lentOf l).Nodup) (hr : resolve pm l env = some ds) (ha : ArgOk K F σ l vs) : SS K (lessG H fp l) F H (vs.map some) (mkEnv pm ds) (fpIn fp l) := by
  obtain ⟨h1, h2, h3⟩ := resolve_get pm l env ds hr
  refine ⟨by rw [mkEnv_length pm ds h1, List.length_map, ← ha.length, h2], fun k n d q => ?_, fun k k' a hk p q => ?_, fun k a p => ?_, fun k a p => ?_, fun k a p => ?_, s.sf, fun a o e => ?_⟩
  · obtain ⟨q1, q2⟩ := (mkEnv_get pm ds k n d).mp q
    rcases h3 k n d q1 q2 with ⟨rfl, hl⟩ | ⟨i, hn, hl, he⟩
    · obtain ⟨v, hv, r⟩ := ha.get hl
      exact ⟨v, by rw [List.getElem?_map, hv]; rfl, r⟩
    · obtain ⟨v, hv, r⟩ := ha.get hl
      obtain ⟨v', hv', r'⟩ := s.slot i n d he
      have : v = v' := by
        have z : σ[i]? = some (some v) := r
        rw [z] at hv'; cases hv'; rfl
      subst this
      exact ⟨v, by rw [List.getElem?_map, hv]; rfl, r'.wid fun a z => ⟨i, hl, z⟩⟩
  · obtain ⟨i, hi, z⟩ := p
    obtain ⟨j, hj, w⟩ := q
    by_cases e : i = j
    · subst e; exact hk (lentOf_inj nd hi hj)
    · exact s.dis i j a e z w
  · obtain ⟨i, hi, z⟩ := p; exact s.ld i a z
  · obtain ⟨i, hi, z⟩ := p; exact s.nf i a z
  · obtain ⟨i, hi, z⟩ := p; exact lessG_out (lentOf_mem.mpr ⟨k, hi⟩) z
  · unfold lessG at e
    split at e
    · cases e
    · exact e
theorem SS.caller {l : List (Sum D Nat)} {pm : List Nat} {ds ds' : List D} {vs : List V} {F' H' : Hp} {fp' : Fp} (s : SS K G F H σ env fp) (nd : (lentOf l).Nodup) (hr : resolve pm l env = some ds) (ha : ArgOk K F σ l vs) (hl' : ds'.length = pm.length)
    (s' : SS K (lessG H fp l) F' H' (vs.map some) (mkEnv pm ds') fp') (fe : FrExt (lessG H fp l) F F') :
    SS K G F' H' σ (putBack pm l ds' env) (fpOut fp fp' l) ∧ FrExt G F F' ∧ (∀ a, lessG H fp l a = none → G a = none) ∧ (∀ S : Addr → Prop, (∀ a, S a → lessG H fp l a = none) → (∀ k a, S a → fp' k a → False) → ∀ i a, S a → fpOut fp fp' l i a → False) := by
  obtain ⟨h1, h2, h3⟩ := resolve_get pm l env ds hr
  have gg : ∀ a o, G a = some o → lessG H fp l a = some o := fun a o e => by
    rw [lessG_in fun i hi z => by rw [s.ng i a z] at e; cases e]
    exact s.sg _ _ e
  have gn : ∀ a, lessG H fp l a = none → G a = none := fun a e => by
    cases q : G a with
    | none => rfl
    | some o => rw [gg a o q] at e; cases e
  have stand : ∀ i, i ∉ lentOf l → ∀ a, fp i a → lessG H fp l a = H a := fun i hi a z => lessG_in fun j hj w => s.dis i j a (fun e => hi (e ▸ hj)) z w
  have ddis : ∀ i, i ∉ lentOf l → ∀ a, fp i a → lessG H fp l a ≠ none := fun i hi a z => by rw [stand i hi a z]; exact (s.ld i a z).some
  refine ⟨⟨by rw [putBack_length]; exact s.len, fun i n d q => ?_, fun i j a h p q => ?_, fun i a p => ?_, fun i a p => ?_, fun i a p => ?_, s'.sf, fun a o e => s'.sg _ _ (gg a o e)⟩,
    ⟨fe.same, fun a h e => fe.out a (by cases q : G a with | none => exact absurd q h | some o => rw [gg a o q]; simp) e⟩, gn, fun S hs hd i a z w => ?_⟩
  · by_cases hi : i ∈ lentOf l
    · obtain ⟨k, hk⟩ := lentOf_mem.mp hi
      have hkl : k < pm.length := by rw [← h2]; exact (List.getElem?_eq_some_iff.mp hk).1
      obtain ⟨n', hn'⟩ : ∃ n', pm[k]? = some n' := ⟨_, List.getElem?_eq_getElem hkl⟩
      obtain ⟨d', hd'⟩ : ∃ d', ds'[k]? = some d' := ⟨_, List.getElem?_eq_getElem (by rw [hl']; exact hkl)⟩
      obtain ⟨v, hv, r⟩ := ha.get hk
      have hσ : σ[i]? = some (some v) := r
      have hil : i < env.length := by rw [s.len]; exact (List.getElem?_eq_some_iff.mp hσ).1
      rw [putBack_in pm l ds' env i k n' d' nd hil hn' hk hd'] at q
      cases q
      obtain ⟨v', hv', r'⟩ := s'.slot k n d ((mkEnv_get pm ds' k n d).mpr ⟨hn', hd'⟩)
      rw [List.getElem?_map, hv] at hv'
      cases hv'
      exact ⟨v, hσ, r'.wid fun a z => .inl ⟨k, hk, z⟩⟩
    · rw [putBack_out pm l ds' env i hi] at q
      obtain ⟨v, hv, r⟩ := s.slot i n d q
      exact ⟨v, hv, r.imp fe.same (fun a z => .inr ⟨hi, z⟩) fun a o z e => s'.sg _ _ ((stand i hi a z).trans e)⟩
  · rcases p with ⟨k, hk, p⟩ | ⟨hi, p⟩ <;> rcases q with ⟨k', hk', q⟩ | ⟨hj, q⟩
    · refine s'.dis k k' a (fun e => ?_) p q
      subst e; rw [hk] at hk'; cases hk'; exact h rfl
    · exact ddis j hj a q (s'.ng k a p)
    · exact ddis i hi a p (s'.ng k' a q)
    · exact s.dis i j a h p q
  · rcases p with ⟨k, hk, p⟩ | ⟨hi, p⟩
    · exact s'.ld k a p
    · have ld := s.ld i a p
      cases e : H a with
      | none => exact absurd e ld.some
      | some o => rw [s'.sg a o ((stand i hi a p).trans e), ← e]; exact ld
  · rcases p with ⟨k, hk, p⟩ | ⟨hi, p⟩
    · exact s'.nf k a p
    · exact fe.out a (ddis i hi a p) (s.nf i a p)
  · rcases p with ⟨k, hk, p⟩ | ⟨hi, p⟩
    · exact gn a (s'.ng k a p)
    · exact s.ng i a p
  · rcases w with ⟨k, hk, w⟩ | ⟨hi, w⟩
    · exact hd k a z w
    · exact ddis i hi a w (hs a z)
end
/-- a def of the program that raises nothing -/
def FnD (P : Program) (w : World) (K : PySem.W.Frag) (mg : Str → Option Value) (base : Heap) (k : Nat) (x : Str) (pm : List Nat) (f : FSem) : Prop :=
  ∃ (fa : Addr) (fd : FuncData) (ps : List Str), FnOk P w K mg base CX0 k fa fd ps (spD K mg pm f) ∧ Binds K fd ps [] ∧ mg x = some (.ref fa) ∧ PySem.W.keepIn K (.ref fa) = true
section
variable {X : Cx} {W : WX}
theorem spD_call {pm : List Nat} {f : FSem} {l : List (Sum D Nat)} {G F F1 H1 : Hp} {σ : L2.St} {e1 : DEnv} {fp1 : Fp} {vs : List V} {Q : VK} {E : XK} (s1 : SS X.K G F1 H1 σ e1 fp1) (ha : ArgOk X.K F1 σ l vs) (fe1 : FrExt G F F1)
    (h : RG X.K X.mg W G F σ (PV X.K G F σ Q) (mCallK pm f l e1)) (hE : ∀ c dd H', W c dd σ H' → E c dd H') : spD X.K X.mg pm f vs H1 Q E := by
  unfold mCallK at h
  split at h
  · rename_i nd
    cases hr : resolve pm l e1 with
    | none => rw [hr] at h; exact h.elim
    | some ds =>
      rw [hr] at h
      dsimp only at h
      obtain ⟨h1, h2, h3⟩ := resolve_get pm l e1 ds hr
      refine ⟨lessG H1 fp1 l, F1, fpIn fp1 l, ds, h1, by rw [← ha.length, h2], s1.callee nd hr ha, ?_⟩
      cases hf : f ds with
      | stuck => rw [hf] at h; exact h.elim
      | ret n d ds' =>
        rw [hf] at h
        intro v F' H' fp' S hl sv fe
        dsimp only at h
        rw [if_pos hl] at h
        obtain ⟨s2, f2, gn, dd⟩ := s1.caller nd hr ha hl sv.ss fe
        exact h v F' H' _ S ⟨s2, sv.val, sv.vld, sv.vnf, fun a z => gn a (sv.vng a z), fun i a z w => dd S sv.vng sv.vdis i a z w⟩ (fe1.trans f2)
      | exc x ds' =>
        rw [hf] at h
        intro c dd F' H' fp' hl ss fe rx
        dsimp only at h
        rw [if_pos hl] at h
        obtain ⟨s2, f2, gn, _⟩ := s1.caller nd hr ha hl ss fe
        exact hE _ _ _ (h c dd F' H' _ s2 (fe1.trans f2) rx)
  · exact h.elim
theorem de_call {k : Nat} {x : Str} {pm : List Nat} {f : FSem} {p pos : Pos} {e : Expr} {es : List Expr} {l : List DArg} (C : FnD X.prog X.w X.K X.mg X.base k x pm f) (hf : ∀ ds x ds', f ds ≠ .exc x ds') (hr : Room k X.A) (hg : Gl X x) (ha : DAr X W l (e :: es)) (hdb : (x == ("__debug__" : Str)) = false := by decide) (he : starEach (e :: es) X.env = (false, eval e X.env) :: starEach es X.env := by rfl) (hpl : (backTo pos (starEach es X.env)).any (·.1) = false := by rfl) :
    DE X W (mCall pm f l) (.Call (.Name x p) (e :: es) [] pos) := by
  obtain ⟨fa, fd, ps, F, hb, hm, hk⟩ := C
  refine PE.to (pe_call F hr hg hm hk hb .nil pass0 ha hdb he hpl) fun σ H Q ⟨G, F, env, fp, s, h⟩ => ?_
  refine ⟨G, F, env, fp, s, RG.imp h.bind .refl fun l e1 p vs F' H' fp' s' a fe => ?_⟩
  show spD X.K X.mg pm f (vs ++ []) H' Q E0
  rw [List.append_nil]
  have h' : RG X.K X.mg W0 G F σ (PV X.K G F σ Q) (mCallK pm f l e1) := by
    unfold mCallK at p ⊢
    split at p
    · rename_i nd
      rw [if_pos nd]
      cases hr : resolve pm l e1 with
      | none => rw [hr] at p; exact p.elim
      | some ds =>
        rw [hr] at p
        dsimp only at p ⊢
        cases hf' : f ds with
        | stuck => rw [hf'] at p; exact p.elim
        | exc x ds' => exact absurd hf' (hf ds x ds')
        | ret n d ds' =>
          rw [hf'] at p
          dsimp only at p ⊢
          by_cases hl : ds'.length = pm.length
          · rw [if_pos hl] at p ⊢; exact p
          · rw [if_neg hl] at p; exact p.elim
    · exact p.elim
  exact spD_call (W := W0) s' a fe h' fun _ _ _ z => z
theorem fnSem_noexc (pm : List Nat) (k : Nat) (m : MS) : ∀ ds x ds', fnSem pm k m ds ≠ .exc x ds' := fun ds x ds' h => by
  unfold fnSem fin at h
  split at h
  · split at h <;> cases h
  · split at h <;> cases h
  · cases h
end
end DL

set_option autoImplicit false
set_option Elab.async false
set_option linter.all false
set_option maxRecDepth 100000
/-! DL: comprehensions; stores into what a name owns. -/
namespace DL
open PySem PySem.Spec PyProof.Rows L2

/-! ### comprehensions -/
def compL (g : DTg) (vs : List Nat) (mc : MT) (me : ME) : List D → List D → DEnv → Out (Nat × D)
  | [], acc, e => .ok (1, .lst acc) e
  | d :: ds, acc, e => match g d e with
    | none => .stuck
    | some e1 => match mc e1 with
      | .ok b e2 => if b = true then (match me e2 with
          | .ok r e3 => if acc.length < 16777216 then compL g vs mc me ds (acc ++ [r.2]) (wipeD vs e3) else .stuck
          | _ => .stuck) else compL g vs mc me ds acc (wipeD vs e2)
      | _ => .stuck
def mComp (vs : List Nat) (g : DTg) (mi : MI) (mc : MT) (me : ME) : ME := fun env => (mi env).bind fun ds e => compL g vs mc me ds [] (wipeD vs e)
def mYes : MT := fun env => .ok true env
def DTs (X : Cx) (W : WX) (m : MT) (es : List Expr) : Prop := PTs X es (tT X.K X.mg W m)
section
variable {X : Cx} {W : WX}
theorem PTs.to {X : Cx} {e : List Expr} {t t' : TT} (h : PTs X e t) (i : ∀ σ H Q, t' σ H Q → t σ H Q) : PTs X e t' := ⟨fun pins s σ H Q I q => h.run pins s σ H Q I (i σ H Q q)⟩
theorem dts_nil : DTs X W mYes [] := PTs.to pts_nil fun σ H Q ⟨G, F, env, fp, s, q⟩ => q F H fp s .refl
theorem dts_one {c : Expr} {m : MT} (h : DT X W m c) : DTs X W m [c] := pts_one h
/-- a target in a block -/
def DGB (X : Cx) (A : List Nat) (g : DTg) (tg : Expr) (scope : Scope) : Prop := ∃ t : TG, (∀ (s : Shared) (H : Hp) (C : Addr) (cl : List (Str × Addr)) (fp : List Addr), PG (X.blk s H scope (compEnvC scope cl C X.env) fp) tg t) ∧
  ∀ (G F H : Hp) (σ : L2.St) (env : DEnv) (fp : Fp) (d : D) (v : V) (e' : DEnv), SS X.K G F H σ env fp → Rep X.K F d v → g d env = some e' →
  ∀ Q : L2.St → Hp → Prop, (∀ σ' fp', Agree A σ σ' → SS X.K G F H σ' e' fp' → Q σ' H) → t v σ H Q
theorem dgb_name {i : Nat} {x : Str} {pos : Pos} {scope : Scope} (h : ∀ (s : Shared) (H : Hp) (C : Addr) (cl : List (Str × Addr)) (fp : List Addr), PG (X.blk s H scope (compEnvC scope cl C X.env) fp) (.Name x pos) (gName i)) : DGB X [i] (gN i) (.Name x pos) scope :=
  ⟨gName i, h, fun G F H σ env fp d v e' s r h Q q => by
    cases h
    exact q _ _ (Agree.set σ i _) ((SV.of_rep s r).put i)⟩
def gNames : List Nat → TGs
  | [] => gNil
  | i :: is => gCons (gName i) (gNames is)
theorem gNames_ok {K : PySem.W.Frag} : ∀ (is : List Nat) (G F H : Hp) (σ : L2.St) (env : DEnv) (fp : Fp) (ds : List D) (vs : List V) (e' : DEnv), SS K G F H σ env fp → Reps K F ds vs → setAll is ds env = some e' →
    ∀ Q : L2.St → Hp → Prop, (∀ σ' fp', Agree is σ σ' → SS K G F H σ' e' fp' → Q σ' H) → gNames is vs σ H Q
  | [], G, F, H, σ, env, fp, ds, vs, e', s, r, h, Q, q => by
    cases r with
    | nil => cases h; exact ⟨rfl, q σ fp (Agree.refl _ _) s⟩
    | cons _ _ => cases h
  | i :: is, G, F, H, σ, env, fp, ds, vs, e', s, r, h, Q, q => by
    cases r with
    | nil => cases h
    | cons r1 rs =>
      refine ⟨_, _, rfl, ?_⟩
      refine gNames_ok is G F H _ _ _ _ _ e' ((SV.of_rep s r1).put i) rs h Q fun σ' fp' a s' => q σ' fp' ?_ s'
      exact (Agree.set σ i _).trans a (fun j hj => by rw [List.mem_singleton.mp hj]; exact List.mem_cons_self) fun j hj => List.mem_cons_of_mem _ hj
theorem dgb_tup {is : List Nat} {tgs : List Expr} {pos : Pos} {k : Nat} {scope : Scope} (h : ∀ (s : Shared) (H : Hp) (C : Addr) (cl : List (Str × Addr)) (fp : List Addr), PG (X.blk s H scope (compEnvC scope cl C X.env) fp) (.Tuple tgs k pos) (gTup X.K is.length (gNames is))) : DGB X is (gT is) (.Tuple tgs k pos) scope :=
  ⟨_, h, fun G F H σ env fp d v e' s r h Q q => by
    unfold gT at h
    cases d <;> first | cases h | skip
    obtain ⟨a, vs, rfl, hs, hr⟩ := Rep.tup_inv r
    exact ⟨a, vs, rfl, SqT.mono s.sf hs, by rw [← hr.length]; exact setAll_len _ _ _ _ h, gNames_ok is G F H σ env fp _ _ e' s hr h Q q⟩⟩
end
theorem wipe_get {σ : L2.St} {i : Nat} : ∀ (vs : List Nat), i ∈ vs → i < σ.length → (wipe σ vs)[i]? = some none
  | v :: vs, h, hl => by
    unfold wipe
    by_cases hv : v = i
    · subst hv; rw [List.getElem?_set_self (by rw [wipe_length]; exact hl)]
    · rw [List.getElem?_set_ne hv]
      rcases List.mem_cons.mp h with e | e
      · exact absurd e.symm hv
      · exact wipe_get vs e hl
theorem wipe_agree {σ σ2 : L2.St} {A vs : List Nat} (a : Agree A (wipe σ vs) σ2) (h : ∀ i ∈ A, i ∈ vs) : wipe σ2 vs = wipe σ vs := by
  have hl : σ2.length = σ.length := by rw [a.1, wipe_length]
  apply List.ext_getElem?
  intro i
  by_cases hi : i ∈ vs
  · by_cases hlt : i < σ.length
    · rw [wipe_get vs hi hlt, wipe_get vs hi (by rw [hl]; exact hlt)]
    · rw [List.getElem?_eq_none (by rw [wipe_length, hl]; omega), List.getElem?_eq_none (by rw [wipe_length]; omega)]
  · rw [wipe_out' hi, a.2 i fun z => hi (h i z)]
where
  wipe_out' {σ : L2.St} {i : Nat} {vs : List Nat} (h : i ∉ vs) : (wipe σ vs)[i]? = σ[i]? := by
    induction vs with
    | nil => rfl
    | cons v vs ih =>
      simp only [List.mem_cons, not_or] at h
      unfold wipe
      rw [List.getElem?_set_ne (Ne.symm h.1), ih h.2]
section
variable {K : PySem.W.Frag} {mg : Str → Option Value} {G F H : Hp} {σ : L2.St} {env : DEnv} {fp : Fp}
theorem SS.drop2 (i : Nat) (s : SS K G F H σ env fp) : SS K G F H (σ.set i none) (env.set i none) (fun j a => j ≠ i ∧ fp j a) :=
  { s.drop i with
    len := by rw [List.length_set, List.length_set]; exact s.len
    slot := fun j n d q => by
      obtain ⟨v, h1, h2⟩ := (s.drop i).slot j n d q
      refine ⟨v, ?_, h2⟩
      by_cases h : i = j
      · subst h
        by_cases hl : i < env.length
        · rw [List.getElem?_set_self hl] at q; cases q
        · rw [List.getElem?_eq_none (by simpa using hl)] at q; cases q
      · rw [List.getElem?_set_ne h]; exact h1 }
theorem SS.wipe2 : ∀ (js : List Nat), SS K G F H σ env fp → ∃ fp', SS K G F H (L2.wipe σ js) (wipeD js env) fp'
  | [], s => ⟨_, s⟩
  | j :: js, s => let ⟨_, s'⟩ := SS.wipe2 js s; ⟨_, s'.drop2 j⟩
theorem SS.unwipe {vs : List Nat} (s : SS K G F H (L2.wipe σ vs) env fp) : SS K G F H σ env fp :=
  { s with
    len := by rw [s.len, wipe_length]
    slot := fun j n d q => by
      obtain ⟨v, h1, h2⟩ := s.slot j n d q
      exact ⟨v, (wipe_some h1).1, h2⟩ }
/-- a new object stands aside -/
theorem SS.aside {p : Addr} {o : HO} (s : SS K G F H σ env fp) (hp : H p = none) : SS K (upd G p o) F (upd H p o) σ env fp where
  len := s.len
  slot := fun i n d q => by
    obtain ⟨v, h1, h2⟩ := s.slot i n d q
    exact ⟨v, h1, h2.imp (Same.refl _) (fun _ z => z) fun a u z e => by rw [upd_ne (ne_of_none e hp)]; exact e⟩
  dis := s.dis
  ld := fun i a z => by
    rw [upd_ne (fun e => (s.ld i a z).some (by rw [e]; exact hp))]
    exact s.ld i a z
  nf := s.nf
  ng := fun i a z => by
    rw [upd_ne (fun e => (s.ld i a z).some (by rw [e]; exact hp))]
    exact s.ng i a z
  sf := same_upd2 s.sf (s.sf.free hp)
  sg := fun a u e => by
    by_cases h : a = p
    · subst h; rw [upd_same] at e ⊢; exact e
    · rw [upd_ne h] at e ⊢; exact s.sg _ _ e
/-- .. and is written -/
theorem SS.rewrite {p : Addr} {o o' : HO} (s : SS K (upd G p o) F H σ env fp) (hf : F p = none) : SS K (upd G p o') F (upd H p o') σ env fp := by
  have ne : ∀ i a, fp i a → a ≠ p := fun i a z e => by
    have := s.ng i a z
    rw [e, upd_same] at this; cases this
  exact
  { len := s.len
    slot := fun i n d q => by
      obtain ⟨v, h1, h2⟩ := s.slot i n d q
      exact ⟨v, h1, h2.imp (Same.refl _) (fun _ z => z) fun a u z e => by rw [upd_ne (ne i a z)]; exact e⟩
    dis := s.dis
    ld := fun i a z => by rw [upd_ne (ne i a z)]; exact s.ld i a z
    nf := s.nf
    ng := fun i a z => by
      have := s.ng i a z
      rw [upd_ne (ne i a z)] at this ⊢; exact this
    sf := fun a u e => by
      rw [upd_ne (fun z => by rw [z, hf] at e; cases e)]; exact s.sf _ _ e
    sg := fun a u e => by
      by_cases h : a = p
      · subst h; rw [upd_same] at e ⊢; exact e
      · rw [upd_ne h] at e ⊢
        exact s.sg a u (by rw [upd_ne h]; exact e) }
end
section
variable {X : Cx} {W : WX}
theorem comp_core {tg : Expr} {scope : Scope} {own : List (Str × Nat)} {mi : MI} {mc : MT} {me : ME} {g : DTg} {t : TG} {As : List Nat} {σ : L2.St} {H : Hp} {Q : VK} (hA : ∀ i ∈ As, i ∈ own.map (·.2))
    (hgq : ∀ (G F H : Hp) (σ : L2.St) (env : DEnv) (fp : Fp) (d : D) (v : V) (e' : DEnv), SS X.K G F H σ env fp → Rep X.K F d v → g d env = some e' →
      ∀ Q : L2.St → Hp → Prop, (∀ σ' fp', Agree As σ σ' → SS X.K G F H σ' e' fp' → Q σ' H) → t v σ H Q)
    (hh : tE X.K X.mg W (mComp (own.map (·.2)) g mi mc me) σ H Q) : L2.tLc (tI X.K X.mg W mi) t (tT X.K X.mg W0 mc) (tE X.K X.mg W0 me) (own.map (·.2)) σ H Q := by
  obtain ⟨G, F, env, fp, s, h⟩ := hh
  refine ⟨G, F, env, fp, s, RG.imp h.bind .refl fun ds e p J F' H' fp' s' fe wk Da hDa => ?_⟩
  generalize hvs : own.map (·.2) = vs at *
  have gDa : G Da = none := s'.sg.free hDa
  have fDa : F' Da = none := s'.sf.free hDa
  refine ⟨fun i m H => m = ds.length - i ∧ i ≤ ds.length ∧ ∃ F1 e1 fp1 acc accV, H Da = some (.lst accV) ∧ Reps X.K F1 acc accV ∧ SS X.K (upd G Da (.lst accV)) F1 H (L2.wipe σ vs) e1 fp1 ∧ FrExt G F F1 ∧ Same F' F1 ∧ F1 Da = none ∧
      RG X.K X.mg W G F σ (PV X.K G F σ Q) (compL g vs mc me (ds.drop i) acc e1), ?_, ?_⟩
  · obtain ⟨fpw, sw⟩ := (s'.aside (o := .lst []) hDa).wipe2 vs
    exact ⟨ds.length, by simp, Nat.zero_le _, F', _, fpw, [], [], upd_same, .nil, sw, fe, Same.refl _, fDa, by simpa using p⟩
  rintro i m H1 ⟨rfl, hi, F1, e1, fp1, acc, accV, hD, ra, s1, fe1, sf1, f1Da, q⟩
  by_cases hlt : i < ds.length
  · refine .inr ⟨wk.go i H1 F1 sf1 s1.sf hlt, fun H => i + 1 ≤ ds.length ∧ ∃ F1 e1 fp1 acc accV, H Da = some (.lst accV) ∧ Reps X.K F1 acc accV ∧ SS X.K (upd G Da (.lst accV)) F1 H (L2.wipe σ vs) e1 fp1 ∧ FrExt G F F1 ∧ Same F' F1 ∧ F1 Da = none ∧
      RG X.K X.mg W G F σ (PV X.K G F σ Q) (compL g vs mc me (ds.drop (i + 1)) acc e1), fun H' p' => ⟨ds.length - (i + 1), by omega, rfl, p'⟩, fun x H2 y => ?_⟩
    obtain ⟨d, F3, hd, nv⟩ := wk.yld i H1 x H2 F1 sf1 s1.sf hlt y
    rw [List.drop_eq_getElem_cons hlt] at q
    have ed : ds[i] = d := by rw [List.getElem?_eq_getElem hlt] at hd; exact Option.some.inj hd
    rw [ed] at q
    unfold compL at q
    obtain ⟨sv, f3⟩ := s1.new nv
    have gD : (upd G Da (.lst accV)) Da ≠ none := by rw [upd_same]; simp
    have gOf : ∀ {A B : Hp}, FrExt (upd G Da (.lst accV)) A B → A Da = none → FrExt G A B := fun fx ha => ⟨fx.same, fun a h e => fx.out a (by
      rw [upd_ne (fun z => h (by rw [z]; exact gDa))]; exact h) e⟩
    have f3Da : F3 Da = none := f3.out Da gD f1Da
    cases eg : g d e1 with
    | none => rw [eg] at q; exact q.elim
    | some e2 =>
      rw [eg] at q
      dsimp only at q
      cases ec : mc e2 with
      | stuck => rw [ec] at q; exact q.elim
      | exc _ _ => rw [ec] at q; exact q.elim
      | ok b e3 =>
        rw [ec] at q
        dsimp only at q
        refine hgq _ F3 H2 _ e1 fp1 d x e2 sv.ss sv.val eg _ fun σ2 fp2 a2 s2 => ⟨wipe_agree a2 hA, ?_⟩
        have hw : L2.wipe σ2 vs = L2.wipe σ vs := wipe_agree a2 hA
        refine tT.of (P := fun b' e' => b' = b ∧ e' = e3) s2 (by show RG _ _ _ _ _ _ _ (mc e2); rw [ec]; exact ⟨rfl, rfl⟩) fun b' e' F4 H4 fp4 pe s4 fe4 => ?_
        obtain ⟨rfl, rfl⟩ := pe
        have f4Da : F4 Da = none := fe4.out Da gD f3Da
        have f14 : FrExt G F F4 := (fe1.trans (gOf f3 f1Da)).trans (gOf fe4 f3Da)
        have sf4 : Same F' F4 := (sf1.trans f3.same).trans fe4.same
        have ra4 : Reps X.K F4 acc accV := ra.mono (f3.same.trans fe4.same)
        have hD4 : H4 Da = some (.lst accV) := s4.sg _ _ upd_same
        cases b' with
        | false =>
          simp only [Bool.false_eq_true, if_false] at q ⊢
          obtain ⟨fpw, sw⟩ := s4.wipe2 vs
          rw [hw] at sw
          exact ⟨hlt, F4, _, fpw, acc, accV, hD4, ra4, sw, f14, sf4, f4Da, q⟩
        | true =>
          simp only [if_true] at q ⊢
          cases em : me e' with
          | stuck => rw [em] at q; exact q.elim
          | exc _ _ => rw [em] at q; exact q.elim
          | ok r e5 =>
            rw [em] at q
            dsimp only at q
            split at q
            · rename_i hlen
              refine tE.of (P := fun r' e' => r' = r ∧ e' = e5) s4 (by show RG _ _ _ _ _ _ _ (me e'); rw [em]; exact ⟨rfl, rfl⟩) fun r' e6 F5 H5 fp5 v5 pe s5 rep5 fe5 => ?_
              obtain ⟨rfl, rfl⟩ := pe
              have f5Da : F5 Da = none := fe5.out Da gD f4Da
              obtain ⟨fpw, sw⟩ := (s5.rewrite (o' := .lst (accV ++ [v5])) f5Da).wipe2 vs
              rw [hw] at sw
              exact ⟨accV, s5.sg _ _ upd_same, by rw [← ra.length, sizeLine_eq]; exact hlen, hlt, F5, _, fpw, acc ++ [r'.2], accV ++ [v5], upd_same, (ra4.mono fe5.same).append (.cons rep5 .nil), sw, f14.trans (gOf fe5 f4Da), sf4.trans fe5.same, f5Da, q⟩
            · exact q.elim
  · have e : i = ds.length := by omega
    subst e
    refine .inl ⟨wk.stop H1 F1 sf1 s1.sf, ?_⟩
    rw [List.drop_length] at q
    have su := s1.unwipe
    have gle : ∀ a, (upd G Da (.lst accV)) a = none → G a = none := fun a e => by
      by_cases h : a = Da
      · rw [h]; exact gDa
      · rw [upd_ne h] at e; exact e
    refine q (.ref Da) F1 H1 fp1 (fun a => a = Da) ⟨{ su with ng := fun i a z => gle a (su.ng i a z), sg := fun a o e => su.sg a o (by rw [upd_ne (ne_of_none e gDa)]; exact e) }, ⟨Da, accV, rfl, rfl, hD, RepA.of_reps ra⟩, fun a z => ?_, fun a z => ?_, fun a z => ?_, fun i a z w => ?_⟩ fe1
    · subst z; rw [hD]; trivial
    · subst z; exact f1Da
    · subst z; exact gDa
    · subst z
      have := su.ng i a w
      rw [upd_same] at this; cases this
theorem de_comp {elt tg iter : Expr} {ifs : List Expr} {scope : Scope} {own : List (Str × Nat)} {pos : Pos} {mi : MI} {mc : MT} {me : ME} {g : DTg} {As : List Nat} (hc : X.calm = true) (hN : X.N.Nodup) (hi : DI X W mi tg iter) (ok : BlkOk X.N X.env.scope scope own) (hg : DGB X As g tg scope) (hA : ∀ i ∈ As, i ∈ own.map (·.2))
    (ht : ∀ (s : Shared) (H : Hp) (C : Addr) (cl : List (Str × Addr)) (fp : List Addr), DTs (X.blk s H scope (compEnvC scope cl C X.env) fp) W0 mc ifs) (he : ∀ (s : Shared) (H : Hp) (C : Addr) (cl : List (Str × Addr)) (fp : List Addr), DE (X.blk s H scope (compEnvC scope cl C X.env) fp) W0 me elt)
    (hs : ∀ x, foldedSetIterable iter X.env x = pure x := by intro _; rfl) : DE X W (mComp (own.map (·.2)) g mi mc me) (.ListComp elt [⟨tg, iter, ifs, 0⟩] scope pos) := by
  obtain ⟨t, ht1, hgq⟩ := hg
  exact PE.to (pe_lc (wi := tI X.K X.mg W mi) (g := t) (tt := tT X.K X.mg W0 mc) (te := tE X.K X.mg W0 me) hc hN hi ok ht1 ht he hs) fun σ H Q h => comp_core (tg := tg) (scope := scope) hA hgq h
end
end DL

set_option autoImplicit false
set_option Elab.async false
set_option linter.all false
set_option maxRecDepth 100000
/-! DL: == of trees. -/
namespace DL
open PySem PySem.Spec PyProof.Rows L2

mutual
def eqv : D → D → Bool
  | .non, .non => true
  | .bl a, .bl b => a == b
  | .bl a, .int j => (if a then 1 else 0) == j
  | .int i, .bl b => i == (if b then 1 else 0)
  | .int i, .int j => i == j
  | .str x, .str y => x == y
  | .lst xs, .lst ys => eqvs xs ys
  | .tup xs, .tup ys => eqvs xs ys
  | _, _ => false
def eqvs : List D → List D → Bool
  | [], [] => true
  | x :: xs, y :: ys => eqv x y && eqvs xs ys
  | _, _ => false
end
def okN : Nat → D → Bool
  | _, .non => true
  | _, .bl _ => true
  | _, .int _ => true
  | _, .str _ => true
  | n + 1, .lst ds => ds.all (okN n)
  | n + 1, .tup ds => ds.all (okN n)
  | _, _ => false
abbrev pairE (xs ys : List D) (j : Nat) : Bool := eqv (xs.getD j .non) (ys.getD j .non)
theorem eqvs_all : ∀ xs ys : List D, ((List.range (min xs.length ys.length)).all (pairE xs ys) && xs.length == ys.length) = eqvs xs ys
  | [], [] => by simp [eqvs]
  | [], _ :: _ => by simp [eqvs]
  | _ :: _, [] => by simp [eqvs]
  | x :: xs, y :: ys => by
    have ih := eqvs_all xs ys
    have e1 : min (x :: xs).length (y :: ys).length = min xs.length ys.length + 1 := by simp only [List.length_cons]; omega
    have e2 : ((x :: xs).length == (y :: ys).length) = (xs.length == ys.length) := by simp
    have e3 : (List.range (min xs.length ys.length + 1)).all (pairE (x :: xs) (y :: ys)) = (eqv x y && (List.range (min xs.length ys.length)).all (pairE xs ys)) := by
      rw [List.range_succ_eq_map, List.all_cons, List.all_map]
      first | rfl | simp [pairE, Function.comp_def]
    rw [e1, e2, e3, eqvs, ← ih, Bool.and_assoc]
theorem eqvs_same {xs ys : List D} (h : xs.length = ys.length) : (List.range xs.length).all (pairE xs ys) = eqvs xs ys := by
  have := eqvs_all xs ys
  rw [← h, Nat.min_self] at this
  simpa using this
theorem eqvs_other {xs ys : List D} (h : xs.length ≠ ys.length) : eqvs xs ys = false := by
  rw [← eqvs_all xs ys]
  simp [h]
theorem okN_list {n : Nat} {xs : List D} (h : okN (n + 1) (.lst xs) = true) : ∀ d ∈ xs, okN n d = true := by
  simp only [okN] at h
  exact fun d hd => List.all_eq_true.mp h d hd
theorem okN_tuple {n : Nat} {xs : List D} (h : okN (n + 1) (.tup xs) = true) : ∀ d ∈ xs, okN n d = true := by
  simp only [okN] at h
  exact fun d hd => List.all_eq_true.mp h d hd
theorem eqvs_refl : ∀ (xs : List D), (∀ d ∈ xs, eqv d d = true) → eqvs xs xs = true
  | [], _ => by simp [eqvs]
  | x :: xs, h => by
    rw [eqvs, h x List.mem_cons_self, eqvs_refl xs fun d hd => h d (List.mem_cons_of_mem _ hd)]; rfl
theorem eqv_refl : ∀ (n : Nat) (d : D), okN n d = true → eqv d d = true
  | _, .non, _ => by simp [eqv]
  | _, .bl b, _ => by simp [eqv]
  | _, .int i, _ => by simp [eqv]
  | _, .str x, _ => by simp [eqv]
  | n + 1, .lst ds, h => by rw [eqv]; exact eqvs_refl ds fun d hd => eqv_refl n d (okN_list h d hd)
  | n + 1, .tup ds, h => by rw [eqv]; exact eqvs_refl ds fun d hd => eqv_refl n d (okN_tuple h d hd)
  | 0, .lst _, h => by simp [okN] at h
  | 0, .tup _, h => by simp [okN] at h
  | 0, .dK _, h => by simp [okN] at h
  | 0, .ty _, h => by simp [okN] at h
  | n + 1, .ty _, h => by simp [okN] at h
  | 0, .scr _, h => by simp [okN] at h
  | n + 1, .scr _, h => by simp [okN] at h
  | 0, .dT _, h => by simp [okN] at h
  | n + 1, .dK _, h => by simp [okN] at h
  | n + 1, .dT _, h => by simp [okN] at h
section
variable {X : Cx} {pins : List (Addr × Obj)} {σ : L2.St} {H : Hp} {s : Shared}
theorem not_both (I : Inv X pins σ H s) {a : Addr} {xs ys : List V} (h : SqL X.K H a xs) (h' : SqT X.K H a ys) : False := by
  obtain ⟨its, _, ⟨o, n, e, c, _, _⟩, _⟩ := I.list h
  obtain ⟨its2, _, ⟨o2, e2, c2, _⟩, _⟩ := I.tuple h'
  rw [e] at e2; cases e2
  rw [c] at c2
  injection c2 with c2
  exact absurd c2 (by decide)
theorem reps_uniq {n : Nat} (ih : ∀ (d d' : D) (v : V), okN n d = true → okN n d' = true → Rep X.K H d v → Rep X.K H d' v → d = d') : ∀ {xs ys : List D} {vs : List V}, (∀ d ∈ xs, okN n d = true) → (∀ d ∈ ys, okN n d = true) → Reps X.K H xs vs → Reps X.K H ys vs → xs = ys
  | _, _, _, _, _, .nil, .nil => rfl
  | _, _, _, h, h', .cons r t, .cons r' t' => by
    rw [ih _ _ _ (h _ List.mem_cons_self) (h' _ List.mem_cons_self) r r', reps_uniq ih (fun d hd => h d (List.mem_cons_of_mem _ hd)) (fun d hd => h' d (List.mem_cons_of_mem _ hd)) t t']
theorem rep_uniq (I : Inv X pins σ H s) : ∀ (n : Nat) (d d' : D) (v : V), okN n d = true → okN n d' = true → Rep X.K H d v → Rep X.K H d' v → d = d' := by
  intro n
  induction n with
  | zero =>
    intro d d' v o o' r r'
    cases d <;> simp [okN] at o <;> cases d' <;> simp [okN] at o' <;> cases r <;> cases r' <;> rfl
  | succ n ih =>
    intro d d' v o o' r r'
    cases r with
    | non => cases r'; rfl
    | bl _ => cases r'; rfl
    | int _ => cases r'; rfl
    | str _ => cases r'; rfl
    | dK _ _ _ => simp [okN] at o
    | ty _ => simp [okN] at o
    | scr _ _ => simp [okN] at o
    | dT _ _ _ => simp [okN] at o
    | lst h hr =>
      cases r' with
      | lst h' hr' =>
        rw [I.list_inj (SqL.of h) (SqL.of h')] at hr
        rw [reps_uniq ih (okN_list o) (okN_list o') hr hr']
      | tup h' hr' => exact (not_both I (SqL.of h) (SqT.of h')).elim
      | tupK h' _ hr' => exact (not_both I (SqL.of h) h').elim
      | dK _ _ _ => simp [okN] at o'
      | scr _ _ => simp [okN] at o'
      | dT _ _ _ => simp [okN] at o'
    | tup h hr =>
      cases r' with
      | lst h' hr' => exact (not_both I (SqL.of h') (SqT.of h)).elim
      | tup h' hr' =>
        rw [I.tuple_inj (SqT.of h) (SqT.of h')] at hr
        rw [reps_uniq ih (okN_tuple o) (okN_tuple o') hr hr']
      | tupK h' _ hr' =>
        rw [I.tuple_inj (SqT.of h) h'] at hr
        rw [reps_uniq ih (okN_tuple o) (okN_tuple o') hr hr']
      | dK _ _ _ => simp [okN] at o'
      | scr _ _ => simp [okN] at o'
      | dT _ _ _ => simp [okN] at o'
    | tupK h _ hr =>
      cases r' with
      | lst h' hr' => exact (not_both I (SqL.of h') h).elim
      | tup h' hr' =>
        rw [I.tuple_inj h (SqT.of h')] at hr
        rw [reps_uniq ih (okN_tuple o) (okN_tuple o') hr hr']
      | tupK h' _ hr' =>
        rw [I.tuple_inj h h'] at hr
        rw [reps_uniq ih (okN_tuple o) (okN_tuple o') hr hr']
      | dK _ _ _ => simp [okN] at o'
      | scr _ _ => simp [okN] at o'
      | dT _ _ _ => simp [okN] at o'
theorem items_at {A : Around} {n : Nat} (ih : ∀ (d1 d2 : D) (v1 v2 : V) (u1 u2 : Value), okN n d1 = true → okN n d2 = true → Rep X.K H d1 v1 → Rep X.K H d2 v2 → RelV v1 u1 → RelV v2 u2 → SeqAt.EqAt A s u1 u2 (eqv d1 d2)) :
    ∀ {xs ys : List D} {vs ws : List V} {us zs : List Value}, Reps X.K H xs vs → Reps X.K H ys ws → Vals vs us → Vals ws zs → (∀ d ∈ xs, okN n d = true) → (∀ d ∈ ys, okN n d = true) → ∀ (j : Nat) (h1 : j < us.length) (h2 : j < zs.length), SeqAt.EqAt A s us[j] zs[j] (pairE xs ys j)
  | _, _, _, _, _, _, .nil, _, r, _, _, _, j, h1, _ => by cases r; exact absurd h1 (Nat.not_lt_zero _)
  | _, _, _, _, _, _, .cons _ _, .nil, _, r, _, _, j, _, h2 => by cases r; exact absurd h2 (Nat.not_lt_zero _)
  | _, _, _, _, _, _, .cons a as, .cons b bs, .cons r rs, .cons q qs, o1, o2, 0, _, _ => ih _ _ _ _ _ _ (o1 _ List.mem_cons_self) (o2 _ List.mem_cons_self) a b r q
  | _, _, _, _, _, _, .cons a as, .cons b bs, .cons r rs, .cons q qs, o1, o2, j + 1, h1, h2 => items_at ih as bs rs qs (fun d hd => o1 d (List.mem_cons_of_mem _ hd)) (fun d hd => o2 d (List.mem_cons_of_mem _ hd)) j (Nat.lt_of_succ_lt_succ h1) (Nat.lt_of_succ_lt_succ h2)

abbrev EqIh (X : Cx) (H : Hp) (s : Shared) (n : Nat) : Prop := ∀ (A : Around) (d1 d2 : D) (v1 v2 : V) (u1 u2 : Value), okN n d1 = true → okN n d2 = true → Rep X.K H d1 v1 → Rep X.K H d2 v2 → RelV v1 u1 → RelV v2 u2 → A.units + n < cLine → SeqAt.EqAt A s u1 u2 (eqv d1 d2)
theorem eqAt_step (I : Inv X pins σ H s) {n : Nat} (ih : EqIh X H s n) {A : Around} : ∀ (d1 d2 : D) (v1 v2 : V) (u1 u2 : Value), okN (n + 1) d1 = true → okN (n + 1) d2 = true → Rep X.K H d1 v1 → Rep X.K H d2 v2 → RelV v1 u1 → RelV v2 u2 → A.units + (n + 1) < cLine → SeqAt.EqAt A s u1 u2 (eqv d1 d2)
  | .non, .non, v1, v2, u1, u2, o1, o2, r1, r2, q1, q2, hu => by
    cases Rep.non_inv r1
    cases q1
    cases Rep.non_inv r2
    cases q2
    exact SeqAt.EqAt.same _
  | .non, .bl y, v1, v2, u1, u2, o1, o2, r1, r2, q1, q2, hu => by
    cases Rep.non_inv r1
    cases q1
    cases Rep.bl_inv r2
    cases q2
    exact (by simp only [eqv, Bool.not_false]; exact SeqAt.EqAt.none_bool y)
  | .non, .int y, v1, v2, u1, u2, o1, o2, r1, r2, q1, q2, hu => by
    cases Rep.non_inv r1
    cases q1
    cases Rep.int_inv r2
    obtain ⟨ty, rfl⟩ := q2
    exact (by simp only [eqv, Bool.not_false]; exact SeqAt.EqAt.none_int y ty)
  | .non, .str y, v1, v2, u1, u2, o1, o2, r1, r2, q1, q2, hu => by
    cases Rep.non_inv r1
    cases q1
    cases Rep.str_inv r2
    obtain ⟨ty, rfl⟩ := q2
    exact (by simp only [eqv, Bool.not_false]; exact SeqAt.EqAt.none_str y ty)
  | .non, .lst y, v1, v2, u1, u2, o1, o2, r1, r2, q1, q2, hu => by
    cases Rep.non_inv r1
    cases q1
    obtain ⟨ay, vsy, rfl, sy, rsy⟩ := Rep.lst_inv r2
    cases q2
    obtain ⟨itsy, rvy, ply, _⟩ := I.list sy
    have hy := ply.isList
    have hu0 : A.units < cLine := by omega
    exact (by simp only [eqv, Bool.not_false]; exact SeqAt.EqAt.none_list  hy hu0)
  | .non, .tup y, v1, v2, u1, u2, o1, o2, r1, r2, q1, q2, hu => by
    cases Rep.non_inv r1
    cases q1
    obtain ⟨ay, vsy, rfl, sy, rsy⟩ := Rep.tup_inv r2
    cases q2
    obtain ⟨itsy, rvy, ply, _⟩ := I.tuple sy
    have hy : s.heap.IsTuple ay itsy.toArray := ply
    have hu0 : A.units < cLine := by omega
    exact (by simp only [eqv, Bool.not_false]; exact SeqAt.EqAt.none_tuple  hy hu0)
  | .bl x, .non, v1, v2, u1, u2, o1, o2, r1, r2, q1, q2, hu => by
    cases Rep.bl_inv r1
    cases q1
    cases Rep.non_inv r2
    cases q2
    exact (by simp only [eqv, Bool.not_false]; exact SeqAt.EqAt.bool_none x)
  | .bl x, .bl y, v1, v2, u1, u2, o1, o2, r1, r2, q1, q2, hu => by
    cases Rep.bl_inv r1
    cases q1
    cases Rep.bl_inv r2
    cases q2
    exact (by simp only [eqv]; exact SeqAt.EqAt.bool_bool x y)
  | .bl x, .int y, v1, v2, u1, u2, o1, o2, r1, r2, q1, q2, hu => by
    cases Rep.bl_inv r1
    cases q1
    cases Rep.int_inv r2
    obtain ⟨ty, rfl⟩ := q2
    exact (by simp only [eqv, Bool.not_false]; exact SeqAt.EqAt.bool_int x y ty)
  | .bl x, .str y, v1, v2, u1, u2, o1, o2, r1, r2, q1, q2, hu => by
    cases Rep.bl_inv r1
    cases q1
    cases Rep.str_inv r2
    obtain ⟨ty, rfl⟩ := q2
    exact (by simp only [eqv, Bool.not_false]; exact SeqAt.EqAt.bool_str x y ty)
  | .bl x, .lst y, v1, v2, u1, u2, o1, o2, r1, r2, q1, q2, hu => by
    cases Rep.bl_inv r1
    cases q1
    obtain ⟨ay, vsy, rfl, sy, rsy⟩ := Rep.lst_inv r2
    cases q2
    obtain ⟨itsy, rvy, ply, _⟩ := I.list sy
    have hy := ply.isList
    have hu0 : A.units < cLine := by omega
    exact (by simp only [eqv, Bool.not_false]; exact SeqAt.EqAt.bool_list x hy hu0)
  | .bl x, .tup y, v1, v2, u1, u2, o1, o2, r1, r2, q1, q2, hu => by
    cases Rep.bl_inv r1
    cases q1
    obtain ⟨ay, vsy, rfl, sy, rsy⟩ := Rep.tup_inv r2
    cases q2
    obtain ⟨itsy, rvy, ply, _⟩ := I.tuple sy
    have hy : s.heap.IsTuple ay itsy.toArray := ply
    have hu0 : A.units < cLine := by omega
    exact (by simp only [eqv, Bool.not_false]; exact SeqAt.EqAt.bool_tuple x hy hu0)
  | .int x, .non, v1, v2, u1, u2, o1, o2, r1, r2, q1, q2, hu => by
    cases Rep.int_inv r1
    obtain ⟨tx, rfl⟩ := q1
    cases Rep.non_inv r2
    cases q2
    exact (by simp only [eqv, Bool.not_false]; exact SeqAt.EqAt.int_none x tx)
  | .int x, .bl y, v1, v2, u1, u2, o1, o2, r1, r2, q1, q2, hu => by
    cases Rep.int_inv r1
    obtain ⟨tx, rfl⟩ := q1
    cases Rep.bl_inv r2
    cases q2
    exact (by simp only [eqv, Bool.not_false]; exact SeqAt.EqAt.int_bool x tx y)
  | .int x, .int y, v1, v2, u1, u2, o1, o2, r1, r2, q1, q2, hu => by
    cases Rep.int_inv r1
    obtain ⟨tx, rfl⟩ := q1
    cases Rep.int_inv r2
    obtain ⟨ty, rfl⟩ := q2
    exact (by simp only [eqv]; exact SeqAt.EqAt.int_int x tx y ty)
  | .int x, .str y, v1, v2, u1, u2, o1, o2, r1, r2, q1, q2, hu => by
    cases Rep.int_inv r1
    obtain ⟨tx, rfl⟩ := q1
    cases Rep.str_inv r2
    obtain ⟨ty, rfl⟩ := q2
    exact (by simp only [eqv, Bool.not_false]; exact SeqAt.EqAt.int_str x tx y ty)
  | .int x, .lst y, v1, v2, u1, u2, o1, o2, r1, r2, q1, q2, hu => by
    cases Rep.int_inv r1
    obtain ⟨tx, rfl⟩ := q1
    obtain ⟨ay, vsy, rfl, sy, rsy⟩ := Rep.lst_inv r2
    cases q2
    obtain ⟨itsy, rvy, ply, _⟩ := I.list sy
    have hy := ply.isList
    have hu0 : A.units < cLine := by omega
    exact (by simp only [eqv, Bool.not_false]; exact SeqAt.EqAt.int_list x tx hy hu0)
  | .int x, .tup y, v1, v2, u1, u2, o1, o2, r1, r2, q1, q2, hu => by
    cases Rep.int_inv r1
    obtain ⟨tx, rfl⟩ := q1
    obtain ⟨ay, vsy, rfl, sy, rsy⟩ := Rep.tup_inv r2
    cases q2
    obtain ⟨itsy, rvy, ply, _⟩ := I.tuple sy
    have hy : s.heap.IsTuple ay itsy.toArray := ply
    have hu0 : A.units < cLine := by omega
    exact (by simp only [eqv, Bool.not_false]; exact SeqAt.EqAt.int_tuple x tx hy hu0)
  | .str x, .non, v1, v2, u1, u2, o1, o2, r1, r2, q1, q2, hu => by
    cases Rep.str_inv r1
    obtain ⟨tx, rfl⟩ := q1
    cases Rep.non_inv r2
    cases q2
    exact (by simp only [eqv, Bool.not_false]; exact SeqAt.EqAt.str_none x tx)
  | .str x, .bl y, v1, v2, u1, u2, o1, o2, r1, r2, q1, q2, hu => by
    cases Rep.str_inv r1
    obtain ⟨tx, rfl⟩ := q1
    cases Rep.bl_inv r2
    cases q2
    exact (by simp only [eqv, Bool.not_false]; exact SeqAt.EqAt.str_bool x tx y)
  | .str x, .int y, v1, v2, u1, u2, o1, o2, r1, r2, q1, q2, hu => by
    cases Rep.str_inv r1
    obtain ⟨tx, rfl⟩ := q1
    cases Rep.int_inv r2
    obtain ⟨ty, rfl⟩ := q2
    exact (by simp only [eqv, Bool.not_false]; exact SeqAt.EqAt.str_int x tx y ty)
  | .str x, .str y, v1, v2, u1, u2, o1, o2, r1, r2, q1, q2, hu => by
    cases Rep.str_inv r1
    obtain ⟨tx, rfl⟩ := q1
    cases Rep.str_inv r2
    obtain ⟨ty, rfl⟩ := q2
    exact (by simp only [eqv]; exact SeqAt.EqAt.str_str x tx y ty)
  | .str x, .lst y, v1, v2, u1, u2, o1, o2, r1, r2, q1, q2, hu => by
    cases Rep.str_inv r1
    obtain ⟨tx, rfl⟩ := q1
    obtain ⟨ay, vsy, rfl, sy, rsy⟩ := Rep.lst_inv r2
    cases q2
    obtain ⟨itsy, rvy, ply, _⟩ := I.list sy
    have hy := ply.isList
    have hu0 : A.units < cLine := by omega
    exact (by simp only [eqv, Bool.not_false]; exact SeqAt.EqAt.str_list x tx hy hu0)
  | .str x, .tup y, v1, v2, u1, u2, o1, o2, r1, r2, q1, q2, hu => by
    cases Rep.str_inv r1
    obtain ⟨tx, rfl⟩ := q1
    obtain ⟨ay, vsy, rfl, sy, rsy⟩ := Rep.tup_inv r2
    cases q2
    obtain ⟨itsy, rvy, ply, _⟩ := I.tuple sy
    have hy : s.heap.IsTuple ay itsy.toArray := ply
    have hu0 : A.units < cLine := by omega
    exact (by simp only [eqv, Bool.not_false]; exact SeqAt.EqAt.str_tuple x tx hy hu0)
  | .lst x, .non, v1, v2, u1, u2, o1, o2, r1, r2, q1, q2, hu => by
    obtain ⟨ax, vsx, rfl, sx, rsx⟩ := Rep.lst_inv r1
    cases q1
    obtain ⟨itsx, rvx, plx, _⟩ := I.list sx
    have hx := plx.isList
    cases Rep.non_inv r2
    cases q2
    have hu0 : A.units < cLine := by omega
    exact (by simp only [eqv, Bool.not_false]; exact SeqAt.EqAt.list_none  hx hu0)
  | .lst x, .bl y, v1, v2, u1, u2, o1, o2, r1, r2, q1, q2, hu => by
    obtain ⟨ax, vsx, rfl, sx, rsx⟩ := Rep.lst_inv r1
    cases q1
    obtain ⟨itsx, rvx, plx, _⟩ := I.list sx
    have hx := plx.isList
    cases Rep.bl_inv r2
    cases q2
    have hu0 : A.units < cLine := by omega
    exact (by simp only [eqv, Bool.not_false]; exact SeqAt.EqAt.list_bool y hx hu0)
  | .lst x, .int y, v1, v2, u1, u2, o1, o2, r1, r2, q1, q2, hu => by
    obtain ⟨ax, vsx, rfl, sx, rsx⟩ := Rep.lst_inv r1
    cases q1
    obtain ⟨itsx, rvx, plx, _⟩ := I.list sx
    have hx := plx.isList
    cases Rep.int_inv r2
    obtain ⟨ty, rfl⟩ := q2
    have hu0 : A.units < cLine := by omega
    exact (by simp only [eqv, Bool.not_false]; exact SeqAt.EqAt.list_int y ty hx hu0)
  | .lst x, .str y, v1, v2, u1, u2, o1, o2, r1, r2, q1, q2, hu => by
    obtain ⟨ax, vsx, rfl, sx, rsx⟩ := Rep.lst_inv r1
    cases q1
    obtain ⟨itsx, rvx, plx, _⟩ := I.list sx
    have hx := plx.isList
    cases Rep.str_inv r2
    obtain ⟨ty, rfl⟩ := q2
    have hu0 : A.units < cLine := by omega
    exact (by simp only [eqv, Bool.not_false]; exact SeqAt.EqAt.list_str y ty hx hu0)
  | .lst x, .lst y, v1, v2, u1, u2, o1, o2, r1, r2, q1, q2, hu => by
    obtain ⟨ax, vsx, rfl, sx, rsx⟩ := Rep.lst_inv r1
    cases q1
    obtain ⟨itsx, rvx, plx, _⟩ := I.list sx
    have hx := plx.isList
    obtain ⟨ay, vsy, rfl, sy, rsy⟩ := Rep.lst_inv r2
    cases q2
    obtain ⟨itsy, rvy, ply, _⟩ := I.list sy
    have hy := ply.isList
    have hu0 : A.units < cLine := by omega
    have n1 : itsx.toArray.size = x.length := by rw [List.size_toArray, ← rvx.length, rsx.length]
    have n2 : itsy.toArray.size = y.length := by rw [List.size_toArray, ← rvy.length, rsy.length]
    have ox := okN_list o1
    have oy := okN_list o2
    have he : ∀ j (j1 : j < itsx.toArray.size) (j2 : j < itsy.toArray.size), SeqAt.EqAt A.in1 s itsx.toArray[j] itsy.toArray[j] (pairE x y j) := fun j j1 j2 => items_at (fun a b v w u1 u2 p q r t k l => ih A.in1 a b v w u1 u2 p q r t k l (by show A.units + 1 + n < cLine; omega)) rsx rsy rvx rvy ox oy j (by simpa using j1) (by simpa using j2)
    by_cases hll : ax = ay
    · subst hll
      rw [rep_uniq I (n + 1) _ _ _ o1 o2 r1 r2, eqv_refl (n + 1) _ o2]
      exact SeqAt.EqAt.same _
    · rw [eqv]
      by_cases hsz : itsx.toArray.size = itsy.toArray.size
      · rw [← eqvs_same (by omega : x.length = y.length), ← n1]
        exact SeqAt.EqAt.of_refs hll (SeqAt.RcAt.lists hx hy hsz hu0 he)
      · rw [eqvs_other (by omega : x.length ≠ y.length)]
        exact SeqAt.EqAt.of_refs hll (SeqAt.RcAt.lists_lengths hx hy (by simpa using hsz) hu0)
  | .lst x, .tup y, v1, v2, u1, u2, o1, o2, r1, r2, q1, q2, hu => by
    obtain ⟨ax, vsx, rfl, sx, rsx⟩ := Rep.lst_inv r1
    cases q1
    obtain ⟨itsx, rvx, plx, _⟩ := I.list sx
    have hx := plx.isList
    obtain ⟨ay, vsy, rfl, sy, rsy⟩ := Rep.tup_inv r2
    cases q2
    obtain ⟨itsy, rvy, ply, _⟩ := I.tuple sy
    have hy : s.heap.IsTuple ay itsy.toArray := ply
    have hu0 : A.units < cLine := by omega
    exact (by simp only [eqv, Bool.not_false]; exact SeqAt.EqAt.list_tuple  hx hy hu0)
  | .tup x, .non, v1, v2, u1, u2, o1, o2, r1, r2, q1, q2, hu => by
    obtain ⟨ax, vsx, rfl, sx, rsx⟩ := Rep.tup_inv r1
    cases q1
    obtain ⟨itsx, rvx, plx, _⟩ := I.tuple sx
    have hx : s.heap.IsTuple ax itsx.toArray := plx
    cases Rep.non_inv r2
    cases q2
    have hu0 : A.units < cLine := by omega
    exact (by simp only [eqv, Bool.not_false]; exact SeqAt.EqAt.tuple_none  hx hu0)
  | .tup x, .bl y, v1, v2, u1, u2, o1, o2, r1, r2, q1, q2, hu => by
    obtain ⟨ax, vsx, rfl, sx, rsx⟩ := Rep.tup_inv r1
    cases q1
    obtain ⟨itsx, rvx, plx, _⟩ := I.tuple sx
    have hx : s.heap.IsTuple ax itsx.toArray := plx
    cases Rep.bl_inv r2
    cases q2
    have hu0 : A.units < cLine := by omega
    exact (by simp only [eqv, Bool.not_false]; exact SeqAt.EqAt.tuple_bool y hx hu0)
  | .tup x, .int y, v1, v2, u1, u2, o1, o2, r1, r2, q1, q2, hu => by
    obtain ⟨ax, vsx, rfl, sx, rsx⟩ := Rep.tup_inv r1
    cases q1
    obtain ⟨itsx, rvx, plx, _⟩ := I.tuple sx
    have hx : s.heap.IsTuple ax itsx.toArray := plx
    cases Rep.int_inv r2
    obtain ⟨ty, rfl⟩ := q2
    have hu0 : A.units < cLine := by omega
    exact (by simp only [eqv, Bool.not_false]; exact SeqAt.EqAt.tuple_int y ty hx hu0)
  | .tup x, .str y, v1, v2, u1, u2, o1, o2, r1, r2, q1, q2, hu => by
    obtain ⟨ax, vsx, rfl, sx, rsx⟩ := Rep.tup_inv r1
    cases q1
    obtain ⟨itsx, rvx, plx, _⟩ := I.tuple sx
    have hx : s.heap.IsTuple ax itsx.toArray := plx
    cases Rep.str_inv r2
    obtain ⟨ty, rfl⟩ := q2
    have hu0 : A.units < cLine := by omega
    exact (by simp only [eqv, Bool.not_false]; exact SeqAt.EqAt.tuple_str y ty hx hu0)
  | .tup x, .lst y, v1, v2, u1, u2, o1, o2, r1, r2, q1, q2, hu => by
    obtain ⟨ax, vsx, rfl, sx, rsx⟩ := Rep.tup_inv r1
    cases q1
    obtain ⟨itsx, rvx, plx, _⟩ := I.tuple sx
    have hx : s.heap.IsTuple ax itsx.toArray := plx
    obtain ⟨ay, vsy, rfl, sy, rsy⟩ := Rep.lst_inv r2
    cases q2
    obtain ⟨itsy, rvy, ply, _⟩ := I.list sy
    have hy := ply.isList
    have hu0 : A.units < cLine := by omega
    exact (by simp only [eqv, Bool.not_false]; exact SeqAt.EqAt.tuple_list  hx hy hu0)
  | .tup x, .tup y, v1, v2, u1, u2, o1, o2, r1, r2, q1, q2, hu => by
    obtain ⟨ax, vsx, rfl, sx, rsx⟩ := Rep.tup_inv r1
    cases q1
    obtain ⟨itsx, rvx, plx, _⟩ := I.tuple sx
    have hx : s.heap.IsTuple ax itsx.toArray := plx
    obtain ⟨ay, vsy, rfl, sy, rsy⟩ := Rep.tup_inv r2
    cases q2
    obtain ⟨itsy, rvy, ply, _⟩ := I.tuple sy
    have hy : s.heap.IsTuple ay itsy.toArray := ply
    have hu0 : A.units < cLine := by omega
    have n1 : itsx.toArray.size = x.length := by rw [List.size_toArray, ← rvx.length, rsx.length]
    have n2 : itsy.toArray.size = y.length := by rw [List.size_toArray, ← rvy.length, rsy.length]
    have ox := okN_tuple o1
    have oy := okN_tuple o2
    have he : ∀ j (j1 : j < itsx.toArray.size) (j2 : j < itsy.toArray.size), SeqAt.EqAt A.in1 s itsx.toArray[j] itsy.toArray[j] (pairE x y j) := fun j j1 j2 => items_at (fun a b v w u1 u2 p q r t k l => ih A.in1 a b v w u1 u2 p q r t k l (by show A.units + 1 + n < cLine; omega)) rsx rsy rvx rvy ox oy j (by simpa using j1) (by simpa using j2)
    by_cases hll : ax = ay
    · subst hll
      rw [rep_uniq I (n + 1) _ _ _ o1 o2 r1 r2, eqv_refl (n + 1) _ o2]
      exact SeqAt.EqAt.same _
    · rw [eqv]
      rw [← eqvs_all x y, ← n1, ← n2]
      exact SeqAt.EqAt.of_refs hll (SeqAt.RcAt.tuples hx hy hu0 he)
  | .non, .dK y, v1, v2, u1, u2, o1, o2, r1, r2, q1, q2, hu => by simp [okN] at o2
  | .non, .dT y, v1, v2, u1, u2, o1, o2, r1, r2, q1, q2, hu => by simp [okN] at o2
  | .non, .ty y, v1, v2, u1, u2, o1, o2, r1, r2, q1, q2, hu => by simp [okN] at o2
  | .non, .scr y, v1, v2, u1, u2, o1, o2, r1, r2, q1, q2, hu => by simp [okN] at o2
  | .bl x, .dK y, v1, v2, u1, u2, o1, o2, r1, r2, q1, q2, hu => by simp [okN] at o2
  | .bl x, .dT y, v1, v2, u1, u2, o1, o2, r1, r2, q1, q2, hu => by simp [okN] at o2
  | .bl x, .ty y, v1, v2, u1, u2, o1, o2, r1, r2, q1, q2, hu => by simp [okN] at o2
  | .bl x, .scr y, v1, v2, u1, u2, o1, o2, r1, r2, q1, q2, hu => by simp [okN] at o2
  | .int x, .dK y, v1, v2, u1, u2, o1, o2, r1, r2, q1, q2, hu => by simp [okN] at o2
  | .int x, .dT y, v1, v2, u1, u2, o1, o2, r1, r2, q1, q2, hu => by simp [okN] at o2
  | .int x, .ty y, v1, v2, u1, u2, o1, o2, r1, r2, q1, q2, hu => by simp [okN] at o2
  | .int x, .scr y, v1, v2, u1, u2, o1, o2, r1, r2, q1, q2, hu => by simp [okN] at o2
  | .str x, .dK y, v1, v2, u1, u2, o1, o2, r1, r2, q1, q2, hu => by simp [okN] at o2
  | .str x, .dT y, v1, v2, u1, u2, o1, o2, r1, r2, q1, q2, hu => by simp [okN] at o2
  | .str x, .ty y, v1, v2, u1, u2, o1, o2, r1, r2, q1, q2, hu => by simp [okN] at o2
  | .str x, .scr y, v1, v2, u1, u2, o1, o2, r1, r2, q1, q2, hu => by simp [okN] at o2
  | .lst x, .dK y, v1, v2, u1, u2, o1, o2, r1, r2, q1, q2, hu => by simp [okN] at o2
  | .lst x, .dT y, v1, v2, u1, u2, o1, o2, r1, r2, q1, q2, hu => by simp [okN] at o2
  | .lst x, .ty y, v1, v2, u1, u2, o1, o2, r1, r2, q1, q2, hu => by simp [okN] at o2
  | .lst x, .scr y, v1, v2, u1, u2, o1, o2, r1, r2, q1, q2, hu => by simp [okN] at o2
  | .tup x, .dK y, v1, v2, u1, u2, o1, o2, r1, r2, q1, q2, hu => by simp [okN] at o2
  | .tup x, .dT y, v1, v2, u1, u2, o1, o2, r1, r2, q1, q2, hu => by simp [okN] at o2
  | .tup x, .ty y, v1, v2, u1, u2, o1, o2, r1, r2, q1, q2, hu => by simp [okN] at o2
  | .tup x, .scr y, v1, v2, u1, u2, o1, o2, r1, r2, q1, q2, hu => by simp [okN] at o2
  | .dK x, _, v1, v2, u1, u2, o1, o2, r1, r2, q1, q2, hu => by simp [okN] at o1
  | .dT x, _, v1, v2, u1, u2, o1, o2, r1, r2, q1, q2, hu => by simp [okN] at o1
  | .ty x, _, v1, v2, u1, u2, o1, o2, r1, r2, q1, q2, hu => by simp [okN] at o1
  | .scr x, _, v1, v2, u1, u2, o1, o2, r1, r2, q1, q2, hu => by simp [okN] at o1
theorem rcAt_step (I : Inv X pins σ H s) {n : Nat} (ih : EqIh X H s n) {A : Around} : ∀ (d1 d2 : D) (v1 v2 : V) (u1 u2 : Value), okN (n + 1) d1 = true → okN (n + 1) d2 = true → Rep X.K H d1 v1 → Rep X.K H d2 v2 → RelV v1 u1 → RelV v2 u2 → A.units + (n + 1) < cLine → SeqAt.RcAt A s u1 u2 (eqv d1 d2)
  | .non, .non, v1, v2, u1, u2, o1, o2, r1, r2, q1, q2, hu => by
    cases Rep.non_inv r1
    cases q1
    cases Rep.non_inv r2
    cases q2
    exact SeqAt.RcAt.none_none
  | .non, .bl y, v1, v2, u1, u2, o1, o2, r1, r2, q1, q2, hu => by
    cases Rep.non_inv r1
    cases q1
    cases Rep.bl_inv r2
    cases q2
    exact (by simp only [eqv, Bool.not_false]; exact SeqAt.RcAt.none_bool y)
  | .non, .int y, v1, v2, u1, u2, o1, o2, r1, r2, q1, q2, hu => by
    cases Rep.non_inv r1
    cases q1
    cases Rep.int_inv r2
    obtain ⟨ty, rfl⟩ := q2
    exact (by simp only [eqv, Bool.not_false]; exact SeqAt.RcAt.none_int y ty)
  | .non, .str y, v1, v2, u1, u2, o1, o2, r1, r2, q1, q2, hu => by
    cases Rep.non_inv r1
    cases q1
    cases Rep.str_inv r2
    obtain ⟨ty, rfl⟩ := q2
    exact (by simp only [eqv, Bool.not_false]; exact SeqAt.RcAt.none_str y ty)
  | .non, .lst y, v1, v2, u1, u2, o1, o2, r1, r2, q1, q2, hu => by
    cases Rep.non_inv r1
    cases q1
    obtain ⟨ay, vsy, rfl, sy, rsy⟩ := Rep.lst_inv r2
    cases q2
    obtain ⟨itsy, rvy, ply, _⟩ := I.list sy
    have hy := ply.isList
    have hu0 : A.units < cLine := by omega
    exact (by simp only [eqv, Bool.not_false]; exact SeqAt.RcAt.none_list  hy hu0)
  | .non, .tup y, v1, v2, u1, u2, o1, o2, r1, r2, q1, q2, hu => by
    cases Rep.non_inv r1
    cases q1
    obtain ⟨ay, vsy, rfl, sy, rsy⟩ := Rep.tup_inv r2
    cases q2
    obtain ⟨itsy, rvy, ply, _⟩ := I.tuple sy
    have hy : s.heap.IsTuple ay itsy.toArray := ply
    have hu0 : A.units < cLine := by omega
    exact (by simp only [eqv, Bool.not_false]; exact SeqAt.RcAt.none_tuple  hy hu0)
  | .bl x, .non, v1, v2, u1, u2, o1, o2, r1, r2, q1, q2, hu => by
    cases Rep.bl_inv r1
    cases q1
    cases Rep.non_inv r2
    cases q2
    exact (by simp only [eqv, Bool.not_false]; exact SeqAt.RcAt.bool_none x)
  | .bl x, .bl y, v1, v2, u1, u2, o1, o2, r1, r2, q1, q2, hu => by
    cases Rep.bl_inv r1
    cases q1
    cases Rep.bl_inv r2
    cases q2
    exact (by simp only [eqv]; exact SeqAt.RcAt.bool_bool x y)
  | .bl x, .int y, v1, v2, u1, u2, o1, o2, r1, r2, q1, q2, hu => by
    cases Rep.bl_inv r1
    cases q1
    cases Rep.int_inv r2
    obtain ⟨ty, rfl⟩ := q2
    exact (by simp only [eqv, Bool.not_false]; exact SeqAt.RcAt.bool_int x y ty)
  | .bl x, .str y, v1, v2, u1, u2, o1, o2, r1, r2, q1, q2, hu => by
    cases Rep.bl_inv r1
    cases q1
    cases Rep.str_inv r2
    obtain ⟨ty, rfl⟩ := q2
    exact (by simp only [eqv, Bool.not_false]; exact SeqAt.RcAt.bool_str x y ty)
  | .bl x, .lst y, v1, v2, u1, u2, o1, o2, r1, r2, q1, q2, hu => by
    cases Rep.bl_inv r1
    cases q1
    obtain ⟨ay, vsy, rfl, sy, rsy⟩ := Rep.lst_inv r2
    cases q2
    obtain ⟨itsy, rvy, ply, _⟩ := I.list sy
    have hy := ply.isList
    have hu0 : A.units < cLine := by omega
    exact (by simp only [eqv, Bool.not_false]; exact SeqAt.RcAt.bool_list x hy hu0)
  | .bl x, .tup y, v1, v2, u1, u2, o1, o2, r1, r2, q1, q2, hu => by
    cases Rep.bl_inv r1
    cases q1
    obtain ⟨ay, vsy, rfl, sy, rsy⟩ := Rep.tup_inv r2
    cases q2
    obtain ⟨itsy, rvy, ply, _⟩ := I.tuple sy
    have hy : s.heap.IsTuple ay itsy.toArray := ply
    have hu0 : A.units < cLine := by omega
    exact (by simp only [eqv, Bool.not_false]; exact SeqAt.RcAt.bool_tuple x hy hu0)
  | .int x, .non, v1, v2, u1, u2, o1, o2, r1, r2, q1, q2, hu => by
    cases Rep.int_inv r1
    obtain ⟨tx, rfl⟩ := q1
    cases Rep.non_inv r2
    cases q2
    exact (by simp only [eqv, Bool.not_false]; exact SeqAt.RcAt.int_none x tx)
  | .int x, .bl y, v1, v2, u1, u2, o1, o2, r1, r2, q1, q2, hu => by
    cases Rep.int_inv r1
    obtain ⟨tx, rfl⟩ := q1
    cases Rep.bl_inv r2
    cases q2
    exact (by simp only [eqv, Bool.not_false]; exact SeqAt.RcAt.int_bool x tx y)
  | .int x, .int y, v1, v2, u1, u2, o1, o2, r1, r2, q1, q2, hu => by
    cases Rep.int_inv r1
    obtain ⟨tx, rfl⟩ := q1
    cases Rep.int_inv r2
    obtain ⟨ty, rfl⟩ := q2
    exact (by simp only [eqv]; exact SeqAt.RcAt.int_int x tx y ty)
  | .int x, .str y, v1, v2, u1, u2, o1, o2, r1, r2, q1, q2, hu => by
    cases Rep.int_inv r1
    obtain ⟨tx, rfl⟩ := q1
    cases Rep.str_inv r2
    obtain ⟨ty, rfl⟩ := q2
    exact (by simp only [eqv, Bool.not_false]; exact SeqAt.RcAt.int_str x tx y ty)
  | .int x, .lst y, v1, v2, u1, u2, o1, o2, r1, r2, q1, q2, hu => by
    cases Rep.int_inv r1
    obtain ⟨tx, rfl⟩ := q1
    obtain ⟨ay, vsy, rfl, sy, rsy⟩ := Rep.lst_inv r2
    cases q2
    obtain ⟨itsy, rvy, ply, _⟩ := I.list sy
    have hy := ply.isList
    have hu0 : A.units < cLine := by omega
    exact (by simp only [eqv, Bool.not_false]; exact SeqAt.RcAt.int_list x tx hy hu0)
  | .int x, .tup y, v1, v2, u1, u2, o1, o2, r1, r2, q1, q2, hu => by
    cases Rep.int_inv r1
    obtain ⟨tx, rfl⟩ := q1
    obtain ⟨ay, vsy, rfl, sy, rsy⟩ := Rep.tup_inv r2
    cases q2
    obtain ⟨itsy, rvy, ply, _⟩ := I.tuple sy
    have hy : s.heap.IsTuple ay itsy.toArray := ply
    have hu0 : A.units < cLine := by omega
    exact (by simp only [eqv, Bool.not_false]; exact SeqAt.RcAt.int_tuple x tx hy hu0)
  | .str x, .non, v1, v2, u1, u2, o1, o2, r1, r2, q1, q2, hu => by
    cases Rep.str_inv r1
    obtain ⟨tx, rfl⟩ := q1
    cases Rep.non_inv r2
    cases q2
    exact (by simp only [eqv, Bool.not_false]; exact SeqAt.RcAt.str_none x tx)
  | .str x, .bl y, v1, v2, u1, u2, o1, o2, r1, r2, q1, q2, hu => by
    cases Rep.str_inv r1
    obtain ⟨tx, rfl⟩ := q1
    cases Rep.bl_inv r2
    cases q2
    exact (by simp only [eqv, Bool.not_false]; exact SeqAt.RcAt.str_bool x tx y)
  | .str x, .int y, v1, v2, u1, u2, o1, o2, r1, r2, q1, q2, hu => by
    cases Rep.str_inv r1
    obtain ⟨tx, rfl⟩ := q1
    cases Rep.int_inv r2
    obtain ⟨ty, rfl⟩ := q2
    exact (by simp only [eqv, Bool.not_false]; exact SeqAt.RcAt.str_int x tx y ty)
  | .str x, .str y, v1, v2, u1, u2, o1, o2, r1, r2, q1, q2, hu => by
    cases Rep.str_inv r1
    obtain ⟨tx, rfl⟩ := q1
    cases Rep.str_inv r2
    obtain ⟨ty, rfl⟩ := q2
    exact (by simp only [eqv]; exact SeqAt.RcAt.str_str x tx y ty)
  | .str x, .lst y, v1, v2, u1, u2, o1, o2, r1, r2, q1, q2, hu => by
    cases Rep.str_inv r1
    obtain ⟨tx, rfl⟩ := q1
    obtain ⟨ay, vsy, rfl, sy, rsy⟩ := Rep.lst_inv r2
    cases q2
    obtain ⟨itsy, rvy, ply, _⟩ := I.list sy
    have hy := ply.isList
    have hu0 : A.units < cLine := by omega
    exact (by simp only [eqv, Bool.not_false]; exact SeqAt.RcAt.str_list x tx hy hu0)
  | .str x, .tup y, v1, v2, u1, u2, o1, o2, r1, r2, q1, q2, hu => by
    cases Rep.str_inv r1
    obtain ⟨tx, rfl⟩ := q1
    obtain ⟨ay, vsy, rfl, sy, rsy⟩ := Rep.tup_inv r2
    cases q2
    obtain ⟨itsy, rvy, ply, _⟩ := I.tuple sy
    have hy : s.heap.IsTuple ay itsy.toArray := ply
    have hu0 : A.units < cLine := by omega
    exact (by simp only [eqv, Bool.not_false]; exact SeqAt.RcAt.str_tuple x tx hy hu0)
  | .lst x, .non, v1, v2, u1, u2, o1, o2, r1, r2, q1, q2, hu => by
    obtain ⟨ax, vsx, rfl, sx, rsx⟩ := Rep.lst_inv r1
    cases q1
    obtain ⟨itsx, rvx, plx, _⟩ := I.list sx
    have hx := plx.isList
    cases Rep.non_inv r2
    cases q2
    have hu0 : A.units < cLine := by omega
    exact (by simp only [eqv, Bool.not_false]; exact SeqAt.RcAt.list_none  hx hu0)
  | .lst x, .bl y, v1, v2, u1, u2, o1, o2, r1, r2, q1, q2, hu => by
    obtain ⟨ax, vsx, rfl, sx, rsx⟩ := Rep.lst_inv r1
    cases q1
    obtain ⟨itsx, rvx, plx, _⟩ := I.list sx
    have hx := plx.isList
    cases Rep.bl_inv r2
    cases q2
    have hu0 : A.units < cLine := by omega
    exact (by simp only [eqv, Bool.not_false]; exact SeqAt.RcAt.list_bool y hx hu0)
  | .lst x, .int y, v1, v2, u1, u2, o1, o2, r1, r2, q1, q2, hu => by
    obtain ⟨ax, vsx, rfl, sx, rsx⟩ := Rep.lst_inv r1
    cases q1
    obtain ⟨itsx, rvx, plx, _⟩ := I.list sx
    have hx := plx.isList
    cases Rep.int_inv r2
    obtain ⟨ty, rfl⟩ := q2
    have hu0 : A.units < cLine := by omega
    exact (by simp only [eqv, Bool.not_false]; exact SeqAt.RcAt.list_int y ty hx hu0)
  | .lst x, .str y, v1, v2, u1, u2, o1, o2, r1, r2, q1, q2, hu => by
    obtain ⟨ax, vsx, rfl, sx, rsx⟩ := Rep.lst_inv r1
    cases q1
    obtain ⟨itsx, rvx, plx, _⟩ := I.list sx
    have hx := plx.isList
    cases Rep.str_inv r2
    obtain ⟨ty, rfl⟩ := q2
    have hu0 : A.units < cLine := by omega
    exact (by simp only [eqv, Bool.not_false]; exact SeqAt.RcAt.list_str y ty hx hu0)
  | .lst x, .lst y, v1, v2, u1, u2, o1, o2, r1, r2, q1, q2, hu => by
    obtain ⟨ax, vsx, rfl, sx, rsx⟩ := Rep.lst_inv r1
    cases q1
    obtain ⟨itsx, rvx, plx, _⟩ := I.list sx
    have hx := plx.isList
    obtain ⟨ay, vsy, rfl, sy, rsy⟩ := Rep.lst_inv r2
    cases q2
    obtain ⟨itsy, rvy, ply, _⟩ := I.list sy
    have hy := ply.isList
    have hu0 : A.units < cLine := by omega
    have n1 : itsx.toArray.size = x.length := by rw [List.size_toArray, ← rvx.length, rsx.length]
    have n2 : itsy.toArray.size = y.length := by rw [List.size_toArray, ← rvy.length, rsy.length]
    have ox := okN_list o1
    have oy := okN_list o2
    have he : ∀ j (j1 : j < itsx.toArray.size) (j2 : j < itsy.toArray.size), SeqAt.EqAt A.in1 s itsx.toArray[j] itsy.toArray[j] (pairE x y j) := fun j j1 j2 => items_at (fun a b v w u1 u2 p q r t k l => ih A.in1 a b v w u1 u2 p q r t k l (by show A.units + 1 + n < cLine; omega)) rsx rsy rvx rvy ox oy j (by simpa using j1) (by simpa using j2)
    rw [eqv]
    by_cases hsz : itsx.toArray.size = itsy.toArray.size
    · rw [← eqvs_same (by omega : x.length = y.length), ← n1]
      exact SeqAt.RcAt.lists hx hy hsz hu0 he
    · rw [eqvs_other (by omega : x.length ≠ y.length)]
      exact SeqAt.RcAt.lists_lengths hx hy (by simpa using hsz) hu0
  | .lst x, .tup y, v1, v2, u1, u2, o1, o2, r1, r2, q1, q2, hu => by
    obtain ⟨ax, vsx, rfl, sx, rsx⟩ := Rep.lst_inv r1
    cases q1
    obtain ⟨itsx, rvx, plx, _⟩ := I.list sx
    have hx := plx.isList
    obtain ⟨ay, vsy, rfl, sy, rsy⟩ := Rep.tup_inv r2
    cases q2
    obtain ⟨itsy, rvy, ply, _⟩ := I.tuple sy
    have hy : s.heap.IsTuple ay itsy.toArray := ply
    have hu0 : A.units < cLine := by omega
    exact (by simp only [eqv, Bool.not_false]; exact SeqAt.RcAt.list_tuple  hx hy hu0)
  | .tup x, .non, v1, v2, u1, u2, o1, o2, r1, r2, q1, q2, hu => by
    obtain ⟨ax, vsx, rfl, sx, rsx⟩ := Rep.tup_inv r1
    cases q1
    obtain ⟨itsx, rvx, plx, _⟩ := I.tuple sx
    have hx : s.heap.IsTuple ax itsx.toArray := plx
    cases Rep.non_inv r2
    cases q2
    have hu0 : A.units < cLine := by omega
    exact (by simp only [eqv, Bool.not_false]; exact SeqAt.RcAt.tuple_none  hx hu0)
  | .tup x, .bl y, v1, v2, u1, u2, o1, o2, r1, r2, q1, q2, hu => by
    obtain ⟨ax, vsx, rfl, sx, rsx⟩ := Rep.tup_inv r1
    cases q1
    obtain ⟨itsx, rvx, plx, _⟩ := I.tuple sx
    have hx : s.heap.IsTuple ax itsx.toArray := plx
    cases Rep.bl_inv r2
    cases q2
    have hu0 : A.units < cLine := by omega
    exact (by simp only [eqv, Bool.not_false]; exact SeqAt.RcAt.tuple_bool y hx hu0)
  | .tup x, .int y, v1, v2, u1, u2, o1, o2, r1, r2, q1, q2, hu => by
    obtain ⟨ax, vsx, rfl, sx, rsx⟩ := Rep.tup_inv r1
    cases q1
    obtain ⟨itsx, rvx, plx, _⟩ := I.tuple sx
    have hx : s.heap.IsTuple ax itsx.toArray := plx
    cases Rep.int_inv r2
    obtain ⟨ty, rfl⟩ := q2
    have hu0 : A.units < cLine := by omega
    exact (by simp only [eqv, Bool.not_false]; exact SeqAt.RcAt.tuple_int y ty hx hu0)
  | .tup x, .str y, v1, v2, u1, u2, o1, o2, r1, r2, q1, q2, hu => by
    obtain ⟨ax, vsx, rfl, sx, rsx⟩ := Rep.tup_inv r1
    cases q1
    obtain ⟨itsx, rvx, plx, _⟩ := I.tuple sx
    have hx : s.heap.IsTuple ax itsx.toArray := plx
    cases Rep.str_inv r2
    obtain ⟨ty, rfl⟩ := q2
    have hu0 : A.units < cLine := by omega
    exact (by simp only [eqv, Bool.not_false]; exact SeqAt.RcAt.tuple_str y ty hx hu0)
  | .tup x, .lst y, v1, v2, u1, u2, o1, o2, r1, r2, q1, q2, hu => by
    obtain ⟨ax, vsx, rfl, sx, rsx⟩ := Rep.tup_inv r1
    cases q1
    obtain ⟨itsx, rvx, plx, _⟩ := I.tuple sx
    have hx : s.heap.IsTuple ax itsx.toArray := plx
    obtain ⟨ay, vsy, rfl, sy, rsy⟩ := Rep.lst_inv r2
    cases q2
    obtain ⟨itsy, rvy, ply, _⟩ := I.list sy
    have hy := ply.isList
    have hu0 : A.units < cLine := by omega
    exact (by simp only [eqv, Bool.not_false]; exact SeqAt.RcAt.tuple_list  hx hy hu0)
  | .tup x, .tup y, v1, v2, u1, u2, o1, o2, r1, r2, q1, q2, hu => by
    obtain ⟨ax, vsx, rfl, sx, rsx⟩ := Rep.tup_inv r1
    cases q1
    obtain ⟨itsx, rvx, plx, _⟩ := I.tuple sx
    have hx : s.heap.IsTuple ax itsx.toArray := plx
    obtain ⟨ay, vsy, rfl, sy, rsy⟩ := Rep.tup_inv r2
    cases q2
    obtain ⟨itsy, rvy, ply, _⟩ := I.tuple sy
    have hy : s.heap.IsTuple ay itsy.toArray := ply
    have hu0 : A.units < cLine := by omega
    have n1 : itsx.toArray.size = x.length := by rw [List.size_toArray, ← rvx.length, rsx.length]
    have n2 : itsy.toArray.size = y.length := by rw [List.size_toArray, ← rvy.length, rsy.length]
    have ox := okN_tuple o1
    have oy := okN_tuple o2
    have he : ∀ j (j1 : j < itsx.toArray.size) (j2 : j < itsy.toArray.size), SeqAt.EqAt A.in1 s itsx.toArray[j] itsy.toArray[j] (pairE x y j) := fun j j1 j2 => items_at (fun a b v w u1 u2 p q r t k l => ih A.in1 a b v w u1 u2 p q r t k l (by show A.units + 1 + n < cLine; omega)) rsx rsy rvx rvy ox oy j (by simpa using j1) (by simpa using j2)
    rw [eqv]
    rw [← eqvs_all x y, ← n1, ← n2]
    exact SeqAt.RcAt.tuples hx hy hu0 he
  | .non, .dK y, v1, v2, u1, u2, o1, o2, r1, r2, q1, q2, hu => by simp [okN] at o2
  | .non, .dT y, v1, v2, u1, u2, o1, o2, r1, r2, q1, q2, hu => by simp [okN] at o2
  | .non, .ty y, v1, v2, u1, u2, o1, o2, r1, r2, q1, q2, hu => by simp [okN] at o2
  | .non, .scr y, v1, v2, u1, u2, o1, o2, r1, r2, q1, q2, hu => by simp [okN] at o2
  | .bl x, .dK y, v1, v2, u1, u2, o1, o2, r1, r2, q1, q2, hu => by simp [okN] at o2
  | .bl x, .dT y, v1, v2, u1, u2, o1, o2, r1, r2, q1, q2, hu => by simp [okN] at o2
  | .bl x, .ty y, v1, v2, u1, u2, o1, o2, r1, r2, q1, q2, hu => by simp [okN] at o2
  | .bl x, .scr y, v1, v2, u1, u2, o1, o2, r1, r2, q1, q2, hu => by simp [okN] at o2
  | .int x, .dK y, v1, v2, u1, u2, o1, o2, r1, r2, q1, q2, hu => by simp [okN] at o2
  | .int x, .dT y, v1, v2, u1, u2, o1, o2, r1, r2, q1, q2, hu => by simp [okN] at o2
  | .int x, .ty y, v1, v2, u1, u2, o1, o2, r1, r2, q1, q2, hu => by simp [okN] at o2
  | .int x, .scr y, v1, v2, u1, u2, o1, o2, r1, r2, q1, q2, hu => by simp [okN] at o2
  | .str x, .dK y, v1, v2, u1, u2, o1, o2, r1, r2, q1, q2, hu => by simp [okN] at o2
  | .str x, .dT y, v1, v2, u1, u2, o1, o2, r1, r2, q1, q2, hu => by simp [okN] at o2
  | .str x, .ty y, v1, v2, u1, u2, o1, o2, r1, r2, q1, q2, hu => by simp [okN] at o2
  | .str x, .scr y, v1, v2, u1, u2, o1, o2, r1, r2, q1, q2, hu => by simp [okN] at o2
  | .lst x, .dK y, v1, v2, u1, u2, o1, o2, r1, r2, q1, q2, hu => by simp [okN] at o2
  | .lst x, .dT y, v1, v2, u1, u2, o1, o2, r1, r2, q1, q2, hu => by simp [okN] at o2
  | .lst x, .ty y, v1, v2, u1, u2, o1, o2, r1, r2, q1, q2, hu => by simp [okN] at o2
  | .lst x, .scr y, v1, v2, u1, u2, o1, o2, r1, r2, q1, q2, hu => by simp [okN] at o2
  | .tup x, .dK y, v1, v2, u1, u2, o1, o2, r1, r2, q1, q2, hu => by simp [okN] at o2
  | .tup x, .dT y, v1, v2, u1, u2, o1, o2, r1, r2, q1, q2, hu => by simp [okN] at o2
  | .tup x, .ty y, v1, v2, u1, u2, o1, o2, r1, r2, q1, q2, hu => by simp [okN] at o2
  | .tup x, .scr y, v1, v2, u1, u2, o1, o2, r1, r2, q1, q2, hu => by simp [okN] at o2
  | .dK x, _, v1, v2, u1, u2, o1, o2, r1, r2, q1, q2, hu => by simp [okN] at o1
  | .dT x, _, v1, v2, u1, u2, o1, o2, r1, r2, q1, q2, hu => by simp [okN] at o1
  | .ty x, _, v1, v2, u1, u2, o1, o2, r1, r2, q1, q2, hu => by simp [okN] at o1
  | .scr x, _, v1, v2, u1, u2, o1, o2, r1, r2, q1, q2, hu => by simp [okN] at o1
theorem rcNe_step (I : Inv X pins σ H s) {n : Nat} (ih : EqIh X H s n) {A : Around} : ∀ (d1 d2 : D) (v1 v2 : V) (u1 u2 : Value), okN (n + 1) d1 = true → okN (n + 1) d2 = true → Rep X.K H d1 v1 → Rep X.K H d2 v2 → RelV v1 u1 → RelV v2 u2 → A.units + (n + 1) < cLine → SeqAt.RcNeAt A s u1 u2 (!eqv d1 d2)
  | .non, .non, v1, v2, u1, u2, o1, o2, r1, r2, q1, q2, hu => by
    cases Rep.non_inv r1
    cases q1
    cases Rep.non_inv r2
    cases q2
    exact SeqAt.RcNeAt.none_none
  | .non, .bl y, v1, v2, u1, u2, o1, o2, r1, r2, q1, q2, hu => by
    cases Rep.non_inv r1
    cases q1
    cases Rep.bl_inv r2
    cases q2
    exact (by simp only [eqv, Bool.not_false]; exact SeqAt.RcNeAt.none_bool y)
  | .non, .int y, v1, v2, u1, u2, o1, o2, r1, r2, q1, q2, hu => by
    cases Rep.non_inv r1
    cases q1
    cases Rep.int_inv r2
    obtain ⟨ty, rfl⟩ := q2
    exact (by simp only [eqv, Bool.not_false]; exact SeqAt.RcNeAt.none_int y ty)
  | .non, .str y, v1, v2, u1, u2, o1, o2, r1, r2, q1, q2, hu => by
    cases Rep.non_inv r1
    cases q1
    cases Rep.str_inv r2
    obtain ⟨ty, rfl⟩ := q2
    exact (by simp only [eqv, Bool.not_false]; exact SeqAt.RcNeAt.none_str y ty)
  | .non, .lst y, v1, v2, u1, u2, o1, o2, r1, r2, q1, q2, hu => by
    cases Rep.non_inv r1
    cases q1
    obtain ⟨ay, vsy, rfl, sy, rsy⟩ := Rep.lst_inv r2
    cases q2
    obtain ⟨itsy, rvy, ply, _⟩ := I.list sy
    have hy := ply.isList
    have hu0 : A.units < cLine := by omega
    exact (by simp only [eqv, Bool.not_false]; exact SeqAt.RcNeAt.none_list  hy hu0)
  | .non, .tup y, v1, v2, u1, u2, o1, o2, r1, r2, q1, q2, hu => by
    cases Rep.non_inv r1
    cases q1
    obtain ⟨ay, vsy, rfl, sy, rsy⟩ := Rep.tup_inv r2
    cases q2
    obtain ⟨itsy, rvy, ply, _⟩ := I.tuple sy
    have hy : s.heap.IsTuple ay itsy.toArray := ply
    have hu0 : A.units < cLine := by omega
    exact (by simp only [eqv, Bool.not_false]; exact SeqAt.RcNeAt.none_tuple  hy hu0)
  | .bl x, .non, v1, v2, u1, u2, o1, o2, r1, r2, q1, q2, hu => by
    cases Rep.bl_inv r1
    cases q1
    cases Rep.non_inv r2
    cases q2
    exact (by simp only [eqv, Bool.not_false]; exact SeqAt.RcNeAt.bool_none x)
  | .bl x, .bl y, v1, v2, u1, u2, o1, o2, r1, r2, q1, q2, hu => by
    cases Rep.bl_inv r1
    cases q1
    cases Rep.bl_inv r2
    cases q2
    exact (by simp only [eqv]; exact SeqAt.RcNeAt.bool_bool x y)
  | .bl x, .int y, v1, v2, u1, u2, o1, o2, r1, r2, q1, q2, hu => by
    cases Rep.bl_inv r1
    cases q1
    cases Rep.int_inv r2
    obtain ⟨ty, rfl⟩ := q2
    exact (by simp only [eqv, Bool.not_false]; exact SeqAt.RcNeAt.bool_int x y ty)
  | .bl x, .str y, v1, v2, u1, u2, o1, o2, r1, r2, q1, q2, hu => by
    cases Rep.bl_inv r1
    cases q1
    cases Rep.str_inv r2
    obtain ⟨ty, rfl⟩ := q2
    exact (by simp only [eqv, Bool.not_false]; exact SeqAt.RcNeAt.bool_str x y ty)
  | .bl x, .lst y, v1, v2, u1, u2, o1, o2, r1, r2, q1, q2, hu => by
    cases Rep.bl_inv r1
    cases q1
    obtain ⟨ay, vsy, rfl, sy, rsy⟩ := Rep.lst_inv r2
    cases q2
    obtain ⟨itsy, rvy, ply, _⟩ := I.list sy
    have hy := ply.isList
    have hu0 : A.units < cLine := by omega
    exact (by simp only [eqv, Bool.not_false]; exact SeqAt.RcNeAt.bool_list x hy hu0)
  | .bl x, .tup y, v1, v2, u1, u2, o1, o2, r1, r2, q1, q2, hu => by
    cases Rep.bl_inv r1
    cases q1
    obtain ⟨ay, vsy, rfl, sy, rsy⟩ := Rep.tup_inv r2
    cases q2
    obtain ⟨itsy, rvy, ply, _⟩ := I.tuple sy
    have hy : s.heap.IsTuple ay itsy.toArray := ply
    have hu0 : A.units < cLine := by omega
    exact (by simp only [eqv, Bool.not_false]; exact SeqAt.RcNeAt.bool_tuple x hy hu0)
  | .int x, .non, v1, v2, u1, u2, o1, o2, r1, r2, q1, q2, hu => by
    cases Rep.int_inv r1
    obtain ⟨tx, rfl⟩ := q1
    cases Rep.non_inv r2
    cases q2
    exact (by simp only [eqv, Bool.not_false]; exact SeqAt.RcNeAt.int_none x tx)
  | .int x, .bl y, v1, v2, u1, u2, o1, o2, r1, r2, q1, q2, hu => by
    cases Rep.int_inv r1
    obtain ⟨tx, rfl⟩ := q1
    cases Rep.bl_inv r2
    cases q2
    exact (by simp only [eqv, Bool.not_false]; exact SeqAt.RcNeAt.int_bool x tx y)
  | .int x, .int y, v1, v2, u1, u2, o1, o2, r1, r2, q1, q2, hu => by
    cases Rep.int_inv r1
    obtain ⟨tx, rfl⟩ := q1
    cases Rep.int_inv r2
    obtain ⟨ty, rfl⟩ := q2
    exact (by simp only [eqv]; exact SeqAt.RcNeAt.int_int x tx y ty)
  | .int x, .str y, v1, v2, u1, u2, o1, o2, r1, r2, q1, q2, hu => by
    cases Rep.int_inv r1
    obtain ⟨tx, rfl⟩ := q1
    cases Rep.str_inv r2
    obtain ⟨ty, rfl⟩ := q2
    exact (by simp only [eqv, Bool.not_false]; exact SeqAt.RcNeAt.int_str x tx y ty)
  | .int x, .lst y, v1, v2, u1, u2, o1, o2, r1, r2, q1, q2, hu => by
    cases Rep.int_inv r1
    obtain ⟨tx, rfl⟩ := q1
    obtain ⟨ay, vsy, rfl, sy, rsy⟩ := Rep.lst_inv r2
    cases q2
    obtain ⟨itsy, rvy, ply, _⟩ := I.list sy
    have hy := ply.isList
    have hu0 : A.units < cLine := by omega
    exact (by simp only [eqv, Bool.not_false]; exact SeqAt.RcNeAt.int_list x tx hy hu0)
  | .int x, .tup y, v1, v2, u1, u2, o1, o2, r1, r2, q1, q2, hu => by
    cases Rep.int_inv r1
    obtain ⟨tx, rfl⟩ := q1
    obtain ⟨ay, vsy, rfl, sy, rsy⟩ := Rep.tup_inv r2
    cases q2
    obtain ⟨itsy, rvy, ply, _⟩ := I.tuple sy
    have hy : s.heap.IsTuple ay itsy.toArray := ply
    have hu0 : A.units < cLine := by omega
    exact (by simp only [eqv, Bool.not_false]; exact SeqAt.RcNeAt.int_tuple x tx hy hu0)
  | .str x, .non, v1, v2, u1, u2, o1, o2, r1, r2, q1, q2, hu => by
    cases Rep.str_inv r1
    obtain ⟨tx, rfl⟩ := q1
    cases Rep.non_inv r2
    cases q2
    exact (by simp only [eqv, Bool.not_false]; exact SeqAt.RcNeAt.str_none x tx)
  | .str x, .bl y, v1, v2, u1, u2, o1, o2, r1, r2, q1, q2, hu => by
    cases Rep.str_inv r1
    obtain ⟨tx, rfl⟩ := q1
    cases Rep.bl_inv r2
    cases q2
    exact (by simp only [eqv, Bool.not_false]; exact SeqAt.RcNeAt.str_bool x tx y)
  | .str x, .int y, v1, v2, u1, u2, o1, o2, r1, r2, q1, q2, hu => by
    cases Rep.str_inv r1
    obtain ⟨tx, rfl⟩ := q1
    cases Rep.int_inv r2
    obtain ⟨ty, rfl⟩ := q2
    exact (by simp only [eqv, Bool.not_false]; exact SeqAt.RcNeAt.str_int x tx y ty)
  | .str x, .str y, v1, v2, u1, u2, o1, o2, r1, r2, q1, q2, hu => by
    cases Rep.str_inv r1
    obtain ⟨tx, rfl⟩ := q1
    cases Rep.str_inv r2
    obtain ⟨ty, rfl⟩ := q2
    exact (by simp only [eqv]; exact SeqAt.RcNeAt.str_str x tx y ty)
  | .str x, .lst y, v1, v2, u1, u2, o1, o2, r1, r2, q1, q2, hu => by
    cases Rep.str_inv r1
    obtain ⟨tx, rfl⟩ := q1
    obtain ⟨ay, vsy, rfl, sy, rsy⟩ := Rep.lst_inv r2
    cases q2
    obtain ⟨itsy, rvy, ply, _⟩ := I.list sy
    have hy := ply.isList
    have hu0 : A.units < cLine := by omega
    exact (by simp only [eqv, Bool.not_false]; exact SeqAt.RcNeAt.str_list x tx hy hu0)
  | .str x, .tup y, v1, v2, u1, u2, o1, o2, r1, r2, q1, q2, hu => by
    cases Rep.str_inv r1
    obtain ⟨tx, rfl⟩ := q1
    obtain ⟨ay, vsy, rfl, sy, rsy⟩ := Rep.tup_inv r2
    cases q2
    obtain ⟨itsy, rvy, ply, _⟩ := I.tuple sy
    have hy : s.heap.IsTuple ay itsy.toArray := ply
    have hu0 : A.units < cLine := by omega
    exact (by simp only [eqv, Bool.not_false]; exact SeqAt.RcNeAt.str_tuple x tx hy hu0)
  | .lst x, .non, v1, v2, u1, u2, o1, o2, r1, r2, q1, q2, hu => by
    obtain ⟨ax, vsx, rfl, sx, rsx⟩ := Rep.lst_inv r1
    cases q1
    obtain ⟨itsx, rvx, plx, _⟩ := I.list sx
    have hx := plx.isList
    cases Rep.non_inv r2
    cases q2
    have hu0 : A.units < cLine := by omega
    exact (by simp only [eqv, Bool.not_false]; exact SeqAt.RcNeAt.list_none  hx hu0)
  | .lst x, .bl y, v1, v2, u1, u2, o1, o2, r1, r2, q1, q2, hu => by
    obtain ⟨ax, vsx, rfl, sx, rsx⟩ := Rep.lst_inv r1
    cases q1
    obtain ⟨itsx, rvx, plx, _⟩ := I.list sx
    have hx := plx.isList
    cases Rep.bl_inv r2
    cases q2
    have hu0 : A.units < cLine := by omega
    exact (by simp only [eqv, Bool.not_false]; exact SeqAt.RcNeAt.list_bool y hx hu0)
  | .lst x, .int y, v1, v2, u1, u2, o1, o2, r1, r2, q1, q2, hu => by
    obtain ⟨ax, vsx, rfl, sx, rsx⟩ := Rep.lst_inv r1
    cases q1
    obtain ⟨itsx, rvx, plx, _⟩ := I.list sx
    have hx := plx.isList
    cases Rep.int_inv r2
    obtain ⟨ty, rfl⟩ := q2
    have hu0 : A.units < cLine := by omega
    exact (by simp only [eqv, Bool.not_false]; exact SeqAt.RcNeAt.list_int y ty hx hu0)
  | .lst x, .str y, v1, v2, u1, u2, o1, o2, r1, r2, q1, q2, hu => by
    obtain ⟨ax, vsx, rfl, sx, rsx⟩ := Rep.lst_inv r1
    cases q1
    obtain ⟨itsx, rvx, plx, _⟩ := I.list sx
    have hx := plx.isList
    cases Rep.str_inv r2
    obtain ⟨ty, rfl⟩ := q2
    have hu0 : A.units < cLine := by omega
    exact (by simp only [eqv, Bool.not_false]; exact SeqAt.RcNeAt.list_str y ty hx hu0)
  | .lst x, .lst y, v1, v2, u1, u2, o1, o2, r1, r2, q1, q2, hu => by
    obtain ⟨ax, vsx, rfl, sx, rsx⟩ := Rep.lst_inv r1
    cases q1
    obtain ⟨itsx, rvx, plx, _⟩ := I.list sx
    have hx := plx.isList
    obtain ⟨ay, vsy, rfl, sy, rsy⟩ := Rep.lst_inv r2
    cases q2
    obtain ⟨itsy, rvy, ply, _⟩ := I.list sy
    have hy := ply.isList
    have hu0 : A.units < cLine := by omega
    have n1 : itsx.toArray.size = x.length := by rw [List.size_toArray, ← rvx.length, rsx.length]
    have n2 : itsy.toArray.size = y.length := by rw [List.size_toArray, ← rvy.length, rsy.length]
    have ox := okN_list o1
    have oy := okN_list o2
    have he : ∀ j (j1 : j < itsx.toArray.size) (j2 : j < itsy.toArray.size), SeqAt.EqAt A.in1 s itsx.toArray[j] itsy.toArray[j] (pairE x y j) := fun j j1 j2 => items_at (fun a b v w u1 u2 p q r t k l => ih A.in1 a b v w u1 u2 p q r t k l (by show A.units + 1 + n < cLine; omega)) rsx rsy rvx rvy ox oy j (by simpa using j1) (by simpa using j2)
    rw [eqv]
    by_cases hsz : itsx.toArray.size = itsy.toArray.size
    · rw [← eqvs_same (by omega : x.length = y.length), ← n1]
      exact SeqAt.RcNeAt.lists hx hy hsz hu0 he
    · rw [eqvs_other (by omega : x.length ≠ y.length)]
      exact SeqAt.RcNeAt.lists_lengths hx hy (by simpa using hsz) hu0
  | .lst x, .tup y, v1, v2, u1, u2, o1, o2, r1, r2, q1, q2, hu => by
    obtain ⟨ax, vsx, rfl, sx, rsx⟩ := Rep.lst_inv r1
    cases q1
    obtain ⟨itsx, rvx, plx, _⟩ := I.list sx
    have hx := plx.isList
    obtain ⟨ay, vsy, rfl, sy, rsy⟩ := Rep.tup_inv r2
    cases q2
    obtain ⟨itsy, rvy, ply, _⟩ := I.tuple sy
    have hy : s.heap.IsTuple ay itsy.toArray := ply
    have hu0 : A.units < cLine := by omega
    exact (by simp only [eqv, Bool.not_false]; exact SeqAt.RcNeAt.list_tuple  hx hy hu0)
  | .tup x, .non, v1, v2, u1, u2, o1, o2, r1, r2, q1, q2, hu => by
    obtain ⟨ax, vsx, rfl, sx, rsx⟩ := Rep.tup_inv r1
    cases q1
    obtain ⟨itsx, rvx, plx, _⟩ := I.tuple sx
    have hx : s.heap.IsTuple ax itsx.toArray := plx
    cases Rep.non_inv r2
    cases q2
    have hu0 : A.units < cLine := by omega
    exact (by simp only [eqv, Bool.not_false]; exact SeqAt.RcNeAt.tuple_none  hx hu0)
  | .tup x, .bl y, v1, v2, u1, u2, o1, o2, r1, r2, q1, q2, hu => by
    obtain ⟨ax, vsx, rfl, sx, rsx⟩ := Rep.tup_inv r1
    cases q1
    obtain ⟨itsx, rvx, plx, _⟩ := I.tuple sx
    have hx : s.heap.IsTuple ax itsx.toArray := plx
    cases Rep.bl_inv r2
    cases q2
    have hu0 : A.units < cLine := by omega
    exact (by simp only [eqv, Bool.not_false]; exact SeqAt.RcNeAt.tuple_bool y hx hu0)
  | .tup x, .int y, v1, v2, u1, u2, o1, o2, r1, r2, q1, q2, hu => by
    obtain ⟨ax, vsx, rfl, sx, rsx⟩ := Rep.tup_inv r1
    cases q1
    obtain ⟨itsx, rvx, plx, _⟩ := I.tuple sx
    have hx : s.heap.IsTuple ax itsx.toArray := plx
    cases Rep.int_inv r2
    obtain ⟨ty, rfl⟩ := q2
    have hu0 : A.units < cLine := by omega
    exact (by simp only [eqv, Bool.not_false]; exact SeqAt.RcNeAt.tuple_int y ty hx hu0)
  | .tup x, .str y, v1, v2, u1, u2, o1, o2, r1, r2, q1, q2, hu => by
    obtain ⟨ax, vsx, rfl, sx, rsx⟩ := Rep.tup_inv r1
    cases q1
    obtain ⟨itsx, rvx, plx, _⟩ := I.tuple sx
    have hx : s.heap.IsTuple ax itsx.toArray := plx
    cases Rep.str_inv r2
    obtain ⟨ty, rfl⟩ := q2
    have hu0 : A.units < cLine := by omega
    exact (by simp only [eqv, Bool.not_false]; exact SeqAt.RcNeAt.tuple_str y ty hx hu0)
  | .tup x, .lst y, v1, v2, u1, u2, o1, o2, r1, r2, q1, q2, hu => by
    obtain ⟨ax, vsx, rfl, sx, rsx⟩ := Rep.tup_inv r1
    cases q1
    obtain ⟨itsx, rvx, plx, _⟩ := I.tuple sx
    have hx : s.heap.IsTuple ax itsx.toArray := plx
    obtain ⟨ay, vsy, rfl, sy, rsy⟩ := Rep.lst_inv r2
    cases q2
    obtain ⟨itsy, rvy, ply, _⟩ := I.list sy
    have hy := ply.isList
    have hu0 : A.units < cLine := by omega
    exact (by simp only [eqv, Bool.not_false]; exact SeqAt.RcNeAt.tuple_list  hx hy hu0)
  | .tup x, .tup y, v1, v2, u1, u2, o1, o2, r1, r2, q1, q2, hu => by
    obtain ⟨ax, vsx, rfl, sx, rsx⟩ := Rep.tup_inv r1
    cases q1
    obtain ⟨itsx, rvx, plx, _⟩ := I.tuple sx
    have hx : s.heap.IsTuple ax itsx.toArray := plx
    obtain ⟨ay, vsy, rfl, sy, rsy⟩ := Rep.tup_inv r2
    cases q2
    obtain ⟨itsy, rvy, ply, _⟩ := I.tuple sy
    have hy : s.heap.IsTuple ay itsy.toArray := ply
    have hu0 : A.units < cLine := by omega
    have n1 : itsx.toArray.size = x.length := by rw [List.size_toArray, ← rvx.length, rsx.length]
    have n2 : itsy.toArray.size = y.length := by rw [List.size_toArray, ← rvy.length, rsy.length]
    have ox := okN_tuple o1
    have oy := okN_tuple o2
    have he : ∀ j (j1 : j < itsx.toArray.size) (j2 : j < itsy.toArray.size), SeqAt.EqAt A.in1 s itsx.toArray[j] itsy.toArray[j] (pairE x y j) := fun j j1 j2 => items_at (fun a b v w u1 u2 p q r t k l => ih A.in1 a b v w u1 u2 p q r t k l (by show A.units + 1 + n < cLine; omega)) rsx rsy rvx rvy ox oy j (by simpa using j1) (by simpa using j2)
    rw [eqv]
    rw [← eqvs_all x y, ← n1, ← n2]
    exact SeqAt.RcNeAt.tuples hx hy hu0 he
  | .non, .dK y, v1, v2, u1, u2, o1, o2, r1, r2, q1, q2, hu => by simp [okN] at o2
  | .non, .dT y, v1, v2, u1, u2, o1, o2, r1, r2, q1, q2, hu => by simp [okN] at o2
  | .non, .ty y, v1, v2, u1, u2, o1, o2, r1, r2, q1, q2, hu => by simp [okN] at o2
  | .non, .scr y, v1, v2, u1, u2, o1, o2, r1, r2, q1, q2, hu => by simp [okN] at o2
  | .bl x, .dK y, v1, v2, u1, u2, o1, o2, r1, r2, q1, q2, hu => by simp [okN] at o2
  | .bl x, .dT y, v1, v2, u1, u2, o1, o2, r1, r2, q1, q2, hu => by simp [okN] at o2
  | .bl x, .ty y, v1, v2, u1, u2, o1, o2, r1, r2, q1, q2, hu => by simp [okN] at o2
  | .bl x, .scr y, v1, v2, u1, u2, o1, o2, r1, r2, q1, q2, hu => by simp [okN] at o2
  | .int x, .dK y, v1, v2, u1, u2, o1, o2, r1, r2, q1, q2, hu => by simp [okN] at o2
  | .int x, .dT y, v1, v2, u1, u2, o1, o2, r1, r2, q1, q2, hu => by simp [okN] at o2
  | .int x, .ty y, v1, v2, u1, u2, o1, o2, r1, r2, q1, q2, hu => by simp [okN] at o2
  | .int x, .scr y, v1, v2, u1, u2, o1, o2, r1, r2, q1, q2, hu => by simp [okN] at o2
  | .str x, .dK y, v1, v2, u1, u2, o1, o2, r1, r2, q1, q2, hu => by simp [okN] at o2
  | .str x, .dT y, v1, v2, u1, u2, o1, o2, r1, r2, q1, q2, hu => by simp [okN] at o2
  | .str x, .ty y, v1, v2, u1, u2, o1, o2, r1, r2, q1, q2, hu => by simp [okN] at o2
  | .str x, .scr y, v1, v2, u1, u2, o1, o2, r1, r2, q1, q2, hu => by simp [okN] at o2
  | .lst x, .dK y, v1, v2, u1, u2, o1, o2, r1, r2, q1, q2, hu => by simp [okN] at o2
  | .lst x, .dT y, v1, v2, u1, u2, o1, o2, r1, r2, q1, q2, hu => by simp [okN] at o2
  | .lst x, .ty y, v1, v2, u1, u2, o1, o2, r1, r2, q1, q2, hu => by simp [okN] at o2
  | .lst x, .scr y, v1, v2, u1, u2, o1, o2, r1, r2, q1, q2, hu => by simp [okN] at o2
  | .tup x, .dK y, v1, v2, u1, u2, o1, o2, r1, r2, q1, q2, hu => by simp [okN] at o2
  | .tup x, .dT y, v1, v2, u1, u2, o1, o2, r1, r2, q1, q2, hu => by simp [okN] at o2
  | .tup x, .ty y, v1, v2, u1, u2, o1, o2, r1, r2, q1, q2, hu => by simp [okN] at o2
  | .tup x, .scr y, v1, v2, u1, u2, o1, o2, r1, r2, q1, q2, hu => by simp [okN] at o2
  | .dK x, _, v1, v2, u1, u2, o1, o2, r1, r2, q1, q2, hu => by simp [okN] at o1
  | .dT x, _, v1, v2, u1, u2, o1, o2, r1, r2, q1, q2, hu => by simp [okN] at o1
  | .ty x, _, v1, v2, u1, u2, o1, o2, r1, r2, q1, q2, hu => by simp [okN] at o1
  | .scr x, _, v1, v2, u1, u2, o1, o2, r1, r2, q1, q2, hu => by simp [okN] at o1
theorem okN_up : ∀ (n : Nat) (d : D), okN n d = true → okN (n + 1) d = true
  | _, .non, _ => by simp [okN]
  | _, .bl _, _ => by simp [okN]
  | _, .int _, _ => by simp [okN]
  | _, .str _, _ => by simp [okN]
  | n + 1, .lst ds, h => by
    simp only [okN]
    exact List.all_eq_true.mpr fun d hd => okN_up n d (okN_list h d hd)
  | n + 1, .tup ds, h => by
    simp only [okN]
    exact List.all_eq_true.mpr fun d hd => okN_up n d (okN_tuple h d hd)
  | 0, .lst _, h => by simp [okN] at h
  | 0, .tup _, h => by simp [okN] at h
  | 0, .dK _, h => by simp [okN] at h
  | 0, .ty _, h => by simp [okN] at h
  | n + 1, .ty _, h => by simp [okN] at h
  | 0, .scr _, h => by simp [okN] at h
  | n + 1, .scr _, h => by simp [okN] at h
  | 0, .dT _, h => by simp [okN] at h
  | n + 1, .dK _, h => by simp [okN] at h
  | n + 1, .dT _, h => by simp [okN] at h
theorem eqAt_zero (I : Inv X pins σ H s) : EqIh X H s 0 := by
  intro A d1 d2 v1 v2 u1 u2 o1 o2 r1 r2 q1 q2 hu
  cases d1 <;> simp [okN] at o1 <;> cases d2 <;> simp [okN] at o2 <;> cases r1 <;> cases r2 <;> (have h := eqAt_V (A := A) (s := s) q1 q2 rfl rfl; simp only [eqv]; exact h)
theorem eqAt_rep (I : Inv X pins σ H s) : ∀ n : Nat, EqIh X H s n
  | 0 => eqAt_zero I
  | n + 1 => fun A d1 d2 v1 v2 u1 u2 o1 o2 r1 r2 q1 q2 hu => eqAt_step I (eqAt_rep I n) d1 d2 v1 v2 u1 u2 o1 o2 r1 r2 q1 q2 hu
end
end DL

set_option autoImplicit false
set_option Elab.async false
set_option linter.all false
set_option maxRecDepth 100000
/-! DL: the operations. -/
namespace DL
open PySem PySem.Spec PyProof.Rows L2

/-- the largest length that is let grow -/
def LIM : Nat := 16777216
theorem LIM_eq : LIM = sizeLine := by rw [sizeLine_eq]; rfl
section
variable {X : Cx}
theorem OpD.of {g : Value → Value → Sem Value} {f : D → D → Option (Nat × D)} {r : R2} (h : OpR X g r) (q : ∀ d1 d2 n d, f d1 d2 = some (n, d) → ∀ (F H : Hp) (x y : V) (Q : VK), Same F H → Rep X.K F d1 x → Rep X.K F d2 y → (∀ v F' H' S, NewV X.K F H F' H' n d v S → Q v H') → r x y H Q) : OpD X g f := ⟨r, h, q⟩
/-- by cases of the values -/
theorem OpR.or {g : Value → Value → Sem Value} {r r' : R2} (h : OpR X g r) (h' : OpR X g r') : OpR X g (fun x y H Q => r x y H Q ∨ r' x y H Q) := by
  intro pins s σ H x y v u Q I rx ry q
  rcases q with q | q
  · exact h pins s σ H x y v u Q I rx ry q
  · exact h' pins s σ H x y v u Q I rx ry q

/-! ### + - * // % ** -/
def addD : D → D → Option (Nat × D)
  | .int i, .int j => some (0, .int (i + j))
  | .lst xs, .lst ys => if xs.length + ys.length ≤ LIM then some (1, .lst (xs ++ ys)) else none
  | .tup xs, .tup ys => if xs.length + ys.length ≤ LIM then some (0, .tup (xs ++ ys)) else none
  | .str x, .str y => if x.length + y.length ≤ LIM then some (0, .str (x ++ y)) else none
  | _, _ => none
theorem addTup {F H : Hp} {a b : Addr} {vs ws : List V} {xs ys : List D} {Q : VK} (sf : Same F H) (h1 : SqT X.K F a vs) (h2 : SqT X.K F b ws) (k1 : Reps X.K F xs vs) (k2 : Reps X.K F ys ws) (r1 : Rep X.K F (.tup xs) (.ref a)) (r2 : Rep X.K F (.tup ys) (.ref b)) (hl : xs.length + ys.length ≤ LIM)
      (q : ∀ v F' H' S, NewV X.K F H F' H' 0 (.tup (xs ++ ys)) v S → Q v H') : rCatA X.K (.ref a) (.ref b) H Q := by
  refine ⟨a, b, vs, ws, rfl, rfl, SqT.mono sf h1, SqT.mono sf h2, by rw [← k1.length, ← k2.length, ← LIM_eq]; exact hl, fun e => ?_, fun _ e => ?_, fun _ _ p hp => ?_⟩
  · subst e
    have e' : xs = [] := List.eq_nil_of_length_eq_zero k1.length
    subst e'
    exact q _ F H _ (NewV.of_rep sf r2)
  · subst e
    have e' : ys = [] := List.eq_nil_of_length_eq_zero k2.length
    subst e'
    rw [List.append_nil] at q
    exact q _ F H _ (NewV.of_rep sf r1)
  · exact q _ _ _ _ (NewV.tup sf hp (k1.append k2))
theorem op_addD : OpD X (binaryOp .Add) addD := by
  refine OpD.of ((((op_add (X := X)).or op_cat).or op_catA).or op_add_str) fun d1 d2 n d h F H x y Q sf r1 r2 q => ?_
  unfold addD at h
  split at h
  · cases h
    cases Rep.int_inv r1
    cases Rep.int_inv r2
    exact .inl (.inl (.inl ⟨_, _, rfl, rfl, q _ F H _ (NewV.of_rep sf (.int _))⟩))
  · split at h
    · rename_i hl
      cases h
      obtain ⟨a, vs, rfl, h1, k1⟩ := Rep.lst_inv' r1
      obtain ⟨b, ws, rfl, h2, k2⟩ := Rep.lst_inv' r2
      exact .inl (.inl (.inr ⟨a, b, vs, ws, rfl, rfl, sf _ _ h1, sf _ _ h2, by rw [← k1.length, ← k2.length, ← LIM_eq]; exact hl, fun p hp => q _ _ _ _ (NewV.lst sf hp (k1.append k2))⟩))
    · cases h
  · split at h
    · rename_i hl
      cases h
      obtain ⟨a, vs, rfl, h1, k1⟩ := Rep.tup_inv r1
      obtain ⟨b, ws, rfl, h2, k2⟩ := Rep.tup_inv r2
      exact .inl (.inr (addTup sf h1 h2 k1 k2 r1 r2 hl q))
    · cases h
  · split at h
    · rename_i hl
      cases h
      cases Rep.str_inv r1
      cases Rep.str_inv r2
      exact .inr ⟨_, _, rfl, rfl, by rw [← LIM_eq]; exact hl, q _ F H _ (NewV.of_rep sf (.str _))⟩
    · cases h
  · cases h
def subD : D → D → Option (Nat × D)
  | .int i, .int j => some (0, .int (i - j))
  | _, _ => none
theorem op_subD : OpD X (binaryOp .Sub) subD := by
  refine OpD.of (op_sub (X := X)) fun d1 d2 n d h F H x y Q sf r1 r2 q => ?_
  unfold subD at h
  split at h
  · cases h
    cases Rep.int_inv r1
    cases Rep.int_inv r2
    exact ⟨_, _, rfl, rfl, q _ F H _ (NewV.of_rep sf (.int _))⟩
  · cases h
/-- within the small products -/
def mulOk (i j : Int) : Bool := decide (-(2 ^ 64) < i ∧ i < 2 ^ 64) || decide (-(2 ^ 64) < j ∧ j < 2 ^ 64)
def repD (k : Nat) (xs : List D) : List D := (List.replicate k xs).flatten
theorem Reps.rep {K : PySem.W.Frag} {F : Hp} {xs : List D} {vs : List V} (r : Reps K F xs vs) : ∀ k : Nat, Reps K F (repD k xs) (List.replicate k vs).flatten
  | 0 => .nil
  | k + 1 => by
    show Reps K F ((List.replicate (k + 1) xs).flatten) _
    rw [List.replicate_succ, List.replicate_succ, List.flatten_cons, List.flatten_cons]
    exact r.append (Reps.rep r k)
def mulD : D → D → Option (Nat × D)
  | .int i, .int j => if mulOk i j = true then some (0, .int (i * j)) else none
  | .lst xs, .int k => if -(2 ^ 63) ≤ k ∧ k < 2 ^ 63 ∧ xs.length * k.toNat ≤ LIM then some (1, .lst (repD k.toNat xs)) else none
  | _, _ => none
theorem op_mulD : OpD X (binaryOp .Mult) mulD := by
  refine OpD.of ((op_mul (X := X)).or op_rep) fun d1 d2 n d h F H x y Q sf r1 r2 q => ?_
  unfold mulD at h
  split at h
  · split at h
    · rename_i hm
      cases h
      cases Rep.int_inv r1
      cases Rep.int_inv r2
      refine .inl ⟨_, _, rfl, rfl, ?_, q _ F H _ (NewV.of_rep sf (.int _))⟩
      unfold mulOk at hm
      rw [Bool.or_eq_true, decide_eq_true_eq, decide_eq_true_eq] at hm
      exact hm
    · cases h
  · split at h
    · rename_i hm
      cases h
      obtain ⟨a, vs, rfl, h1, k1⟩ := Rep.lst_inv' r1
      cases Rep.int_inv r2
      exact .inr ⟨a, _, vs, rfl, rfl, sf _ _ h1, hm.1, hm.2.1, by rw [← k1.length, ← LIM_eq]; exact hm.2.2, fun p hp => q _ _ _ _ (NewV.lst sf hp (k1.rep _))⟩
    · cases h
  · cases h
def fdivD : D → D → Option (Nat × D)
  | .int i, .int j => if 0 < j ∧ j < 1073741824 then some (0, .int (i / j)) else none
  | _, _ => none
theorem op_fdivD : OpD X (binaryOp .FloorDiv) fdivD := by
  refine OpD.of (op_fdiv (X := X)) fun d1 d2 n d h F H x y Q sf r1 r2 q => ?_
  unfold fdivD at h
  split at h
  · split at h
    · rename_i hm
      cases h
      cases Rep.int_inv r1
      cases Rep.int_inv r2
      exact ⟨_, _, rfl, rfl, hm, q _ F H _ (NewV.of_rep sf (.int _))⟩
    · cases h
  · cases h
def modD : D → D → Option (Nat × D)
  | .int i, .int j => if 0 < j then some (0, .int (i % j)) else none
  | _, _ => none
theorem op_modD : OpD X (binaryOp .Mod) modD := by
  refine OpD.of (op_mod (X := X)) fun d1 d2 n d h F H x y Q sf r1 r2 q => ?_
  unfold modD at h
  split at h
  · split at h
    · rename_i hm
      cases h
      cases Rep.int_inv r1
      cases Rep.int_inv r2
      exact ⟨_, _, rfl, rfl, hm, q _ F H _ (NewV.of_rep sf (.int _))⟩
    · cases h
  · cases h
def powD : D → D → Option (Nat × D)
  | .int i, .int j => if 0 ≤ j ∧ j ≤ 1000000 ∧ i.natAbs < 2 ^ 64 then some (0, .int (i ^ j.toNat)) else none
  | _, _ => none
theorem op_powD : OpD X (binaryOp .Pow) powD := by
  refine OpD.of (op_pow (X := X)) fun d1 d2 n d h F H x y Q sf r1 r2 q => ?_
  unfold powD at h
  split at h
  · split at h
    · rename_i hm
      cases h
      cases Rep.int_inv r1
      cases Rep.int_inv r2
      exact ⟨_, _, rfl, rfl, hm, q _ F H _ (NewV.of_rep sf (.int _))⟩
    · cases h
  · cases h
def negD : D → Option (Nat × D)
  | .int i => some (0, .int (-i))
  | _ => none
theorem un_negD : UnD X (unaryOp .USub) negD := by
  refine ⟨_, un_neg (X := X), fun d1 n d h F H x Q sf r1 q => ?_⟩
  unfold negD at h
  split at h
  · cases h
    cases Rep.int_inv r1
    exact ⟨_, rfl, q _ F H _ (NewV.of_rep sf (.int _))⟩
  · cases h

/-! ### comparisons -/
def eqD (a b : D) : Option Bool := if okN 40 a && okN 40 b then some (eqv a b) else none
def neD (a b : D) : Option Bool := if okN 40 a && okN 40 b then some (!eqv a b) else none
theorem op_eqDD (hu : X.A.units + 64 < cLine) : CmpD X .Eq eqD := by
  refine ⟨fun x y H Q => ∃ d1 d2, okN 40 d1 = true ∧ okN 40 d2 = true ∧ Rep X.K H d1 x ∧ Rep X.K H d2 y ∧ Q (.bl (eqv d1 d2)) H, fun pins s σ H x y v u Q I rx ry ⟨d1, d2, o1, o2, r1, r2, q⟩ => ?_, fun d1 d2 k h F H x y Q sf r1 r2 q => ?_⟩
  · exact rcAt_step I (eqAt_rep I 39) d1 d2 x y v u o1 o2 r1 r2 rx ry (by omega) _ _ _ _ ⟨.bl _, H, I, rfl, q⟩
  · unfold eqD at h
    split at h
    · rename_i c
      rw [Bool.and_eq_true] at c
      cases h
      exact ⟨d1, d2, c.1, c.2, r1.mono sf, r2.mono sf, q⟩
    · cases h
theorem op_neDD (hu : X.A.units + 64 < cLine) : CmpD X .NotEq neD := by
  refine ⟨fun x y H Q => ∃ d1 d2, okN 40 d1 = true ∧ okN 40 d2 = true ∧ Rep X.K H d1 x ∧ Rep X.K H d2 y ∧ Q (.bl (!eqv d1 d2)) H, fun pins s σ H x y v u Q I rx ry ⟨d1, d2, o1, o2, r1, r2, q⟩ => ?_, fun d1 d2 k h F H x y Q sf r1 r2 q => ?_⟩
  · exact rcNe_step I (eqAt_rep I 39) d1 d2 x y v u o1 o2 r1 r2 rx ry (by omega) _ _ _ _ ⟨.bl _, H, I, rfl, q⟩
  · unfold neD at h
    split at h
    · rename_i c
      rw [Bool.and_eq_true] at c
      cases h
      exact ⟨d1, d2, c.1, c.2, r1.mono sf, r2.mono sf, q⟩
    · cases h
def intsOf : List D → Option (List Int)
  | [] => some []
  | .int i :: ds => (intsOf ds).map (i :: ·)
  | _ :: _ => none
theorem intsOf_eq : ∀ {ds : List D} {ns : List Int}, intsOf ds = some ns → ds = ns.map D.int
  | [], ns, h => by cases h; rfl
  | .int i :: ds, ns, h => by
    simp only [intsOf] at h
    cases q : intsOf ds with
    | none => rw [q] at h; cases h
    | some l => rw [q] at h; cases h; rw [intsOf_eq q]; rfl
  | .non :: _, _, h => nomatch h
  | .bl _ :: _, _, h => nomatch h
  | .str _ :: _, _, h => nomatch h
  | .ty _ :: _, _, h => nomatch h
  | .lst _ :: _, _, h => nomatch h
  | .tup _ :: _, _, h => nomatch h
  | .scr _ :: _, _, h => nomatch h
  | .dK _ :: _, _, h => nomatch h
  | .dT _ :: _, _, h => nomatch h
theorem intsOf_map (ns : List Int) : intsOf (ns.map D.int) = some ns := by
  induction ns with
  | nil => rfl
  | cons n ns ih => simp only [List.map_cons, intsOf, ih]; rfl
theorem CmpD.of {op : CmpOp} {f : D → D → Option Bool} {r : R2} (h : OpR X (compareOp op) r) (q : ∀ d1 d2 k, f d1 d2 = some k → ∀ (F H : Hp) (x y : V) (Q : VK), Same F H → Rep X.K F d1 x → Rep X.K F d2 y → Q (.bl k) H → r x y H Q) : CmpD X op f := ⟨r, h, q⟩
def ltD : D → D → Option Bool
  | .int i, .int j => some (decide (i < j))
  | .str i, .str j => some (decide (i.cps.toList < j.cps.toList))
  | _, _ => none
theorem op_ltD : CmpD X .Lt ltD := by
  refine CmpD.of ((op_lt (X := X)).or op_lt_str) fun d1 d2 k h F H x y Q sf r1 r2 q => ?_
  unfold ltD at h
  split at h
  · cases h; cases Rep.int_inv r1; cases Rep.int_inv r2; exact .inl ⟨_, _, rfl, rfl, q⟩
  · cases h; cases Rep.str_inv r1; cases Rep.str_inv r2; exact .inr ⟨_, _, rfl, rfl, q⟩
  · cases h
/-- the order of tuples of ints -/
def leTup (ns ms : List Int) : Bool := Ob.lexAt (fun j => decide (ns.getD j 0 = ms.getD j 0)) (fun j => decide (ns.getD j 0 ≤ ms.getD j 0)) (decide (ns.length ≤ ms.length)) 0 (min ns.length ms.length)
def leD : D → D → Option Bool
  | .int i, .int j => some (decide (i ≤ j))
  | .tup xs, .tup ys => match intsOf xs, intsOf ys with
    | some ns, some ms => some (leTup ns ms)
    | _, _ => none
  | _, _ => none
theorem op_leD (hu : X.A.units + 64 < cLine) : CmpD X .LtE leD := by
  refine CmpD.of ((op_le (X := X)).or (op_leT (by omega))) fun d1 d2 k h F H x y Q sf r1 r2 q => ?_
  unfold leD at h
  split at h
  · cases h; cases Rep.int_inv r1; cases Rep.int_inv r2; exact .inl ⟨_, _, rfl, rfl, q⟩
  · split at h
    · rename_i ns ms h1 h2
      cases h
      obtain ⟨a, vs, rfl, s1, k1⟩ := Rep.tup_inv r1
      obtain ⟨b, ws, rfl, s2, k2⟩ := Rep.tup_inv r2
      rw [intsOf_eq h1] at k1
      rw [intsOf_eq h2] at k2
      rw [Reps.ints k1] at s1
      rw [Reps.ints k2] at s2
      exact .inr ⟨a, b, ns, ms, rfl, rfl, SqT.mono sf s1, SqT.mono sf s2, q⟩
    · cases h
  · cases h
def gtD : D → D → Option Bool
  | .int i, .int j => some (decide (j < i))
  | _, _ => none
theorem op_gtD : CmpD X .Gt gtD := by
  refine CmpD.of (op_gt (X := X)) fun d1 d2 k h F H x y Q sf r1 r2 q => ?_
  unfold gtD at h
  split at h
  · cases h; cases Rep.int_inv r1; cases Rep.int_inv r2; exact ⟨_, _, rfl, rfl, q⟩
  · cases h
def geD : D → D → Option Bool
  | .int i, .int j => some (decide (j ≤ i))
  | _, _ => none
theorem op_geD : CmpD X .GtE geD := by
  refine CmpD.of (op_ge (X := X)) fun d1 d2 k h F H x y Q sf r1 r2 q => ?_
  unfold geD at h
  split at h
  · cases h; cases Rep.int_inv r1; cases Rep.int_inv r2; exact ⟨_, _, rfl, rfl, q⟩
  · cases h
def isNonD : D → Bool
  | .non => true
  | _ => false
def isD : D → D → Option Bool
  | .bl a, .bl b => some (decide (a = b))
  | a, .non => some (isNonD a)
  | _, _ => none
def isntD : D → D → Option Bool
  | .bl a, .bl b => some (!decide (a = b))
  | a, .non => some (!isNonD a)
  | _, _ => none
theorem isNonD_ok {K : PySem.W.Frag} {F : Hp} {d : D} {x : V} (r : Rep K F d x) : decide (x = .non) = isNonD d := by
  cases r <;> rfl
theorem op_isD : CmpD X .Is isD := by
  refine CmpD.of ((op_is_bl (X := X)).or op_isN) fun d1 d2 k h F H x y Q sf r1 r2 q => ?_
  unfold isD at h
  split at h
  · cases h; cases Rep.bl_inv r1; cases Rep.bl_inv r2; exact .inl ⟨_, _, rfl, rfl, q⟩
  · cases h; cases Rep.non_inv r2; exact .inr ⟨rfl, by rw [isNonD_ok r1]; exact q⟩
  · cases h
theorem op_isntD : CmpD X .IsNot isntD := by
  refine CmpD.of ((op_isnot_bl (X := X)).or op_notN) fun d1 d2 k h F H x y Q sf r1 r2 q => ?_
  unfold isntD at h
  split at h
  · cases h; cases Rep.bl_inv r1; cases Rep.bl_inv r2; exact .inl ⟨_, _, rfl, rfl, q⟩
  · cases h; cases Rep.non_inv r2; exact .inr ⟨rfl, by rw [isNonD_ok r1]; exact q⟩
  · cases h

/-! ### dicts as tables -/
section
variable {κ : Type} [DecidableEq κ] {α : Type}
def dlook (kvs : List (κ × α)) (k : κ) : Option α := (kvs.find? fun kv => decide (kv.1 = k)).map (·.2)
def dput (kvs : List (κ × α)) (k : κ) (v : α) : List (κ × α) :=
  if (kvs.any fun kv => decide (kv.1 = k)) = true then kvs.map (fun kv => if kv.1 = k then (kv.1, v) else kv) else kvs ++ [(k, v)]
theorem dlook_cons (p : κ × α) (r : List (κ × α)) (k : κ) : dlook (p :: r) k = if p.1 = k then some p.2 else dlook r k := by
  by_cases h : p.1 = k <;> simp [dlook, List.find?_cons, h]
end
theorem dlook_some {K : PySem.W.Frag} {F : Hp} {κ : Type} [DecidableEq κ] : ∀ {kvs : List (κ × D)} {kws : List (κ × V)} {k : κ}, kvs.map (·.1) = kws.map (·.1) → Reps K F (kvs.map (·.2)) (kws.map (·.2)) → match dlook kvs k with
    | some d => ∃ v, valV kws k = some v ∧ Rep K F d v
    | none => valV kws k = none
  | [], [], k, _, _ => rfl
  | [], _ :: _, k, h, _ => by simp at h
  | _ :: _, [], k, h, _ => by simp at h
  | p :: kvs, q :: kws, k, h, r => by
    simp only [List.map_cons, List.cons.injEq] at h r
    cases r with
    | cons r1 rs =>
      rw [dlook_cons]
      by_cases e : p.1 = k
      · rw [if_pos e]
        exact ⟨q.2, valV_pos (by rw [← h.1]; exact e), r1⟩
      · rw [if_neg e]
        have := dlook_some (k := k) h.2 rs
        rw [valV_neg (by rw [← h.1]; exact e)]
        exact this
theorem dput_keys {κ : Type} [DecidableEq κ] {kvs : List (κ × D)} {kws : List (κ × V)} (k : κ) (d : D) (v : V) (h : kvs.map (·.1) = kws.map (·.1)) : (dput kvs k d).map (·.1) = (putK kws k v).map (·.1) := by
  have ha : (kvs.any fun kv => decide (kv.1 = k)) = (kws.any fun kv => decide (kv.1 = k)) := by
    have e1 : (kvs.any fun kv => decide (kv.1 = k)) = (kvs.map (·.1)).any (fun z => decide (z = k)) := by rw [List.any_map]; rfl
    have e2 : (kws.any fun kv => decide (kv.1 = k)) = (kws.map (·.1)).any (fun z => decide (z = k)) := by rw [List.any_map]; rfl
    rw [e1, e2, h]
  unfold dput putK
  rw [ha]
  split
  · rw [List.map_map, List.map_map]
    have e1 : ((fun x : κ × D => x.1) ∘ fun kv => if kv.1 = k then (kv.1, d) else kv) = (fun x : κ × D => x.1) := by
      funext p; show (if p.1 = k then (p.1, d) else p).1 = p.1; split <;> rfl
    have e2 : ((fun x : κ × V => x.1) ∘ fun kv => if kv.1 = k then (kv.1, v) else kv) = (fun x : κ × V => x.1) := by
      funext p; show (if p.1 = k then (p.1, v) else p).1 = p.1; split <;> rfl
    rw [e1, e2]; exact h
  · simp [h]
theorem dput_vals {K : PySem.W.Frag} {F : Hp} {κ : Type} [DecidableEq κ] {k : κ} {d : D} {v : V} (rd : Rep K F d v) {kvs : List (κ × D)} {kws : List (κ × V)} (h : kvs.map (·.1) = kws.map (·.1)) (r : Reps K F (kvs.map (·.2)) (kws.map (·.2))) : Reps K F ((dput kvs k d).map (·.2)) ((putK kws k v).map (·.2)) := by
  have ha : (kvs.any fun kv => decide (kv.1 = k)) = (kws.any fun kv => decide (kv.1 = k)) := by
    have e1 : (kvs.any fun kv => decide (kv.1 = k)) = (kvs.map (·.1)).any (fun z => decide (z = k)) := by rw [List.any_map]; rfl
    have e2 : (kws.any fun kv => decide (kv.1 = k)) = (kws.map (·.1)).any (fun z => decide (z = k)) := by rw [List.any_map]; rfl
    rw [e1, e2, h]
  unfold dput putK
  rw [ha]
  split
  · rename_i hh
    clear ha hh
    induction kvs generalizing kws with
    | nil =>
      cases kws with
      | nil => exact .nil
      | cons _ _ => simp at h
    | cons p kvs ih =>
      cases kws with
      | nil => simp at h
      | cons q kws =>
        simp only [List.map_cons, List.cons.injEq] at h r ⊢
        cases r with
        | cons r1 rs =>
          refine .cons ?_ (ih h.2 rs)
          rw [h.1]
          split
          · exact rd
          · exact r1
  · rw [List.map_append, List.map_append]
    exact r.append (.cons rd .nil)
def keyD : D → Option Key
  | .int i => some (.inl i)
  | .str x => some (.inr x)
  | _ => none
theorem keyD_ok {K : PySem.W.Frag} {F : Hp} {d : D} {k : Key} {x : V} (r : Rep K F d x) (h : keyD d = some k) : x = kV k := by
  cases r <;> first | (cases h; done) | (cases h; rfl)
def keyT : D → Option (List Key)
  | .tup ds => (intsOf ds).map (·.map Sum.inl)
  | _ => none
theorem keyT_ok {K : PySem.W.Frag} {F : Hp} {d : D} {k : List Key} {x : V} (r : Rep K F d x) (h : keyT d = some k) : ∃ b, x = .ref b ∧ F b = some (.tup (k.map kV)) := by
  unfold keyT at h
  cases d <;> first | cases h | skip
  rename_i ds
  simp only at h
  cases q : intsOf ds with
  | none => rw [q] at h; cases h
  | some ns =>
    rw [q] at h
    cases h
    have e := intsOf_eq q
    subst e
    obtain ⟨a, vs, rfl, h1, k1⟩ := Rep.tup_ints r (by
      rw [List.all_map, List.all_eq_true]
      exact fun _ _ => rfl)
    rw [Reps.ints k1] at h1
    refine ⟨a, rfl, ?_⟩
    rw [h1, List.map_map]
    rfl

/-! ### in -/
open Classical in
/-- whether the value y is of a tree that equals d -/
noncomputable def eqVal (K : PySem.W.Frag) (H : Hp) (d : D) (y : Value) : Bool := decide (∃ d' v, okN 40 d' = true ∧ Rep K H d' v ∧ RelV v y ∧ eqv d' d = true)
open Classical in
theorem eqVal_ok {pins : List (Addr × Obj)} {σ : L2.St} {H : Hp} {s : Shared} (I : Inv X pins σ H s) {d d' : D} {v : V} {y : Value} (o : okN 40 d' = true) (r : Rep X.K H d' v) (q : RelV v y) : eqVal X.K H d y = eqv d' d := by
  unfold eqVal
  cases e : eqv d' d with
  | true => exact decide_eq_true ⟨d', v, o, r, q, e⟩
  | false =>
    refine decide_eq_false fun ⟨d2, v2, o2, r2, q2, e2⟩ => ?_
    have hv := q.inj q2
    subst hv
    rw [rep_uniq I 40 d' d2 v o o2 r r2] at e
    rw [e] at e2; cases e2
theorem any_eqVal {pins : List (Addr × Obj)} {σ : L2.St} {H : Hp} {s : Shared} (I : Inv X pins σ H s) (d : D) : ∀ {ds : List D} {vs : List V} {us : List Value}, ds.all (okN 40) = true → Reps X.K H ds vs → Vals vs us → us.any (eqVal X.K H d) = ds.any fun z => eqv z d
  | _, _, _, _, .nil, .nil => rfl
  | _, _, _, h, .cons r t, .cons q qs => by
    rw [List.all_cons, Bool.and_eq_true] at h
    rw [List.any_cons, List.any_cons, eqVal_ok I h.1 r q, any_eqVal I d h.2 t qs]
theorem mem_eqVal {pins : List (Addr × Obj)} {σ : L2.St} {H : Hp} {s : Shared} (I : Inv X pins σ H s) {A : Around} (hu : A.units + 40 < cLine) {d : D} {x : V} {u : Value} (od : okN 40 d = true) (rd : Rep X.K H d x) (qd : RelV x u) : ∀ {ds : List D} {vs : List V} {us : List Value}, ds.all (okN 40) = true → Reps X.K H ds vs → Vals vs us → ∀ y ∈ us, SeqAt.EqAt A s y u (eqVal X.K H d y)
  | _, _, _, _, .nil, .nil, y, hy => nomatch hy
  | _, _, _, h, .cons r t, .cons q qs, y, hy => by
    rw [List.all_cons, Bool.and_eq_true] at h
    rcases List.mem_cons.mp hy with rfl | hy
    · rw [eqVal_ok I h.1 r q]
      exact eqAt_rep I 40 A _ _ _ _ _ _ h.1 od r rd q qd hu
    · exact mem_eqVal I hu od rd qd h.2 t qs y hy
def rInA (X : Cx) (neg : Bool) : R2 := fun x y H Q => ∃ d ds a vs, okN 40 d = true ∧ ds.all (okN 40) = true ∧ y = .ref a ∧ (SqL X.K H a vs ∨ SqT X.K H a vs) ∧ Rep X.K H d x ∧ Reps X.K H ds vs ∧ Q (.bl (if neg then !ds.any (fun z => eqv z d) else ds.any (fun z => eqv z d))) H
theorem op_inA (hu : X.A.units + 64 < cLine) : OpR X (compareOp .In) (rInA X false) := by
  intro pins s σ H x y v u Q I rx ry ⟨d, ds, a, vs, od, os, ey, hs, rd, rs, q⟩
  subst ey
  cases ry
  have hu' : X.A.in1.units + 40 < cLine := by show X.A.units + 1 + 40 < cLine; omega
  rcases hs with hs | hs
  · obtain ⟨its, rv, pl, _⟩ := I.list hs
    refine SeqAt.in_listAt (eqVal X.K H d) pl.isList (fun y hy => mem_eqVal I hu' od rd rx os rs rv y (by simpa using hy)) ?_
    refine ⟨.bl _, H, I, ?_, q⟩
    show Value.bool _ = Value.bool _
    rw [← any_eqVal I d os rs rv, List.any_toArray]; rfl
  · obtain ⟨its, rv, pl, _⟩ := I.tuple hs
    refine SeqAt.in_tupleAt (eqVal X.K H d) pl (fun y hy => mem_eqVal I hu' od rd rx os rs rv y (by simpa using hy)) ?_
    refine ⟨.bl _, H, I, ?_, q⟩
    show Value.bool _ = Value.bool _
    rw [← any_eqVal I d os rs rv, List.any_toArray]; rfl
theorem op_notInA (hu : X.A.units + 64 < cLine) : OpR X (compareOp .NotIn) (rInA X true) := by
  intro pins s σ H x y v u Q I rx ry ⟨d, ds, a, vs, od, os, ey, hs, rd, rs, q⟩
  subst ey
  cases ry
  have hu' : X.A.in1.units + 40 < cLine := by show X.A.units + 1 + 40 < cLine; omega
  rcases hs with hs | hs
  · obtain ⟨its, rv, pl, _⟩ := I.list hs
    refine SeqAt.notIn_listAt (eqVal X.K H d) pl.isList (fun y hy => mem_eqVal I hu' od rd rx os rs rv y (by simpa using hy)) ?_
    refine ⟨.bl _, H, I, ?_, q⟩
    show Value.bool _ = Value.bool _
    rw [← any_eqVal I d os rs rv, List.any_toArray]; rfl
  · obtain ⟨its, rv, pl, _⟩ := I.tuple hs
    refine SeqAt.notIn_tupleAt (eqVal X.K H d) pl (fun y hy => mem_eqVal I hu' od rd rx os rs rv y (by simpa using hy)) ?_
    refine ⟨.bl _, H, I, ?_, q⟩
    show Value.bool _ = Value.bool _
    rw [← any_eqVal I d os rs rv, List.any_toArray]; rfl
def rInDict (neg : Bool) : R2 := fun x y H Q => ∃ a o, y = .ref a ∧ DGet H a x o ∧ Q (.bl (if neg then !o.isSome else o.isSome)) H
theorem op_inDict (hu : X.A.units + 64 < cLine) : OpR X (compareOp .In) (rInDict false) := by
  intro pins s σ H x y v u Q I rx ry ⟨a, o, ey, g, q⟩
  subst ey
  cases ry
  exact d_in (by omega) I g rx fun s3 I3 => ⟨.bl o.isSome, H, I3, rfl, q⟩
theorem op_notInDict (hu : X.A.units + 64 < cLine) : OpR X (compareOp .NotIn) (rInDict true) := by
  intro pins s σ H x y v u Q I rx ry ⟨a, o, ey, g, q⟩
  subst ey
  cases ry
  exact d_notIn (by omega) I g rx fun s3 I3 => ⟨.bl (!o.isSome), H, I3, rfl, q⟩
def inD (d c : D) : Option Bool := match c with
  | .lst ds => if okN 40 d && ds.all (okN 40) then some (ds.any fun z => eqv z d) else none
  | .tup ds => if okN 40 d && ds.all (okN 40) then some (ds.any fun z => eqv z d) else none
  | .dK kvs => (keyD d).map fun k => (dlook kvs k).isSome
  | .dT kvs => (keyT d).map fun k => (dlook kvs k).isSome
  | .str z => match d with
    | .str x => match x.cps.toList with
      | [c] => some (decide (c ∈ z.cps.toList))
      | _ => none
    | _ => none
  | _ => none
def notInD (d c : D) : Option Bool := (inD d c).map (!·)
theorem str_one {x : Str} {c : Nat} (h : x.cps.toList = [c]) : x = ⟨#[c]⟩ := by
  cases x with
  | mk a =>
    have e : a = #[c] := by
      apply Array.toList_inj.mp
      exact h
    rw [e]
theorem DGet.ofK {K : PySem.W.Frag} {F H : Hp} {kvs : List (Key × D)} {d : D} {k : Key} {x y : V} (sf : Same F H) (r : Rep K F (.dK kvs) y) (rd : Rep K F d x) (hk : keyD d = some k) : ∃ a o, y = .ref a ∧ DGet H a x o ∧ match dlook kvs k with
    | some e => ∃ v, o = some v ∧ Rep K F e v
    | none => o = none := by
  obtain ⟨a, kws, rfl, h1, h2, h3⟩ := Rep.dK_inv r
  have e := keyD_ok rd hk
  subst e
  exact ⟨a, valV kws k, rfl, DGet.k (sf _ _ h1), dlook_some h2 h3⟩
theorem DGet.ofT {K : PySem.W.Frag} {F H : Hp} {kvs : List (List Key × D)} {d : D} {k : List Key} {x y : V} (sf : Same F H) (r : Rep K F (.dT kvs) y) (rd : Rep K F d x) (hk : keyT d = some k) : ∃ a o, y = .ref a ∧ DGet H a x o ∧ match dlook kvs k with
    | some e => ∃ v, o = some v ∧ Rep K F e v
    | none => o = none := by
  obtain ⟨a, kws, rfl, h1, h2, h3⟩ := Rep.dT_inv r
  obtain ⟨b, e, eb⟩ := keyT_ok rd hk
  subst e
  exact ⟨a, valV kws k, rfl, DGet.t (sf _ _ h1) (sf _ _ eb), dlook_some h2 h3⟩
theorem isSome_of {K : PySem.W.Frag} {F : Hp} {o' : Option D} {o : Option V} (h : match o' with
    | some e => ∃ v, o = some v ∧ Rep K F e v
    | none => o = none) : o.isSome = o'.isSome := by
  cases o' with
  | none => simp only at h; rw [h]; rfl
  | some e => obtain ⟨v, h, _⟩ := h; rw [h]; rfl
theorem inD_ok (neg : Bool) {d1 d2 : D} {k : Bool} (h : inD d1 d2 = some k) {F H : Hp} {x y : V} {Q : VK} (sf : Same F H) (r1 : Rep X.K F d1 x) (r2 : Rep X.K F d2 y) (q : Q (.bl (if neg then !k else k)) H) :
    rInA X neg x y H Q ∨ rInDict neg x y H Q ∨ ∃ (c : Nat) (z : Str), x = .str ⟨#[c]⟩ ∧ y = .str z ∧ Q (.bl (if neg then !decide (c ∈ z.cps.toList) else decide (c ∈ z.cps.toList))) H := by
  unfold inD at h
  split at h
  · split at h
    · rename_i c
      rw [Bool.and_eq_true] at c
      cases h
      obtain ⟨a, vs, rfl, h1, k1⟩ := Rep.lst_inv r2
      exact .inl ⟨d1, _, a, vs, c.1, c.2, rfl, .inl (sf.seq h1), r1.mono sf, k1.mono sf, q⟩
    · cases h
  · split at h
    · rename_i c
      rw [Bool.and_eq_true] at c
      cases h
      obtain ⟨a, vs, rfl, h1, k1⟩ := Rep.tup_inv r2
      exact .inl ⟨d1, _, a, vs, c.1, c.2, rfl, .inr (SqT.mono sf h1), r1.mono sf, k1.mono sf, q⟩
    · cases h
  · cases hk : keyD d1 with
    | none => rw [hk] at h; cases h
    | some kk =>
      rw [hk] at h
      cases h
      obtain ⟨a, o, rfl, g, ho⟩ := DGet.ofK sf r2 r1 hk
      exact .inr (.inl ⟨a, o, rfl, g, by rw [isSome_of ho]; exact q⟩)
  · cases hk : keyT d1 with
    | none => rw [hk] at h; cases h
    | some kk =>
      rw [hk] at h
      cases h
      obtain ⟨a, o, rfl, g, ho⟩ := DGet.ofT sf r2 r1 hk
      exact .inr (.inl ⟨a, o, rfl, g, by rw [isSome_of ho]; exact q⟩)
  · split at h
    · split at h
      · rename_i c hc
        cases h
        cases Rep.str_inv r1
        cases Rep.str_inv r2
        rw [str_one hc]
        exact .inr (.inr ⟨c, _, rfl, rfl, q⟩)
      · cases h
    · cases h
  · cases h
theorem op_inDD (hu : X.A.units + 64 < cLine) : CmpD X .In inD := by
  refine CmpD.of ((op_inA hu).or ((op_inDict hu).or op_in_sign)) fun d1 d2 k h F H x y Q sf r1 r2 q => inD_ok false h sf r1 r2 q
theorem op_notInDD (hu : X.A.units + 64 < cLine) : CmpD X .NotIn notInD := by
  refine CmpD.of ((op_notInA hu).or ((op_notInDict hu).or op_notIn_sign)) fun d1 d2 k h F H x y Q sf r1 r2 q => ?_
  unfold notInD at h
  cases e : inD d1 d2 with
  | none => rw [e] at h; cases h
  | some b =>
    rw [e] at h
    cases h
    exact inD_ok true e sf r1 r2 q
end
end DL

set_option autoImplicit false
set_option Elab.async false
set_option linter.all false
set_option maxRecDepth 100000
/-! DL: items, slices, built-in calls, methods, stores. -/
namespace DL
open PySem PySem.Spec PyProof.Rows L2
section
variable {X : Cx}

/-! ### items -/
theorem IxD.of {f : D → D → Option (Nat × D)} {r : R2} (h : IxR X r) (q : ∀ d1 d2 n d, f d1 d2 = some (n, d) → ∀ (F H : Hp) (x y : V) (Q : VK), Same F H → Rep X.K F d1 x → Rep X.K F d2 y → (∀ v F' H' S, NewV X.K F H F' H' n d v S → Q v H') → r x y H Q) : IxD X f := ⟨r, h, q⟩
def rIxDict : R2 := fun x y H Q => ∃ a v, x = .ref a ∧ DGet H a y (some v) ∧ Q v H
theorem ix_dict (hu : X.A.units + 1 < cLine) : IxR X rIxDict := by
  intro value slice pins s σ H x y v u Q I rx ry h hs
  obtain ⟨a, w, rfl, g, q⟩ := h
  cases rx
  exact tail_any (dict_typeIs I g) PySem.F.slot_dict_getitem.lookup (d_getItem hu I g ry fun w' s3 I3 rw' => ⟨w, H, I3, rw', q⟩) hs
theorem Reps.atI {K : PySem.W.Frag} {F : Hp} {ds : List D} {vs : List V} {i : Int} {d : D} (r : Reps K F ds vs) (h : L2.atI ds i = some d) : ∃ v, L2.atI vs i = some v ∧ Rep K F d v := by
  unfold L2.atI at h ⊢
  rw [r.length] at h
  cases e : ixN vs.length i with
  | none => rw [e] at h; cases h
  | some j =>
    rw [e] at h
    exact r.get h
def idxD : D → D → Option (Nat × D)
  | .lst ds, .int i => (L2.atI ds i).map fun d => (0, d)
  | .tup ds, .int i => (L2.atI ds i).map fun d => (0, d)
  | .scr ds, .int i => (L2.atI ds i).map fun d => (0, d)
  | .str z, .int i => if z.length ≤ LIM then (L2.atI z.cps.toList i).map fun c => (0, .str ⟨#[c]⟩) else none
  | .dK kvs, k => match keyD k with
    | some k => (dlook kvs k).map fun d => (0, d)
    | none => none
  | .dT kvs, k => match keyT k with
    | some k => (dlook kvs k).map fun d => (0, d)
    | none => none
  | _, _ => none
theorem ix_D (hu : X.A.units + 64 < cLine) : IxD X idxD := by
  refine IxD.of ((ix_list (X := X)).or (ix_tup.or (ix_str.or (ix_dict (by omega))))) fun d1 d2 n d h F H x y Q sf r1 r2 q => ?_
  unfold idxD at h
  split at h
  · obtain ⟨d', hd, e⟩ := Option.map_eq_some_iff.mp h
    cases e
    obtain ⟨a, vs, rfl, h1, k1⟩ := Rep.lst_inv r1
    cases Rep.int_inv r2
    obtain ⟨v, hv, rv⟩ := k1.atI hd
    exact .inl ⟨a, vs, _, v, rfl, rfl, sf.seq h1, hv, q _ F H _ (NewV.of_rep sf rv)⟩
  · obtain ⟨d', hd, e⟩ := Option.map_eq_some_iff.mp h
    cases e
    obtain ⟨a, vs, rfl, h1, k1⟩ := Rep.tup_inv r1
    cases Rep.int_inv r2
    obtain ⟨v, hv, rv⟩ := k1.atI hd
    exact .inr (.inl ⟨a, vs, _, v, rfl, rfl, SqT.mono sf h1, hv, q _ F H _ (NewV.of_rep sf rv)⟩)
  · obtain ⟨d', hd, e⟩ := Option.map_eq_some_iff.mp h
    cases e
    obtain ⟨a, vs, rfl, h1, k1⟩ := Rep.scr_inv r1
    cases Rep.int_inv r2
    obtain ⟨v, hv, rv⟩ := k1.atI hd
    exact .inl ⟨a, vs, _, v, rfl, rfl, sf.seq h1, hv, q _ F H _ (NewV.of_rep sf rv)⟩
  · split at h
    · rename_i hz
      obtain ⟨c, hd, e⟩ := Option.map_eq_some_iff.mp h
      cases e
      cases Rep.str_inv r1
      cases Rep.int_inv r2
      exact .inr (.inr (.inl ⟨_, _, c, rfl, rfl, by rw [← LIM_eq]; exact hz, hd, q _ F H _ (NewV.of_rep sf (.str _))⟩))
    · cases h
  · split at h
    · rename_i k hk
      obtain ⟨d', hd, e⟩ := Option.map_eq_some_iff.mp h
      cases e
      obtain ⟨a, o, rfl, g, ho⟩ := DGet.ofK sf r1 r2 hk
      rw [hd] at ho
      obtain ⟨v, rfl, rv⟩ := ho
      exact .inr (.inr (.inr ⟨a, v, rfl, g, q _ F H _ (NewV.of_rep sf rv)⟩))
    · cases h
  · split at h
    · rename_i k hk
      obtain ⟨d', hd, e⟩ := Option.map_eq_some_iff.mp h
      cases e
      obtain ⟨a, o, rfl, g, ho⟩ := DGet.ofT sf r1 r2 hk
      rw [hd] at ho
      obtain ⟨v, rfl, rv⟩ := ho
      exact .inr (.inr (.inr ⟨a, v, rfl, g, q _ F H _ (NewV.of_rep sf rv)⟩))
    · cases h
  · cases h

/-! ### slices -/
def cutD (ds : List D) (lo hi : Option Int) : List D := (ds.drop (HT.sIx ds.length 0 lo)).take (HT.sIx ds.length ds.length hi - HT.sIx ds.length 0 lo)
theorem Reps.cut {K : PySem.W.Frag} {F : Hp} {ds : List D} {vs : List V} (r : Reps K F ds vs) (lo hi : Option Int) : Reps K F (cutD ds lo hi) (cutV vs lo hi) := by
  unfold cutD cutV
  rw [r.length]
  exact (r.drop _).take _
def sliceD : D → Option Int → Option Int → Option (Nat × D)
  | .lst ds, lo, hi => some (1, .lst (cutD ds lo hi))
  | .scr ds, lo, hi => some (1, .lst (cutD ds lo hi))
  | .tup ds, lo, hi => some (0, .tup (cutD ds lo hi))
  | .str z, lo, hi => if z.length ≤ LIM then some (0, .str (Txt.slice z lo hi)) else none
  | _, _, _ => none
theorem cut_whole {ds : List D} {lo hi : Option Int} (h : HT.sIx ds.length 0 lo = 0 ∧ HT.sIx ds.length ds.length hi = ds.length) : cutD ds lo hi = ds := by
  unfold cutD
  rw [h.1, h.2]
  simp
theorem sl_D : SlD X sliceD := by
  refine ⟨_, ((sl_list (X := X)).or (sl_tupA.or C8.sl_txt)), fun d1 lo hi n d h F H x Q sf r1 q => ?_⟩
  unfold sliceD at h
  split at h
  · cases h
    obtain ⟨a, vs, rfl, h1, k1⟩ := Rep.lst_inv r1
    exact .inl ⟨a, vs, rfl, sf.seq h1, fun p hp => q _ _ _ _ (NewV.lst sf hp (k1.cut lo hi))⟩
  · cases h
    obtain ⟨a, vs, rfl, h1, k1⟩ := Rep.scr_inv r1
    exact .inl ⟨a, vs, rfl, sf.seq h1, fun p hp => q _ _ _ _ (NewV.lst sf hp (k1.cut lo hi))⟩
  · cases h
    obtain ⟨a, vs, rfl, h1, k1⟩ := Rep.tup_inv r1
    refine .inr (.inl ⟨a, vs, rfl, SqT.mono sf h1, fun e => ?_, fun _ p hp => q _ _ _ _ (NewV.tup sf hp (k1.cut lo hi))⟩)
    rw [← k1.length] at e
    rw [cut_whole e] at q
    exact q _ F H _ (NewV.of_rep sf r1)
  · split at h
    · rename_i hz
      cases h
      cases Rep.str_inv r1
      exact .inr (.inr ⟨_, rfl, by rw [← LIM_eq]; exact hz, q _ F H _ (NewV.of_rep sf (.str _))⟩)
    · cases h
  · cases h

/-! ### calls -/
theorem CallD.of {g : Value} {f : List D → Option (Nat × D)} {r : List V → Hp → VK → Prop} (h : CallR X g r) (q : ∀ ds n d, f ds = some (n, d) → ∀ (F H : Hp) (xs : List V) (Q : VK), Same F H → Reps X.K F ds xs → (∀ v F' H' S, NewV X.K F H F' H' n d v S → Q v H') → r xs H Q) : CallD X g f := ⟨r, h, q⟩
theorem Reps.one {K : PySem.W.Frag} {F : Hp} {d : D} {xs : List V} (r : Reps K F [d] xs) : ∃ x, xs = [x] ∧ Rep K F d x := by
  cases r with
  | cons a b => cases b; exact ⟨_, rfl, a⟩
theorem Reps.two {K : PySem.W.Frag} {F : Hp} {d e : D} {xs : List V} (r : Reps K F [d, e] xs) : ∃ x y, xs = [x, y] ∧ Rep K F d x ∧ Rep K F e y := by
  cases r with
  | cons a b => obtain ⟨y, rfl, h⟩ := b.one; exact ⟨_, y, rfl, a, h⟩
def lenD : List D → Option (Nat × D)
  | [.lst ds] => some (0, .int ds.length)
  | [.tup ds] => some (0, .int ds.length)
  | [.scr ds] => some (0, .int ds.length)
  | [.dK kvs] => some (0, .int kvs.length)
  | [.str z] => if z.length ≤ LIM then some (0, .int z.length) else none
  | _ => none
theorem call_lenDD : CallD X (.builtin "len") lenD := by
  refine CallD.of ((call_len_seq (X := X)).or (call_len_str.or call_lenD)) fun ds n d h F H xs Q sf rs q => ?_
  unfold lenD at h
  split at h
  · cases h
    obtain ⟨x, rfl, r⟩ := rs.one
    obtain ⟨a, vs, rfl, h1, k1⟩ := Rep.lst_inv r
    refine .inl ⟨a, vs, rfl, .inl (sf.seq h1), ?_⟩
    rw [← k1.length]
    exact q _ F H _ (NewV.of_rep sf (.int _))
  · cases h
    obtain ⟨x, rfl, r⟩ := rs.one
    obtain ⟨a, vs, rfl, h1, k1⟩ := Rep.tup_inv r
    refine .inl ⟨a, vs, rfl, .inr (SqT.mono sf h1), ?_⟩
    rw [← k1.length]
    exact q _ F H _ (NewV.of_rep sf (.int _))
  · cases h
    obtain ⟨x, rfl, r⟩ := rs.one
    obtain ⟨a, vs, rfl, h1, k1⟩ := Rep.scr_inv r
    refine .inl ⟨a, vs, rfl, .inl (sf.seq h1), ?_⟩
    rw [← k1.length]
    exact q _ F H _ (NewV.of_rep sf (.int _))
  · cases h
    obtain ⟨x, rfl, r⟩ := rs.one
    obtain ⟨a, kws, rfl, h1, h2, _⟩ := Rep.dK_inv r
    refine .inr (.inr ⟨a, kws, rfl, sf _ _ h1, ?_⟩)
    have e := congrArg List.length h2
    rw [List.length_map, List.length_map] at e
    rw [← e]
    exact q _ F H _ (NewV.of_rep sf (.int _))
  · split at h
    · rename_i hz
      cases h
      obtain ⟨x, rfl, r⟩ := rs.one
      cases Rep.str_inv r
      exact .inr (.inl ⟨_, rfl, by rw [← LIM_eq]; exact hz, q _ F H _ (NewV.of_rep sf (.int _))⟩)
    · cases h
  · cases h
def listD : List D → Option (Nat × D)
  | [.lst ds] => some (1, .lst ds)
  | [.tup ds] => some (1, .lst ds)
  | [.scr ds] => some (1, .lst ds)
  | _ => none
theorem call_listDD : CallD X (.type "list") listD := by
  refine CallD.of (call_list_of (X := X)) fun ds n d h F H xs Q sf rs q => ?_
  unfold listD at h
  split at h
  · cases h
    obtain ⟨x, rfl, r⟩ := rs.one
    obtain ⟨a, vs, rfl, h1, k1⟩ := Rep.lst_inv r
    exact ⟨a, vs, rfl, .inl (sf.seq h1), fun p hp => q _ _ _ _ (NewV.lst sf hp k1)⟩
  · cases h
    obtain ⟨x, rfl, r⟩ := rs.one
    obtain ⟨a, vs, rfl, h1, k1⟩ := Rep.tup_inv r
    exact ⟨a, vs, rfl, .inr (SqT.mono sf h1), fun p hp => q _ _ _ _ (NewV.lst sf hp k1)⟩
  · cases h
    obtain ⟨x, rfl, r⟩ := rs.one
    obtain ⟨a, vs, rfl, h1, k1⟩ := Rep.scr_inv r
    exact ⟨a, vs, rfl, .inl (sf.seq h1), fun p hp => q _ _ _ _ (NewV.lst sf hp k1)⟩
  · cases h
def tupleD : List D → Option (Nat × D)
  | [.lst ds] => some (0, .tup ds)
  | [.tup ds] => some (0, .tup ds)
  | _ => none
theorem call_tupleDD : CallD X (.type "tuple") tupleD := by
  refine CallD.of (call_tuple_of (X := X)) fun ds n d h F H xs Q sf rs q => ?_
  unfold tupleD at h
  split at h
  · cases h
    obtain ⟨x, rfl, r⟩ := rs.one
    obtain ⟨a, vs, rfl, h1, k1⟩ := Rep.lst_inv r
    exact ⟨a, vs, rfl, .inl ⟨sf.seq h1, fun p hp => q _ _ _ _ (NewV.tup sf hp k1)⟩⟩
  · cases h
    obtain ⟨x, rfl, r⟩ := rs.one
    obtain ⟨a, vs, e, h1, k1⟩ := Rep.tup_inv r
    subst e
    exact ⟨a, vs, rfl, .inr ⟨SqT.mono sf h1, q _ F H _ (NewV.of_rep sf r)⟩⟩
  · cases h
def intD : List D → Option (Nat × D)
  | [.int i] => some (0, .int i)
  | [.bl b] => some (0, .int (if b then 1 else 0))
  | _ => none
theorem call_intDD : CallD X (.type "int") intD := by
  refine CallD.of (call_int1 (X := X)) fun ds n d h F H xs Q sf rs q => ?_
  unfold intD at h
  split at h
  · cases h
    obtain ⟨x, rfl, r⟩ := rs.one
    cases Rep.int_inv r
    exact .inl ⟨_, rfl, q _ F H _ (NewV.of_rep sf (.int _))⟩
  · cases h
    obtain ⟨x, rfl, r⟩ := rs.one
    cases Rep.bl_inv r
    exact .inr ⟨_, rfl, q _ F H _ (NewV.of_rep sf (.int _))⟩
  · cases h
def strD : List D → Option (Nat × D)
  | [.int i] => if i.natAbs.log2 < 1920 then some (0, .str (toString i)) else none
  | _ => none
theorem call_strDD : CallD X (.type "str") strD := by
  refine CallD.of (call_str_int (X := X)) fun ds n d h F H xs Q sf rs q => ?_
  unfold strD at h
  split at h
  · split at h
    · rename_i hi
      cases h
      obtain ⟨x, rfl, r⟩ := rs.one
      cases Rep.int_inv r
      exact ⟨_, rfl, hi, q _ F H _ (NewV.of_rep sf (.str _))⟩
    · cases h
  · cases h
def maxD : List D → Option (Nat × D)
  | [.int i, .int j] => some (0, .int (if j > i then j else i))
  | _ => none
theorem call_maxDD (hc : X.calm = true) : CallD X (.builtin "max") maxD := by
  refine CallD.of (call_max2 hc) fun ds n d h F H xs Q sf rs q => ?_
  unfold maxD at h
  split at h
  · cases h
    obtain ⟨x, y, rfl, r1, r2⟩ := rs.two
    cases Rep.int_inv r1
    cases Rep.int_inv r2
    exact ⟨_, _, rfl, q _ F H _ (NewV.of_rep sf (.int _))⟩
  · cases h
def minD : List D → Option (Nat × D)
  | [.int i, .int j] => some (0, .int (if j < i then j else i))
  | _ => none
theorem call_minDD (hc : X.calm = true) : CallD X (.builtin "min") minD := by
  refine CallD.of (call_min2 hc) fun ds n d h F H xs Q sf rs q => ?_
  unfold minD at h
  split at h
  · cases h
    obtain ⟨x, y, rfl, r1, r2⟩ := rs.two
    cases Rep.int_inv r1
    cases Rep.int_inv r2
    exact ⟨_, _, rfl, q _ F H _ (NewV.of_rep sf (.int _))⟩
  · cases h
def sumD : List D → Option (Nat × D)
  | [.lst ds] => (intsOf ds).map fun ns => (0, .int ns.sum)
  | _ => none
theorem call_sumDD (hc : X.calm = true) : CallD X (.builtin "sum") sumD := by
  refine CallD.of (cr_sum hc) fun ds n d h F H xs Q sf rs q => ?_
  unfold sumD at h
  split at h
  · obtain ⟨ns, hn, e⟩ := Option.map_eq_some_iff.mp h
    cases e
    obtain ⟨x, rfl, r⟩ := rs.one
    obtain ⟨a, vs, rfl, h1, k1⟩ := Rep.lst_inv r
    rw [intsOf_eq hn] at k1
    rw [Reps.ints k1] at h1
    exact ⟨a, ns, rfl, sf.seq h1, q _ F H _ (NewV.of_rep sf (.int _))⟩
  · cases h
def absD : List D → Option (Nat × D)
  | [.int i] => some (0, .int (if i < 0 then -i else i))
  | _ => none
theorem call_absDD : CallD X (.builtin "abs") absD := by
  refine CallD.of (call_abs (X := X)) fun ds n d h F H xs Q sf rs q => ?_
  unfold absD at h
  split at h
  · cases h
    obtain ⟨x, rfl, r⟩ := rs.one
    cases Rep.int_inv r
    exact ⟨_, rfl, q _ F H _ (NewV.of_rep sf (.int _))⟩
  · cases h

/-! ### isinstance -/
def tyOfD : D → Option String
  | .non => some "NoneType"
  | .bl _ => some "bool"
  | .int _ => some "int"
  | .str _ => some "str"
  | .lst _ => some "list"
  | .tup _ => some "tuple"
  | .dK _ => some "dict"
  | .dT _ => some "dict"
  | _ => none
/-- is a value of the type a of the type b (types that are written here) -/
def isTyB (a b : String) : Bool := a == b || (a == "bool" && b == "int")
def knownTy (b : String) : Bool := b == "int" || b == "bool" || b == "str" || b == "list" || b == "tuple" || b == "dict"
theorem kit_known {K : PySem.W.Frag} {d : D} {a b : String} (ha : tyOfD d = some a) (hb : knownTy b = true) : PySem.W.kitOne K (.type a) (.type b) = some (isTyB a b) := by
  unfold knownTy at hb
  simp only [Bool.or_eq_true, beq_iff_eq] at hb
  refine kit_ty ?_
  cases d <;> cases ha <;> rcases hb with ((((rfl | rfl) | rfl) | rfl) | rfl) | rfl <;> decide +kernel
theorem tyX_of {K : PySem.W.Frag} {F H : Hp} {d : D} {x : V} {a : String} (sf : Same F H) (r : Rep K F d x) (h : tyOfD d = some a) : TyX K H x (.type a) := by
  cases r with
  | non => cases h; exact .base .non
  | bl b => cases h; exact .base (.bl b)
  | int i => cases h; exact .base (.int i)
  | str x => cases h; exact .base (.str x)
  | lst hs _ => cases h; exact .base (.lst (sf _ _ hs))
  | tup hs _ => cases h; exact .base (.tup (sf _ _ hs))
  | tupK hs _ _ =>
    cases h
    rcases hs with (hs | ⟨o, hs⟩) | ⟨o, its, n, h1, h2, _⟩
    · exact .base (.tup (sf _ _ hs))
    · exact .fTuple (sf _ _ hs)
    · exact .kTuple h1 h2
  | dK hs _ _ => cases h; exact .base (.dK (sf _ _ hs))
  | dT hs _ _ => cases h; exact .base (.dT (sf _ _ hs))
  | scr _ _ => cases h
  | ty _ => cases h
def tysOf : List D → Option (List String)
  | [] => some []
  | .ty n :: ds => if knownTy n then (tysOf ds).map (n :: ·) else none
  | _ :: _ => none
def isInstD : List D → Option (Nat × D)
  | [d, .ty n] => match tyOfD d with
    | some a => if knownTy n then some (0, .bl (isTyB a n)) else none
    | none => none
  | [d, .tup ts] => match tyOfD d, tysOf ts with
    | some a, some ns => some (0, .bl (ns.any (isTyB a)))
    | _, _ => none
  | _ => none
theorem tys_bad : ∀ {ts : List D} {ns : List String}, tysOf ts = some ns → badK ts = true
  | [], _, _ => rfl
  | .ty n :: ts, ns, h => by
    unfold badK
    rw [List.any_cons]
    show (_ || (true || _)) = true
    simp
  | .non :: _, _, h => nomatch h
  | .bl _ :: _, _, h => nomatch h
  | .int _ :: _, _, h => nomatch h
  | .str _ :: _, _, h => nomatch h
  | .lst _ :: _, _, h => nomatch h
  | .tup _ :: _, _, h => nomatch h
  | .scr _ :: _, _, h => nomatch h
  | .dK _ :: _, _, h => nomatch h
  | .dT _ :: _, _, h => nomatch h
theorem tys_paired {K : PySem.W.Frag} {F : Hp} : ∀ {ts : List D} {ns : List String} {vs : List V}, tysOf ts = some ns → Reps K F ts vs → Paired ClsV vs (ns.map Value.type)
  | [], _, _, h, .nil => by cases h; exact .nil
  | .ty n :: ts, ns, _, h, .cons r rs => by
    simp only [tysOf] at h
    split at h
    · cases q : tysOf ts with
      | none => rw [q] at h; cases h
      | some l =>
        rw [q] at h
        cases h
        cases Rep.ty_inv r
        exact .cons (.ty n) (tys_paired q rs)
    · cases h
  | .non :: _, _, _, h, _ => nomatch h
  | .bl _ :: _, _, _, h, _ => nomatch h
  | .int _ :: _, _, _, h, _ => nomatch h
  | .str _ :: _, _, _, h, _ => nomatch h
  | .lst _ :: _, _, _, h, _ => nomatch h
  | .tup _ :: _, _, _, h, _ => nomatch h
  | .scr _ :: _, _, _, h, _ => nomatch h
  | .dK _ :: _, _, _, h, _ => nomatch h
  | .dT _ :: _, _, _, h, _ => nomatch h
theorem kitAny_tys {K : PySem.W.Frag} {d : D} {a : String} (ha : tyOfD d = some a) : ∀ {ts : List D} {ns : List String}, tysOf ts = some ns → PySem.W.kitAny K (.type a) (ns.map Value.type) = some (ns.any (isTyB a))
  | [], _, h => by cases h; exact kitAny_nil
  | .ty n :: ts, ns, h => by
    simp only [tysOf] at h
    split at h
    · rename_i hn
      cases q : tysOf ts with
      | none => rw [q] at h; cases h
      | some l =>
        rw [q] at h
        cases h
        refine kitAny_cons (kit_known ha hn) (fun e => ?_) (fun e => ?_)
        · rw [List.any_cons, e, Bool.false_or]; exact kitAny_tys ha q
        · rw [List.any_cons, e, Bool.true_or]
    · cases h
  | .non :: _, _, h => nomatch h
  | .bl _ :: _, _, h => nomatch h
  | .int _ :: _, _, h => nomatch h
  | .str _ :: _, _, h => nomatch h
  | .lst _ :: _, _, h => nomatch h
  | .tup _ :: _, _, h => nomatch h
  | .scr _ :: _, _, h => nomatch h
  | .dK _ :: _, _, h => nomatch h
  | .dT _ :: _, _, h => nomatch h
theorem call_isInstDD : CallD X (.builtin "isinstance") isInstD := by
  refine CallD.of ((call_isi (X := X)).or call_isiT) fun ds n d h F H xs Q sf rs q => ?_
  unfold isInstD at h
  split at h
  · split at h
    · rename_i a ha
      split at h
      · rename_i hn
        cases h
        obtain ⟨x, y, rfl, r1, r2⟩ := rs.two
        cases Rep.ty_inv r2
        exact .inl ⟨x, _, _, _, _, rfl, .ty _, tyX_of sf r1 ha, kit_known ha hn, q _ F H _ (NewV.of_rep sf (.bl _))⟩
      · cases h
    · cases h
  · split at h
    · rename_i a ns ha hn
      cases h
      obtain ⟨x, y, rfl, r1, r2⟩ := rs.two
      obtain ⟨b, ws, rfl, hs, hr⟩ := r2.tup_strict (tys_bad hn)
      exact .inr ⟨x, _, _, _, _, _, rfl, sf _ _ hs, tys_paired hn hr, tyX_of sf r1 ha, kitAny_tys ha hn, q _ F H _ (NewV.of_rep sf (.bl _))⟩
    · cases h
  · cases h
end
end DL

set_option autoImplicit false
set_option Elab.async false
set_option linter.all false
set_option maxRecDepth 100000
/-! DL: stores into what a name owns; methods that change it. -/
namespace DL
open PySem PySem.Spec PyProof.Rows L2
section
variable {K : PySem.W.Frag} {mg : Str → Option Value} {G F H : Hp} {σ : L2.St} {env : DEnv} {fp : Fp}
theorem SS.write {i n' : Nat} {d' : D} {p : Addr} {o' : HO} (s : SS K G F H σ env fp) (hi : σ[i]? = some (some (.ref p))) (hp : fp i p) (ho : LD (some o')) (hr : RepM K F (upd H p o') n' d' (.ref p) (fp i)) : SS K G F (upd H p o') σ (env.set i (some (n', d'))) fp where
  len := by rw [List.length_set]; exact s.len
  slot := fun j n d q => by
    by_cases h : i = j
    · subst h
      by_cases hl : i < env.length
      · rw [List.getElem?_set_self hl] at q
        cases q
        exact ⟨_, hi, hr⟩
      · rw [List.getElem?_eq_none (by simpa using hl)] at q; cases q
    · rw [List.getElem?_set_ne h] at q
      obtain ⟨v, h1, h2⟩ := s.slot j n d q
      exact ⟨v, h1, h2.imp (Same.refl _) (fun _ z => z) fun a u z e => by rw [upd_ne (fun e' => s.dis i j a h (by rw [e']; exact hp) z)]; exact e⟩
  dis := s.dis
  ld := fun j a z => by
    by_cases h : a = p
    · subst h; rw [upd_same]; exact ho
    · rw [upd_ne h]; exact s.ld j a z
  nf := s.nf
  ng := s.ng
  sf := fun a u e => by rw [upd_ne (fun h => by have := s.nf i p hp; rw [← h, e] at this; cases this)]; exact s.sf _ _ e
  sg := fun a u e => by rw [upd_ne (fun h => by have := s.ng i p hp; rw [← h, e] at this; cases this)]; exact s.sg _ _ e
end
section
variable {X : Cx} {W : WX}
theorem agree0 {A : List Nat} {σ : L2.St} : Agree A σ σ := Agree.refl _ _
/-- x.append(e) -/
def mApp (i : Nat) (m : ME) : MS := fun env => match env[i]? with
  | some (some (1, .lst _)) => (m env).bindS fun r e => match e[i]? with
    | some (some (1, .lst ds)) => if ds.length < LIM then .nx (e.set i (some (1, .lst (ds ++ [r.2])))) else .stuck
    | _ => .stuck
  | _ => .stuck
theorem ds_app {i : Nat} {o e : Expr} {m : ME} {apos cpos pos : Pos} (ho : PE X o (tVar i)) (he : DE X W m e)
    (hbase : attributeBase o "append" X.env (eval o X.env) = eval o X.env := by rfl)
    (hfew : ((backTo cpos (starEach (e :: []) X.env)).all (fun x => !x.1) && (backToKw cpos (keywordEach [] X.env)).all (fun x => x.1.isSome)
      && decide ((e :: []).length + ([] : List Keyword).length + (if ([] : List Keyword).isEmpty then 0 else 1) < 30)) = true := by rfl)
    (hline : (apos.endLine == cpos.line) = true := by rfl) (hst : starEach (e :: []) X.env = (false, eval e X.env) :: starEach [] X.env := by rfl) (hplain : (backTo cpos (starEach [] X.env)).any (·.1) = false := by rfl)
    (hs : swapsWith (.Call (.Attribute o "append" apos) [e] [] cpos) none pos.line X.env = pure false := by rfl) :
    DS X W [] (mApp i m) (.Expr (.Call (.Attribute o "append" apos) [e] [] cpos) pos) := by
  refine PS.to (ps_expr (pe_bm PySem.F.plainAttrs_list PySem.F.slot_list_append PySem.F.type_list_append mt_append ho (pa_cons he pa_nil hst) hbase hfew hline hst hplain) hs) fun De σ H ⟨G, F, env, fp, s, h⟩ => ?_
  unfold mApp at h
  split at h
  · rename_i ds0 h0
    obtain ⟨v, hv, p, vs, rfl, _, hp, _⟩ := s.slot i 1 _ h0
    refine ⟨_, hv, .inl ⟨rfl, vs, SqL.of hp⟩, ?_⟩
    refine tE.of s h.ofO fun r e1 F1 H1 fp1 y p1 s1 rep1 fe1 => ?_
    split at p1
    · rename_i ds h1
      obtain ⟨v', hv', p', vs', rfl, hfp, hp', hra⟩ := s1.slot i 1 _ h1
      rw [hv] at hv'
      cases hv'
      split at p1
      · rename_i hl
        have rds := RepA.reps hra
        refine ⟨p, vs', y, rfl, rfl, hp', by rw [← rds.length, ← LIM_eq]; exact hl, ?_⟩
        exact p1 σ F1 _ fp1 agree0 (s1.write hv hfp trivial ⟨p, vs' ++ [y], rfl, hfp, upd_same, RepA.of_reps (rds.append (.cons rep1 .nil))⟩) fe1
      · exact p1.elim
    · exact p1.elim
  · exact h.elim
/-- x[k] = e, a list's place or a dict's key -/
def putD (d k r : D) : Option D := match d with
  | .lst ds => match k with
    | .int i => (ixN ds.length i).map fun j => .lst (ds.set j r)
    | _ => none
  | .dK kvs => match keyD k with
    | some k => if kvs.length < LIM then some (.dK (dput kvs k r)) else none
    | none => none
  | .dT kvs => match keyT k with
    | some k => if kvs.length < LIM then some (.dT (dput kvs k r)) else none
    | none => none
  | _ => none
def mPut (i : Nat) (mk m : ME) : MS := fun env => (m env).bindS fun r e1 => match e1[i]? with
  | some (some (1, _)) => (mk e1).bindS fun k e2 => match e2[i]? with
    | some (some (1, d)) => match putD d k.2 r.2 with
      | some d' => .nx (e2.set i (some (1, d')))
      | none => .stuck
    | _ => .stuck
  | _ => .stuck
def rSetD : V → V → V → Hp → (Hp → Prop) → Prop := fun o i v H Q => ∃ a H', o = .ref a ∧ DPut H a i v H' ∧ Q H'
theorem set_dict (hu : X.A.units + 1 < cLine) : PSet X rSetD := by
  intro pins s σ H o i v ov iv u Q I ro ri rv ⟨a, H', ho, g, q⟩
  subst ho
  cases ro
  exact d_setItem hu I g ri rv fun s' I' => ⟨H', I', q⟩
theorem PSet.or {t t' : TSet} (h : PSet X t) (h' : PSet X t') : PSet X (fun o i v H Q => t o i v H Q ∨ t' o i v H Q) := by
  intro pins s σ H o i v ov iv u Q I ro ri rv q
  rcases q with q | q
  · exact h pins s σ H o i v ov iv u Q I ro ri rv q
  · exact h' pins s σ H o i v ov iv u Q I ro ri rv q
theorem ds_put {i : Nat} {o k e : Expr} {mk m : ME} {pos' pos : Pos} (hu : X.A.units + 64 < cLine) (ho : PE X o (tVar i)) (hk : DE X W mk k) (he : DE X W m e)
    (hs : swapsWithSole [.Subscript o k pos'] e pos.line X.env = pure false := by rfl) (hw : swappedStores [.Subscript o k pos'] e X.env = pure none := by rfl)
    (h1 : (assignEach [.Subscript o k pos'] X.env).map (·.2) = [assign (.Subscript o k pos') X.env] := by rfl)
    (ha : ∀ v, assign (.Subscript o k pos') X.env v = (do
      let ov ← holding [v] (eval o X.env)
      let iv ← holding [v, ov] (eval k X.env)
      standAt pos'
      holding [v, ov, iv] (setItem ov iv v)
      release [v, ov, iv] []) := by intro _; rfl) : DS X W [] (mPut i mk m) (.Assign [.Subscript o k pos'] e pos) := by
  refine PS.to (ps_asg he (pg_sub ho hk (PSet.or set_list (set_dict (by omega))) ha) hs hw h1) fun De σ H ⟨G, F, env, fp, s, h⟩ => ?_
  refine tE.of s h.ofO fun r e1 F1 H1 fp1 y p1 s1 rep1 fe1 => ?_
  split at p1
  · rename_i d1 h1
    obtain ⟨v, hv, _⟩ := s1.slot i 1 _ h1
    refine ⟨v, hv, ?_⟩
    refine tE.of s1 (RG.imp p1.ofO fe1 fun _ _ q => q) fun k e2 F2 H2 fp2 z p2 s2 rep2 fe2 => ?_
    split at p2
    · rename_i d2 h2
      obtain ⟨v', hv', hm⟩ := s2.slot i 1 _ h2
      rw [hv] at hv'
      cases hv'
      have ry := rep1.mono fe2.same
      cases hp : putD d2 k.2 r.2 with
      | none => rw [hp] at p2; exact p2.elim
      | some d' =>
        rw [hp] at p2
        unfold putD at hp
        split at hp
        · rename_i ds
          obtain ⟨p, vs, rfl, hfp, hpp, hra⟩ := hm
          split at hp
          · rename_i j hj
            rw [hj] at rep2
            have ez := rep2.int_inv
            cases hx : ixN ds.length j with
            | none => rw [hx] at hp; cases hp
            | some t =>
              rw [hx] at hp
              cases hp
              have rds := RepA.reps hra
              refine .inl ⟨p, vs, j, t, rfl, ez, hpp, by rw [← rds.length]; exact hx, ?_⟩
              exact p2 σ F2 _ fp2 agree0 (s2.write hv hfp trivial ⟨p, vs.set t y, rfl, hfp, upd_same, RepA.of_reps (rds.set ry t)⟩) (fe1.trans fe2)
          · cases hp
        · rename_i kvs
          obtain ⟨p, kws, rfl, hfp, hpp, hks, hra⟩ := hm
          split at hp
          · rename_i k' hk'
            split at hp
            · rename_i hl
              cases hp
              have hl' : kws.length < sizeLine := by
                have := congrArg List.length hks
                simp only [List.length_map] at this
                rw [← this, ← LIM_eq]; exact hl
              refine .inr ⟨p, _, rfl, .inl ⟨kws, k', hpp, keyD_ok rep2 hk', hl', rfl⟩, ?_⟩
              exact p2 σ F2 _ fp2 agree0 (s2.write hv hfp trivial ⟨p, putK kws k' y, rfl, hfp, upd_same, dput_keys k' _ y hks, RepA.of_reps (dput_vals ry hks (RepA.reps hra))⟩) (fe1.trans fe2)
            · cases hp
          · cases hp
        · rename_i kvs
          obtain ⟨p, kws, rfl, hfp, hpp, hks, hra⟩ := hm
          split at hp
          · rename_i k' hk'
            split at hp
            · rename_i hl
              cases hp
              have hl' : kws.length < sizeLine := by
                have := congrArg List.length hks
                simp only [List.length_map] at this
                rw [← this, ← LIM_eq]; exact hl
              obtain ⟨b, eb, hb⟩ := keyT_ok rep2 hk'
              refine .inr ⟨p, _, rfl, .inr ⟨kws, k', b, hpp, eb, s2.sf _ _ hb, hl', rfl⟩, ?_⟩
              exact p2 σ F2 _ fp2 agree0 (s2.write hv hfp trivial ⟨p, putK kws k' y, rfl, hfp, upd_same, dput_keys k' _ y hks, RepA.of_reps (dput_vals ry hks (RepA.reps hra))⟩) (fe1.trans fe2)
            · cases hp
          · cases hp
        · cases hp
    · exact p2.elim
  · exact p1.elim
end
end DL

set_option Elab.async false
set_option autoImplicit false
set_option linter.all false
set_option maxRecDepth 100000
/-! KX1: set(list of ints) with its table's rise; min(list of ints, default=int). Both turned from the library's rules for set(tuple) and min(list). -/
namespace KX
open PySem PySem.Spec PyProof.Rows L2
section
variable {P : Program} {w : World} {A : Around} {E : Value → Shared → Prop} {s : Shared}
set_option maxHeartbeats 3200000 in
theorem call_set_lstI {l : Addr} {items : Array Value} (ns : List Int) {Q : Value → Shared → Prop} (hh : A.handled = none) (hl : s.heap.IsList l items) (hit : IntsAre items.toList ns) (hb : ns.length + 1 < scanBound)
    (h : ∀ (h' : Heap) (tk c : Nat), SetR w h' s.heap.objs.size (fun j => decide (j ∈ ns)) c → c ≤ ns.length → (∀ b o, s.heap.get? b = some o → h'.get? b = some o) → Q (.ref s.heap.objs.size) { s with heap := h', toks := tk }) :
    wpAny (model P w) A (call (.type "set") [.ref l]) Q E s := by
  have hisz : items.size = ns.length := by
    have q := IntsAre.length hit
    rw [Array.length_toList] at q
    exact q
  obtain ⟨c, tl, hmro⟩ := F.called_set.mro
  have hmade := F.called_set.made
  have hsub := F.called_set.sub
  refine wpAny_call (codeAny_of_tree ?_)
  show wpAny _ _ (callAny (.type "set") _) _ _ _
  refine wpAny_pure ⟨Code.quiet_builtin _ (by decide +kernel), codeAny_builtin F.entry_type_call ?_⟩
  rw [Around.under_plain (weight_type_call_type "set" [.ref l] []) rfl]
  have h1 := F.called_set.notType
  have h2 := F.called_set.canCreate
  have hct := F.typeCall_set_1 (.ref l)
  repeat (any_goals (first | assumption | wp_step))

  refine codeAny_mono (code_set_led1 (.ref l) (E := E) (Q₁ := fun obj s₁ => obj = .ref s.heap.objs.size ∧ s₁ = { s with heap := s.heap.push { cls := .type "set", dict := none, data := .set #[] 0 (.fresh 0 0 (!w.params.followText "set-order")) } }) ⟨rfl, rfl⟩) fun r s₁ hr => ?_
  cases r with
  | error e => exact hr
  | ok fl =>
    cases fl with
    | ret obj =>
      obtain ⟨rfl, rfl⟩ := hr
      have hS : (s.heap.push { cls := .type "set", dict := none, data := .set #[] 0 (.fresh 0 0 (!w.params.followText "set-order")) }).get? s.heap.objs.size = some { cls := .type "set", dict := none, data := .set #[] 0 (.fresh 0 0 (!w.params.followText "set-order")) } := Heap.get?_push_size _ rfl
      have hT : Shared.TypeIs { s with heap := s.heap.push { cls := .type "set", dict := none, data := .set #[] 0 (.fresh 0 0 (!w.params.followText "set-order")) } } (.ref s.heap.objs.size) "set" := ⟨_, hS, rfl⟩
      have hli := F.called_set.init.lookup
      have hbi := F.called_set.init.bind (.ref s.heap.objs.size)
      repeat (any_goals (first | assumption | wp_step))

      refine codeAny_mono (codeAny_call_builtin (R := wants (fun r s₂ => r = .none ∧ ∃ h' tk c, s₂ = { s with heap := h', toks := tk } ∧ SetR w h' s.heap.objs.size (fun j => decide (j ∈ ns)) c ∧ c ≤ ns.length ∧
          (∀ b o, s.heap.get? b = some o → h'.get? b = some o)) E) F.called_set.init.plain F.entry_set_init (check_set_init_1 hT ?_)) fun r₂ s₂ hr₂ => ?_
      · obtain ⟨ol, hol, hcl, nl, hdl⟩ := hl
        obtain ⟨ocls, odict, odata, oslots⟩ := ol
        simp only at hcl hdl
        subst hcl; subst hdl
        have hol' : (s.heap.push { cls := .type "set", dict := none, data := .set #[] 0 (.fresh 0 0 (!w.params.followText "set-order")) }).get? l = some { cls := .type "list", dict := odict, data := .seq items nl, slots := oslots } := Heap.get?_push_of_some _ hol
        have hsls := F.sub_list_set
        have hslf := F.sub_list_frozenset
        have hne : (Value.type "list" == Value.type "dict") = false := by decide
        have hl1 : (s.heap.push { cls := .type "set", dict := none, data := .set #[] 0 (.fresh 0 0 (!w.params.followText "set-order")) }).IsList l items := ⟨_, hol', rfl, nl, rfl⟩
        unfold Builtin.«set.__init__» noKeywords Builtin.Frozenset.updateFrom
        generalize hPI : pyIter = PI
        wp_walk
        subst hPI

        refine wpAny_pyIter_list hl1 ?_
        refine wpAny_bind (wpAny_runValue ?_)
        have hlS : l < s.heap.objs.size := Heap.lt_size hol
        have hh3 : A.in1.in1.in1.handled = none := by simp [hh]
        have hz1 : (s.heap.push { cls := .type "set", dict := none, data := .set #[] 0 (.fresh 0 0 (!w.params.followText "set-order")) }).objs.size = s.heap.objs.size + 1 := Heap.size_push ..
        have hneI : l ≠ (s.heap.push { cls := .type "set", dict := none, data := .set #[] 0 (.fresh 0 0 (!w.params.followText "set-order")) }).objs.size := by
          rw [Heap.size_push]; exact Nat.ne_of_lt (Nat.lt_succ_of_lt hlS)
        have hSf : s.heap.objs.size ∉ [(s.heap.push { cls := .type "set", dict := none, data := .set #[] 0 (.fresh 0 0 (!w.params.followText "set-order")) }).objs.size, l] := by
          rw [Heap.size_push]; simp only [List.mem_cons, List.mem_singleton, List.not_mem_nil, or_false, not_or]
          exact ⟨Nat.ne_of_lt (Nat.lt_succ_self _), Nat.ne_of_gt hlS⟩
        have hval : ∀ (i : Nat) (v : Value), items[i]? = some v → ∃ k t, ns[i]? = some k ∧ v = .int k t := fun i v hv => by
          have hi : i < ns.length := by rw [← hisz]; exact (Array.getElem?_eq_some_iff.mp hv).1
          obtain ⟨t, e⟩ := PyProof.Rows.IntsAre.int_at hit i v (by rw [Array.getElem?_toList]; exact hv)
          refine ⟨ns[i], t, List.getElem?_eq_getElem hi, ?_⟩
          rw [e, List.getD_eq_getElem?_getD, List.getElem?_eq_getElem hi] <;> rfl
        refine set_update_ints ((Walks.list hh3 _ l hneI items).toS) s.heap.objs.size
          hSf ns hisz hb hval (items.size - 0) 0 _ (by omega) (Nat.zero_le _)
          ⟨⟨_, Heap.get?_push_size _ rfl, rfl, rfl⟩, (hl1.push _)⟩ ?hS0 ?hR
        case hS0 =>
          have hget : ((s.heap.push { cls := .type "set", dict := none, data := .set #[] 0 (.fresh 0 0 (!w.params.followText "set-order")) }).push { cls := .type "list_iterator", data := .fields #[.ref l, .int 0 0] }).get? s.heap.objs.size
              = some { cls := .type "set", dict := none, data := .set #[] 0 (.fresh 0 0 (!w.params.followText "set-order")) } := Heap.get?_push_of_some _ hS
          exact ⟨0, Nat.le_refl 0, setR_new_at hget⟩
        case hR =>
          intro s' c' hm hc' hS'
          obtain ⟨h', g2, d', tk', os'⟩ := s'
          have eg : g2 = s.gens := hm.gens
          have ed : d' = s.drawn := hm.drawn
          have eo : os' = s.os := hm.os
          subst eg; subst ed; subst eo
          show wpAny _ _ _ _ _ _
          refine wpAny_pure ?_
          show wpAny _ _ (ret Value.none) _ _ _
          rw [hisz] at hc'
          refine wpAny_pure ⟨rfl, h', tk', c', rfl, hS', hc', fun b o e => ?_⟩
          have hb0 : b < s.heap.objs.size := Heap.lt_size e
          have hb1 : b ≠ s.heap.objs.size := Nat.ne_of_lt hb0
          have hb2 : b ≠ (s.heap.push { cls := .type "set", dict := none, data := .set #[] 0 (.fresh 0 0 (!w.params.followText "set-order")) }).objs.size := by
            rw [Heap.size_push]; exact Nat.ne_of_lt (Nat.lt_succ_of_lt hb0)
          exact hm.heap b o (by simp only [List.mem_cons, List.mem_singleton, List.not_mem_nil, or_false, not_or]; exact ⟨hb1, hb2⟩) (Heap.get?_push_of_some _ (Heap.get?_push_of_some _ e))

      · cases r₂ with
        | error e => exact hr₂
        | ok fl₂ =>
          cases fl₂ with
          | ret r =>
            obtain ⟨rfl, h', tk, c', rfl, hS', hc', hk'⟩ := hr₂
            repeat (any_goals (first | assumption | wp_step))
            exact h _ _ _ hS' hc' hk'
          | _ => exact hr₂.elim
    | _ => exact hr.elim

end
section
variable {prog : Program} {w : World} {A : Around} {R : Result → Shared → Prop} {I : Addr} {fp wr : List Addr} {n : Nat} {P : Nat → Value → Prop} {St : Nat → Heap → Prop} {d : Value}
theorem min_loop_d (W : Walks prog w A.in1 I fp wr n P St) (bt : Nat → Nat → Bool) (hcmp : CmpOf prog w A.in1 .Lt P bt) (S : Addr) (hSf : S ∉ fp) :
    ∀ (k j : Nat) (s : Shared) (vb : Value) (c : Nat), n - (j + 1) = k → j + 1 ≤ n → St (j + 1) s.heap → P (argBest bt j) vb →
    s.heap.get? S = some { cls := .type "list", dict := none, data := .seq #[vb, vb] c, slots := #[] } →
    (∀ v h' tk, P (argBest bt (n - 1)) v → (∀ b o, b ∉ wr → b ≠ S → s.heap.get? b = some o → h'.get? b = some o) → R (.ok (.ret v)) { s with heap := h', toks := tk }) →
    codeAny (model prog w) A (.builtin "min.loop" ⟨[.ref I, .none, .ref S], [("default", d)]⟩) R s := by
  have hSw : S ∉ wr := fun h => hSf (W.sub _ h)
  have hname : (toString "min" ++ toString ".loop" : String) = "min.loop" := by decide
  intro k
  induction k with
  | zero =>
    intro j s vb c hk hj hst hPb hS hR
    have hin : j + 1 = n := by omega
    refine codeAny_builtin F.entry_min_loop ?_
    rw [Around.under_plainId F.plain_min_loop _]
    show wpAny _ A.in1 (seqItems? (.ref S) >>= _) _ _ s
    refine wpAny_bind (wpAny_seqItems hS rfl ?_)
    show wpAny _ A.in1 (tryCatch (pyNext (.ref I)) _ >>= _) _ _ s
    refine wpAny_bind (wpAny_tryCatch (W.done s _ _ (hin ▸ hst) fun h' tk hk' => ?_))
    have hS' := hk' S _ hSw hS
    show wpAny _ A.in1 (updateSeq S (fun _ => #[]) >>= _) _ _ _
    refine wpAny_bind ?_
    refine wpAny_updateSeq hS' rfl (wpAny_bind (wpAny_letGo (wpAny_pure ?_)))
    refine hR vb _ tk (by rw [← hin]; exact hPb) fun b o hbw hbS e => (Heap.get?_update_other _ _ (Ne.symm hbS)).trans (hk' b o hbw e)
  | succ k ih =>
    intro j s vb c hk hj hst hPb hS hR
    have hlt : j + 1 < n := by omega
    refine codeAny_builtin F.entry_min_loop ?_
    rw [Around.under_plainId F.plain_min_loop _]
    show wpAny _ A.in1 (seqItems? (.ref S) >>= _) _ _ s
    refine wpAny_bind (wpAny_seqItems hS rfl ?_)
    show wpAny _ A.in1 (tryCatch (pyNext (.ref I)) _ >>= _) _ _ s
    refine wpAny_bind (wpAny_tryCatch (W.item (j + 1) s _ _ hlt hst fun v h' tk hP hst' hk' => ?_))
    have hS' := hk' S _ hSw hS
    show wpAny _ A.in1 (tryCatch (holding [v, v] (richCompare .Lt v vb >>= _)) _ >>= _) _ _ _
    refine wpAny_bind (wpAny_tryCatch (wpAny_holding (wpAny_bind (hcmp (j + 1) (argBest bt j) v vb _ _ _ hP hPb ?_))))
    refine wpAny_bind (wpAny_holding (wpAny_truthy_bool ?_))
    refine wpAny_bind (wpAny_letGo (wpAny_pure ?_))
    cases hb : bt (j + 1) (argBest bt j) with
    | true =>
      simp only [if_true]
      refine wpAny_bind ?_
      refine wpAny_updateSeq hS' rfl (wpAny_bind (wpAny_letGo ?_))
      rw [hname]
      refine wpAny_pure ⟨plainId_quiet F.plain_min_loop _, ih (j + 1) _ v _ (by omega) hlt (W.frame _ _ _ hst' fun b hbf o e => ?_) (by simp only [argBest, hb, if_true]; exact hP) (Heap.get?_update_self _ hS' rfl)
        fun v' h'' tk'' hP' hk'' => ?_⟩
      · exact (Heap.get?_update_other _ _ (fun h : S = b => hSf (by rw [h]; exact hbf))).trans e
      · exact hR v' h'' tk'' hP' fun b o hbw hbS e => hk'' b o hbw hbS ((Heap.get?_update_other _ _ (Ne.symm hbS)).trans (hk' b o hbw e))
    | false =>
      simp only [Bool.false_eq_true, if_false]
      refine wpAny_bind (wpAny_letGo ?_)
      rw [hname]
      refine wpAny_pure ⟨plainId_quiet F.plain_min_loop _, ih (j + 1) _ vb c (by omega) hlt hst' (by simp only [argBest, hb, Bool.false_eq_true, if_false]; exact hPb) hS' fun v' h'' tk'' hP' hk'' => ?_⟩
      exact hR v' h'' tk'' hP' fun b o hbw hbS e => hk'' b o hbw hbS (hk' b o hbw e)

theorem min_loopF_d (W : Walks prog w A.in1 I fp wr n P St) (bt : Nat → Nat → Bool) (hcmp : CmpOf prog w A.in1 .Lt P bt) (S : Addr) (hSf : S ∉ fp) (hn : 0 < n) {s : Shared} {c : Nat} (hst : St 0 s.heap)
    (hS : s.heap.get? S = some { cls := .type "list", dict := none, data := .seq #[] c, slots := #[] })
    (hR : ∀ v h' tk, P (argBest bt (n - 1)) v → (∀ b o, b ∉ wr → b ≠ S → s.heap.get? b = some o → h'.get? b = some o) → R (.ok (.ret v)) { s with heap := h', toks := tk }) :
    codeAny (model prog w) A (.builtin "min.loop" ⟨[.ref I, .none, .ref S], [("default", d)]⟩) R s := by
  have hSw : S ∉ wr := fun h => hSf (W.sub _ h)
  have hname : (toString "min" ++ toString ".loop" : String) = "min.loop" := by decide
  refine codeAny_builtin F.entry_min_loop ?_
  rw [Around.under_plainId F.plain_min_loop _]
  show wpAny _ A.in1 (seqItems? (.ref S) >>= _) _ _ s
  refine wpAny_bind (wpAny_seqItems hS rfl ?_)
  show wpAny _ A.in1 (tryCatch (pyNext (.ref I)) _ >>= _) _ _ s
  refine wpAny_bind (wpAny_tryCatch (W.item 0 s _ _ hn hst fun v h' tk hP hst' hk' => ?_))
  have hS' := hk' S _ hSw hS
  show wpAny _ A.in1 (updateSeq S (fun _ => #[v, v]) >>= _) _ _ _
  refine wpAny_bind ?_
  refine wpAny_updateSeq hS' rfl ?_
  rw [hname]
  refine wpAny_pure ⟨plainId_quiet F.plain_min_loop _, min_loop_d W bt hcmp S hSf _ 0 _ v _ rfl hn (W.frame _ _ _ hst' fun b hbf o e => ?_) hP (Heap.get?_update_self _ hS' rfl) fun v' h'' tk'' hP' hk'' => ?_⟩
  · exact (Heap.get?_update_other _ _ (fun h : S = b => hSf (by rw [h]; exact hbf))).trans e
  · exact hR v' h'' tk'' hP' fun b o hbw hbS e => hk'' b o hbw hbS ((Heap.get?_update_other _ _ (Ne.symm hbS)).trans (hk' b o hbw e))
end
theorem args_min_d (a d : Value) : argsOk "min" ⟨[a], [(Str.ofString "default", d)]⟩ := by unfold argsOk; kernel_rfl
section
variable {prog : Program} {w : World} {A : Around} {E : Value → Shared → Prop} {s : Shared} {d : Value}
theorem call_min_walk_d {x : Value} {Q : Value → Shared → Prop}
    (h : wpAny (model prog w) A.in1 (pyIter x) (fun it s₂ => ∃ I fp wr n P St bt, it = .ref I ∧ Walks prog w A.in1 I fp wr n P St ∧ St 0 s₂.heap ∧ (∀ b ∈ fp, b < s₂.heap.objs.size) ∧ 0 < n ∧ CmpOf prog w A.in1 .Lt P bt ∧
      ∀ v h' tk, P (argBest bt (n - 1)) v → (∀ b o, b ∉ wr → s₂.heap.get? b = some o → h'.get? b = some o) → Q v { s₂ with heap := h', toks := tk }) E s) :
    wpAny (model prog w) A (call (.builtin "min") [x] [(Str.ofString "default", d)]) Q E s := by
  have hname : (toString "min" ++ toString ".loop" : String) = "min.loop" := by decide
  refine PyProof.Rows.kmk_tree PySem.F.kind_min PySem.F.plain_min PySem.F.entry_min (args_min_d _ _) ?_
  show wpAny _ A.in1 (Builtin.Builtins.bindParams "min" ["key", "default"] 0 ⟨[], [(Str.ofString "default", d)]⟩ >>= _) _ _ s
  refine wpAny_bind (wpAny_of_eq (show Builtin.Builtins.bindParams "min" ["key", "default"] 0 ⟨[], [(Str.ofString "default", d)]⟩ = pure [none, some d] from rfl) ?_)
  refine wpAny_bind (wpAny_pure ?_)
  refine wpAny_bind (wpAny_mono h (fun it s₂ h₂ => ?_) fun _ _ e => e)
  obtain ⟨I, fp, wr, n, P, St, bt, rfl, W, hst, hfp, hn, hcmp, hQ⟩ := h₂
  refine wpAny_bind (wpAny_newObj_type ?_)
  have hSf : s₂.heap.objs.size ∉ fp := fun hm => Nat.lt_irrefl _ (hfp _ hm)
  rw [hname]
  refine wpAny_pure ⟨plainId_quiet F.plain_min_loop _, min_loopF_d W bt hcmp s₂.heap.objs.size hSf hn (W.frame _ _ _ hst fun b _ o e => Heap.get?_push_of_some _ e) (Heap.get?_push_size _ rfl) fun v h' tk hP hk => ?_⟩
  exact hQ v h' tk hP fun b o hbw e => hk b o hbw (Nat.ne_of_lt (Heap.lt_size e)) (Heap.get?_push_of_some _ e)
/-- nothing to look at: the default -/
theorem min_loopE_d {R : Result → Shared → Prop} {I : Addr} {fp wr : List Addr} {Pn : Nat → Value → Prop} {St : Nat → Heap → Prop} (W : Walks prog w A.in1 I fp wr 0 Pn St) (S : Addr) (hSf : S ∉ fp) {c : Nat} (hst : St 0 s.heap)
    (hS : s.heap.get? S = some { cls := .type "list", dict := none, data := .seq #[] c, slots := #[] })
    (hR : ∀ h' tk, (∀ b o, b ∉ wr → b ≠ S → s.heap.get? b = some o → h'.get? b = some o) → R (.ok (.ret d)) { s with heap := h', toks := tk }) :
    codeAny (model prog w) A (.builtin "min.loop" ⟨[.ref I, .none, .ref S], [("default", d)]⟩) R s := by
  have hSw : S ∉ wr := fun h => hSf (W.sub _ h)
  refine codeAny_builtin PySem.F.entry_min_loop ?_
  rw [Around.under_plainId PySem.F.plain_min_loop _]
  show wpAny _ A.in1 (seqItems? (.ref S) >>= _) _ _ s
  refine wpAny_bind (wpAny_seqItems hS rfl ?_)
  show wpAny _ A.in1 (tryCatch (pyNext (.ref I)) _ >>= _) _ _ s
  refine wpAny_bind (wpAny_tryCatch (W.done s _ _ hst fun h' tk hk' => ?_))
  refine wpAny_bind (wpAny_rule ?_)
  exact wpAny_pure (hR h' tk fun b o hbw _ e => hk' b o hbw e)
theorem call_minE_d {x : Value} {Q : Value → Shared → Prop}
    (h : wpAny (model prog w) A.in1 (pyIter x) (fun it s₂ => ∃ I fp wr P St, it = .ref I ∧ Walks prog w A.in1 I fp wr 0 P St ∧ St 0 s₂.heap ∧ (∀ b ∈ fp, b < s₂.heap.objs.size) ∧
      ∀ h' tk, (∀ b o, b ∉ wr → s₂.heap.get? b = some o → h'.get? b = some o) → Q d { s₂ with heap := h', toks := tk }) E s) :
    wpAny (model prog w) A (call (.builtin "min") [x] [(Str.ofString "default", d)]) Q E s := by
  have hname : (toString "min" ++ toString ".loop" : String) = "min.loop" := by decide
  refine PyProof.Rows.kmk_tree PySem.F.kind_min PySem.F.plain_min PySem.F.entry_min (args_min_d _ _) ?_
  show wpAny _ A.in1 (Builtin.Builtins.bindParams "min" ["key", "default"] 0 ⟨[], [(Str.ofString "default", d)]⟩ >>= _) _ _ s
  refine wpAny_bind (wpAny_of_eq (show Builtin.Builtins.bindParams "min" ["key", "default"] 0 ⟨[], [(Str.ofString "default", d)]⟩ = pure [none, some d] from rfl) ?_)
  refine wpAny_bind (wpAny_pure ?_)
  refine wpAny_bind (wpAny_mono h (fun it s₂ h₂ => ?_) fun _ _ e => e)
  obtain ⟨I, fp, wr, P, St, rfl, W, hst, hfp, hQ⟩ := h₂
  refine wpAny_bind (wpAny_newObj_type ?_)
  have hSf : s₂.heap.objs.size ∉ fp := fun hm => Nat.lt_irrefl _ (hfp _ hm)
  rw [hname]
  refine wpAny_pure ⟨plainId_quiet PySem.F.plain_min_loop _, min_loopE_d W s₂.heap.objs.size hSf (W.frame _ _ _ hst fun b _ o e => Heap.get?_push_of_some _ e) (Heap.get?_push_size _ rfl) fun h' tk hk => ?_⟩
  exact hQ h' tk fun b o hbw e => hk b o hbw (Nat.ne_of_lt (Heap.lt_size e)) (Heap.get?_push_of_some _ e)
end
/-- min(list of ints, default=int) -/
def minDef (ns : List Int) (d : Int) : Int := match ns with
  | [] => d
  | n :: r => r.foldl min n
def rMinDef (K : PySem.W.Frag) : List V → List V → Hp → VK → Prop := fun vs zs H Q => ∃ (a : Addr) (ns : List Int) (d : Int), vs = [V.ref a] ∧ zs = [.int d] ∧ SqL K H a (ns.map V.int) ∧ Q (.int (minDef ns d)) H
theorem foldl_min : ∀ (r : List Int) (n : Int), (r.foldl min n = n ∨ r.foldl min n ∈ r) ∧ r.foldl min n ≤ n ∧ ∀ a ∈ r, r.foldl min n ≤ a
  | [], n => ⟨.inl rfl, Int.le_refl _, fun a h => by cases h⟩
  | b :: r, n => by
    obtain ⟨h1, h2, h3⟩ := foldl_min r (min n b)
    rw [List.foldl_cons]
    refine ⟨?_, by omega, fun a h => ?_⟩
    · rcases h1 with h1 | h1
      · rw [h1]
        rcases Int.le_total n b with h | h
        · exact .inl (by omega)
        · exact .inr (by rw [Int.min_eq_right h]; exact List.mem_cons_self)
      · exact .inr (List.mem_cons_of_mem _ h1)
    · rcases List.mem_cons.mp h with rfl | h
      · omega
      · exact h3 a h
theorem minDef_is {ns : List Int} {d m : Int} (h : m ∈ ns) (hm : ∀ a, a ∈ ns → m ≤ a) : minDef ns d = m := by
  cases ns with
  | nil => cases h
  | cons n r =>
    obtain ⟨h1, h2, h3⟩ := foldl_min r n
    have le : r.foldl min n ≤ m := by
      rcases List.mem_cons.mp h with rfl | h
      · exact h2
      · exact h3 m h
    have ge : m ≤ r.foldl min n := by
      rcases h1 with e | e
      · rw [e]; exact hm n List.mem_cons_self
      · exact hm _ (List.mem_cons_of_mem _ e)
    exact Int.le_antisymm le ge
section
variable {X : Cx}
theorem cr_minDef (hc : X.calm = true) : CallRK X (.builtin "min") [Str.ofString "default"] (rMinDef X.K) := by
  intro pins s σ H vs zs us ws Q I r rz h
  obtain ⟨a, ns, d, rfl, rfl, hs, q⟩ := h
  obtain rfl := Vals.ref1 r
  obtain ⟨w1, rfl, e1⟩ := vals1 rz
  obtain ⟨td, rfl⟩ : ∃ t, w1 = Value.int d t := e1
  obtain ⟨its, rv, hl0, _⟩ := I.list hs
  have hl := hl0.isList
  have hi := rv.ints
  have hh : X.A.handled = none := I.ok.hd hc
  show wpAny _ X.A (call (.builtin "min") [.ref a] [(Str.ofString "default", .int d td)]) _ _ s
  obtain ⟨xs, e⟩ := hi.allInts.items
  have hn : numsOf (intItems xs).toList = ns := by rw [← e]; exact hi.numsOf
  rw [nums_intItems] at hn
  subst hn
  rw [e] at hl
  by_cases hne : 0 < xs.size
  · refine call_min_walk_d (iter_intList hl fun s₂ e st hfp hlI => ?_)
    subst e
    refine ⟨_, _, _, _, _, _, _, rfl, Walks.list (A := X.A.in1) hh _ a hlI (intItems xs), st, hfp, by simpa [intItems] using hne, CmpOf.ints_lt (numAt xs) (fun _ _ => intItems_at), fun v h' tk hP hk => ?_⟩
    have hk' := old_kept hk
    have hv : (intItems xs)[argBest (fun i j => decide (numAt xs i < numAt xs j)) (xs.size - 1)]? = some v := by simpa [intItems] using hP
    obtain ⟨t, rfl⟩ := intItems_at hv
    obtain ⟨h1, h2⟩ := argBest_lt (numAt xs) (xs.size - 1)
    have em : minDef (xs.toList.map Prod.fst) d = numAt xs (argBest (fun i j => decide (numAt xs i < numAt xs j)) (xs.size - 1)) := by
      refine minDef_is ?_ fun a ha => ?_
      · rw [numAt_eq]; exact PySem.getD_mem (by rw [List.length_map, Array.length_toList]; omega)
      · obtain ⟨j, hj, rfl⟩ := mem_getD ha
        rw [List.length_map, Array.length_toList] at hj
        rw [← numAt_eq]; exact h2 j (by omega)
    exact ⟨.int _, H, I.kept hk', ⟨_, rfl⟩, by rw [← em]; exact q⟩
  · refine call_minE_d (iter_intList hl fun s₂ e st hfp hlI => ?_)
    subst e
    have x0 : xs.size = 0 := Nat.eq_zero_of_not_pos hne
    have z : (intItems xs).size = 0 := by simpa [intItems] using x0
    have W := Walks.list (prog := X.prog) (w := X.w) (A := X.A.in1) hh s.heap.objs.size a hlI (intItems xs)
    rw [z] at W
    refine ⟨_, _, _, _, _, rfl, W, st, hfp, fun h' tk hk => ?_⟩
    have hk' := old_kept hk
    have ez : xs.toList.map Prod.fst = [] := by
      have : xs.toList.length = 0 := by rw [Array.length_toList]; exact x0
      rw [List.length_eq_zero_iff.mp this]; rfl
    rw [ez] at q
    exact ⟨.int d, H, I.kept hk', ⟨_, rfl⟩, q⟩
end
end KX

set_option autoImplicit false
set_option Elab.async false
set_option linter.all false
set_option maxRecDepth 100000
/-! DL: sorted, sorted(set(..)), min(.., default=..), list(range(..)), list.index, names of built-in types. -/
namespace DL
open PySem PySem.Spec PyProof.Rows L2
/-! ### sorting ints, plainly -/
def insI (x : Int) : List Int → List Int
  | [] => [x]
  | y :: r => if x ≤ y then x :: y :: r else y :: insI x r
def sortI : List Int → List Int
  | [] => []
  | x :: r => insI x (sortI r)
def insU (x : Int) : List Int → List Int
  | [] => [x]
  | y :: r => if x < y then x :: y :: r else if x = y then y :: r else y :: insU x r
def sortU : List Int → List Int
  | [] => []
  | x :: r => insU x (sortU r)
theorem insI_perm (x : Int) : ∀ l : List Int, (insI x l).Perm (x :: l)
  | [] => .refl _
  | y :: r => by
    unfold insI
    split
    · exact .refl _
    · exact ((insI_perm x r).cons y).trans (.swap x y r)
theorem sortI_perm : ∀ l : List Int, (sortI l).Perm l
  | [] => .refl _
  | x :: r => (insI_perm x (sortI r)).trans ((sortI_perm r).cons x)
theorem insI_sorted (x : Int) : ∀ l : List Int, l.Pairwise (· ≤ ·) → (insI x l).Pairwise (· ≤ ·)
  | [], _ => by simp [insI]
  | y :: r, h => by
    obtain ⟨h1, h2⟩ := List.pairwise_cons.mp h
    unfold insI
    split
    · rename_i hxy
      refine List.pairwise_cons.mpr ⟨fun a ha => ?_, h⟩
      rcases List.mem_cons.mp ha with rfl | ha
      · exact hxy
      · exact Int.le_trans hxy (h1 a ha)
    · rename_i hxy
      refine List.pairwise_cons.mpr ⟨fun a ha => ?_, insI_sorted x r h2⟩
      rcases List.mem_cons.mp ((insI_perm x r).mem_iff.mp ha) with rfl | ha
      · exact Int.le_of_lt (Int.not_le.mp hxy)
      · exact h1 a ha
theorem sortI_sorted : ∀ l : List Int, (sortI l).Pairwise (· ≤ ·)
  | [] => .nil
  | x :: r => insI_sorted x _ (sortI_sorted r)
theorem insU_mem (x k : Int) : ∀ l : List Int, k ∈ insU x l ↔ k = x ∨ k ∈ l
  | [] => by simp [insU]
  | y :: r => by
    unfold insU
    split
    · simp
    · split
      · rename_i h; subst h; simp
      · rw [List.mem_cons, insU_mem x k r, List.mem_cons]
        constructor
        · rintro (h | h | h)
          · exact .inr (.inl h)
          · exact .inl h
          · exact .inr (.inr h)
        · rintro (h | h | h)
          · exact .inr (.inl h)
          · exact .inl h
          · exact .inr (.inr h)
theorem insU_sorted (x : Int) : ∀ l : List Int, l.Pairwise (· < ·) → (insU x l).Pairwise (· < ·)
  | [], _ => by simp [insU]
  | y :: r, h => by
    obtain ⟨h1, h2⟩ := List.pairwise_cons.mp h
    unfold insU
    split
    · rename_i hxy
      refine List.pairwise_cons.mpr ⟨fun a ha => ?_, h⟩
      rcases List.mem_cons.mp ha with rfl | ha
      · exact hxy
      · exact Int.lt_trans hxy (h1 a ha)
    · split
      · exact h
      · rename_i hxy hne
        refine List.pairwise_cons.mpr ⟨fun a ha => ?_, insU_sorted x r h2⟩
        rcases (insU_mem x a r).mp ha with rfl | ha
        · omega
        · exact h1 a ha
theorem sortU_mem (k : Int) : ∀ l : List Int, k ∈ sortU l ↔ k ∈ l
  | [] => Iff.rfl
  | x :: r => by
    show k ∈ insU x (sortU r) ↔ _
    rw [insU_mem, sortU_mem k r, List.mem_cons]
theorem sortU_sorted : ∀ l : List Int, (sortU l).Pairwise (· < ·)
  | [] => .nil
  | x :: r => insU_sorted x _ (sortU_sorted r)
theorem sorted_uniq : ∀ (l r : List Int), l.Perm r → l.Pairwise (· ≤ ·) → r.Pairwise (· ≤ ·) → l = r
  | [], r, p, _, _ => (List.nil_perm.mp p).symm
  | x :: l, [], p, _, _ => absurd p.length_eq (by simp)
  | x :: l, y :: r, p, h, k => by
    obtain ⟨h1, h2⟩ := List.pairwise_cons.mp h
    obtain ⟨k1, k2⟩ := List.pairwise_cons.mp k
    have e : x = y := by
      have a : x ∈ y :: r := p.mem_iff.mp List.mem_cons_self
      have b : y ∈ x :: l := p.mem_iff.mpr List.mem_cons_self
      rcases List.mem_cons.mp a with a | a
      · exact a
      rcases List.mem_cons.mp b with b | b
      · exact b.symm
      · exact Int.le_antisymm (h1 y b) (k1 x a)
    subst e
    rw [sorted_uniq l r (List.Perm.cons_inv p) h2 k2]
theorem strict_uniq : ∀ (l r : List Int), l.Pairwise (· < ·) → r.Pairwise (· < ·) → (∀ k, k ∈ l ↔ k ∈ r) → l = r
  | [], [], _, _, _ => rfl
  | [], y :: r, _, _, h => absurd ((h y).mpr List.mem_cons_self) (by simp)
  | x :: l, [], _, _, h => absurd ((h x).mp List.mem_cons_self) (by simp)
  | x :: l, y :: r, h, k, m => by
    obtain ⟨h1, h2⟩ := List.pairwise_cons.mp h
    obtain ⟨k1, k2⟩ := List.pairwise_cons.mp k
    have e : x = y := by
      have a : x ∈ y :: r := (m x).mp List.mem_cons_self
      have b : y ∈ x :: l := (m y).mpr List.mem_cons_self
      rcases List.mem_cons.mp a with a | a
      · exact a
      rcases List.mem_cons.mp b with b | b
      · exact b.symm
      · have := h1 y b; have := k1 x a; omega
    subst e
    rw [strict_uniq l r h2 k2 fun j => ?_]
    constructor
    · intro hj
      rcases List.mem_cons.mp ((m j).mp (List.mem_cons_of_mem _ hj)) with e | e
      · subst e; exact absurd (h1 j hj) (Int.lt_irrefl _)
      · exact e
    · intro hj
      rcases List.mem_cons.mp ((m j).mpr (List.mem_cons_of_mem _ hj)) with e | e
      · subst e; exact absurd (k1 j hj) (Int.lt_irrefl _)
      · exact e
section
variable {X : Cx} {W : WX}
/-! ### sorted -/
def sortedD : List D → Option (Nat × D)
  | [.lst ds] => (intsOf ds).map fun ns => (1, .lst ((sortI ns).map .int))
  | _ => none
theorem call_sortedDD : CallD X (.builtin "sorted") sortedD := by
  refine CallD.of (cr_sortedI (X := X)) fun ds n d h F H xs Q sf rs q => ?_
  unfold sortedD at h
  split at h
  · obtain ⟨ns, hn, e⟩ := Option.map_eq_some_iff.mp h
    cases e
    obtain ⟨x, rfl, r⟩ := rs.one
    obtain ⟨a, vs, rfl, h1, k1⟩ := Rep.lst_inv r
    rw [intsOf_eq hn] at k1
    rw [Reps.ints k1] at h1
    refine ⟨a, ns, rfl, sf.seq h1, fun ns' p hp hs hf => ?_⟩
    rw [sorted_uniq ns' (sortI ns) (hp.trans (sortI_perm ns).symm) hs (sortI_sorted ns)]
    exact q _ _ _ _ (NewV.lst sf hf (reps_ints _))
  · cases h
/-! ### sorted(set(xs)), xs a list of ints, fewer than 64 of them -/
def tSortSet (K : PySem.W.Frag) (ta : TE) : TE := fun σ H Q => ta σ H fun x H1 => ∃ (l : Addr) (ns : List Int), x = .ref l ∧ SqL K H1 l (ns.map V.int) ∧ (sortU ns).length < 64 ∧ ns.length < 4000 ∧ ∀ p, H1 p = none → Q (.ref p) (upd H1 p (.lst ((sortU ns).map V.int)))
theorem pe_sortSet {a : Expr} {ta : TE} {p p2 q pos : Pos} (hc : X.calm = true) (hg : Gl X "sorted") (hm : X.mg "sorted" = none) (hg2 : Gl X "set") (hm2 : X.mg "set" = none) (ha : PE X a ta)
    (na : starEach [a] X.env = (false, eval a X.env) :: starEach [] X.env := by rfl) : PE X (.Call (.Name "sorted" p) [.Call (.Name "set" p2) [a] [] q] [] pos) (tSortSet X.K ta) := by
  refine ⟨fun pins s σ H Q I h => ?_⟩
  refine Call_ (ld_blt I hg hm PyProof.Rows.boot_sorted ?_)
  refine PyProof.Rows.callWith_builtin1 (PyProof.Rows.args_cons ?_ rfl) rfl rfl
  refine Call_ (ld_blt I hg2 hm2 PyProof.Rows.boot_set ?_)
  refine PyProof.Rows.callWith_type1 (PyProof.Rows.args_cons (thn (ha.run pins s σ H _ I h) fun v s1 ⟨x, H1, I1, r1, q1⟩ => PyProof.Rows.args_nil ?_) na) na rfl
  obtain ⟨l, ns, rfl, hq, h64, h4k, q1⟩ := q1
  cases r1
  obtain ⟨its, r, pl, hz⟩ := I1.list hq
  refine KX.call_set_lstI ns (I1.ok.hd hc) pl.isList (by simpa using r.ints) (by unfold scanBound; omega) fun h' tk c R hcn hk => ?_
  refine PyProof.Rows.args_nil ?_
  have I2 : Inv X pins σ (upd H1 s1.heap.objs.size (SetO X.w s1.heap.objs.size (fun j => decide (j ∈ ns)) c)) { s1 with heap := h', toks := tk } :=
    I1.laid (t' := tk) hk (Nat.le_refl _) (setO_new R)
  have h0 : H1 s1.heap.objs.size = none := I1.hok.fresh (Nat.le_refl _)
  have I3 : Inv X pins σ H1 { s1 with heap := h', toks := tk } := I1.kept hk
  have hc64 : c < 64 := by
    have ⟨o1, es, ep, t, _, _, _, _, nd, hm, _, _, hn, _, _⟩ := R
    have sub : es.toList.map keyOf ⊆ sortU ns := fun k hk => by
      have := (hm k).mpr hk
      exact (sortU_mem k ns).mpr (by simpa using this)
    have := List.Nodup.length_le_of_subset nd sub
    rw [List.length_map, Array.length_toList, hn] at this
    omega
  -- the sorted list is laid over the heap without the set
  refine sorted_set R (I1.ok.hd hc) hc64 fun s' p out c ns' k g o hp hg' hi hs hmem hl => ?_
  have hu : ns' = sortU ns := strict_uniq _ _ hs (sortU_sorted ns) fun k => by rw [hmem, sortU_mem]; simp
  subst hu
  have hlen : ((sortU ns).map V.int).length ≤ sizeLine := by rw [List.length_map, hl, sizeLine_eq]; omega
  have hn : H1 p = none := I3.hok.fresh hp
  have hp' : s1.heap.objs.size ≤ p := by
    have ⟨o1, _, _, _, ho1, _⟩ := R
    exact Nat.le_trans (Nat.le_of_lt (Heap.lt_size ho1)) hp
  have k' : ∀ b o, s1.heap.get? b = some o → s'.heap.get? b = some o := fun b o q => k b o (hk b o q)
  have J : Inv X pins σ (upd H1 p (.lst ((sortU ns).map V.int))) { s1 with heap := s'.heap, gens := s'.gens, drawn := s'.drawn, toks := s'.toks } :=
    I1.call (ch := []) (Un.laid k' hp' hn) (I1.hok.laid k' hp' ⟨hlen, out.toList, c, vals_of_ints hi, hg'⟩) (by rw [g]; exact I1.bare) (fun _ z => nomatch z)
  have e : s' = { s1 with heap := s'.heap, gens := s'.gens, drawn := s'.drawn, toks := s'.toks } := by
    cases s'
    cases s1
    cases o
    rfl
  rw [e]
  exact ⟨.ref p, _, J, rfl, q1 p hn⟩
def sortSetD : D → Option (Nat × D)
  | .lst ds => match intsOf ds with
    | some ns => if (sortU ns).length < 64 ∧ ns.length < 4000 then some (1, .lst ((sortU ns).map .int)) else none
    | none => none
  | _ => none
theorem de_sortSet {a : Expr} {m : ME} {p p2 q pos : Pos} (hc : X.calm = true) (hg : Gl X "sorted") (hm : X.mg "sorted" = none) (hg2 : Gl X "set") (hm2 : X.mg "set" = none) (ha : DE X W m a)
    (na : starEach [a] X.env = (false, eval a X.env) :: starEach [] X.env := by rfl) : DE X W (mOp1 sortSetD m) (.Call (.Name "sorted" p) [.Call (.Name "set" p2) [a] [] q] [] pos) := by
  refine PE.to (pe_sortSet hc hg hm hg2 hm2 ha na) fun σ H Q ⟨G, F, env, fp, s, h⟩ => ?_
  refine tE.of s h.bind fun r1 e1 F1 H1 fp1 v1 p1 s1 rep1 fe1 => ?_
  obtain ⟨n, d, ho, hk⟩ := RG.end s1 fe1 p1
  unfold sortSetD at ho
  split at ho
  · rename_i ds hd
    split at ho
    · rename_i ns hn
      split at ho
      · rename_i h64
        cases ho
        rw [hd] at rep1
        obtain ⟨a, vs, rfl, h1, k1⟩ := Rep.lst_inv rep1
        rw [intsOf_eq hn] at k1
        rw [Reps.ints k1] at h1
        exact ⟨a, ns, rfl, s1.sf.seq h1, h64.1, h64.2, fun p hp => hk _ _ _ _ (NewV.lst s1.sf hp (reps_ints _))⟩
      · cases ho
    · cases ho
  · cases ho
/-! ### min(xs, default=k) -/
def minDefD : D → D → Option (Nat × D)
  | .lst ds, .int d => (intsOf ds).map fun ns => (0, .int (KX.minDef ns d))
  | _, _ => none
theorem de_minDef {a b : Expr} {ma mb : ME} {p kp pos : Pos} (hc : X.calm = true) (hg : Gl X "min") (hm : X.mg "min" = none) (ha : DE X W ma a) (hb : DE X W mb b)
    (na : starEach [a] X.env = (false, eval a X.env) :: starEach [] X.env := by rfl) (he : backTo pos (starEach [a] X.env) = (false, eval a X.env) :: backTo pos (starEach [] X.env) := by rfl) (hpl : (backTo pos (starEach [a] X.env)).any (·.1) = false := by rfl)
    (hall : (backToKw pos (keywordEach [⟨some "default", b, kp⟩] X.env)).all (·.1.isSome) = true := by rfl) (hnone : (backToKw pos (keywordEach [⟨some "default", b, kp⟩] X.env)).any (·.1.isNone) = false := by rfl) (hks : (backToKw pos (keywordEach [⟨some "default", b, kp⟩] X.env)).filterMap (·.1) = [Str.ofString "default"] := by rfl) :
    DE X W (mOp2 minDefD ma mb) (.Call (.Name "min" p) [a] [⟨some "default", b, kp⟩] pos) := by
  refine PE.to (pe_callBK (KX.cr_minDef hc) hg hm PyProof.Rows.boot_min (pa_cons ha pa_nil na) (pk_cons hb pk_nil) (by decide) (by decide) he hpl hall hnone hks) fun σ H Q ⟨G, F, env, fp, s, h⟩ => ?_
  refine tE.of s h.bind fun r1 e1 F1 H1 fp1 v1 p1 s1 rep1 fe1 => ?_
  refine tE.of s1 (RG.imp p1.bind fe1 fun _ _ q => q) fun r2 e2 F2 H2 fp2 v2 p2 s2 rep2 fe2 => ?_
  obtain ⟨n, d, ho, hk⟩ := RG.end s2 (fe1.trans fe2) p2
  unfold minDefD at ho
  split at ho
  · rename_i ds dd hd hd2
    obtain ⟨ns, hn, e⟩ := Option.map_eq_some_iff.mp ho
    cases e
    have rep1' := rep1.mono fe2.same
    rw [hd] at rep1'
    rw [hd2] at rep2
    obtain ⟨a, vs, rfl, h1, k1⟩ := Rep.lst_inv rep1'
    cases Rep.int_inv rep2
    rw [intsOf_eq hn] at k1
    rw [Reps.ints k1] at h1
    exact ⟨a, ns, _, rfl, rfl, s2.sf.seq h1, hk _ _ _ _ (NewV.of_rep s2.sf (.int _))⟩
  · cases ho
/-! ### list(range(n)) -/
def lstRgD : D → Option (Nat × D)
  | .int n => if n ≤ 16777216 ∧ -(2 ^ 62) ≤ n then some (1, .lst ((List.range n.toNat).map fun i => .int (i : Nat))) else none
  | _ => none
theorem reps_rg {K : PySem.W.Frag} {F : Hp} (n : Int) : Reps K F ((List.range n.toNat).map fun i => D.int (i : Nat)) (rgV 0 n) := by
  have e : rgV 0 n = ((List.range n.toNat).map fun i => ((i : Nat) : Int)).map V.int := by
    unfold rgV
    rw [Int.sub_zero, List.map_map]
    exact List.map_congr_left fun i _ => by simp
  have e2 : ((List.range n.toNat).map fun i => D.int (i : Nat)) = ((List.range n.toNat).map fun i => ((i : Nat) : Int)).map D.int := by rw [List.map_map]; rfl
  rw [e, e2]
  exact reps_ints _
theorem de_lstRg {a : Expr} {m : ME} {p p2 q pos : Pos} (hc : X.calm = true) (hg : Gl X "list") (hm : X.mg "list" = none) (hg2 : Gl X "range") (hm2 : X.mg "range" = none) (ha : DE X W m a)
    (na : starEach [.Call (.Name "range" p2) [a] [] q] X.env = (false, eval (.Call (.Name "range" p2) [a] [] q) X.env) :: starEach [] X.env := by rfl) (na2 : starEach [a] X.env = (false, eval a X.env) :: starEach [] X.env := by rfl) : DE X W (mOp1 lstRgD m) (.Call (.Name "list" p) [.Call (.Name "range" p2) [a] [] q] [] pos) := by
  refine PE.to (pe_listRg hc hg hm (prg_1 hg2 hm2 ha na2) na) fun σ H Q ⟨G, F, env, fp, s, h⟩ => ?_
  refine tE.of s h.bind fun r1 e1 F1 H1 fp1 v1 p1 s1 rep1 fe1 => ?_
  obtain ⟨n, d, ho, hk⟩ := RG.end s1 fe1 p1
  unfold lstRgD at ho
  split at ho
  · rename_i i hd
    split at ho
    · rename_i hb
      cases ho
      rw [hd] at rep1
      cases Rep.int_inv rep1
      refine ⟨i, rfl, ⟨by decide, by decide, hb.2, by omega, by omega⟩, fun p hp => hk _ _ _ _ (NewV.lst s1.sf hp (reps_rg i))⟩
    · cases ho
  · cases ho
/-! ### l.index(x) -/
def idxOf (d : D) : List D → Option Nat
  | [] => none
  | y :: r => if eqv y d = true then some 0 else (idxOf d r).map (· + 1)
theorem idxOf_some {d : D} : ∀ {ds : List D} {j : Nat}, idxOf d ds = some j → (∃ z, ds[j]? = some z ∧ eqv z d = true) ∧ ∀ (m : Nat) (z : D), m < j → ds[m]? = some z → eqv z d = false
  | [], j, h => by cases h
  | y :: r, j, h => by
    unfold idxOf at h
    split at h
    · rename_i e
      cases h
      exact ⟨⟨y, rfl, e⟩, fun m z hm => absurd hm (Nat.not_lt_zero _)⟩
    · rename_i e
      obtain ⟨k, hk, rfl⟩ := Option.map_eq_some_iff.mp h
      obtain ⟨h1, h2⟩ := idxOf_some hk
      refine ⟨h1, fun m z hm hz => ?_⟩
      cases m with
      | zero => cases hz; simpa using e
      | succ m => exact h2 m z (by omega) hz
def indexD : D → List D → Option (Nat × D)
  | .lst ds, [d] => if okN 40 d && ds.all (okN 40) && decide (ds.length ≤ LIM) then (idxOf d ds).map fun j => (0, .int (j : Nat)) else none
  | _, _ => none
def rIdxA (X : Cx) : V → List V → Hp → VK → Prop := fun x xs H Q => ∃ d ds a vs y j, okN 40 d = true ∧ ds.all (okN 40) = true ∧ x = .ref a ∧ xs = [y] ∧ SqL X.K H a vs ∧ Rep X.K H d y ∧ Reps X.K H ds vs ∧ idxOf d ds = some j ∧ Q (.int (j : Nat)) H
theorem mt_indexA (hu : X.A.units + 64 < cLine) : MtR X "list.index" (rIdxA X) := by
  intro pins s σ H x xs v us Q I rx rxs ⟨d, ds, a, vs, y, j, od, os, ex, exs, hs, rd, rs, hj, q⟩
  subst ex
  subst exs
  cases rx
  obtain ⟨uy, rfl, ry⟩ := rxs.one
  have hu' : X.A.in1.units + 40 < cLine := by show X.A.units + 1 + 40 < cLine; omega
  obtain ⟨its, rv, ⟨⟨cls, dd, data, sls⟩, n, ho, hc, hdn, hdt⟩, hlen⟩ := I.list hs
  simp only at hc hdt
  subst hc hdt
  obtain ⟨⟨z, hz, ez⟩, hno⟩ := idxOf_some hj
  have l1 := rs.length
  have l2 := rv.length
  have hjd : j < ds.length := (List.getElem?_eq_some_iff.mp hz).1
  have hjl : j < its.length := by omega
  have at_ : ∀ (m : Nat) (hm : m < its.toArray.size) (z' : D), ds[m]? = some z' → eqVal X.K H d its.toArray[m] = eqv z' d := by
    intro m hm z' hz'
    obtain ⟨w, hw, rw'⟩ := rs.get hz'
    obtain ⟨u, hu1, ru⟩ := rv.get hw
    have hml : m < its.length := by simpa using hm
    have e1 : its[m] = u := by rw [List.getElem?_eq_getElem hml] at hu1; exact Option.some.inj hu1
    have e2 : its.toArray[m] = u := by simpa using e1
    rw [e2]
    exact eqVal_ok I (List.all_eq_true.mp os z' (List.mem_of_getElem? hz')) rw' ru
  have hsl := sizeLine_eq
  refine call_meets PySem.F.slot_list_index ⟨_, ho, rfl⟩ PySem.F.entry_list_index (PySem.F.args_list_index_2 _ _)
    (SeqAt.list_indexAt a its.toArray n dd sls uy (eqVal X.K H d) j (by simpa using hjl) (by omega) ?_ ?_) ⟨ho, fun y hy => mem_eqVal I hu' od rd ry os rs rv y (by simpa using hy), ?_⟩
  · rw [at_ j (by simpa using hjl) z hz]; exact ez
  · intro m hm hmj
    have hmd : m < ds.length := by omega
    rw [at_ m hm _ (List.getElem?_eq_getElem hmd)]
    exact hno m _ hmj (List.getElem?_eq_getElem hmd)
  · exact ⟨.int (j : Nat), H, I.tok _, ⟨_, rfl⟩, q⟩
theorem mt_indexDD (hu : X.A.units + 64 < cLine) : MtD' X "list.index" indexD := by
  refine ⟨_, mt_indexA hu, fun d0 ds n d h F H x xs Q sf r rs q => ?_⟩
  unfold indexD at h
  split at h
  · rename_i ds0 d1
    split at h
    · rename_i hb
      obtain ⟨j, hj, e⟩ := Option.map_eq_some_iff.mp h
      cases e
      simp only [Bool.and_eq_true, decide_eq_true_eq] at hb
      obtain ⟨y, rfl, ry⟩ := rs.one
      obtain ⟨a, vs, rfl, h1, k1⟩ := Rep.lst_inv r
      exact ⟨_, _, a, vs, y, j, hb.1.1, hb.1.2, rfl, rfl, sf.seq h1, ry.mono sf, k1.mono sf, hj, q _ _ _ _ (NewV.of_rep sf (.int _))⟩
    · cases h
  · cases h
/-! ### a built-in type by its name -/
theorem de_ty {x : Str} {T : String} {pos : Pos} (hg : Gl X x) (hm : X.mg x = none) (hv : bootBuiltins x = some (.type T)) (hn : x ≠ "__name__" := by decide) (hd : (x == ("__debug__" : Str)) = false := by decide) : DE X W (mC (.ty T)) (.Name x pos) :=
  de_const (v := .ty T) (pe_bltn hg hm hv rfl hn hd) fun _ _ => .ty T
end
end DL

set_option autoImplicit false
set_option Elab.async false
set_option linter.all false
set_option maxRecDepth 100000
/-! DL: more assignments. -/
namespace DL
open PySem PySem.Spec PyProof.Rows L2
section
variable {X : Cx} {W : WX}
/-- target = value, any target -/
def mAsgG (g : DTg) (m : ME) : MS := fun env => (m env).bindS fun r e => match g r.2 e with
  | some e2 => .nx e2
  | none => .stuck
theorem ds_asgG {A : List Nat} {tg e : Expr} {g : DTg} {m : ME} {pos : Pos} (hg : DG X A g tg) (he : DE X W m e) (hs : swapsWithSole [tg] e pos.line X.env = pure false := by rfl) (hw : swappedStores [tg] e X.env = pure none := by rfl)
    (h1 : (assignEach [tg] X.env).map (·.2) = [assign tg X.env] := by rfl) : DS X W A (mAsgG g m) (.Assign [tg] e pos) := by
  obtain ⟨t, ht, hq⟩ := hg
  refine PS.to (ps_asg he ht hs hw h1) fun De σ H ⟨G, F, env, fp, s, h⟩ => ?_
  refine tE.of s h.ofO fun r e1 F1 H1 fp1 v p1 s1 rep1 fe1 => ?_
  cases eg : g r.2 e1 with
  | none => rw [eg] at p1; exact p1.elim
  | some e2 =>
    rw [eg] at p1
    exact hq G F1 H1 σ e1 fp1 r.2 v e2 s1 rep1 eg _ fun σ' fp' a s2 => p1 σ' F1 H1 fp' a s2 fe1
/-- name = [.. for ..] on one line -/
theorem ds_setLc {i : Nat} {y : Str} {py : Pos} {elt tg iter : Expr} {ifs : List Expr} {scope : Scope} {own : List (Str × Nat)} {pos spos : Pos} {mi : MI} {mc : MT} {me : ME} {g : DTg} {As : List Nat} (hc : X.calm = true) (hN : X.N.Nodup) (hy : X.N[i]? = some y) (hyl : X.env.scope.names.lookup y = some .local)
    (hi : DI X W mi tg iter) (ok : BlkOk X.N X.env.scope scope own) (hg : DGB X As g tg scope) (hA : ∀ i ∈ As, i ∈ own.map (·.2))
    (ht : ∀ (s : Shared) (H : Hp) (C : Addr) (cl : List (Str × Addr)) (fp : List Addr), DTs (X.blk s H scope (compEnvC scope cl C X.env) fp) W0 mc ifs) (he : ∀ (s : Shared) (H : Hp) (C : Addr) (cl : List (Str × Addr)) (fp : List Addr), DE (X.blk s H scope (compEnvC scope cl C X.env) fp) W0 me elt)
    (hsw : swapsWith (.ListComp elt [⟨tg, iter, ifs, 0⟩] scope pos) (some (.Name y py)) spos.line X.env = pure true := by rfl)
    (hs : ∀ x, foldedSetIterable iter X.env x = pure x := by intro _; rfl) :
    DS X W [i] (mSet i (mComp (own.map (·.2)) g mi mc me)) (.Assign [.Name y py] (.ListComp elt [⟨tg, iter, ifs, 0⟩] scope pos) spos) := by
  obtain ⟨t, ht1, hgq⟩ := hg
  refine PS.to (ps_setLc (wi := tI X.K X.mg W mi) (g := t) (tt := tT X.K X.mg W0 mc) (te := tE X.K X.mg W0 me) hc hN hy hyl hsw hi ok ht1 ht he hs) fun De σ H ⟨G, F, env, fp, s, h⟩ => ?_
  refine comp_core (tg := tg) (scope := scope) hA hgq ⟨G, F, env, fp, s, h.ofO.imp .refl fun r e p v F' H' fp' S sv fe => ?_⟩
  exact p _ F' H' _ (Agree.set σ i _) (sv.put i) fe
/-- name = [.. for ..] on one line -/
theorem ds_setLcF {i : Nat} {y : Str} {py : Pos} {elt tg iter : Expr} {ifs : List Expr} {scope : Scope} {own : List (Str × Nat)} {pos spos : Pos} {mi : MI} {mc : MT} {me : ME} {g : DTg} {As : List Nat} (hc : X.calm = true) (hN : X.N.Nodup) (hy : X.N[i]? = some y) (hyl : X.env.scope.names.lookup y = some .local)
    (hi : DI X W mi tg iter) (ok : BlkOk X.N X.env.scope scope own) (hg : DGB X As g tg scope) (hA : ∀ i ∈ As, i ∈ own.map (·.2))
    (ht : ∀ (s : Shared) (H : Hp) (C : Addr) (cl : List (Str × Addr)) (fp : List Addr), DTs (X.blk s H scope (compEnvC scope cl C X.env) fp) W0 mc ifs) (he : ∀ (s : Shared) (H : Hp) (C : Addr) (cl : List (Str × Addr)) (fp : List Addr), DE (X.blk s H scope (compEnvC scope cl C X.env) fp) W0 me elt)
    (hsw : swapsWith (.ListComp elt [⟨tg, iter, ifs, 0⟩] scope pos) (some (.Name y py)) spos.line X.env = pure true := by rfl)
    (hs : ∀ x, foldedSetIterable iter X.env x = pure x := by intro _; rfl) :
    DS X W [i] (mSetF i (mComp (own.map (·.2)) g mi mc me)) (.Assign [.Name y py] (.ListComp elt [⟨tg, iter, ifs, 0⟩] scope pos) spos) := by
  obtain ⟨t, ht1, hgq⟩ := hg
  refine PS.to (ps_setLc (wi := tI X.K X.mg W mi) (g := t) (tt := tT X.K X.mg W0 mc) (te := tE X.K X.mg W0 me) hc hN hy hyl hsw hi ok ht1 ht he hs) fun De σ H ⟨G, F, env, fp, s, h⟩ => ?_
  refine comp_core (tg := tg) (scope := scope) hA hgq ⟨G, F, env, fp, s, h.ofO.imp .refl fun r e p v F' H' fp' S sv fe => ?_⟩
  obtain ⟨s1, r1, f1⟩ := sv.share
  exact p _ _ H' _ (Agree.set σ i _) ((SV.of_rep s1 r1).put i) (fe.trans f1)
end
/-- a def of which nothing is promised -/
theorem fnD_stuck {P : Program} {w : World} {K : PySem.W.Frag} {mg : Str → Option Value} {base : Heap} {CX : CXT} {k : Nat} {f : Addr} {fd : FuncData} {ps : List Str} {pm : List Nat} (hp : ps.length = pm.length) : FnOk P w K mg base CX k f fd ps (spD K mg pm fun _ => .stuck) :=
  ⟨fun _ _ _ _ h => by obtain ⟨_, _, _, _, _, _, _, h⟩ := h; exact h.elim, fun _ _ _ _ _ _ _ _ _ _ _ _ _ h => by obtain ⟨_, _, _, _, _, _, _, h⟩ := h; exact h.elim⟩
end DL

set_option autoImplicit false
set_option Elab.async false
set_option linter.all false
set_option maxRecDepth 100000
/-! DL: the law's own head. -/
namespace DL
open PySem PySem.Spec PyProof.Rows L2
/-- what is asked of law, with no word of the program's names -/
def spL (K : PySem.W.Frag) : Sp := fun vs H Q _ => ∃ (a : Addr) (ns : List Int), vs = [.ref a] ∧ SqL K H a (ns.map V.int) ∧ ns.length ≤ 63 ∧ (∀ z ∈ ns, Builtin.Int.intBits z ≤ 1048576) ∧ ∀ H', Q (.bl true) H'
/-- the law's plain sense -/
def LawD (f : FSem) : Prop := ∀ ns : List Int, ns.length ≤ 63 → (∀ z ∈ ns, Builtin.Int.intBits z ≤ 1048576) → ∃ n ds', f [.scr (ns.map .int)] = .ret n (.bl true) ds'
theorem repM_bl {K : PySem.W.Frag} {F H : Hp} {n : Nat} {b : Bool} {v : V} {S : Addr → Prop} (r : RepM K F H n (.bl b) v S) : v = .bl b := by
  cases n with
  | zero => exact Rep.bl_inv r
  | succ n => exact Rep.bl_inv r
theorem spL_spD {K : PySem.W.Frag} {mg : Str → Option Value} {f : FSem} (hf : LawD f) : ∀ vs H Q E, spL K vs H Q E → spD K mg [0] f vs H Q E := by
  rintro vs H Q E ⟨a, ns, rfl, hS, hl, hb, q⟩
  obtain ⟨n, ds', e⟩ := hf ns hl hb
  refine ⟨fun _ => none, H, fun _ _ => False, [.scr (ns.map .int)], rfl, rfl, ⟨rfl, fun i n d h => ?_, fun _ _ _ _ z => z.elim, fun _ _ z => z.elim, fun _ _ z => z.elim, fun _ _ z => z.elim, Same.refl _, fun _ _ z => by cases z⟩, ?_⟩
  · cases i with
    | zero =>
      cases h
      exact ⟨_, rfl, .scr hS (reps_ints ns)⟩
    | succ i => simp [mkEnv] at h
  · rw [e]
    intro v F' H' fp' S _ sv _
    rw [repM_bl sv.val]
    exact q H'
theorem walkL {l : PySem.W.OpenLaw} {q : Program} {loose : List Str} {XP : (Str → Option Value) → Heap → Prop} {YP : World → Heap → Prop} {d : DefRec} {K : Params → PySem.W.Frag} {k : Nat} (hn : l.most = some 63) (hdf : d.params.defaults = []) (hr : Room k callerA)
    (hY : ∀ (w : World) (h : Heap), YP w h → (K w.params).In h)
    (F : ∀ (w : World) (mg : Str → Option Value) (fa : Addr) (h : Heap), (K w.params).In h → h.Ns mainGlobals mg → mg d.name = some (.ref fa) →
      ∃ fd : FuncData, (∀ (s : Shared) (u : Value), BindsTo s fd ⟨[u], []⟩ [("script", u)]) ∧ ∀ base : Heap, (K w.params).In base → base.Ns mainGlobals mg → FnOk l.prog w (K w.params) mg base CX0 k fa fd ["script"] (spL (K w.params))) :
    PySem.W.WalkO q loose XP YP l.row.toRowW d [] (fun f vs => PySem.call f vs) :=
  L2.walk_ofB (n := 63) (k := k) (x := "script") (CX := fun _ => CX0) (sp := fun w => spL (K w.params)) hn (by decide) hdf hr hY F (fun _ _ a ns hl hb _ hS => ⟨a, ns, rfl, hS, hl, hb, fun _ => rfl⟩) fun _ _ _ _ _ z => z
structure FHas (K : PySem.W.Frag) (mg : Str → Option Value) (x : Str) (st : Stmt) (ps : List Str) : Prop where
  ex : ∃ fa fd, Fun K x x st fa fd ∧ Binds K fd ps [] ∧ mg x = some (.ref fa) ∧ PySem.W.keepIn K (.ref fa) = true
end DL

set_option autoImplicit false
set_option Elab.async false
set_option linter.all false
set_option maxRecDepth 100000
/-! DL: what a denotation does, forwards: rules for simp. -/
namespace DL
open PySem PySem.Spec PyProof.Rows L2
structure Post where
  nx : DEnv → Prop
  rt : Nat → D → DEnv → Prop
  bk : DEnv → Prop
  ct : DEnv → Prop
  ex : Exc → DEnv → Prop
/-- a shared name's value; an owned one's -/
def get0 : DEnv → Nat → Option D
  | some (0, d) :: _, 0 => some d
  | _ :: e, i + 1 => get0 e i
  | _, _ => none
def get1 : DEnv → Nat → Option D
  | some (1, d) :: _, 0 => some d
  | _ :: e, i + 1 => get1 e i
  | _, _ => none
def getA : DEnv → Nat → Option (Nat × D)
  | some r :: _, 0 => some r
  | _ :: e, i + 1 => getA e i
  | _, _ => none
@[simp] theorem get0_z {d : D} {e : DEnv} : get0 (some (0, d) :: e) 0 = some d := rfl
@[simp] theorem get0_s {x : Option (Nat × D)} {e : DEnv} {i : Nat} : get0 (x :: e) (i + 1) = get0 e i := by rcases x with _ | ⟨_ | n, d⟩ <;> rfl
@[simp] theorem get1_z {d : D} {e : DEnv} : get1 (some (1, d) :: e) 0 = some d := rfl
@[simp] theorem get1_s {x : Option (Nat × D)} {e : DEnv} {i : Nat} : get1 (x :: e) (i + 1) = get1 e i := by rcases x with _ | ⟨_ | _ | n, d⟩ <;> rfl
@[simp] theorem getA_z {r : Nat × D} {e : DEnv} : getA (some r :: e) 0 = some r := rfl
@[simp] theorem getA_s {x : Option (Nat × D)} {e : DEnv} {i : Nat} : getA (x :: e) (i + 1) = getA e i := by cases x <;> rfl
theorem get0_eq : ∀ (e : DEnv) (i : Nat) (d : D), get0 e i = some d ↔ e[i]? = some (some (0, d))
  | [], i, d => by simp [get0]
  | none :: e, 0, d => by simp [get0]
  | some (0, x) :: e, 0, d => by simp
  | some (n + 1, x) :: e, 0, d => by simp [get0]
  | x :: e, i + 1, d => by rw [get0_s, get0_eq e i d]; simp
theorem get1_eq : ∀ (e : DEnv) (i : Nat) (d : D), get1 e i = some d ↔ e[i]? = some (some (1, d))
  | [], i, d => by simp [get1]
  | none :: e, 0, d => by simp [get1]
  | some (0, x) :: e, 0, d => by simp [get1]
  | some (1, x) :: e, 0, d => by simp
  | some (n + 2, x) :: e, 0, d => by simp [get1]
  | x :: e, i + 1, d => by rw [get1_s, get1_eq e i d]; simp
theorem getA_eq : ∀ (e : DEnv) (i : Nat) (r : Nat × D), getA e i = some r ↔ e[i]? = some (some r)
  | [], i, d => by simp [getA]
  | none :: e, 0, d => by simp [getA]
  | some x :: e, 0, d => by simp
  | x :: e, i + 1, d => by rw [getA_s, getA_eq e i d]; simp
def getL (e : DEnv) (i : Nat) : Option (List D) := match get1 e i with
  | some (.lst ds) => some ds
  | _ => none
@[simp] theorem getL_z {ds : List D} {e : DEnv} : getL (some (1, .lst ds) :: e) 0 = some ds := rfl
@[simp] theorem getL_s {x : Option (Nat × D)} {e : DEnv} {i : Nat} : getL (x :: e) (i + 1) = getL e i := by unfold getL; rw [get1_s]
theorem getL_eq {e : DEnv} {i : Nat} {ds : List D} : getL e i = some ds ↔ e[i]? = some (some (1, .lst ds)) := by
  rw [← get1_eq]
  unfold getL
  split
  · rename_i h; rw [h]; simp
  · rename_i h
    constructor
    · intro z; cases z
    · intro z; exact (h _ z).elim
def isBl : D → Option Bool
  | .bl b => some b
  | _ => none
def isIn : D → Option Int
  | .int i => some i
  | _ => none
def isSq : D → Option (List D)
  | .lst ds => some ds
  | .tup ds => some ds
  | .scr ds => some ds
  | _ => none
@[simp] theorem isBl_bl {b : Bool} : isBl (.bl b) = some b := rfl
@[simp] theorem isIn_int {i : Int} : isIn (.int i) = some i := rfl
@[simp] theorem isSq_lst {ds : List D} : isSq (.lst ds) = some ds := rfl
@[simp] theorem isSq_tup {ds : List D} : isSq (.tup ds) = some ds := rfl
@[simp] theorem isSq_scr {ds : List D} : isSq (.scr ds) = some ds := rfl
namespace U
def WE {α : Type} (X : Exc → DEnv → Prop) (o : Out α) (P : α → DEnv → Prop) : Prop := match o with
  | .ok a e => P a e
  | .exc x e => X x e
  | .stuck => False
def WS (o : OutS) (P : Post) : Prop := match o with
  | .nx e => P.nx e
  | .ret n d e => P.rt n d e
  | .brk e => P.bk e
  | .cont e => P.ct e
  | .exc x e => P.ex x e
  | .stuck => False
/-- something is there, and P of it -/
def oP {α : Type} (o : Option α) (P : α → Prop) : Prop := match o with
  | some a => P a
  | none => False
@[simp] theorem oP_some {α : Type} {a : α} {P : α → Prop} : oP (some a) P ↔ P a := Iff.rfl
@[simp] theorem oP_none {α : Type} {P : α → Prop} : oP (none : Option α) P ↔ False := Iff.rfl
theorem oP_ex {α : Type} {o : Option α} {P : α → Prop} : oP o P ↔ ∃ a, o = some a ∧ P a := by cases o <;> simp [oP]
theorem oP.mk {α : Type} {o : Option α} {P : α → Prop} {a : α} (h : o = some a) (p : P a) : oP o P := by rw [h]; exact p
def WF (X : Exc → DEnv → Prop) (o : FR) (k : Nat) (e : DEnv) (P : Nat × D → DEnv → Prop) : Prop := match o with
  | .ret n d ds' => ds'.length = k ∧ P (n, d) e
  | .exc x ds' => ds'.length = k ∧ X x e
  | .stuck => False
theorem WE.mono {α : Type} {X X' : Exc → DEnv → Prop} {o : Out α} {P P' : α → DEnv → Prop} (h : WE X o P) (i : ∀ a e, P a e → P' a e) (j : ∀ x e, X x e → X' x e) : WE X' o P' := by
  cases o with
  | ok a e => exact i _ _ h
  | exc x e => exact j _ _ h
  | stuck => exact h
theorem WS.mono {o : OutS} {P P' : Post} (h : WS o P) (h1 : ∀ e, P.nx e → P'.nx e) (h2 : ∀ n d e, P.rt n d e → P'.rt n d e) (h3 : ∀ e, P.bk e → P'.bk e) (h4 : ∀ e, P.ct e → P'.ct e) (h5 : ∀ x e, P.ex x e → P'.ex x e) : WS o P' := by
  cases o with
  | nx e => exact h1 _ h
  | ret n d e => exact h2 _ _ _ h
  | brk e => exact h3 _ h
  | cont e => exact h4 _ h
  | exc x e => exact h5 _ _ h
  | stuck => exact h
section
variable {α β : Type} {X : Exc → DEnv → Prop} {env e : DEnv} {P : Nat × D → DEnv → Prop} {PB : Bool → DEnv → Prop} {PA : List D → DEnv → Prop} {PO : Option Int → DEnv → Prop} {Q : Post} {ma mb mc : ME} {ta tb : MT} {sa sb : MS} {ms : MA}
@[simp] theorem WE_ok {a : α} {P : α → DEnv → Prop} : WE X (.ok a e) P ↔ P a e := Iff.rfl
@[simp] theorem WE_stuck {P : α → DEnv → Prop} : WE X .stuck P ↔ False := Iff.rfl
@[simp] theorem WE_exc {x : Exc} {P : α → DEnv → Prop} : WE X (.exc x e) P ↔ X x e := Iff.rfl
theorem WE_bind {o : Out α} {f : α → DEnv → Out β} {P : β → DEnv → Prop} : WE X (o.bind f) P ↔ WE X o fun a e => WE X (f a e) P := by cases o <;> rfl
theorem WS_bind {o : Out α} {f : α → DEnv → OutS} : WS (o.bindS f) Q ↔ WE Q.ex o fun a e => WS (f a e) Q := by cases o <;> rfl
@[simp] theorem WE_oB {o : Option α} {P : α → DEnv → Prop} : WE X (oB o e) P ↔ oP o fun k => P k e := by cases o <;> simp [oB, WE]
@[simp] theorem WE_C {d : D} : WE X (mC d env) P ↔ P (0, d) env := Iff.rfl
@[simp] theorem WE_var {i : Nat} : WE X (mVar i env) P ↔ oP (get0 env i) fun d => P (0, d) env := by
  rw [oP_ex]
  simp only [get0_eq]
  unfold mVar
  split
  · rename_i d h; rw [h]; simp
  · rename_i h
    constructor
    · intro z; exact z.elim
    · rintro ⟨d, h1, _⟩; exact (h d h1).elim
@[simp] theorem WE_move {i : Nat} : WE X (mMove i env) P ↔ oP (getA env i) fun r => P r (env.set i none) := by
  have : (oP (getA env i) fun r => P r (env.set i none)) ↔ ∃ n d, env[i]? = some (some (n, d)) ∧ P (n, d) (env.set i none) := by
    rw [oP_ex]
    simp only [getA_eq]
    exact ⟨fun ⟨⟨n, d⟩, h⟩ => ⟨n, d, h⟩, fun ⟨n, d, h⟩ => ⟨(n, d), h⟩⟩
  rw [this]
  unfold mMove
  split
  · rename_i n d h; rw [h]; exact ⟨fun h => ⟨n, d, rfl, h⟩, fun ⟨_, _, e, h⟩ => by cases e; exact h⟩
  · rename_i h
    constructor
    · intro z; exact z.elim
    · rintro ⟨n, d, h1, _⟩; exact (h n d h1).elim
@[simp] theorem WE_op2 {f : D → D → Option (Nat × D)} : WE X (mOp2 f ma mb env) P ↔ WE X (ma env) fun a e1 => WE X (mb e1) fun b e2 => oP (f a.2 b.2) fun r => P r e2 := by
  unfold mOp2
  simp only [WE_bind]
  refine iff_of_eq (congrArg _ (funext fun a => funext fun e1 => congrArg _ (funext fun b => funext fun e2 => ?_)))
  cases f a.2 b.2 <;> simp [WE]
@[simp] theorem WE_op1 {f : D → Option (Nat × D)} : WE X (mOp1 f ma env) P ↔ WE X (ma env) fun a e1 => oP (f a.2) fun r => P r e1 := by
  unfold mOp1
  simp only [WE_bind]
  refine iff_of_eq (congrArg _ (funext fun a => funext fun e1 => ?_))
  cases f a.2 <;> simp [WE]
@[simp] theorem WE_cmp {f : D → D → Option Bool} : WE X (mCmp f ma mb env) PB ↔ WE X (ma env) fun a e1 => WE X (mb e1) fun b e2 => oP (f a.2 b.2) fun r => PB r e2 := by
  unfold mCmp
  simp only [WE_bind, WE_oB]
theorem WE_ite {c : Bool} {o o' : Out α} {P : α → DEnv → Prop} : WE X (if c = true then o else o') P ↔ (c = true → WE X o P) ∧ (c = false → WE X o' P) := by cases c <;> simp
@[simp] theorem WE_chain {f g : D → D → Option Bool} : WE X (mChain f g ma mb mc env) PB ↔ WE X (ma env) fun a e1 => WE X (mb e1) fun b e2 => oP (f a.2 b.2) fun r => (r = true → WE X (mc e2) fun c e3 => oP (g b.2 c.2) fun r => PB r e3) ∧ (r = false → PB false e2) := by
  unfold mChain
  simp only [WE_bind, WE_oB, WE_ite, WE_ok]
@[simp] theorem WE_bool : WE X (mBool ta env) P ↔ WE X (ta env) fun b e => P (0, .bl b) e := by
  unfold mBool; simp only [WE_bind, WE_ok]
@[simp] theorem WE_and : WE X (mAnd ta tb env) PB ↔ WE X (ta env) fun b e => (b = true → WE X (tb e) PB) ∧ (b = false → PB false e) := by
  unfold mAnd; simp only [WE_bind, WE_ite, WE_ok]
@[simp] theorem WE_or : WE X (mOr ta tb env) PB ↔ WE X (ta env) fun b e => (b = true → PB true e) ∧ (b = false → WE X (tb e) PB) := by
  unfold mOr; simp only [WE_bind, WE_ite, WE_ok]
@[simp] theorem WE_not : WE X (mNot ta env) PB ↔ WE X (ta env) fun b e => PB (!b) e := by
  unfold mNot; simp only [WE_bind, WE_ok]
@[simp] theorem WE_isB : WE X (mIsB ma env) PB ↔ WE X (ma env) fun r e => oP (isBl r.2) fun b => PB b e := by
  unfold mIsB
  simp only [WE_bind]
  refine iff_of_eq (congrArg _ (funext fun a => funext fun e1 => ?_))
  obtain ⟨n, d⟩ := a
  cases d <;> rfl
@[simp] theorem WE_tru : WE X (mTru ma env) PB ↔ WE X (ma env) fun r e => oP (truthD r.2) fun b => PB b e := by
  unfold mTru; simp only [WE_bind, WE_oB]
@[simp] theorem WE_ifE {tc : MT} : WE X (mIfE tc ma mb env) P ↔ WE X (tc env) fun b e => (b = true → WE X (ma e) P) ∧ (b = false → WE X (mb e) P) := by
  unfold mIfE; simp only [WE_bind, WE_ite]
@[simp] theorem WE_ONone : WE X (mONone env) PO ↔ PO none env := Iff.rfl
@[simp] theorem WE_OSome : WE X (mOSome ma env) PO ↔ WE X (ma env) fun r e => oP (isIn r.2) fun i => PO (some i) e := by
  unfold mOSome
  simp only [WE_bind]
  refine iff_of_eq (congrArg _ (funext fun a => funext fun e1 => ?_))
  obtain ⟨n, d⟩ := a
  cases d <;> rfl
@[simp] theorem WE_slice {f : D → Option Int → Option Int → Option (Nat × D)} {ml mh : MO} : WE X (mSlice f ma ml mh env) P ↔ WE X (ma env) fun a e1 => WE X (ml e1) fun lo e2 => WE X (mh e2) fun hi e3 => oP (f a.2 lo hi) fun r => P r e3 := by
  unfold mSlice; simp only [WE_bind, WE_oB]
@[simp] theorem WE_nil : WE X (mNil env) PA ↔ PA [] env := Iff.rfl
@[simp] theorem WE_cons : WE X (mCons ma ms env) PA ↔ WE X (ma env) fun a e1 => WE X (ms e1) fun ds e2 => PA (a.2 :: ds) e2 := by
  unfold mCons; simp only [WE_bind, WE_ok]
theorem WE_ite' {c : Prop} [Decidable c] {o : Out α} {P : α → DEnv → Prop} : WE X (if c then o else .stuck) P ↔ c ∧ WE X o P := by
  by_cases h : c <;> simp [h]
@[simp] theorem WE_tup : WE X (mTup ms env) P ↔ WE X (ms env) fun ds e => ds.length ≤ 1000 ∧ P (0, .tup ds) e := by
  unfold mTup; simp only [WE_bind, WE_ite', WE_ok]
@[simp] theorem WE_lst : WE X (mLst ms env) P ↔ WE X (ms env) fun ds e => ds.length ≤ 1000 ∧ P (1, .lst ds) e := by
  unfold mLst; simp only [WE_bind, WE_ite', WE_ok]
@[simp] theorem WE_callB {g : List D → Option (Nat × D)} : WE X (mCallB g ms env) P ↔ WE X (ms env) fun ds e => oP (g ds) fun r => P r e := by
  unfold mCallB; simp only [WE_bind, WE_oB]
@[simp] theorem WE_meth {ok : D → Bool} {g : D → List D → Option (Nat × D)} : WE X (mMeth ok g ma ms env) P ↔ WE X (ma env) fun o e1 => ok o.2 = true ∧ WE X (ms e1) fun ds e => oP (g o.2 ds) fun r => P r e := by
  unfold mMeth; simp only [WE_bind, WE_ite', WE_oB]
@[simp] theorem WE_frz {is : List Nat} : WE X (mFrz is ma env) P ↔ WE X (ma (frzE is env)) P := Iff.rfl
@[simp] theorem WS_frz {is : List Nat} : WS (mFrzS is sa env) Q ↔ WS (sa (frzE is env)) Q := Iff.rfl
@[simp] theorem WE_tmp {Z L : List Nat} : WE X (mTmp Z L ma env) P ↔ WE (fun x e2 => flatX x = true ∧ okL Z L 0 e2 = true ∧ X x (backE Z L 0 env e2)) (ma (tmpE Z L 0 env)) fun r e2 => closedM r.1 r.2 = true ∧ okL Z L 0 e2 = true ∧ P r (backE Z L 0 env e2) := by
  unfold mTmp
  cases ma (tmpE Z L 0 env) with
  | ok r e2 =>
    simp only [WE_ok]
    by_cases h : (closedM r.1 r.2 && okL Z L 0 e2) = true
    · rw [if_pos h]; simp only [Bool.and_eq_true] at h; simp [h.1, h.2]
    · rw [if_neg h]; simp only [Bool.and_eq_true] at h; simp only [WE_stuck, false_iff]; exact fun z => h ⟨z.1, z.2.1⟩
  | exc x e2 =>
    simp only [WE_exc]
    by_cases h : (flatX x && okL Z L 0 e2) = true
    · rw [if_pos h]; simp only [Bool.and_eq_true] at h; simp [h.1, h.2]
    · rw [if_neg h]; simp only [Bool.and_eq_true] at h; simp only [WE_stuck, false_iff]; exact fun z => h ⟨z.1, z.2.1⟩
  | stuck => rfl
@[simp] theorem WE_tmpT {Z L : List Nat} : WE X (mTmpT Z L ta env) PB ↔ WE (fun x e2 => flatX x = true ∧ okL Z L 0 e2 = true ∧ X x (backE Z L 0 env e2)) (ta (tmpE Z L 0 env)) fun r e2 => okL Z L 0 e2 = true ∧ PB r (backE Z L 0 env e2) := by
  unfold mTmpT
  cases ta (tmpE Z L 0 env) with
  | ok r e2 =>
    simp only [WE_ok]
    by_cases h : okL Z L 0 e2 = true
    · rw [if_pos h]; simp [h]
    · rw [if_neg h]; simp only [WE_stuck, false_iff]; exact fun z => h z.1
  | exc x e2 =>
    simp only [WE_exc]
    by_cases h : (flatX x && okL Z L 0 e2) = true
    · rw [if_pos h]; simp only [Bool.and_eq_true] at h; simp [h.1, h.2]
    · rw [if_neg h]; simp only [Bool.and_eq_true] at h; simp only [WE_stuck, false_iff]; exact fun z => h ⟨z.1, z.2.1⟩
  | stuck => rfl
/-! calls, nothing lent -/
@[simp] theorem WF_ret {n : Nat} {d : D} {ds : List D} {k : Nat} : WF X (.ret n d ds) k e P ↔ ds.length = k ∧ P (n, d) e := Iff.rfl
@[simp] theorem WF_exc {x : Exc} {ds : List D} {k : Nat} : WF X (.exc x ds) k e P ↔ ds.length = k ∧ X x e := Iff.rfl
theorem WF_mk {f : FSem} {pm : List Nat} {l : List (Sum D Nat)} {ds : List D} (hl : (lentOf l).Nodup) (hr : resolve pm l e = some ds) (hp : ∀ ds' e, putBack pm l ds' e = e) : WE X (mCallK pm f l e) P ↔ WF X (f ds) pm.length e P := by
  unfold mCallK
  rw [if_pos hl, hr]
  dsimp only
  cases f ds with
  | ret n d ds' => by_cases h : ds'.length = pm.length <;> simp [h, hp]
  | exc x ds' => by_cases h : ds'.length = pm.length <;> simp [h, hp]
  | stuck => rfl
@[simp] theorem WE_call1 {f : FSem} {m1 : ME} : WE X (mCall [0] f [.ex m1] env) P ↔ WE X (m1 env) fun a e => WF X (f [a.2]) 1 e P := by
  unfold mCall; simp only [mArgs, WE_bind, WE_ok]
  refine iff_of_eq (congrArg _ (funext fun a => funext fun e1 => propext (WF_mk (by simp [lentOf]) rfl fun ds' e => ?_)))
  cases ds' <;> rfl
@[simp] theorem WE_call2 {f : FSem} {m1 m2 : ME} : WE X (mCall [0, 0] f [.ex m1, .ex m2] env) P ↔ WE X (m1 env) fun a e => WE X (m2 e) fun b e => WF X (f [a.2, b.2]) 2 e P := by
  unfold mCall; simp only [mArgs, WE_bind, WE_ok]
  refine iff_of_eq (congrArg _ (funext fun a => funext fun e1 => congrArg _ (funext fun b => funext fun e2 => propext (WF_mk (by simp [lentOf]) rfl fun ds' e => ?_))))
  rcases ds' with _ | ⟨_, _ | ⟨_, _⟩⟩ <;> rfl
@[simp] theorem WE_call3 {f : FSem} {m1 m2 m3 : ME} : WE X (mCall [0, 0, 0] f [.ex m1, .ex m2, .ex m3] env) P ↔ WE X (m1 env) fun a e => WE X (m2 e) fun b e => WE X (m3 e) fun c e => WF X (f [a.2, b.2, c.2]) 3 e P := by
  unfold mCall; simp only [mArgs, WE_bind, WE_ok]
  refine iff_of_eq (congrArg _ (funext fun a => funext fun e1 => congrArg _ (funext fun b => funext fun e2 => congrArg _ (funext fun c => funext fun e3 => propext (WF_mk (by simp [lentOf]) rfl fun ds' e => ?_)))))
  rcases ds' with _ | ⟨_, _ | ⟨_, _ | ⟨_, _⟩⟩⟩ <;> rfl
@[simp] theorem WE_call4 {f : FSem} {m1 m2 m3 m4 : ME} : WE X (mCall [0, 0, 0, 0] f [.ex m1, .ex m2, .ex m3, .ex m4] env) P ↔ WE X (m1 env) fun a e => WE X (m2 e) fun b e => WE X (m3 e) fun c e => WE X (m4 e) fun d e => WF X (f [a.2, b.2, c.2, d.2]) 4 e P := by
  unfold mCall; simp only [mArgs, WE_bind, WE_ok]
  refine iff_of_eq (congrArg _ (funext fun a => funext fun e1 => congrArg _ (funext fun b => funext fun e2 => congrArg _ (funext fun c => funext fun e3 => congrArg _ (funext fun d => funext fun e4 => propext (WF_mk (by simp [lentOf]) rfl fun ds' e => ?_))))))
  rcases ds' with _ | ⟨_, _ | ⟨_, _ | ⟨_, _ | ⟨_, _⟩⟩⟩⟩ <;> rfl
@[simp] theorem WE_call5 {f : FSem} {m1 m2 m3 m4 m5 : ME} : WE X (mCall [0, 0, 0, 0, 0] f [.ex m1, .ex m2, .ex m3, .ex m4, .ex m5] env) P ↔ WE X (m1 env) fun a e => WE X (m2 e) fun b e => WE X (m3 e) fun c e => WE X (m4 e) fun d e => WE X (m5 e) fun d' e => WF X (f [a.2, b.2, c.2, d.2, d'.2]) 5 e P := by
  unfold mCall; simp only [mArgs, WE_bind, WE_ok]
  refine iff_of_eq (congrArg _ (funext fun a => funext fun e1 => congrArg _ (funext fun b => funext fun e2 => congrArg _ (funext fun c => funext fun e3 => congrArg _ (funext fun d => funext fun e4 => congrArg _ (funext fun d5 => funext fun e5 => propext (WF_mk (by simp [lentOf]) rfl fun ds' e => ?_)))))))
  rcases ds' with _ | ⟨_, _ | ⟨_, _ | ⟨_, _ | ⟨_, _ | ⟨_, _⟩⟩⟩⟩⟩ <;> rfl
/-! statements -/
@[simp] theorem WS_nx : WS (.nx e) Q ↔ Q.nx e := Iff.rfl
@[simp] theorem WS_skip : WS (mSkip env) Q ↔ Q.nx env := Iff.rfl
@[simp] theorem WS_seq : WS (mSeq sa sb env) Q ↔ WS (sa env) { Q with nx := fun e => WS (sb e) Q } := by
  unfold mSeq
  cases sa env <;> rfl
@[simp] theorem WS_set {i : Nat} : WS (mSet i ma env) Q ↔ WE Q.ex (ma env) fun r e => Q.nx (e.set i (some r)) := by unfold mSet; simp only [WS_bind, WS_nx]
@[simp] theorem WS_setF {i : Nat} : WS (mSetF i ma env) Q ↔ WE Q.ex (ma env) fun r e => Q.nx (e.set i (some (0, r.2))) := by unfold mSetF; simp only [WS_bind, WS_nx]
@[simp] theorem WS_drop : WS (mDrop ma env) Q ↔ WE Q.ex (ma env) fun _ e => Q.nx e := by unfold mDrop; simp only [WS_bind, WS_nx]
@[simp] theorem WS_ret : WS (mRet ma env) Q ↔ WE Q.ex (ma env) fun r e => Q.rt r.1 r.2 e := by unfold mRet; simp only [WS_bind]; rfl
@[simp] theorem WS_retN : WS (mRetN env) Q ↔ Q.rt 0 .non env := Iff.rfl
@[simp] theorem WS_if : WS (mIf ta sa sb env) Q ↔ WE Q.ex (ta env) fun b e => (b = true → WS (sa e) Q) ∧ (b = false → WS (sb e) Q) := by
  unfold mIf; simp only [WS_bind]
  refine iff_of_eq (congrArg _ (funext fun b => funext fun e1 => ?_))
  cases b <;> simp
@[simp] theorem WS_brk : WS (mBrk env) Q ↔ Q.bk env := Iff.rfl
@[simp] theorem WS_cnt : WS (mCnt env) Q ↔ Q.ct env := Iff.rfl
@[simp] theorem WS_asgG {g : DTg} : WS (mAsgG g ma env) Q ↔ WE Q.ex (ma env) fun r e => oP (g r.2 e) fun e2 => Q.nx e2 := by
  unfold mAsgG; simp only [WS_bind]
  refine iff_of_eq (congrArg _ (funext fun b => funext fun e1 => ?_))
  cases g b.2 e1 <;> simp [WS]
@[simp] theorem WS_app {i : Nat} : WS (mApp i ma env) Q ↔ oP (getL env i) fun ds0 => WE Q.ex (ma env) fun r e => oP (getL e i) fun ds => ds.length < LIM ∧ Q.nx (e.set i (some (1, .lst (ds ++ [r.2])))) := by
  simp only [oP_ex, getL_eq]
  unfold mApp
  split
  · rename_i ds0 h0
    rw [h0]; simp only [WS_bind]
    constructor
    · intro h
      refine ⟨ds0, rfl, WE.mono h (fun r e h => ?_) fun _ _ z => z⟩
      split at h
      · rename_i ds hd
        split at h
        · rename_i hl; exact ⟨ds, hd, hl, h⟩
        · exact h.elim
      · exact h.elim
    · rintro ⟨_, _, h⟩
      refine WE.mono h (fun r e h => ?_) fun _ _ z => z
      obtain ⟨ds, hd, hl, h⟩ := h
      rw [hd]
      simp only [hl, if_true]; exact h
  · rename_i h
    constructor
    · intro z; exact z.elim
    · rintro ⟨d, h1, _⟩; exact (h d h1).elim
@[simp] theorem WS_put {i : Nat} : WS (mPut i mb ma env) Q ↔ WE Q.ex (ma env) fun r e1 => oP (get1 e1 i) fun d0 => WE Q.ex (mb e1) fun k e2 => oP (get1 e2 i) fun d => oP (putD d k.2 r.2) fun d' => Q.nx (e2.set i (some (1, d'))) := by
  simp only [oP_ex, get1_eq]
  unfold mPut; simp only [WS_bind]
  refine iff_of_eq (congrArg _ (funext fun r => funext fun e1 => propext ?_))
  split
  · rename_i d0 h0
    rw [h0]; simp only [WS_bind]
    constructor
    · intro h
      refine ⟨d0, rfl, WE.mono h (fun k e h => ?_) fun _ _ z => z⟩
      split at h
      · rename_i d hd
        refine ⟨d, hd, ?_⟩
        cases hp : putD d k.2 r.2 with
        | none => rw [hp] at h; exact h.elim
        | some d' => rw [hp] at h; exact ⟨d', rfl, h⟩
      · exact h.elim
    · rintro ⟨_, _, h⟩
      refine WE.mono h (fun k e h => ?_) fun _ _ z => z
      obtain ⟨d, hd, d', hp, h⟩ := h
      rw [hd]
      simp only [hp]; exact h
  · rename_i h
    constructor
    · intro z; exact z.elim
    · rintro ⟨d, h1, _⟩; exact (h d h1).elim
/-! loops -/
@[simp] theorem WE_items : WE X (mItems ma env) PA ↔ WE X (ma env) fun r e => oP (isSq r.2) fun ds => PA ds e := by
  unfold mItems; simp only [WE_bind]
  refine iff_of_eq (congrArg _ (funext fun r => funext fun e1 => ?_))
  obtain ⟨n, d⟩ := r
  cases d <;> rfl
@[simp] theorem WE_rng {f : List D → Option (List D)} : WE X (mRng f ms env) PA ↔ WE X (ms env) fun ds e => oP (f ds) fun l => PA l e := by
  unfold mRng; simp only [WE_bind, WE_oB]
@[simp] theorem WS_for {js : List Nat} {g : DTg} {mi : MI} : WS (mFor js g mi sa env) Q ↔ WE Q.ex (mi env) fun ds e => WS (mForL g js sa ds e) Q := by
  unfold mFor; simp only [WS_bind]
/-- a loop by its invariant: k turns are done -/
theorem WS_forL {g : DTg} {js : List Nat} {b : MS} {Q : Post} (I : Nat → DEnv → Prop) : ∀ (ds : List D) (k : Nat) (e : DEnv), I k e →
    (∀ j d e, ds[j]? = some d → I (k + j) e → ∃ e1, g d e = some e1 ∧ WS (b e1) { Q with nx := fun e2 => I (k + j + 1) (wipeD js e2), bk := fun e2 => Q.nx (wipeD js e2), ct := fun e2 => I (k + j + 1) (wipeD js e2) }) →
    (∀ e, I (k + ds.length) e → Q.nx e) → WS (mForL g js b ds e) Q
  | [], k, e, h, _, hd => hd e h
  | d :: ds, k, e, h, hs, hd => by
    obtain ⟨e1, h1, h2⟩ := hs 0 d e rfl h
    unfold mForL
    rw [h1]
    dsimp only
    have go : ∀ e2, I (k + 0 + 1) (wipeD js e2) → WS (mForL g js b ds (wipeD js e2)) Q := fun e2 hi =>
      WS_forL I ds (k + 1) _ hi (fun j d' e' hj hi' => by
        have := hs (j + 1) d' e' hj (by rw [show k + (j + 1) = k + 1 + j by omega]; exact hi')
        rw [show k + (j + 1) = k + 1 + j by omega] at this
        exact this) (fun e' hi' => hd e' (by rw [show k + (d :: ds).length = k + 1 + ds.length by simp only [List.length_cons]; omega]; exact hi'))
    cases hb : b e1 with
    | nx e2 => rw [hb] at h2; exact go e2 h2
    | cont e2 => rw [hb] at h2; exact go e2 h2
    | brk e2 => rw [hb] at h2; exact h2
    | ret n d e2 => rw [hb] at h2; exact h2
    | exc x e2 => rw [hb] at h2; exact h2
    | stuck => rw [hb] at h2; exact h2
theorem WS_forI {g : DTg} {js : List Nat} {b : MS} {Q : Post} {ds : List D} {e : DEnv} (I : Nat → DEnv → Prop) (h0 : I 0 e)
    (hs : ∀ j d e, ds[j]? = some d → I j e → ∃ e1, g d e = some e1 ∧ WS (b e1) { Q with nx := fun e2 => I (j + 1) (wipeD js e2), bk := fun e2 => Q.nx (wipeD js e2), ct := fun e2 => I (j + 1) (wipeD js e2) })
    (hd : ∀ e, I ds.length e → Q.nx e) : WS (mForL g js b ds e) Q :=
  WS_forL I ds 0 e h0 (fun j d e hj hi => by rw [Nat.zero_add] at hi ⊢; exact hs j d e hj hi) fun e hi => hd e (by rw [Nat.zero_add] at hi; exact hi)
theorem WS_whileN {tc : MT} {js : List Nat} {b : MS} {Q : Post} (I : Nat → DEnv → Prop)
    (hs : ∀ n e, I n e → WE Q.ex (tc e) fun k e1 => (k = true → ∃ m, n = m + 1 ∧ WS (b e1) { Q with nx := fun e2 => I m (wipeD js e2), bk := fun e2 => Q.nx (wipeD js e2), ct := fun e2 => I m (wipeD js e2) }) ∧ (k = false → Q.nx e1)) :
    ∀ (F n : Nat) (e : DEnv), n < F → I n e → WS (mWhileN tc js b F e) Q
  | 0, n, e, h, _ => absurd h (Nat.not_lt_zero _)
  | F + 1, n, e, h, hi => by
    unfold mWhileN
    have q := hs n e hi
    cases hc : tc e with
    | stuck => rw [hc] at q; exact q.elim
    | exc x e1 => rw [hc] at q; exact q
    | ok k e1 =>
      rw [hc] at q
      show WS (if k = true then _ else _) Q
      cases k with
      | false => exact q.2 rfl
      | true =>
        obtain ⟨m, rfl, h2⟩ := q.1 rfl
        simp only [if_true]
        cases hb : b e1 with
        | nx e2 => rw [hb] at h2; exact WS_whileN I hs F m _ (by omega) h2
        | cont e2 => rw [hb] at h2; exact WS_whileN I hs F m _ (by omega) h2
        | brk e2 => rw [hb] at h2; exact h2
        | ret n d e2 => rw [hb] at h2; exact h2
        | exc x e2 => rw [hb] at h2; exact h2
        | stuck => rw [hb] at h2; exact h2
theorem FUEL_eq : FUEL = 1000000 := by unfold FUEL; rfl
theorem WS_while {tc : MT} {js : List Nat} {b : MS} {Q : Post} {e : DEnv} (I : Nat → DEnv → Prop) (n : Nat) (hn : n < 1000000) (h0 : I n e)
    (hs : ∀ n e, I n e → WE Q.ex (tc e) fun k e1 => (k = true → ∃ m, n = m + 1 ∧ WS (b e1) { Q with nx := fun e2 => I m (wipeD js e2), bk := fun e2 => Q.nx (wipeD js e2), ct := fun e2 => I m (wipeD js e2) }) ∧ (k = false → Q.nx e1)) : WS (mWhile js tc b e) Q :=
  WS_whileN I hs FUEL n e (by rw [FUEL_eq]; exact hn) h0
/-- a comprehension, item by item -/
theorem WE_compL {g : DTg} {vs : List Nat} {tc : MT} {me : ME} {e0 : DEnv} {P : Nat × D → DEnv → Prop} (F : D → Option D) : ∀ (ds acc : List D), acc.length + ds.length ≤ 16777216 →
    (∀ d, d ∈ ds → ∃ e1, g d e0 = some e1 ∧ WE X (tc e1) fun b e2 => (b = true → WE X (me e2) fun r e3 => F d = some r.2 ∧ wipeD vs e3 = e0) ∧ (b = false → F d = none ∧ wipeD vs e2 = e0)) →
    P (1, .lst (acc ++ ds.filterMap F)) e0 → (∀ x e, ¬ X x e) → WE X (compL g vs tc me ds acc e0) P
  | [], acc, _, _, hp, _ => by
    have : acc ++ ([] : List D).filterMap F = acc := by simp
    rw [this] at hp; exact hp
  | d :: ds, acc, hl, hs, hp, hx => by
    obtain ⟨e1, h1, h2⟩ := hs d List.mem_cons_self
    have hl' : acc.length < 16777216 := by simp only [List.length_cons] at hl; omega
    have hr := fun d' hd' => hs d' (List.mem_cons_of_mem _ hd')
    unfold compL
    rw [h1]
    dsimp only
    cases hc : tc e1 with
    | stuck => rw [hc] at h2; exact h2.elim
    | exc x e2 => rw [hc] at h2; exact (hx _ _ h2).elim
    | ok b e2 =>
      rw [hc] at h2
      dsimp only
      cases b with
      | false =>
        obtain ⟨hf, hw⟩ := h2.2 rfl
        simp only [Bool.false_eq_true, if_false]
        rw [hw]
        refine WE_compL F ds acc (by simp only [List.length_cons] at hl; omega) hr ?_ hx
        rw [List.filterMap_cons_none hf] at hp; exact hp
      | true =>
        have h3 := h2.1 rfl
        simp only [if_true]
        cases hm : me e2 with
        | stuck => rw [hm] at h3; exact h3.elim
        | exc x e2 => rw [hm] at h3; exact (hx _ _ h3).elim
        | ok r e3 =>
          rw [hm] at h3
          obtain ⟨hf, hw⟩ := h3
          dsimp only
          rw [if_pos hl', hw]
          refine WE_compL F ds (acc ++ [r.2]) (by simp only [List.length_append, List.length_cons, List.length_nil] at hl ⊢; omega) hr ?_ hx
          rw [List.filterMap_cons_some hf] at hp
          rw [List.append_assoc]; exact hp
@[simp] theorem WE_comp {vs : List Nat} {g : DTg} {mi : MI} {tc : MT} {me : ME} : WE X (mComp vs g mi tc me env) P ↔ WE X (mi env) fun ds e => WE X (compL g vs tc me ds [] (wipeD vs e)) P := by
  unfold mComp; simp only [WE_bind]
@[simp] theorem WE_yes : WE X (mYes env) PB ↔ PB true env := Iff.rfl
end
end U
/-- what hangs on P: simp then leaves P as it is -/
inductive Tag {α : Sort _} (a : α) : Type where
  | mk
def WE {α : Type} (X : Exc → DEnv → Prop) (o : Out α) (P : α → DEnv → Prop) (_ : Tag P := .mk) : Prop := U.WE X o P
def WS (o : OutS) (P : Post) (_ : Tag P := .mk) : Prop := U.WS o P
/-- something is there, and P of it -/
def oP {α : Type} (o : Option α) (P : α → Prop) (_ : Tag P := .mk) : Prop := U.oP o P
@[simp] theorem oP_some {α : Type} {a : α} {P : α → Prop} : oP (some a) P ↔ P a := U.oP_some
@[simp] theorem oP_none {α : Type} {P : α → Prop} : oP (none : Option α) P ↔ False := U.oP_none
theorem oP_ex {α : Type} {o : Option α} {P : α → Prop} : oP o P ↔ ∃ a, o = some a ∧ P a := U.oP_ex
theorem oP.mk {α : Type} {o : Option α} {P : α → Prop} {a : α} (h : o = some a) (p : P a) : oP o P := by rw [h]; exact p
def WF (X : Exc → DEnv → Prop) (o : FR) (k : Nat) (e : DEnv) (P : Nat × D → DEnv → Prop) (_ : Tag P := .mk) : Prop := U.WF X o k e P
theorem WE.mono {α : Type} {X X' : Exc → DEnv → Prop} {o : Out α} {P P' : α → DEnv → Prop} (h : WE X o P) (i : ∀ a e, P a e → P' a e) (j : ∀ x e, X x e → X' x e) : WE X' o P' := by
  cases o with
  | ok a e => exact i _ _ h
  | exc x e => exact j _ _ h
  | stuck => exact h
theorem WS.mono {o : OutS} {P P' : Post} (h : WS o P) (h1 : ∀ e, P.nx e → P'.nx e) (h2 : ∀ n d e, P.rt n d e → P'.rt n d e) (h3 : ∀ e, P.bk e → P'.bk e) (h4 : ∀ e, P.ct e → P'.ct e) (h5 : ∀ x e, P.ex x e → P'.ex x e) : WS o P' := by
  cases o with
  | nx e => exact h1 _ h
  | ret n d e => exact h2 _ _ _ h
  | brk e => exact h3 _ h
  | cont e => exact h4 _ h
  | exc x e => exact h5 _ _ h
  | stuck => exact h
section
variable {α β : Type} {X : Exc → DEnv → Prop} {env e : DEnv} {P : Nat × D → DEnv → Prop} {PB : Bool → DEnv → Prop} {PA : List D → DEnv → Prop} {PO : Option Int → DEnv → Prop} {Q : Post} {ma mb mc : ME} {ta tb : MT} {sa sb : MS} {ms : MA}
@[simp] theorem WE_ok {a : α} {P : α → DEnv → Prop} : WE X (.ok a e) P ↔ P a e := U.WE_ok
@[simp] theorem WE_stuck {P : α → DEnv → Prop} : WE X .stuck P ↔ False := U.WE_stuck
@[simp] theorem WE_exc {x : Exc} {P : α → DEnv → Prop} : WE X (.exc x e) P ↔ X x e := U.WE_exc
theorem WE_bind {o : Out α} {f : α → DEnv → Out β} {P : β → DEnv → Prop} : WE X (o.bind f) P ↔ WE X o fun a e => WE X (f a e) P := U.WE_bind
theorem WS_bind {o : Out α} {f : α → DEnv → OutS} : WS (o.bindS f) Q ↔ WE Q.ex o fun a e => WS (f a e) Q := U.WS_bind
@[simp] theorem WE_oB {o : Option α} {P : α → DEnv → Prop} : WE X (oB o e) P ↔ oP o fun k => P k e := U.WE_oB
@[simp] theorem WE_C {d : D} : WE X (mC d env) P ↔ P (0, d) env := U.WE_C
@[simp] theorem WE_var {i : Nat} : WE X (mVar i env) P ↔ oP (get0 env i) fun d => P (0, d) env := U.WE_var
@[simp] theorem WE_move {i : Nat} : WE X (mMove i env) P ↔ oP (getA env i) fun r => P r (env.set i none) := U.WE_move
@[simp] theorem WE_op2 {f : D → D → Option (Nat × D)} : WE X (mOp2 f ma mb env) P ↔ WE X (ma env) fun a e1 => WE X (mb e1) fun b e2 => oP (f a.2 b.2) fun r => P r e2 := U.WE_op2
@[simp] theorem WE_op1 {f : D → Option (Nat × D)} : WE X (mOp1 f ma env) P ↔ WE X (ma env) fun a e1 => oP (f a.2) fun r => P r e1 := U.WE_op1
@[simp] theorem WE_cmp {f : D → D → Option Bool} : WE X (mCmp f ma mb env) PB ↔ WE X (ma env) fun a e1 => WE X (mb e1) fun b e2 => oP (f a.2 b.2) fun r => PB r e2 := U.WE_cmp
theorem WE_ite {c : Bool} {o o' : Out α} {P : α → DEnv → Prop} : WE X (if c = true then o else o') P ↔ (c = true → WE X o P) ∧ (c = false → WE X o' P) := U.WE_ite
@[simp] theorem WE_chain {f g : D → D → Option Bool} : WE X (mChain f g ma mb mc env) PB ↔ WE X (ma env) fun a e1 => WE X (mb e1) fun b e2 => oP (f a.2 b.2) fun r => (r = true → WE X (mc e2) fun c e3 => oP (g b.2 c.2) fun r => PB r e3) ∧ (r = false → PB false e2) := U.WE_chain
@[simp] theorem WE_bool : WE X (mBool ta env) P ↔ WE X (ta env) fun b e => P (0, .bl b) e := U.WE_bool
@[simp] theorem WE_and : WE X (mAnd ta tb env) PB ↔ WE X (ta env) fun b e => (b = true → WE X (tb e) PB) ∧ (b = false → PB false e) := U.WE_and
@[simp] theorem WE_or : WE X (mOr ta tb env) PB ↔ WE X (ta env) fun b e => (b = true → PB true e) ∧ (b = false → WE X (tb e) PB) := U.WE_or
@[simp] theorem WE_not : WE X (mNot ta env) PB ↔ WE X (ta env) fun b e => PB (!b) e := U.WE_not
@[simp] theorem WE_isB : WE X (mIsB ma env) PB ↔ WE X (ma env) fun r e => oP (isBl r.2) fun b => PB b e := U.WE_isB
@[simp] theorem WE_tru : WE X (mTru ma env) PB ↔ WE X (ma env) fun r e => oP (truthD r.2) fun b => PB b e := U.WE_tru
@[simp] theorem WE_ifE {tc : MT} : WE X (mIfE tc ma mb env) P ↔ WE X (tc env) fun b e => (b = true → WE X (ma e) P) ∧ (b = false → WE X (mb e) P) := U.WE_ifE
@[simp] theorem WE_ONone : WE X (mONone env) PO ↔ PO none env := U.WE_ONone
@[simp] theorem WE_OSome : WE X (mOSome ma env) PO ↔ WE X (ma env) fun r e => oP (isIn r.2) fun i => PO (some i) e := U.WE_OSome
@[simp] theorem WE_slice {f : D → Option Int → Option Int → Option (Nat × D)} {ml mh : MO} : WE X (mSlice f ma ml mh env) P ↔ WE X (ma env) fun a e1 => WE X (ml e1) fun lo e2 => WE X (mh e2) fun hi e3 => oP (f a.2 lo hi) fun r => P r e3 := U.WE_slice
@[simp] theorem WE_nil : WE X (mNil env) PA ↔ PA [] env := U.WE_nil
@[simp] theorem WE_cons : WE X (mCons ma ms env) PA ↔ WE X (ma env) fun a e1 => WE X (ms e1) fun ds e2 => PA (a.2 :: ds) e2 := U.WE_cons
theorem WE_ite' {c : Prop} [Decidable c] {o : Out α} {P : α → DEnv → Prop} : WE X (if c then o else .stuck) P ↔ c ∧ WE X o P := U.WE_ite'
@[simp] theorem WE_tup : WE X (mTup ms env) P ↔ WE X (ms env) fun ds e => ds.length ≤ 1000 ∧ P (0, .tup ds) e := U.WE_tup
@[simp] theorem WE_lst : WE X (mLst ms env) P ↔ WE X (ms env) fun ds e => ds.length ≤ 1000 ∧ P (1, .lst ds) e := U.WE_lst
@[simp] theorem WE_callB {g : List D → Option (Nat × D)} : WE X (mCallB g ms env) P ↔ WE X (ms env) fun ds e => oP (g ds) fun r => P r e := U.WE_callB
@[simp] theorem WE_meth {ok : D → Bool} {g : D → List D → Option (Nat × D)} : WE X (mMeth ok g ma ms env) P ↔ WE X (ma env) fun o e1 => ok o.2 = true ∧ WE X (ms e1) fun ds e => oP (g o.2 ds) fun r => P r e := U.WE_meth
@[simp] theorem WE_frz {is : List Nat} : WE X (mFrz is ma env) P ↔ WE X (ma (frzE is env)) P := U.WE_frz
@[simp] theorem WS_frz {is : List Nat} : WS (mFrzS is sa env) Q ↔ WS (sa (frzE is env)) Q := U.WS_frz
@[simp] theorem WE_tmp {Z L : List Nat} : WE X (mTmp Z L ma env) P ↔ WE (fun x e2 => flatX x = true ∧ okL Z L 0 e2 = true ∧ X x (backE Z L 0 env e2)) (ma (tmpE Z L 0 env)) fun r e2 => closedM r.1 r.2 = true ∧ okL Z L 0 e2 = true ∧ P r (backE Z L 0 env e2) := U.WE_tmp
@[simp] theorem WE_tmpT {Z L : List Nat} : WE X (mTmpT Z L ta env) PB ↔ WE (fun x e2 => flatX x = true ∧ okL Z L 0 e2 = true ∧ X x (backE Z L 0 env e2)) (ta (tmpE Z L 0 env)) fun r e2 => okL Z L 0 e2 = true ∧ PB r (backE Z L 0 env e2) := U.WE_tmpT
/-! calls, nothing lent -/
@[simp] theorem WF_ret {n : Nat} {d : D} {ds : List D} {k : Nat} : WF X (.ret n d ds) k e P ↔ ds.length = k ∧ P (n, d) e := U.WF_ret
@[simp] theorem WF_exc {x : Exc} {ds : List D} {k : Nat} : WF X (.exc x ds) k e P ↔ ds.length = k ∧ X x e := U.WF_exc
theorem WF_mk {f : FSem} {pm : List Nat} {l : List (Sum D Nat)} {ds : List D} (hl : (lentOf l).Nodup) (hr : resolve pm l e = some ds) (hp : ∀ ds' e, putBack pm l ds' e = e) : WE X (mCallK pm f l e) P ↔ WF X (f ds) pm.length e P := by
  unfold mCallK
  rw [if_pos hl, hr]
  dsimp only
  cases f ds with
  | ret n d ds' => by_cases h : ds'.length = pm.length <;> simp [h, hp]
  | exc x ds' => by_cases h : ds'.length = pm.length <;> simp [h, hp]
  | stuck => rfl
@[simp] theorem WE_call1 {f : FSem} {m1 : ME} : WE X (mCall [0] f [.ex m1] env) P ↔ WE X (m1 env) fun a e => WF X (f [a.2]) 1 e P := U.WE_call1
@[simp] theorem WE_call2 {f : FSem} {m1 m2 : ME} : WE X (mCall [0, 0] f [.ex m1, .ex m2] env) P ↔ WE X (m1 env) fun a e => WE X (m2 e) fun b e => WF X (f [a.2, b.2]) 2 e P := U.WE_call2
@[simp] theorem WE_call3 {f : FSem} {m1 m2 m3 : ME} : WE X (mCall [0, 0, 0] f [.ex m1, .ex m2, .ex m3] env) P ↔ WE X (m1 env) fun a e => WE X (m2 e) fun b e => WE X (m3 e) fun c e => WF X (f [a.2, b.2, c.2]) 3 e P := U.WE_call3
@[simp] theorem WE_call4 {f : FSem} {m1 m2 m3 m4 : ME} : WE X (mCall [0, 0, 0, 0] f [.ex m1, .ex m2, .ex m3, .ex m4] env) P ↔ WE X (m1 env) fun a e => WE X (m2 e) fun b e => WE X (m3 e) fun c e => WE X (m4 e) fun d e => WF X (f [a.2, b.2, c.2, d.2]) 4 e P := U.WE_call4
@[simp] theorem WE_call5 {f : FSem} {m1 m2 m3 m4 m5 : ME} : WE X (mCall [0, 0, 0, 0, 0] f [.ex m1, .ex m2, .ex m3, .ex m4, .ex m5] env) P ↔ WE X (m1 env) fun a e => WE X (m2 e) fun b e => WE X (m3 e) fun c e => WE X (m4 e) fun d e => WE X (m5 e) fun d' e => WF X (f [a.2, b.2, c.2, d.2, d'.2]) 5 e P := U.WE_call5
/-! statements -/
@[simp] theorem WS_nx : WS (.nx e) Q ↔ Q.nx e := U.WS_nx
@[simp] theorem WS_skip : WS (mSkip env) Q ↔ Q.nx env := U.WS_skip
@[simp] theorem WS_seq : WS (mSeq sa sb env) Q ↔ WS (sa env) { Q with nx := fun e => WS (sb e) Q } := U.WS_seq
@[simp] theorem WS_set {i : Nat} : WS (mSet i ma env) Q ↔ WE Q.ex (ma env) fun r e => Q.nx (e.set i (some r)) := U.WS_set
@[simp] theorem WS_setF {i : Nat} : WS (mSetF i ma env) Q ↔ WE Q.ex (ma env) fun r e => Q.nx (e.set i (some (0, r.2))) := U.WS_setF
@[simp] theorem WS_drop : WS (mDrop ma env) Q ↔ WE Q.ex (ma env) fun _ e => Q.nx e := U.WS_drop
@[simp] theorem WS_ret : WS (mRet ma env) Q ↔ WE Q.ex (ma env) fun r e => Q.rt r.1 r.2 e := U.WS_ret
@[simp] theorem WS_retN : WS (mRetN env) Q ↔ Q.rt 0 .non env := U.WS_retN
@[simp] theorem WS_if : WS (mIf ta sa sb env) Q ↔ WE Q.ex (ta env) fun b e => (b = true → WS (sa e) Q) ∧ (b = false → WS (sb e) Q) := U.WS_if
@[simp] theorem WS_brk : WS (mBrk env) Q ↔ Q.bk env := U.WS_brk
@[simp] theorem WS_cnt : WS (mCnt env) Q ↔ Q.ct env := U.WS_cnt
@[simp] theorem WS_asgG {g : DTg} : WS (mAsgG g ma env) Q ↔ WE Q.ex (ma env) fun r e => oP (g r.2 e) fun e2 => Q.nx e2 := U.WS_asgG
@[simp] theorem WS_app {i : Nat} : WS (mApp i ma env) Q ↔ oP (getL env i) fun ds0 => WE Q.ex (ma env) fun r e => oP (getL e i) fun ds => ds.length < LIM ∧ Q.nx (e.set i (some (1, .lst (ds ++ [r.2])))) := U.WS_app
@[simp] theorem WS_put {i : Nat} : WS (mPut i mb ma env) Q ↔ WE Q.ex (ma env) fun r e1 => oP (get1 e1 i) fun d0 => WE Q.ex (mb e1) fun k e2 => oP (get1 e2 i) fun d => oP (putD d k.2 r.2) fun d' => Q.nx (e2.set i (some (1, d'))) := U.WS_put
/-! loops -/
@[simp] theorem WE_items : WE X (mItems ma env) PA ↔ WE X (ma env) fun r e => oP (isSq r.2) fun ds => PA ds e := U.WE_items
@[simp] theorem WE_rng {f : List D → Option (List D)} : WE X (mRng f ms env) PA ↔ WE X (ms env) fun ds e => oP (f ds) fun l => PA l e := U.WE_rng
@[simp] theorem WS_for {js : List Nat} {g : DTg} {mi : MI} : WS (mFor js g mi sa env) Q ↔ WE Q.ex (mi env) fun ds e => WS (mForL g js sa ds e) Q := U.WS_for
/-- a loop by its invariant: k turns are done -/
theorem WS_forL {g : DTg} {js : List Nat} {b : MS} {Q : Post} (I : Nat → DEnv → Prop) : ∀ (ds : List D) (k : Nat) (e : DEnv), I k e →
    (∀ j d e, ds[j]? = some d → I (k + j) e → ∃ e1, g d e = some e1 ∧ WS (b e1) { Q with nx := fun e2 => I (k + j + 1) (wipeD js e2), bk := fun e2 => Q.nx (wipeD js e2), ct := fun e2 => I (k + j + 1) (wipeD js e2) }) →
    (∀ e, I (k + ds.length) e → Q.nx e) → WS (mForL g js b ds e) Q
  | [], k, e, h, _, hd => hd e h
  | d :: ds, k, e, h, hs, hd => by
    obtain ⟨e1, h1, h2⟩ := hs 0 d e rfl h
    unfold mForL
    rw [h1]
    dsimp only
    have go : ∀ e2, I (k + 0 + 1) (wipeD js e2) → WS (mForL g js b ds (wipeD js e2)) Q := fun e2 hi =>
      WS_forL I ds (k + 1) _ hi (fun j d' e' hj hi' => by
        have := hs (j + 1) d' e' hj (by rw [show k + (j + 1) = k + 1 + j by omega]; exact hi')
        rw [show k + (j + 1) = k + 1 + j by omega] at this
        exact this) (fun e' hi' => hd e' (by rw [show k + (d :: ds).length = k + 1 + ds.length by simp only [List.length_cons]; omega]; exact hi'))
    cases hb : b e1 with
    | nx e2 => rw [hb] at h2; exact go e2 h2
    | cont e2 => rw [hb] at h2; exact go e2 h2
    | brk e2 => rw [hb] at h2; exact h2
    | ret n d e2 => rw [hb] at h2; exact h2
    | exc x e2 => rw [hb] at h2; exact h2
    | stuck => rw [hb] at h2; exact h2
theorem WS_forI {g : DTg} {js : List Nat} {b : MS} {Q : Post} {ds : List D} {e : DEnv} (I : Nat → DEnv → Prop) (h0 : I 0 e)
    (hs : ∀ j d e, ds[j]? = some d → I j e → ∃ e1, g d e = some e1 ∧ WS (b e1) { Q with nx := fun e2 => I (j + 1) (wipeD js e2), bk := fun e2 => Q.nx (wipeD js e2), ct := fun e2 => I (j + 1) (wipeD js e2) })
    (hd : ∀ e, I ds.length e → Q.nx e) : WS (mForL g js b ds e) Q :=
  WS_forL I ds 0 e h0 (fun j d e hj hi => by rw [Nat.zero_add] at hi ⊢; exact hs j d e hj hi) fun e hi => hd e (by rw [Nat.zero_add] at hi; exact hi)
theorem WS_whileN {tc : MT} {js : List Nat} {b : MS} {Q : Post} (I : Nat → DEnv → Prop)
    (hs : ∀ n e, I n e → WE Q.ex (tc e) fun k e1 => (k = true → ∃ m, n = m + 1 ∧ WS (b e1) { Q with nx := fun e2 => I m (wipeD js e2), bk := fun e2 => Q.nx (wipeD js e2), ct := fun e2 => I m (wipeD js e2) }) ∧ (k = false → Q.nx e1)) :
    ∀ (F n : Nat) (e : DEnv), n < F → I n e → WS (mWhileN tc js b F e) Q
  | 0, n, e, h, _ => absurd h (Nat.not_lt_zero _)
  | F + 1, n, e, h, hi => by
    unfold mWhileN
    have q := hs n e hi
    cases hc : tc e with
    | stuck => rw [hc] at q; exact q.elim
    | exc x e1 => rw [hc] at q; exact q
    | ok k e1 =>
      rw [hc] at q
      show WS (if k = true then _ else _) Q
      cases k with
      | false => exact q.2 rfl
      | true =>
        obtain ⟨m, rfl, h2⟩ := q.1 rfl
        simp only [if_true]
        cases hb : b e1 with
        | nx e2 => rw [hb] at h2; exact WS_whileN I hs F m _ (by omega) h2
        | cont e2 => rw [hb] at h2; exact WS_whileN I hs F m _ (by omega) h2
        | brk e2 => rw [hb] at h2; exact h2
        | ret n d e2 => rw [hb] at h2; exact h2
        | exc x e2 => rw [hb] at h2; exact h2
        | stuck => rw [hb] at h2; exact h2
theorem FUEL_eq : FUEL = 1000000 := U.FUEL_eq
theorem WS_while {tc : MT} {js : List Nat} {b : MS} {Q : Post} {e : DEnv} (I : Nat → DEnv → Prop) (n : Nat) (hn : n < 1000000) (h0 : I n e)
    (hs : ∀ n e, I n e → WE Q.ex (tc e) fun k e1 => (k = true → ∃ m, n = m + 1 ∧ WS (b e1) { Q with nx := fun e2 => I m (wipeD js e2), bk := fun e2 => Q.nx (wipeD js e2), ct := fun e2 => I m (wipeD js e2) }) ∧ (k = false → Q.nx e1)) : WS (mWhile js tc b e) Q :=
  WS_whileN I hs FUEL n e (by rw [FUEL_eq]; exact hn) h0
/-- a comprehension, item by item -/
theorem WE_compL {g : DTg} {vs : List Nat} {tc : MT} {me : ME} {e0 : DEnv} {P : Nat × D → DEnv → Prop} (F : D → Option D) : ∀ (ds acc : List D), acc.length + ds.length ≤ 16777216 →
    (∀ d, d ∈ ds → ∃ e1, g d e0 = some e1 ∧ WE X (tc e1) fun b e2 => (b = true → WE X (me e2) fun r e3 => F d = some r.2 ∧ wipeD vs e3 = e0) ∧ (b = false → F d = none ∧ wipeD vs e2 = e0)) →
    P (1, .lst (acc ++ ds.filterMap F)) e0 → (∀ x e, ¬ X x e) → WE X (compL g vs tc me ds acc e0) P
  | [], acc, _, _, hp, _ => by
    have : acc ++ ([] : List D).filterMap F = acc := by simp
    rw [this] at hp; exact hp
  | d :: ds, acc, hl, hs, hp, hx => by
    obtain ⟨e1, h1, h2⟩ := hs d List.mem_cons_self
    have hl' : acc.length < 16777216 := by simp only [List.length_cons] at hl; omega
    have hr := fun d' hd' => hs d' (List.mem_cons_of_mem _ hd')
    unfold compL
    rw [h1]
    dsimp only
    cases hc : tc e1 with
    | stuck => rw [hc] at h2; exact h2.elim
    | exc x e2 => rw [hc] at h2; exact (hx _ _ h2).elim
    | ok b e2 =>
      rw [hc] at h2
      dsimp only
      cases b with
      | false =>
        obtain ⟨hf, hw⟩ := h2.2 rfl
        simp only [Bool.false_eq_true, if_false]
        rw [hw]
        refine WE_compL F ds acc (by simp only [List.length_cons] at hl; omega) hr ?_ hx
        rw [List.filterMap_cons_none hf] at hp; exact hp
      | true =>
        have h3 := h2.1 rfl
        simp only [if_true]
        cases hm : me e2 with
        | stuck => rw [hm] at h3; exact h3.elim
        | exc x e2 => rw [hm] at h3; exact (hx _ _ h3).elim
        | ok r e3 =>
          rw [hm] at h3
          obtain ⟨hf, hw⟩ := h3
          dsimp only
          rw [if_pos hl', hw]
          refine WE_compL F ds (acc ++ [r.2]) (by simp only [List.length_append, List.length_cons, List.length_nil] at hl ⊢; omega) hr ?_ hx
          rw [List.filterMap_cons_some hf] at hp
          rw [List.append_assoc]; exact hp
@[simp] theorem WE_comp {vs : List Nat} {g : DTg} {mi : MI} {tc : MT} {me : ME} : WE X (mComp vs g mi tc me env) P ↔ WE X (mi env) fun ds e => WE X (compL g vs tc me ds [] (wipeD vs e)) P := U.WE_comp
@[simp] theorem WE_yes : WE X (mYes env) PB ↔ PB true env := U.WE_yes
end
/-! functions -/
def NoX : Exc → DEnv → Prop := fun _ _ => False
/-- what a body must bring about -/
def bodyP (pm : List Nat) (ds : List D) (R : Nat → D → Prop) : Post := ⟨fun e => outs pm ds e = some ds ∧ R 0 .non, fun n d e => outs pm ds e = some ds ∧ R n d, fun _ => False, fun _ => False, fun _ _ => False⟩
theorem fn_ret {pm : List Nat} {kk : Nat} {m : MS} {ds : List D} {R : Nat → D → Prop} (h : WS (m (mkEnv pm ds ++ List.replicate kk none)) (bodyP pm ds R)) : ∃ n d, fnSem pm kk m ds = .ret n d ds ∧ R n d := by
  unfold fnSem
  cases hm : m (mkEnv pm ds ++ List.replicate kk none) with
  | nx e => rw [hm] at h; obtain ⟨h1, h2⟩ := h; exact ⟨0, .non, by simp only [fin, h1], h2⟩
  | ret n d e => rw [hm] at h; obtain ⟨h1, h2⟩ := h; exact ⟨n, d, by simp only [fin, h1], h2⟩
  | brk e => rw [hm] at h; exact h.elim
  | cont e => rw [hm] at h; exact h.elim
  | exc x e => rw [hm] at h; exact h.elim
  | stuck => rw [hm] at h; exact h.elim
section
variable {i j : Int} {xs ys : List D}
@[simp] theorem addD_int : addD (.int i) (.int j) = some (0, .int (i + j)) := rfl
@[simp] theorem subD_int : subD (.int i) (.int j) = some (0, .int (i - j)) := rfl
@[simp] theorem negD_int : negD (.int i) = some (0, .int (-i)) := rfl
@[simp] theorem ltD_int : ltD (.int i) (.int j) = some (decide (i < j)) := rfl
@[simp] theorem leD_int : leD (.int i) (.int j) = some (decide (i ≤ j)) := rfl
@[simp] theorem gtD_int : gtD (.int i) (.int j) = some (decide (j < i)) := rfl
@[simp] theorem geD_int : geD (.int i) (.int j) = some (decide (j ≤ i)) := rfl
@[simp] theorem intD_int : DL.intD [.int i] = some (0, .int i) := rfl
@[simp] theorem eqD_int : eqD (.int i) (.int j) = some (decide (i = j)) := by
  show some (i == j) = _
  rfl
@[simp] theorem neD_int : neD (.int i) (.int j) = some (!decide (i = j)) := by
  show some (!(i == j)) = _
  rfl
@[simp] theorem gN_eq {i : Nat} {d : D} {e : DEnv} : gN i d e = some (e.set i (some (0, d))) := rfl
@[simp] theorem gT_tup {is : List Nat} {e : DEnv} : gT is (.tup xs) e = setAll is xs e := rfl
@[simp] theorem setAll_nil {e : DEnv} : setAll [] [] e = some e := rfl
@[simp] theorem setAll_cons {i : Nat} {is : List Nat} {d : D} {e : DEnv} : setAll (i :: is) (d :: xs) e = setAll is xs (e.set i (some (0, d))) := rfl
@[simp] theorem wipeD_nil {e : DEnv} : wipeD [] e = e := rfl
@[simp] theorem wipeD_cons {j : Nat} {js : List Nat} {e : DEnv} : wipeD (j :: js) e = (wipeD js e).set j none := rfl
@[simp] theorem frzE_nil {e : DEnv} : frzE [] e = e := rfl
@[simp] theorem frzE_cons {i : Nat} {is : List Nat} {e : DEnv} : frzE (i :: is) e = frzE is (frz1 i e) := rfl
end
theorem mulD_int {i j : Int} (h : mulOk i j = true) : mulD (.int i) (.int j) = some (0, .int (i * j)) := by simp [mulD, h]
theorem modD_int {i j : Int} (h : 0 < j) : modD (.int i) (.int j) = some (0, .int (i % j)) := by
  simp [modD, h]
  try omega
theorem fdivD_int {i j : Int} (h : 0 < j) (h2 : j < 2 ^ 30) : fdivD (.int i) (.int j) = some (0, .int (i / j)) := by
  simp [fdivD, h]
  try omega
@[simp] theorem mulD_lit {i j : Int} (h : -18446744073709551616 < j) (h2 : j < 18446744073709551616) : mulD (.int i) (.int j) = some (0, .int (i * j)) :=
  mulD_int (by unfold mulOk; simp; omega)
@[simp] theorem mulD_litL {i j : Int} (h : -18446744073709551616 < i) (h2 : i < 18446744073709551616) : mulD (.int i) (.int j) = some (0, .int (i * j)) :=
  mulD_int (by unfold mulOk; simp; omega)
@[simp] theorem mulD_mod {i j c : Int} (h : 0 < c) (h2 : c < 18446744073709551616) : mulD (.int (i % c)) (.int j) = some (0, .int (i % c * j)) := by
  have := Int.emod_nonneg i (show c ≠ 0 by omega)
  have := Int.emod_lt_of_pos i h
  exact mulD_litL (by omega) (by omega)
@[simp] theorem modD_lit {i j : Int} (h : 0 < j) : modD (.int i) (.int j) = some (0, .int (i % j)) := modD_int h
@[simp] theorem fdivD_lit {i j : Int} (h : 0 < j) (h2 : j < 1073741824) : fdivD (.int i) (.int j) = some (0, .int (i / j)) := fdivD_int h (by omega)
@[simp] theorem powD_lit {i j : Int} (h : 0 ≤ j) (h1 : j ≤ 1000000) (h2 : i.natAbs < 18446744073709551616) : powD (.int i) (.int j) = some (0, .int (i ^ j.toNat)) := by
  show (if _ then _ else _) = _
  exact if_pos ⟨h, h1, by omega⟩
theorem atI_nat {α : Type} {xs : List α} {k : Nat} (h : k < xs.length) : L2.atI xs (k : Int) = some xs[k] := by
  unfold L2.atI L2.ixN
  rw [if_pos (by omega), if_pos (by omega)]
  simp [h]
theorem atI_int {α : Type} {xs : List α} {i : Int} (h0 : 0 ≤ i) (h : i < xs.length) : L2.atI xs i = xs[i.toNat]? := by
  unfold L2.atI L2.ixN
  rw [if_pos h0, if_pos h]
  rfl
@[simp] theorem idxD_lst {ds : List D} {i : Int} : idxD (.lst ds) (.int i) = (L2.atI ds i).map fun d => (0, d) := rfl
@[simp] theorem idxD_tup {ds : List D} {i : Int} : idxD (.tup ds) (.int i) = (L2.atI ds i).map fun d => (0, d) := rfl
@[simp] theorem idxD_scr {ds : List D} {i : Int} : idxD (.scr ds) (.int i) = (L2.atI ds i).map fun d => (0, d) := rfl
@[simp] theorem oP_map {α β : Type} {o : Option α} {f : α → β} {P : β → Prop} : oP (o.map f) P ↔ oP o fun a => P (f a) := by cases o <;> rfl
@[simp] theorem atI_scr {ns : List Int} {k : Int} : L2.atI (ns.map D.int) k = (L2.atI ns k).map D.int := by
  unfold L2.atI
  rw [List.length_map]
  cases L2.ixN ns.length k <;> simp
theorem atI_in {α : Type} {xs : List α} {i : Int} (h0 : 0 ≤ i) (h : i < xs.length) : ∃ a, L2.atI xs i = some a ∧ a ∈ xs ∧ xs[i.toNat]? = some a := by
  have hl : i.toNat < xs.length := by omega
  exact ⟨xs[i.toNat], by rw [atI_int h0 h, List.getElem?_eq_getElem hl], List.getElem_mem hl, List.getElem?_eq_getElem hl⟩
@[simp] theorem outs_nil {e : DEnv} : outs [] [] e = some [] := rfl
@[simp] theorem outs_z {pm : List Nat} {d : D} {ds : List D} {x : Option (Nat × D)} {e : DEnv} : outs (0 :: pm) (d :: ds) (x :: e) = (outs pm ds e).map (d :: ·) := rfl
@[simp] theorem mkEnv_nil : mkEnv [] [] = [] := rfl
@[simp] theorem mkEnv_cons {n : Nat} {pm : List Nat} {d : D} {ds : List D} : mkEnv (n :: pm) (d :: ds) = some (n, d) :: mkEnv pm ds := rfl
@[simp] theorem lenD_lst {ds : List D} : lenD [.lst ds] = some (0, .int ds.length) := rfl
@[simp] theorem lenD_tup {ds : List D} : lenD [.tup ds] = some (0, .int ds.length) := rfl
@[simp] theorem lenD_scr {ds : List D} : lenD [.scr ds] = some (0, .int ds.length) := rfl
@[simp] theorem listD_lst {ds : List D} : listD [.lst ds] = some (1, .lst ds) := rfl
@[simp] theorem listD_tup {ds : List D} : listD [.tup ds] = some (1, .lst ds) := rfl
@[simp] theorem tupleD_lst {ds : List D} : tupleD [.lst ds] = some (0, .tup ds) := rfl
@[simp] theorem truthD_bl {b : Bool} : truthD (.bl b) = some b := rfl
@[simp] theorem truthD_lst {ds : List D} : truthD (.lst ds) = some (!ds.isEmpty) := rfl
@[simp] theorem isD_bl {a b : Bool} : isD (.bl a) (.bl b) = some (decide (a = b)) := rfl
@[simp] theorem isntD_bl {a b : Bool} : isntD (.bl a) (.bl b) = some (!decide (a = b)) := rfl
@[simp] theorem bodyP_nx {pm : List Nat} {ds : List D} {R : Nat → D → Prop} : (bodyP pm ds R).nx = fun e => outs pm ds e = some ds ∧ R 0 .non := rfl
@[simp] theorem bodyP_rt {pm : List Nat} {ds : List D} {R : Nat → D → Prop} : (bodyP pm ds R).rt = fun n d e => outs pm ds e = some ds ∧ R n d := rfl
@[simp] theorem bodyP_ex {pm : List Nat} {ds : List D} {R : Nat → D → Prop} : (bodyP pm ds R).ex = fun _ _ => False := rfl
theorem WS_cut {sa sb : MS} {env : DEnv} {Q : Post} (M : DEnv → Prop) (h : WS (sa env) { Q with nx := M }) (k : ∀ e, M e → WS (sb e) Q) : WS (mSeq sa sb env) Q := by
  rw [WS_seq]
  exact WS.mono h k (fun _ _ _ z => z) (fun _ z => z) (fun _ z => z) fun _ _ z => z
theorem WS_assoc {sa sb sc : MS} {env : DEnv} {Q : Post} : WS (mSeq sa (mSeq sb sc) env) Q ↔ WS (mSeq (mSeq sa sb) sc env) Q := by
  show U.WS (mSeq sa (mSeq sb sc) env) Q ↔ U.WS (mSeq (mSeq sa sb) sc env) Q
  simp only [U.WS_seq]
theorem map_get {α : Type} {f : α → D} {xs : List α} {j : Nat} {d : D} (h : (xs.map f)[j]? = some d) : ∃ x, xs[j]? = some x ∧ d = f x := by
  rw [List.getElem?_map] at h
  obtain ⟨x, hx, e⟩ := Option.map_eq_some_iff.mp h
  exact ⟨x, hx, e.symm⟩
theorem drop_get {α : Type} {xs : List α} {j : Nat} {x : α} (h : xs[j]? = some x) : xs.drop j = x :: xs.drop (j + 1) := by
  obtain ⟨h1, h2⟩ := List.getElem?_eq_some_iff.mp h
  rw [List.drop_eq_getElem_cons h1, h2]
theorem take_get {α : Type} {xs : List α} {j : Nat} {x : α} (h : xs[j]? = some x) : xs.take (j + 1) = xs.take j ++ [x] := by
  rw [List.take_add_one, h]; rfl
theorem rangeD_get {lo : Int} {n j : Nat} {d : D} (h : (rangeD lo n)[j]? = some d) : j < n ∧ d = .int (lo + j) := by
  obtain ⟨x, hx, rfl⟩ := map_get h
  obtain ⟨h1, h2⟩ := List.getElem?_eq_some_iff.mp hx
  rw [List.length_range] at h1
  rw [List.getElem_range] at h2
  subst h2
  exact ⟨h1, rfl⟩
@[simp] theorem rangeD_length {lo : Int} {n : Nat} : (rangeD lo n).length = n := by simp [rangeD]
theorem rangeD_mem {lo : Int} {n : Nat} {d : D} (h : d ∈ rangeD lo n) : ∃ j, j < n ∧ d = .int (lo + (j : Nat)) := by
  obtain ⟨j, hj⟩ := List.mem_iff_getElem?.mp h
  exact ⟨j, rangeD_get hj⟩
theorem rng1_nat {n : Int} (h0 : 0 ≤ n) (h : n < 4611686018427387904) : rng1 [.int n] = some (rangeD 0 n.toNat) := by
  show (if _ then _ else _) = _
  exact if_pos ⟨by omega, by omega⟩
@[simp] theorem rng1_lit {n : Int} (h0 : 0 ≤ n) (h : n < 4611686018427387904) : rng1 [.int n] = some (rangeD 0 n.toNat) := rng1_nat h0 h
@[simp] theorem frz1_z {n : Nat} {d : D} {e : DEnv} : frz1 0 (some (n, d) :: e) = some (0, d) :: e := rfl
@[simp] theorem frz1_n {e : DEnv} : frz1 0 (none :: e) = none :: e := rfl
@[simp] theorem frz1_s {i : Nat} {x : Option (Nat × D)} {e : DEnv} : frz1 (i + 1) (x :: e) = x :: frz1 i e := by
  rcases h : e[i]? with _ | _ | ⟨n, d⟩ <;> simp [frz1, h]
theorem LIMn : LIM = 16777216 := rfl
/-- with a name for the invariant that simp can't look into -/
theorem WS_forB {g : DTg} {js : List Nat} {b : MS} {Q : Post} {ds : List D} {e : DEnv} (I : Nat → DEnv → Prop) (h0 : I 0 e)
    (hs : ∀ J : Nat → DEnv → Prop, (∀ k e, I k e → J k e) → ∀ j d e, ds[j]? = some d → I j e → ∃ e1, g d e = some e1 ∧ WS (b e1) { Q with nx := fun e2 => J (j + 1) (wipeD js e2), bk := fun e2 => Q.nx (wipeD js e2), ct := fun e2 => J (j + 1) (wipeD js e2) })
    (hd : ∀ e, I ds.length e → Q.nx e) : WS (mForL g js b ds e) Q := WS_forI I h0 (fun j d e hj hi => hs I (fun _ _ z => z) j d e hj hi) hd
theorem WS_cutB {sa sb : MS} {env : DEnv} {Q : Post} (M : DEnv → Prop) (h : ∀ J : DEnv → Prop, (∀ e, M e → J e) → WS (sa env) { Q with nx := J }) (k : ∀ e, M e → WS (sb e) Q) : WS (mSeq sa sb env) Q := WS_cut M (h M fun _ z => z) k
theorem WS_whileB {tc : MT} {js : List Nat} {b : MS} {Q : Post} {e : DEnv} (I : Nat → DEnv → Prop) (n : Nat) (hn : n < 1000000) (h0 : I n e)
    (hs : ∀ J : Nat → DEnv → Prop, (∀ k e, I k e → J k e) → ∀ n e, I n e → WE Q.ex (tc e) fun k e1 => (k = true → ∃ m, n = m + 1 ∧ WS (b e1) { Q with nx := fun e2 => J m (wipeD js e2), bk := fun e2 => Q.nx (wipeD js e2), ct := fun e2 => J m (wipeD js e2) }) ∧ (k = false → Q.nx e1)) : WS (mWhile js tc b e) Q :=
  WS_while I n hn h0 fun n e hi => hs I (fun _ _ z => z) n e hi
theorem fn_retB {pm : List Nat} {kk : Nat} {m : MS} {ds : List D} (R : Nat → D → Prop) (h : ∀ J : Nat → D → Prop, (∀ n d, R n d → J n d) → WS (m (mkEnv pm ds ++ List.replicate kk none)) (bodyP pm ds J)) : ∃ n d, fnSem pm kk m ds = .ret n d ds ∧ R n d :=
  fn_ret (h R fun _ _ z => z)
end DL

set_option autoImplicit false
set_option Elab.async false
set_option linter.all false
set_option maxRecDepth 100000
/-! DL: typed values for the plain laws. -/
namespace DL
open PySem PySem.Spec PyProof.Rows L2
@[simp] theorem isInstD_ty {d : D} {n : String} : isInstD [d, .ty n] = match tyOfD d with
    | some a => if knownTy n then some (0, .bl (isTyB a n)) else none
    | none => none := rfl
@[simp] theorem isInstD_tup {d : D} {ts : List D} : isInstD [d, .tup ts] = match tyOfD d, tysOf ts with
    | some a, some ns => some (0, .bl (ns.any (isTyB a)))
    | _, _ => none := rfl
@[simp] theorem known_int : knownTy "int" = true := by decide
@[simp] theorem known_bool : knownTy "bool" = true := by decide
@[simp] theorem known_str : knownTy "str" = true := by decide
@[simp] theorem known_list : knownTy "list" = true := by decide
@[simp] theorem known_tuple : knownTy "tuple" = true := by decide
@[simp] theorem known_dict : knownTy "dict" = true := by decide
@[simp] theorem tysOf_nil : tysOf [] = some [] := rfl
@[simp] theorem tysOf_cons {n : String} {ds : List D} : tysOf (.ty n :: ds) = if knownTy n then (tysOf ds).map (n :: ·) else none := rfl
@[simp] theorem tyOf_non : tyOfD .non = some "NoneType" := rfl
@[simp] theorem tyOf_bl {b : Bool} : tyOfD (.bl b) = some "bool" := rfl
@[simp] theorem tyOf_int {b : Int} : tyOfD (.int b) = some "int" := rfl
@[simp] theorem tyOf_str {b : Str} : tyOfD (.str b) = some "str" := rfl
@[simp] theorem tyOf_lst {b : List D} : tyOfD (.lst b) = some "list" := rfl
@[simp] theorem tyOf_tup {b : List D} : tyOfD (.tup b) = some "tuple" := rfl
@[simp] theorem tyOf_dK {b : List (Key × D)} : tyOfD (.dK b) = some "dict" := rfl
@[simp] theorem tyOf_dT {b : List (List Key × D)} : tyOfD (.dT b) = some "dict" := rfl
@[simp] theorem tyOf_ty {b : String} : tyOfD (.ty b) = none := rfl
@[simp] theorem tyOf_scr {b : List D} : tyOfD (.scr b) = none := rfl
/-- isTyB, by its words -/
theorem isTyB_eq (a b : String) : isTyB a b = (a == b || (a == "bool" && b == "int")) := rfl
theorem okN_int {n : Nat} {i : Int} : okN n (.int i) = true := by cases n <;> simp [okN]
theorem okN_ints {n : Nat} {ns : List Int} : (ns.map D.int).all (okN n) = true := by
  rw [List.all_map]
  exact List.all_eq_true.mpr fun i _ => okN_int
theorem eqv_int {i j : Int} : eqv (.int i) (.int j) = decide (i = j) := rfl
@[simp] theorem inD_ints {i : Int} {ns : List Int} : inD (.int i) (.lst (ns.map .int)) = some (decide (i ∈ ns)) := by
  show (if (okN 40 (.int i) && (ns.map D.int).all (okN 40)) = true then _ else _) = _
  rw [okN_int, okN_ints]
  show some ((ns.map D.int).any fun z => eqv z (.int i)) = _
  rw [List.any_map]
  congr 1
  induction ns with
  | nil => rfl
  | cons n ns ih =>
    rw [List.any_cons, ih]
    show (decide (n = i) || decide (i ∈ ns)) = _
    rw [Bool.eq_iff_iff]
    simp only [Bool.or_eq_true, decide_eq_true_eq, List.mem_cons]
    constructor
    · rintro (h | h)
      · exact .inl h.symm
      · exact .inr h
    · rintro (h | h)
      · exact .inl h.symm
      · exact .inr h
@[simp] theorem notInD_ints {i : Int} {ns : List Int} : notInD (.int i) (.lst (ns.map .int)) = some (!decide (i ∈ ns)) := by
  unfold notInD
  rw [inD_ints]; rfl
/-- pairs of ints -/
def ipD (p : Int × Int) : D := .tup [.int p.1, .int p.2]
def isPr : D → Option (Int × Int)
  | .tup [.int a, .int b] => some (a, b)
  | _ => none
theorem okN_pr {n : Nat} {p : Int × Int} : okN (n + 1) (ipD p) = true := by simp [ipD, okN, okN_int]
theorem okN_prs {n : Nat} {ps : List (Int × Int)} : (ps.map ipD).all (okN (n + 1)) = true := by
  rw [List.all_map]
  exact List.all_eq_true.mpr fun i _ => okN_pr
theorem eqv_pr {p q : Int × Int} : eqv (ipD p) (ipD q) = decide (p = q) := by
  show (decide (p.1 = q.1) && (decide (p.2 = q.2) && true)) = _
  rw [Bool.eq_iff_iff]
  simp [Prod.ext_iff]
theorem inD_prs {p : Int × Int} {ps : List (Int × Int)} : inD (ipD p) (.lst (ps.map ipD)) = some (decide (p ∈ ps)) := by
  show (if (okN 40 (ipD p) && (ps.map ipD).all (okN 40)) = true then _ else _) = _
  rw [show okN 40 (ipD p) = true from okN_pr, show (ps.map ipD).all (okN 40) = true from okN_prs]
  show some ((ps.map ipD).any fun z => eqv z (ipD p)) = _
  rw [List.any_map]
  congr 1
  induction ps with
  | nil => rfl
  | cons n ns ih =>
    rw [List.any_cons, ih]
    show (eqv (ipD n) (ipD p) || decide (p ∈ ns)) = _
    rw [eqv_pr, Bool.eq_iff_iff]
    simp only [Bool.or_eq_true, decide_eq_true_eq, List.mem_cons]
    constructor
    · rintro (h | h)
      · exact .inl h.symm
      · exact .inr h
    · rintro (h | h)
      · exact .inl h.symm
      · exact .inr h
@[simp] theorem notInD_prs {a b : Int} {ps : List (Int × Int)} : notInD (.tup [.int a, .int b]) (.lst (ps.map ipD)) = some (!decide ((a, b) ∈ ps)) := by
  unfold notInD
  rw [show inD (.tup [.int a, .int b]) (.lst (ps.map ipD)) = some (decide ((a, b) ∈ ps)) from inD_prs (p := (a, b))]; rfl
/-- the order of pairs -/
def le2 (p q : Int × Int) : Bool := if p.1 = q.1 then decide (p.2 ≤ q.2) else decide (p.1 ≤ q.1)
@[simp] theorem leD_pr {a b c d : Int} : leD (.tup [.int a, .int b]) (.tup [.int c, .int d]) = some (le2 (a, b) (c, d)) := by
  show some (leTup [a, b] [c, d]) = _
  congr 1
  unfold leTup le2
  show Ob.lexAt _ _ _ 0 2 = _
  simp only [Ob.lexAt_succ, Ob.lexAt_zero]
  by_cases h : a = c
  · by_cases h2 : b = d
    · simp [h, h2]
    · simp [h, h2]
  · simp [h]
@[simp] theorem mulD_zeros {n : Nat} (h : n ≤ 16777216) : mulD (.lst [.int 0]) (.int n) = some (1, .lst ((List.replicate n (0 : Int)).map .int)) := by
  have hc : -(2 ^ 63) ≤ (n : Int) ∧ (n : Int) < 2 ^ 63 ∧ [D.int 0].length * (n : Int).toNat ≤ LIM := ⟨by omega, by omega, by simp only [List.length_singleton, Int.toNat_natCast, LIMn]; omega⟩
  have hr : ∀ m : Nat, repD m [D.int 0] = (List.replicate m (0 : Int)).map .int := fun m => by
    unfold repD
    induction m with
    | zero => rfl
    | succ m ih => rw [List.replicate_succ, List.flatten_cons, ih, List.replicate_succ]; rfl
  unfold mulD
  dsimp only
  rw [if_pos hc, hr, Int.toNat_natCast]
@[simp] theorem putD_ints {ns : List Int} {i v : Int} (h : 0 ≤ i) (h2 : i < ns.length) : putD (.lst (ns.map .int)) (.int i) (.int v) = some (.lst ((ns.set i.toNat v).map .int)) := by
  show (L2.ixN (ns.map D.int).length i).map (fun j => D.lst ((ns.map D.int).set j (.int v))) = _
  unfold L2.ixN
  rw [if_pos h, if_pos (by simpa using h2), List.map_set]
  rfl
@[simp] theorem sliceD_lst {ds : List D} {lo hi : Option Int} : sliceD (.lst ds) lo hi = some (1, .lst (cutD ds lo hi)) := rfl
@[simp] theorem sliceD_tup {ds : List D} {lo hi : Option Int} : sliceD (.tup ds) lo hi = some (0, .tup (cutD ds lo hi)) := rfl
theorem cut_sub {ds : List D} {lo hi : Option Int} {d : D} (h : d ∈ cutD ds lo hi) : d ∈ ds := List.mem_of_mem_drop (List.mem_of_mem_take h)
theorem cut_len {ds : List D} {lo hi : Option Int} : (cutD ds lo hi).length ≤ ds.length := by
  unfold cutD
  simp
  omega
@[simp] theorem addD_lst {xs ys : List D} (h : xs.length + ys.length ≤ 16777216) : addD (.lst xs) (.lst ys) = some (1, .lst (xs ++ ys)) := if_pos h
@[simp] theorem addD_tup {xs ys : List D} (h : xs.length + ys.length ≤ 16777216) : addD (.tup xs) (.tup ys) = some (0, .tup (xs ++ ys)) := if_pos h
@[simp] theorem maxD_int {i j : Int} : maxD [.int i, .int j] = some (0, .int (if j > i then j else i)) := rfl
@[simp] theorem minD_int {i j : Int} : minD [.int i, .int j] = some (0, .int (if j < i then j else i)) := rfl
@[simp] theorem sumD_ints {ns : List Int} : sumD [.lst (ns.map .int)] = some (0, .int ns.sum) := by
  show (intsOf (ns.map D.int)).map _ = _
  rw [intsOf_map]; rfl
@[simp] theorem minDefD_ints {ns : List Int} {d : Int} : minDefD (.lst (ns.map .int)) (.int d) = some (0, .int (KX.minDef ns d)) := by
  show (intsOf (ns.map D.int)).map _ = _
  rw [intsOf_map]; rfl
theorem sortSetD_ints {ns : List Int} (h : (sortU ns).length < 64) (h2 : ns.length < 4000) : sortSetD (.lst (ns.map .int)) = some (1, .lst ((sortU ns).map .int)) := by
  unfold sortSetD
  simp only [intsOf_map, if_pos (And.intro h h2)]
/-- ints in order within a range are few -/
theorem asc_len {n : Nat} : ∀ (l : List Int) (lo : Int), l.Pairwise (· < ·) → (∀ x ∈ l, lo ≤ x ∧ x < lo + n) → l.length ≤ n
  | [], _, _, _ => Nat.zero_le _
  | x :: l, lo, h, hb => by
    obtain ⟨h1, h2⟩ := List.pairwise_cons.mp h
    have hx := hb x List.mem_cons_self
    cases n with
    | zero => omega
    | succ n =>
      have := asc_len (n := n) l (lo + 1) h2 fun y hy => by
        have := h1 y hy
        have := hb y (List.mem_cons_of_mem _ hy)
        omega
      simp only [List.length_cons]
      omega
theorem map_int_inj : ∀ {as bs : List Int}, as.map D.int = bs.map D.int → as = bs
  | [], [], _ => rfl
  | [], _ :: _, h => by cases h
  | _ :: _, [], h => by cases h
  | a :: as, b :: bs, h => by
    simp only [List.map_cons, List.cons.injEq, D.int.injEq] at h
    rw [h.1, map_int_inj h.2]
theorem fm_eq {α β : Type} {f : α → Option β} {c : α → Bool} {g : α → β} : ∀ {xs : List α}, (∀ x ∈ xs, f x = if c x = true then some (g x) else none) → xs.filterMap f = (xs.filter c).map g
  | [], _ => rfl
  | x :: xs, h => by
    have hx := h x List.mem_cons_self
    have ih := fm_eq (xs := xs) fun y hy => h y (List.mem_cons_of_mem _ hy)
    cases hc : c x with
    | true => rw [List.filterMap_cons_some (by rw [hx, if_pos hc]), List.filter_cons_of_pos hc, List.map_cons, ih]
    | false => rw [List.filterMap_cons_none (by rw [hx]; simp [hc]), List.filter_cons_of_neg (by simp [hc]), ih]
theorem fm_all {α β : Type} {f : α → Option β} {g : α → β} {xs : List α} (h : ∀ x ∈ xs, f x = some (g x)) : xs.filterMap f = xs.map g := by
  rw [fm_eq (c := fun _ => true) fun x hx => by rw [h x hx]; rfl, List.filter_eq_self.mpr (fun _ _ => rfl)]
/-- a comprehension of which one wants to know a bound and a property of the items alone -/
theorem WE_compR {X : Exc → DEnv → Prop} {g : DTg} {vs : List Nat} {tc : MT} {me : ME} {e0 : DEnv} {P : Nat × D → DEnv → Prop} (R : D → Prop) : ∀ (ds acc : List D), acc.length + ds.length ≤ 16777216 → (∀ x ∈ acc, R x) →
    (∀ d, d ∈ ds → ∃ e1, g d e0 = some e1 ∧ WE X (tc e1) fun b e2 => (b = true → WE X (me e2) fun r e3 => R r.2 ∧ wipeD vs e3 = e0) ∧ (b = false → wipeD vs e2 = e0)) →
    (∀ out : List D, (∀ x ∈ out, R x) → out.length ≤ acc.length + ds.length → P (1, .lst out) e0) → (∀ x e, ¬ X x e) → WE X (compL g vs tc me ds acc e0) P
  | [], acc, _, ha, _, hp, _ => hp acc ha (by simp)
  | d :: ds, acc, hl, ha, hs, hp, hx => by
    obtain ⟨e1, h1, h2⟩ := hs d List.mem_cons_self
    have hl' : acc.length < 16777216 := by simp only [List.length_cons] at hl; omega
    have hr := fun d' hd' => hs d' (List.mem_cons_of_mem _ hd')
    unfold compL
    rw [h1]
    dsimp only
    cases hc : tc e1 with
    | stuck => rw [hc] at h2; exact h2.elim
    | exc x e2 => rw [hc] at h2; exact (hx _ _ h2).elim
    | ok b e2 =>
      rw [hc] at h2
      dsimp only
      cases b with
      | false =>
        simp only [Bool.false_eq_true, if_false]
        rw [h2.2 rfl]
        exact WE_compR R ds acc (by simp only [List.length_cons] at hl; omega) ha hr (fun out h k => hp out h (by simp only [List.length_cons]; omega)) hx
      | true =>
        have h3 := h2.1 rfl
        simp only [if_true]
        cases hm : me e2 with
        | stuck => rw [hm] at h3; exact h3.elim
        | exc x e2 => rw [hm] at h3; exact (hx _ _ h3).elim
        | ok r e3 =>
          rw [hm] at h3
          obtain ⟨hf, hw⟩ := h3
          dsimp only
          rw [if_pos hl', hw]
          refine WE_compR R ds (acc ++ [r.2]) (by simp only [List.length_append, List.length_cons, List.length_nil] at hl ⊢; omega) (fun x hx => ?_) hr (fun out h k => hp out h (by simp only [List.length_append, List.length_cons, List.length_nil] at k ⊢; omega)) hx
          rcases List.mem_append.mp hx with hx | hx
          · exact ha x hx
          · simp at hx; subst hx; exact hf
theorem WE_compC {X : Exc → DEnv → Prop} {g : DTg} {vs : List Nat} {tc : MT} {me : ME} {e0 : DEnv} {P : Nat × D → DEnv → Prop} {ds : List D} (R : D → Prop) (hl : ds.length ≤ 16777216)
    (hs : ∀ d, d ∈ ds → ∃ e1, g d e0 = some e1 ∧ WE X (tc e1) fun b e2 => (b = true → WE X (me e2) fun r e3 => R r.2 ∧ wipeD vs e3 = e0) ∧ (b = false → wipeD vs e2 = e0))
    (hp : ∀ out : List D, (∀ x ∈ out, R x) → out.length ≤ ds.length → P (1, .lst out) e0) (hx : ∀ x e, ¬ X x e) : WE X (compL g vs tc me ds [] e0) P :=
  WE_compR R ds [] (by simpa using hl) (by simp) hs (fun out h k => hp out h (by simpa using k)) hx
end DL

set_option autoImplicit false
set_option Elab.async false
set_option linter.all false
set_option maxRecDepth 100000
namespace W
open PySem PySem.Spec PyProof.Rows L2 DL
def top (i : Nat) : Stmt := PySem.Challenge.pw_shredday_k48_judges_of_covers_and_packin.main.body.getD i (.Pass ⟨0, 0, 0, 0⟩)
abbrev s_is_whole : Stmt := top 1
abbrev s_is_row : Stmt := top 2
abbrev s_are_places : Stmt := top 4
abbrev s_is_pair_cover : Stmt := top 5
abbrev s_cover_weight : Stmt := top 6
abbrev s_is_triple : Stmt := top 7
abbrev s_is_pair_packing : Stmt := top 8
abbrev s__law_number : Stmt := top 10
abbrev s__law_digits : Stmt := top 11
abbrev s__law_same : Stmt := top 12
abbrev s__law_whole : Stmt := top 13
abbrev s__law_draw : Stmt := top 14
abbrev s__law_cover : Stmt := top 15
abbrev s__law_packing : Stmt := top 16
abbrev s__law_places : Stmt := top 17
abbrev s__law_is_cover : Stmt := top 18
abbrev s__law_is_packing : Stmt := top 19
abbrev s__law_bent_lists : Stmt := top 20
abbrev s__law_bent_covers : Stmt := top 21
abbrev s__law_bent_packings : Stmt := top 22
abbrev s_law : Stmt := top 23
/-! ### what each def computes -/
/- is_whole: 0 x, 1 least, 2 greatest -/
def m_is_whole : MS :=
    mRet (mBool (mAnd (mIsB (mCallB isInstD (mCons (mVar 0) (mCons (mC (.ty "int")) (mNil))))) (mAnd (mNot (mIsB (mCallB isInstD (mCons (mVar 0) (mCons (mC (.ty "bool")) (mNil)))))) (mChain leD leD (mVar 1) (mVar 0) (mVar 2)))))
def f_is_whole : FSem := fnSem [0, 0, 0] 0 m_is_whole
/- is_row: 0 x, 1 size -/
def m_is_row : MS :=
    mRet (mBool (mAnd (mIsB (mCallB isInstD (mCons (mVar 0) (mCons (mC (.ty "tuple")) (mNil))))) (mCmp eqD (mCallB lenD (mCons (mVar 0) (mNil))) (mVar 1))))
def f_is_row : FSem := fnSem [0, 0] 0 m_is_row
/- are_places: 0 count, 1 places, 2 before, 3 place -/
def m_are_places : MS :=
    mSeq (mIf (mNot (mTru (mCallB isInstD (mCons (mVar 1) (mCons (mC (.ty "list")) (mNil))))))
            (mRet (mC (.bl false)))
            (mSkip))
            (mSeq (mSetF 2 (mOp1 negD (mC (.int 1))))
            (mSeq (mFor [3] (gN 3) (mItems (mVar 1))
            (mSeq (mIf (mNot (mTru (mCall [0, 0, 0] f_is_whole [.ex (mVar 3), .ex (mOp2 addD (mVar 2) (mC (.int 1))), .ex (mOp2 subD (mVar 0) (mC (.int 1)))])))
            (mRet (mC (.bl false)))
            (mSkip))
            (mSetF 2 (mVar 3))))
            (mRet (mC (.bl true)))))
def f_are_places : FSem := fnSem [0, 0] 2 m_are_places
/- is_pair_cover: 0 lefts, 1 rights, 2 pairs, 3 cover, 4 i, 5 j -/
def m_is_pair_cover : MS :=
    mSeq (mIf (mNot (mTru (mCall [0, 0] f_is_row [.ex (mVar 3), .ex (mC (.int 2))])))
            (mRet (mC (.bl false)))
            (mSkip))
            (mSeq (mIf (mOr (mNot (mTru (mCall [0, 0] f_are_places [.ex (mCallB lenD (mCons (mVar 0) (mNil))), .ex (mOp2 idxD (mVar 3) (mC (.int 0)))]))) (mNot (mTru (mCall [0, 0] f_are_places [.ex (mCallB lenD (mCons (mVar 1) (mNil))), .ex (mOp2 idxD (mVar 3) (mC (.int 1)))]))))
            (mRet (mC (.bl false)))
            (mSkip))
            (mSeq (mFor [4, 5] (gT [4, 5]) (mItems (mVar 2))
            (mIf (mAnd (mCmp notInD (mVar 4) (mOp2 idxD (mVar 3) (mC (.int 0)))) (mCmp notInD (mVar 5) (mOp2 idxD (mVar 3) (mC (.int 1)))))
            (mRet (mC (.bl false)))
            (mSkip)))
            (mRet (mC (.bl true)))))
def f_is_pair_cover : FSem := fnSem [0, 0, 0, 0] 2 m_is_pair_cover
/- cover_weight: 0 lefts, 1 rights, 2 cover, 3 i, 4 j -/
def m_cover_weight : MS :=
    mRet (mOp2 addD (mCallB sumD (mCons (mComp [3] (gN 3) (mItems (mOp2 idxD (mVar 2) (mC (.int 0)))) (mYes) (mOp2 idxD (mVar 0) (mVar 3))) (mNil))) (mCallB sumD (mCons (mComp [4] (gN 4) (mItems (mOp2 idxD (mVar 2) (mC (.int 1)))) (mYes) (mOp2 idxD (mVar 1) (mVar 4))) (mNil))))
def f_cover_weight : FSem := fnSem [0, 0, 0] 2 m_cover_weight
/- is_triple: 0 lefts, 1 rights, 2 pairs, 3 triple -/
def m_is_triple : MS :=
    mSeq (mIf (mOr (mNot (mTru (mCall [0, 0] f_is_row [.ex (mVar 3), .ex (mC (.int 3))]))) (mNot (mTru (mCall [0, 0, 0] f_is_whole [.ex (mOp2 idxD (mVar 3) (mC (.int 0))), .ex (mC (.int 0)), .ex (mOp2 subD (mCallB lenD (mCons (mVar 0) (mNil))) (mC (.int 1)))]))))
            (mRet (mC (.bl false)))
            (mSkip))
            (mSeq (mIf (mOr (mNot (mTru (mCall [0, 0, 0] f_is_whole [.ex (mOp2 idxD (mVar 3) (mC (.int 1))), .ex (mC (.int 0)), .ex (mOp2 subD (mCallB lenD (mCons (mVar 1) (mNil))) (mC (.int 1)))]))) (mCmp notInD (mTup (mCons (mOp2 idxD (mVar 3) (mC (.int 0))) (mCons (mOp2 idxD (mVar 3) (mC (.int 1))) (mNil)))) (mVar 2)))
            (mRet (mC (.bl false)))
            (mSkip))
            (mRet (mCall [0, 0, 0] f_is_whole [.ex (mOp2 idxD (mVar 3) (mC (.int 2))), .ex (mC (.int 1)), .ex (mCallB minD (mCons (mOp2 idxD (mVar 0) (mOp2 idxD (mVar 3) (mC (.int 0)))) (mCons (mOp2 idxD (mVar 1) (mOp2 idxD (mVar 3) (mC (.int 1)))) (mNil))))])))
def f_is_triple : FSem := fnSem [0, 0, 0, 0] 0 m_is_triple
/- is_pair_packing: 0 lefts, 1 rights, 2 pairs, 3 packing, 4 left_rest, 5 right_rest, 6 before, 7 triple -/
def m_is_pair_packing : MS :=
    mSeq (mIf (mNot (mTru (mCallB isInstD (mCons (mVar 3) (mCons (mC (.ty "list")) (mNil))))))
            (mRet (mC (.bl false)))
            (mSkip))
            (mSeq (mSet 4 (mCallB listD (mCons (mVar 0) (mNil))))
            (mSeq (mSet 5 (mCallB listD (mCons (mVar 1) (mNil))))
            (mSeq (mSetF 6 (mTup (mCons (mOp1 negD (mC (.int 1))) (mCons (mOp1 negD (mC (.int 1))) (mNil)))))
            (mSeq (mFor [7] (gN 7) (mItems (mVar 3))
            (mSeq (mIf (mOr (mNot (mTru (mCall [0, 0, 0, 0] f_is_triple [.ex (mVar 0), .ex (mVar 1), .ex (mVar 2), .ex (mVar 7)]))) (mCmp leD (mTup (mCons (mOp2 idxD (mVar 7) (mC (.int 0))) (mCons (mOp2 idxD (mVar 7) (mC (.int 1))) (mNil)))) (mVar 6)))
            (mRet (mC (.bl false)))
            (mSkip))
            (mSeq (mSetF 6 (mTup (mCons (mOp2 idxD (mVar 7) (mC (.int 0))) (mCons (mOp2 idxD (mVar 7) (mC (.int 1))) (mNil)))))
            (mSeq (mPut 4 (mOp2 idxD (mVar 7) (mC (.int 0))) (mTmp [4] [] (mOp2 subD (mOp2 idxD (mVar 4) (mOp2 idxD (mVar 7) (mC (.int 0)))) (mOp2 idxD (mVar 7) (mC (.int 2))))))
            (mPut 5 (mOp2 idxD (mVar 7) (mC (.int 1))) (mTmp [5] [] (mOp2 subD (mOp2 idxD (mVar 5) (mOp2 idxD (mVar 7) (mC (.int 1)))) (mOp2 idxD (mVar 7) (mC (.int 2))))))))))
            (mRet (mFrz [4, 5] (mBool (mAnd (mCmp geD (mOp2 minDefD (mVar 4) (mC (.int 0))) (mC (.int 0))) (mCmp geD (mOp2 minDefD (mVar 5) (mC (.int 0))) (mC (.int 0)))))))))))
def f_is_pair_packing : FSem := fnSem [0, 0, 0, 0] 4 m_is_pair_packing
/- _law_number: 0 script, 1 k, 2 cell, 3 first, 4 second -/
def m__law_number : MS :=
    mSeq (mSetF 2 (mC (.int 0)))
            (mSeq (mIf (mCmp ltD (mVar 1) (mCallB lenD (mCons (mVar 0) (mNil))))
            (mSetF 2 (mCallB intD (mCons (mOp2 idxD (mVar 0) (mVar 1)) (mNil))))
            (mSkip))
            (mSeq (mIf (mCmp geD (mVar 2) (mOp2 powD (mC (.int 10)) (mC (.int 18))))
            (mRet (mOp2 subD (mVar 2) (mOp2 powD (mC (.int 10)) (mC (.int 18)))))
            (mSkip))
            (mSeq (mSetF 3 (mOp2 modD (mCallB intD (mCons (mOp2 addD (mOp2 addD (mOp2 mulD (mVar 2) (mC (.int 48271))) (mOp2 mulD (mVar 1) (mC (.int 69621)))) (mC (.int 11))) (mNil))) (mC (.int 2147483647))))
            (mSeq (mSetF 4 (mOp2 modD (mCallB intD (mCons (mOp2 addD (mOp2 addD (mOp2 mulD (mVar 3) (mVar 3)) (mOp2 mulD (mVar 1) (mC (.int 40692)))) (mC (.int 7))) (mNil))) (mC (.int 2147483399))))
            (mRet (mOp2 addD (mOp2 mulD (mVar 4) (mC (.int 2147483647))) (mVar 3)))))))
def f__law_number : FSem := fnSem [0, 0] 3 m__law_number
/- _law_digits: 0 number, 1 sizes, 2 digits, 3 size -/
def m__law_digits : MS :=
    mSeq (mSet 2 (mLst (mNil)))
            (mSeq (mFor [3] (gN 3) (mItems (mVar 1))
            (mSeq (mApp 2 (mOp2 modD (mCallB intD (mCons (mVar 0) (mNil))) (mVar 3)))
            (mSetF 0 (mOp2 fdivD (mVar 0) (mVar 3)))))
            (mRet (mMove 2)))
def f__law_digits : FSem := fnSem [0, 0] 2 m__law_digits
/- _law_same: 0 told, 1 due, 2 k -/
def m__law_same (f_rec : FSem) : MS :=
    mSeq (mIf (mTru (mCallB isInstD (mCons (mVar 1) (mCons (mTup (mCons (mC (.ty "list")) (mCons (mC (.ty "tuple")) (mNil)))) (mNil)))))
            (mSeq (mIf (mAnd (mTru (mCallB isInstD (mCons (mVar 1) (mCons (mC (.ty "list")) (mNil))))) (mNot (mTru (mCallB isInstD (mCons (mVar 0) (mCons (mC (.ty "list")) (mNil)))))))
            (mRet (mC (.bl false)))
            (mSkip))
            (mSeq (mIf (mAnd (mTru (mCallB isInstD (mCons (mVar 1) (mCons (mC (.ty "tuple")) (mNil))))) (mNot (mTru (mCallB isInstD (mCons (mVar 0) (mCons (mC (.ty "tuple")) (mNil)))))))
            (mRet (mC (.bl false)))
            (mSkip))
            (mSeq (mIf (mCmp neD (mCallB lenD (mCons (mVar 0) (mNil))) (mCallB lenD (mCons (mVar 1) (mNil))))
            (mRet (mC (.bl false)))
            (mSkip))
            (mSeq (mFor [2] (gN 2) (mRng rng1 (mCons (mCallB lenD (mCons (mVar 1) (mNil))) (mNil)))
            (mIf (mNot (mTru (mCall [0, 0] f_rec [.ex (mOp2 idxD (mVar 0) (mVar 2)), .ex (mOp2 idxD (mVar 1) (mVar 2))])))
            (mRet (mC (.bl false)))
            (mSkip)))
            (mRet (mC (.bl true)))))))
            (mSkip))
            (mSeq (mIf (mCmp isD (mVar 1) (mC .non))
            (mRet (mBool (mCmp isD (mVar 0) (mC .non))))
            (mSkip))
            (mSeq (mIf (mTru (mCallB isInstD (mCons (mVar 1) (mCons (mC (.ty "bool")) (mNil)))))
            (mRet (mBool (mAnd (mIsB (mCallB isInstD (mCons (mVar 0) (mCons (mC (.ty "bool")) (mNil))))) (mCmp eqD (mVar 0) (mVar 1)))))
            (mSkip))
            (mSeq (mIf (mTru (mCallB isInstD (mCons (mVar 1) (mCons (mC (.ty "int")) (mNil)))))
            (mRet (mBool (mAnd (mIsB (mCallB isInstD (mCons (mVar 0) (mCons (mC (.ty "int")) (mNil))))) (mAnd (mNot (mIsB (mCallB isInstD (mCons (mVar 0) (mCons (mC (.ty "bool")) (mNil)))))) (mCmp eqD (mVar 0) (mVar 1))))))
            (mSkip))
            (mRet (mBool (mAnd (mIsB (mCallB isInstD (mCons (mVar 0) (mCons (mC (.ty "str")) (mNil))))) (mCmp eqD (mVar 0) (mVar 1))))))))
def f__law_same : Nat → FSem
  | 0 => fun _ => .stuck
  | n + 1 => fnSem [0, 0] 1 (m__law_same (f__law_same n))
/- _law_whole: 0 x -/
def m__law_whole : MS :=
    mRet (mBool (mAnd (mIsB (mCallB isInstD (mCons (mVar 0) (mCons (mC (.ty "int")) (mNil))))) (mNot (mIsB (mCallB isInstD (mCons (mVar 0) (mCons (mC (.ty "bool")) (mNil))))))))
def f__law_whole : FSem := fnSem [0] 0 m__law_whole
/- _law_draw: 0 script, 1 sizes, 2 left, 3 right, 4 most, 5 lefts, 6 pairs, 7 i, 8 rights, 9 number, 10 j -/
def m__law_draw : MS :=
    mSeq (mSetF 1 (mCall [0, 0] f__law_digits [.ex (mCall [0, 0] f__law_number [.ex (mVar 0), .ex (mC (.int 0))]), .ex (mLst (mCons (mC (.int 9)) (mCons (mC (.int 7)) (mCons (mC (.int 7)) (mCons (mC (.int 2)) (mCons (mC (.int 4)) (mNil)))))))]))
            (mSeq (mSetF 2 (mOp2 idxD (mVar 1) (mC (.int 1))))
            (mSeq (mSetF 3 (mOp2 idxD (mVar 1) (mC (.int 2))))
            (mSeq (mIf (mCmp eqD (mOp2 idxD (mVar 1) (mC (.int 0))) (mC (.int 1)))
            (mSeq (mSetF 2 (mC (.int 24)))
            (mSetF 3 (mC (.int 24))))
            (mSkip))
            (mSeq (mSetF 4 (mOp2 idxD (mLst (mCons (mC (.int 9)) (mCons (mC (.int 999)) (mNil)))) (mOp2 idxD (mVar 1) (mC (.int 3)))))
            (mSeq (mSet 5 (mLst (mNil)))
            (mSeq (mSet 6 (mLst (mNil)))
            (mSeq (mFor [7, 9, 10] (gN 7) (mRng rng1 (mCons (mVar 2) (mNil)))
            (mSeq (mSetF 9 (mCall [0, 0] f__law_number [.ex (mVar 0), .ex (mOp2 addD (mC (.int 1)) (mVar 7))]))
            (mSeq (mApp 5 (mOp2 addD (mC (.int 1)) (mOp2 modD (mCallB intD (mCons (mVar 9) (mNil))) (mVar 4))))
            (mSeq (mSetF 9 (mOp2 fdivD (mVar 9) (mVar 4)))
            (mFor [10] (gN 10) (mRng rng1 (mCons (mVar 3) (mNil)))
            (mSeq (mIf (mCmp leD (mOp2 modD (mCallB intD (mCons (mVar 9) (mNil))) (mC (.int 4))) (mOp2 fdivD (mOp2 idxD (mVar 1) (mC (.int 4))) (mC (.int 2))))
            (mApp 6 (mTup (mCons (mVar 7) (mCons (mVar 10) (mNil)))))
            (mSkip))
            (mSetF 9 (mOp2 fdivD (mVar 9) (mC (.int 4))))))))))
            (mSeq (mSetF 8 (mComp [10] (gN 10) (mRng rng1 (mCons (mVar 3) (mNil))) (mYes) (mOp2 addD (mC (.int 1)) (mOp2 modD (mCallB intD (mCons (mCall [0, 0] f__law_number [.ex (mVar 0), .ex (mOp2 addD (mC (.int 25)) (mVar 10))]) (mNil))) (mVar 4)))))
            (mRet (mFrz [5, 6] (mTup (mCons (mVar 5) (mCons (mVar 8) (mCons (mVar 6) (mNil)))))))))))))))
def f__law_draw : FSem := fnSem [0] 10 m__law_draw
/- _law_cover: 0 rights, 1 pairs, 2 number, 3 chosen, 4 j, 5 pair -/
def m__law_cover : MS :=
    mSeq (mSet 3 (mLst (mNil)))
            (mSeq (mFor [4] (gN 4) (mRng rng1 (mCons (mCallB lenD (mCons (mVar 0) (mNil))) (mNil)))
            (mSeq (mIf (mCmp eqD (mOp2 modD (mCallB intD (mCons (mVar 2) (mNil))) (mC (.int 3))) (mC (.int 0)))
            (mApp 3 (mVar 4))
            (mSkip))
            (mSetF 2 (mOp2 fdivD (mVar 2) (mC (.int 3))))))
            (mRet (mFrz [3] (mTup (mCons (mOp1 sortSetD (mComp [5] (gN 5) (mItems (mVar 1)) (mCmp notInD (mOp2 idxD (mVar 5) (mC (.int 1))) (mVar 3)) (mOp2 idxD (mVar 5) (mC (.int 0))))) (mCons (mVar 3) (mNil)))))))
def f__law_cover : FSem := fnSem [0, 0, 0] 3 m__law_cover
/- _law_packing: 0 lefts, 1 rights, 2 pairs, 3 number, 4 left_rest, 5 right_rest, 6 packing, 7 i, 8 j, 9 digits, 10 amount -/
def m__law_packing : MS :=
    mSeq (mSet 4 (mCallB listD (mCons (mVar 0) (mNil))))
            (mSeq (mSet 5 (mCallB listD (mCons (mVar 1) (mNil))))
            (mSeq (mSet 6 (mLst (mNil)))
            (mSeq (mFor [7, 8, 9, 10] (gT [7, 8]) (mItems (mVar 2))
            (mSeq (mSetF 9 (mCall [0, 0] f__law_digits [.ex (mVar 3), .ex (mLst (mCons (mC (.int 4)) (mCons (mC (.int 7)) (mNil))))]))
            (mSeq (mSetF 3 (mOp2 fdivD (mVar 3) (mC (.int 28))))
            (mSeq (mSetF 10 (mTmp [4, 5] [] (mCallB minD (mCons (mOp2 idxD (mVar 4) (mVar 7)) (mCons (mOp2 idxD (mVar 5) (mVar 8)) (mNil))))))
            (mSeq (mIf (mCmp eqD (mOp2 idxD (mVar 9) (mC (.int 0))) (mC (.int 1)))
            (mSetF 10 (mCallB minD (mCons (mVar 10) (mCons (mOp2 idxD (mVar 9) (mC (.int 1))) (mNil)))))
            (mSkip))
            (mIf (mAnd (mCmp gtD (mVar 10) (mC (.int 0))) (mCmp neD (mOp2 idxD (mVar 9) (mC (.int 0))) (mC (.int 2))))
            (mSeq (mApp 6 (mTup (mCons (mVar 7) (mCons (mVar 8) (mCons (mVar 10) (mNil))))))
            (mSeq (mPut 4 (mVar 7) (mTmp [4] [] (mOp2 subD (mOp2 idxD (mVar 4) (mVar 7)) (mVar 10))))
            (mPut 5 (mVar 8) (mTmp [5] [] (mOp2 subD (mOp2 idxD (mVar 5) (mVar 8)) (mVar 10))))))
            (mSkip)))))))
            (mRet (mMove 6)))))
def f__law_packing : FSem := fnSem [0, 0, 0, 0] 7 m__law_packing
/- _law_places: 0 places, 1 count, 2 before, 3 place -/
def m__law_places : MS :=
    mSeq (mIf (mNot (mTru (mCallB isInstD (mCons (mVar 0) (mCons (mC (.ty "list")) (mNil))))))
            (mRet (mC (.bl false)))
            (mSkip))
            (mSeq (mSetF 2 (mOp1 negD (mC (.int 1))))
            (mSeq (mFor [3] (gN 3) (mItems (mVar 0))
            (mSeq (mIf (mOr (mNot (mTru (mCall [0] f__law_whole [.ex (mVar 3)]))) (mOr (mCmp leD (mVar 3) (mVar 2)) (mCmp geD (mVar 3) (mVar 1))))
            (mRet (mC (.bl false)))
            (mSkip))
            (mSetF 2 (mVar 3))))
            (mRet (mC (.bl true)))))
def f__law_places : FSem := fnSem [0, 0] 2 m__law_places
/- _law_is_cover: 0 lefts, 1 rights, 2 pairs, 3 cover, 4 i, 5 j -/
def m__law_is_cover : MS :=
    mSeq (mIf (mOr (mNot (mTru (mCallB isInstD (mCons (mVar 3) (mCons (mC (.ty "tuple")) (mNil)))))) (mCmp neD (mCallB lenD (mCons (mVar 3) (mNil))) (mC (.int 2))))
            (mRet (mC (.bl false)))
            (mSkip))
            (mSeq (mIf (mOr (mNot (mTru (mCall [0, 0] f__law_places [.ex (mOp2 idxD (mVar 3) (mC (.int 0))), .ex (mCallB lenD (mCons (mVar 0) (mNil)))]))) (mNot (mTru (mCall [0, 0] f__law_places [.ex (mOp2 idxD (mVar 3) (mC (.int 1))), .ex (mCallB lenD (mCons (mVar 1) (mNil)))]))))
            (mRet (mC (.bl false)))
            (mSkip))
            (mSeq (mFor [4, 5] (gT [4, 5]) (mItems (mVar 2))
            (mIf (mAnd (mCmp notInD (mVar 4) (mOp2 idxD (mVar 3) (mC (.int 0)))) (mCmp notInD (mVar 5) (mOp2 idxD (mVar 3) (mC (.int 1)))))
            (mRet (mC (.bl false)))
            (mSkip)))
            (mRet (mC (.bl true)))))
def f__law_is_cover : FSem := fnSem [0, 0, 0, 0] 2 m__law_is_cover
/- _law_is_packing: 0 lefts, 1 rights, 2 pairs, 3 packing, 4 left_used, 5 right_used, 6 before, 7 triple, 8 i, 9 j -/
def m__law_is_packing : MS :=
    mSeq (mIf (mNot (mTru (mCallB isInstD (mCons (mVar 3) (mCons (mC (.ty "list")) (mNil))))))
            (mRet (mC (.bl false)))
            (mSkip))
            (mSeq (mSet 4 (mOp2 mulD (mLst (mCons (mC (.int 0)) (mNil))) (mCallB lenD (mCons (mVar 0) (mNil)))))
            (mSeq (mSet 5 (mOp2 mulD (mLst (mCons (mC (.int 0)) (mNil))) (mCallB lenD (mCons (mVar 1) (mNil)))))
            (mSeq (mSetF 6 (mTup (mCons (mOp1 negD (mC (.int 1))) (mCons (mOp1 negD (mC (.int 1))) (mNil)))))
            (mSeq (mFor [7] (gN 7) (mItems (mVar 3))
            (mSeq (mIf (mOr (mNot (mTru (mCallB isInstD (mCons (mVar 7) (mCons (mC (.ty "tuple")) (mNil)))))) (mOr (mCmp neD (mCallB lenD (mCons (mVar 7) (mNil))) (mC (.int 3))) (mOr (mNot (mTru (mCall [0] f__law_whole [.ex (mOp2 idxD (mVar 7) (mC (.int 2)))]))) (mCmp ltD (mOp2 idxD (mVar 7) (mC (.int 2))) (mC (.int 1))))))
            (mRet (mC (.bl false)))
            (mSkip))
            (mSeq (mIf (mOr (mNot (mTru (mCall [0] f__law_whole [.ex (mOp2 idxD (mVar 7) (mC (.int 0)))]))) (mOr (mNot (mTru (mCall [0] f__law_whole [.ex (mOp2 idxD (mVar 7) (mC (.int 1)))]))) (mOr (mCmp notInD (mSlice sliceD (mVar 7) (mONone) (mOSome (mC (.int 2)))) (mVar 2)) (mCmp leD (mSlice sliceD (mVar 7) (mONone) (mOSome (mC (.int 2)))) (mVar 6)))))
            (mRet (mC (.bl false)))
            (mSkip))
            (mSeq (mSetF 6 (mSlice sliceD (mVar 7) (mONone) (mOSome (mC (.int 2)))))
            (mSeq (mPut 4 (mOp2 idxD (mVar 7) (mC (.int 0))) (mTmp [4] [] (mOp2 addD (mOp2 idxD (mVar 4) (mOp2 idxD (mVar 7) (mC (.int 0)))) (mOp2 idxD (mVar 7) (mC (.int 2))))))
            (mPut 5 (mOp2 idxD (mVar 7) (mC (.int 1))) (mTmp [5] [] (mOp2 addD (mOp2 idxD (mVar 5) (mOp2 idxD (mVar 7) (mC (.int 1)))) (mOp2 idxD (mVar 7) (mC (.int 2)))))))))))
            (mSeq (mFor [8] (gN 8) (mRng rng1 (mCons (mCallB lenD (mCons (mVar 0) (mNil))) (mNil)))
            (mIf (mTmpT [4] [] (mCmp gtD (mOp2 idxD (mVar 4) (mVar 8)) (mOp2 idxD (mVar 0) (mVar 8))))
            (mRet (mC (.bl false)))
            (mSkip)))
            (mSeq (mFor [9] (gN 9) (mRng rng1 (mCons (mCallB lenD (mCons (mVar 1) (mNil))) (mNil)))
            (mIf (mTmpT [5] [] (mCmp gtD (mOp2 idxD (mVar 5) (mVar 9)) (mOp2 idxD (mVar 1) (mVar 9))))
            (mRet (mC (.bl false)))
            (mSkip)))
            (mRet (mC (.bl true)))))))))
def f__law_is_packing : FSem := fnSem [0, 0, 0, 0] 6 m__law_is_packing
/- _law_bent_lists: 0 places, 1 count, 2 number, 3 digits, 4 at, 5 bents, 6 k, 7 place -/
def m__law_bent_lists : MS :=
    mSeq (mSetF 3 (mCall [0, 0] f__law_digits [.ex (mVar 2), .ex (mLst (mCons (mOp2 addD (mCallB lenD (mCons (mVar 0) (mNil))) (mC (.int 1))) (mCons (mOp2 addD (mVar 1) (mC (.int 3))) (mCons (mOp2 addD (mCallB lenD (mCons (mVar 0) (mNil))) (mC (.int 1))) (mNil)))))]))
            (mSeq (mSetF 4 (mOp2 idxD (mVar 3) (mC (.int 0))))
            (mSeq (mSetF 5 (mLst (mCons (mOp2 addD (mSlice sliceD (mVar 0) (mONone) (mOSome (mVar 4))) (mSlice sliceD (mVar 0) (mOSome (mOp2 addD (mVar 4) (mC (.int 1)))) (mONone))) (mCons (mOp2 addD (mOp2 addD (mSlice sliceD (mVar 0) (mONone) (mOSome (mVar 4))) (mLst (mCons (mOp2 subD (mOp2 idxD (mVar 3) (mC (.int 1))) (mC (.int 1))) (mNil)))) (mSlice sliceD (mVar 0) (mOSome (mVar 4)) (mONone))) (mCons (mOp2 addD (mVar 0) (mLst (mCons (mVar 1) (mNil)))) (mCons (mOp2 addD (mLst (mCons (mOp1 negD (mC (.int 1))) (mNil))) (mVar 0)) (mNil)))))))
            (mSeq (mSetF 5 (mOp2 addD (mVar 5) (mLst (mCons (mOp2 addD (mVar 0) (mSlice sliceD (mVar 0) (mONone) (mOSome (mC (.int 1))))) (mCons (mComp [6] (gN 6) (mRng rng1 (mCons (mCallB lenD (mCons (mVar 0) (mNil))) (mNil))) (mYes) (mOp2 idxD (mVar 0) (mOp2 subD (mOp2 subD (mCallB lenD (mCons (mVar 0) (mNil))) (mC (.int 1))) (mVar 6)))) (mCons (mCallB tupleD (mCons (mVar 0) (mNil))) (mCons (mC .non) (mNil))))))))
            (mSeq (mSetF 5 (mOp2 addD (mVar 5) (mLst (mCons (mOp1 sortSetD (mOp2 addD (mVar 0) (mLst (mCons (mOp2 modD (mCallB intD (mCons (mOp2 idxD (mVar 3) (mC (.int 1))) (mNil))) (mCallB maxD (mCons (mC (.int 1)) (mCons (mVar 1) (mNil))))) (mNil))))) (mCons (mComp [7] (gN 7) (mItems (mVar 0)) (mYes) (mBool (mCmp eqD (mVar 7) (mC (.int 1))))) (mCons (mLst (mCons (mVar 0) (mNil))) (mCons (mC (.int 3)) (mNil))))))))
            (mSeq (mSetF 5 (mOp2 addD (mVar 5) (mLst (mCons (mComp [7] (gN 7) (mItems (mVar 0)) (mYes) (mCallB strD (mCons (mVar 7) (mNil)))) (mCons (mOp1 lstRgD (mVar 1)) (mCons (mSlice sliceD (mVar 0) (mOSome (mC (.int 1))) (mONone)) (mCons (mC (.str "")) (mCons (mLst (mCons (mC .non) (mNil))) (mCons (mOp2 addD (mVar 0) (mLst (mCons (mC .non) (mNil)))) (mNil))))))))))
            (mRet (mVar 5)))))))
def f__law_bent_lists : FSem := fnSem [0, 0, 0] 5 m__law_bent_lists
/- _law_bent_covers: 0 lefts, 1 rights, 2 cover, 3 number, 4 bents, 5 bent -/
def m__law_bent_covers : MS :=
    mSeq (mSetF 4 (mComp [5] (gN 5) (mItems (mCall [0, 0, 0] f__law_bent_lists [.ex (mOp2 idxD (mVar 2) (mC (.int 0))), .ex (mCallB lenD (mCons (mVar 0) (mNil))), .ex (mVar 3)])) (mYes) (mTup (mCons (mVar 5) (mCons (mOp2 idxD (mVar 2) (mC (.int 1))) (mNil))))))
            (mSeq (mSetF 4 (mOp2 addD (mVar 4) (mComp [5] (gN 5) (mItems (mCall [0, 0, 0] f__law_bent_lists [.ex (mOp2 idxD (mVar 2) (mC (.int 1))), .ex (mCallB lenD (mCons (mVar 1) (mNil))), .ex (mOp2 fdivD (mVar 3) (mC (.int 7919)))])) (mYes) (mTup (mCons (mOp2 idxD (mVar 2) (mC (.int 0))) (mCons (mVar 5) (mNil)))))))
            (mRet (mOp2 addD (mVar 4) (mLst (mCons (mCallB listD (mCons (mVar 2) (mNil))) (mCons (mOp2 addD (mVar 2) (mTup (mCons (mLst (mNil)) (mNil)))) (mCons (mSlice sliceD (mVar 2) (mONone) (mOSome (mC (.int 1)))) (mCons (mTup (mNil)) (mCons (mC .non) (mCons (mTup (mCons (mOp2 idxD (mVar 2) (mC (.int 1))) (mCons (mOp2 idxD (mVar 2) (mC (.int 0))) (mNil)))) (mCons (mLst (mCons (mVar 2) (mNil))) (mCons (mC (.bl true)) (mNil)))))))))))))
def f__law_bent_covers : FSem := fnSem [0, 0, 0, 0] 2 m__law_bent_covers
/- _law_bent_packings: 0 lefts, 1 rights, 2 packing, 3 number, 4 digits, 5 at, 6 extra, 7 bents, 8 i, 9 j, 10 amount, 11 place, 12 triple, 13 k -/
def m__law_bent_packings : MS :=
    mSeq (mSetF 4 (mCall [0, 0] f__law_digits [.ex (mVar 3), .ex (mLst (mCons (mOp2 addD (mCallB lenD (mCons (mVar 2) (mNil))) (mC (.int 1))) (mCons (mCallB maxD (mCons (mC (.int 1)) (mCons (mCallB lenD (mCons (mVar 0) (mNil))) (mNil)))) (mCons (mCallB maxD (mCons (mC (.int 1)) (mCons (mCallB lenD (mCons (mVar 1) (mNil))) (mNil)))) (mCons (mC (.int 1000)) (mCons (mOp2 addD (mCallB lenD (mCons (mVar 2) (mNil))) (mC (.int 1))) (mNil)))))))]))
            (mSeq (mSetF 5 (mOp2 idxD (mVar 4) (mC (.int 0))))
            (mSeq (mSetF 6 (mTup (mCons (mOp2 idxD (mVar 4) (mC (.int 1))) (mCons (mOp2 idxD (mVar 4) (mC (.int 2))) (mCons (mOp2 addD (mC (.int 1)) (mOp2 idxD (mVar 4) (mC (.int 3)))) (mNil))))))
            (mSeq (mSet 7 (mLst (mCons (mOp2 addD (mSlice sliceD (mVar 2) (mONone) (mOSome (mVar 5))) (mSlice sliceD (mVar 2) (mOSome (mOp2 addD (mVar 5) (mC (.int 1)))) (mONone))) (mCons (mOp2 addD (mOp2 addD (mSlice sliceD (mVar 2) (mONone) (mOSome (mVar 5))) (mLst (mCons (mVar 6) (mNil)))) (mSlice sliceD (mVar 2) (mOSome (mVar 5)) (mONone))) (mCons (mOp2 addD (mVar 2) (mSlice sliceD (mVar 2) (mONone) (mOSome (mC (.int 1))))) (mCons (mCallB tupleD (mCons (mVar 2) (mNil))) (mNil)))))))
            (mSeq (mSet 7 (mFrz [7] (mOp2 addD (mVar 7) (mLst (mCons (mComp [13] (gN 13) (mRng rng1 (mCons (mCallB lenD (mCons (mVar 2) (mNil))) (mNil))) (mYes) (mOp2 idxD (mVar 2) (mOp2 subD (mOp2 subD (mCallB lenD (mCons (mVar 2) (mNil))) (mC (.int 1))) (mVar 13)))) (mCons (mLst (mCons (mVar 6) (mNil))) (mCons (mLst (mCons (mTup (mCons (mOp2 idxD (mVar 4) (mC (.int 1))) (mCons (mOp2 idxD (mVar 4) (mC (.int 2))) (mCons (mC (.int 1)) (mNil))))) (mNil))) (mNil))))))))
            (mSeq (mSet 7 (mFrz [7] (mOp2 addD (mVar 7) (mLst (mCons (mComp [12] (gN 12) (mItems (mVar 2)) (mYes) (mCallB listD (mCons (mVar 12) (mNil)))) (mCons (mComp [12] (gN 12) (mItems (mVar 2)) (mYes) (mSlice sliceD (mVar 12) (mONone) (mOSome (mC (.int 2))))) (mCons (mC .non) (mCons (mLst (mCons (mC .non) (mNil))) (mCons (mC (.bl true)) (mCons (mC (.str "")) (mNil)))))))))))
            (mSeq (mSet 7 (mFrz [7] (mOp2 addD (mVar 7) (mLst (mCons (mComp [12] (gN 12) (mItems (mVar 2)) (mYes) (mOp2 addD (mVar 12) (mTup (mCons (mC (.int 1)) (mNil))))) (mCons (mOp2 addD (mVar 2) (mLst (mCons (mTup (mCons (mCallB lenD (mCons (mVar 0) (mNil))) (mCons (mC (.int 0)) (mCons (mC (.int 1)) (mNil))))) (mNil)))) (mCons (mOp2 addD (mVar 2) (mLst (mCons (mTup (mCons (mC (.int 0)) (mCons (mCallB lenD (mCons (mVar 1) (mNil))) (mCons (mC (.int 1)) (mNil))))) (mNil)))) (mNil))))))))
            (mSeq (mIf (mTru (mVar 2))
            (mSeq (mAsgG (gT [8, 9, 10]) (mOp2 idxD (mVar 2) (mOp2 modD (mCallB intD (mCons (mOp2 idxD (mVar 4) (mC (.int 4))) (mNil))) (mCallB lenD (mCons (mVar 2) (mNil))))))
            (mSeq (mSetF 11 (mMeth (isTy "list") indexD (mVar 2) (mCons (mTup (mCons (mVar 8) (mCons (mVar 9) (mCons (mVar 10) (mNil))))) (mNil))))
            (mSeq (mFor [12] (gN 12) (mItems (mLst (mCons (mTup (mCons (mVar 8) (mCons (mVar 9) (mCons (mOp2 addD (mVar 10) (mC (.int 1))) (mNil))))) (mCons (mTup (mCons (mVar 8) (mCons (mVar 9) (mCons (mOp2 subD (mVar 10) (mC (.int 1))) (mNil))))) (mCons (mTup (mCons (mVar 8) (mCons (mVar 9) (mCons (mC (.int 0)) (mNil))))) (mCons (mTup (mCons (mVar 8) (mCons (mVar 9) (mCons (mOp1 negD (mC (.int 1))) (mNil))))) (mCons (mTup (mCons (mVar 8) (mCons (mVar 9) (mCons (mC (.bl true)) (mNil))))) (mCons (mTup (mCons (mVar 8) (mCons (mVar 9) (mCons (mC .non) (mNil))))) (mNil)))))))))
            (mApp 7 (mOp2 addD (mOp2 addD (mSlice sliceD (mVar 2) (mONone) (mOSome (mVar 11))) (mLst (mCons (mVar 12) (mNil)))) (mSlice sliceD (mVar 2) (mOSome (mOp2 addD (mVar 11) (mC (.int 1)))) (mONone)))))
            (mSeq (mFor [12] (gN 12) (mItems (mLst (mCons (mTup (mCons (mVar 9) (mCons (mVar 8) (mCons (mVar 10) (mNil))))) (mCons (mTup (mCons (mOp1 negD (mC (.int 1))) (mCons (mVar 9) (mCons (mVar 10) (mNil))))) (mCons (mTup (mCons (mVar 8) (mCons (mOp1 negD (mC (.int 1))) (mCons (mVar 10) (mNil))))) (mCons (mTup (mCons (mVar 8) (mCons (mVar 9) (mCons (mC (.int 1000)) (mNil))))) (mCons (mTup (mCons (mBool (mCmp eqD (mVar 8) (mC (.int 1)))) (mCons (mVar 9) (mCons (mVar 10) (mNil))))) (mCons (mTup (mCons (mVar 8) (mCons (mC (.str "1")) (mCons (mC (.int 1)) (mNil))))) (mNil)))))))))
            (mApp 7 (mOp2 addD (mOp2 addD (mSlice sliceD (mVar 2) (mONone) (mOSome (mVar 11))) (mLst (mCons (mVar 12) (mNil)))) (mSlice sliceD (mVar 2) (mOSome (mOp2 addD (mVar 11) (mC (.int 1)))) (mONone)))))
            (mApp 7 (mOp2 addD (mOp2 addD (mSlice sliceD (mVar 2) (mONone) (mOSome (mVar 11))) (mLst (mCons (mTup (mCons (mVar 8) (mCons (mVar 9) (mCons (mVar 10) (mNil))))) (mCons (mTup (mCons (mVar 8) (mCons (mVar 9) (mCons (mVar 10) (mNil))))) (mNil))))) (mSlice sliceD (mVar 2) (mOSome (mOp2 addD (mVar 11) (mC (.int 1)))) (mONone))))))))
            (mSkip))
            (mRet (mMove 7)))))))))
def f__law_bent_packings : FSem := fnSem [0, 0, 0, 0] 10 m__law_bent_packings
/- law: 0 script, 1 lefts, 2 rights, 3 pairs, 4 passed, 5 cover, 6 packing, 7 weight, 8 bent, 9 told, 10 i, 11 j -/
def m_law : MS :=
    mSeq (mAsgG (gT [1, 2, 3]) (mCall [0] f__law_draw [.ex (mVar 0)]))
            (mSeq (mSetF 4 (mLst (mCons (mCallB listD (mCons (mVar 1) (mNil))) (mCons (mCallB listD (mCons (mVar 2) (mNil))) (mCons (mCallB listD (mCons (mVar 3) (mNil))) (mNil))))))
            (mSeq (mSetF 5 (mCall [0, 0, 0] f__law_cover [.ex (mVar 2), .ex (mVar 3), .ex (mCall [0, 0] f__law_number [.ex (mVar 0), .ex (mC (.int 49))])]))
            (mSeq (mSetF 6 (mCall [0, 0, 0, 0] f__law_packing [.ex (mVar 1), .ex (mVar 2), .ex (mVar 3), .ex (mCall [0, 0] f__law_number [.ex (mVar 0), .ex (mC (.int 50))])]))
            (mSeq (mSetF 7 (mOp2 addD (mCallB sumD (mCons (mComp [10] (gN 10) (mItems (mOp2 idxD (mVar 5) (mC (.int 0)))) (mYes) (mOp2 idxD (mVar 1) (mVar 10))) (mNil))) (mCallB sumD (mCons (mComp [11] (gN 11) (mItems (mOp2 idxD (mVar 5) (mC (.int 1)))) (mYes) (mOp2 idxD (mVar 2) (mVar 11))) (mNil)))))
            (mSeq (mIf (mNot (mTru (mCall [0, 0] (f__law_same 6) [.ex (mCall [0, 0, 0] f_cover_weight [.ex (mOp2 idxD (mVar 4) (mC (.int 0))), .ex (mOp2 idxD (mVar 4) (mC (.int 1))), .ex (mTup (mCons (mCallB listD (mCons (mOp2 idxD (mVar 5) (mC (.int 0))) (mNil))) (mCons (mCallB listD (mCons (mOp2 idxD (mVar 5) (mC (.int 1))) (mNil))) (mNil))))]), .ex (mVar 7)])))
            (mRet (mC (.bl false)))
            (mSkip))
            (mSeq (mIf (mCmp isntD (mCall [0, 0, 0, 0] f_is_pair_cover [.ex (mOp2 idxD (mVar 4) (mC (.int 0))), .ex (mOp2 idxD (mVar 4) (mC (.int 1))), .ex (mOp2 idxD (mVar 4) (mC (.int 2))), .ex (mVar 5)]) (mC (.bl true)))
            (mRet (mC (.bl false)))
            (mSkip))
            (mSeq (mIf (mCmp isntD (mCall [0, 0, 0, 0] f_is_pair_packing [.ex (mOp2 idxD (mVar 4) (mC (.int 0))), .ex (mOp2 idxD (mVar 4) (mC (.int 1))), .ex (mOp2 idxD (mVar 4) (mC (.int 2))), .ex (mCallB listD (mCons (mVar 6) (mNil)))]) (mC (.bl true)))
            (mRet (mC (.bl false)))
            (mSkip))
            (mSeq (mFor [8] (gN 8) (mItems (mCall [0, 0, 0, 0] f__law_bent_covers [.ex (mVar 1), .ex (mVar 2), .ex (mVar 5), .ex (mCall [0, 0] f__law_number [.ex (mVar 0), .ex (mC (.int 51))])]))
            (mIf (mNot (mTru (mCall [0, 0] (f__law_same 6) [.ex (mCall [0, 0, 0, 0] f_is_pair_cover [.ex (mOp2 idxD (mVar 4) (mC (.int 0))), .ex (mOp2 idxD (mVar 4) (mC (.int 1))), .ex (mOp2 idxD (mVar 4) (mC (.int 2))), .ex (mVar 8)]), .ex (mCall [0, 0, 0, 0] f__law_is_cover [.ex (mVar 1), .ex (mVar 2), .ex (mVar 3), .ex (mVar 8)])])))
            (mRet (mC (.bl false)))
            (mSkip)))
            (mSeq (mFor [8, 9] (gN 8) (mItems (mCall [0, 0, 0, 0] f__law_bent_packings [.ex (mVar 1), .ex (mVar 2), .ex (mVar 6), .ex (mCall [0, 0] f__law_number [.ex (mVar 0), .ex (mC (.int 52))])]))
            (mSeq (mSetF 9 (mCall [0, 0, 0, 0] f_is_pair_packing [.ex (mOp2 idxD (mVar 4) (mC (.int 0))), .ex (mOp2 idxD (mVar 4) (mC (.int 1))), .ex (mOp2 idxD (mVar 4) (mC (.int 2))), .ex (mVar 8)]))
            (mIf (mNot (mTru (mCall [0, 0] (f__law_same 6) [.ex (mVar 9), .ex (mCall [0, 0, 0, 0] f__law_is_packing [.ex (mVar 1), .ex (mVar 2), .ex (mVar 3), .ex (mVar 8)])])))
            (mRet (mC (.bl false)))
            (mSkip))))
            (mRet (mCall [0, 0] (f__law_same 6) [.ex (mVar 4), .ex (mLst (mCons (mVar 1) (mCons (mVar 2) (mCons (mVar 3) (mNil)))))])))))))))))
def f_law : FSem := fnSem [0] 11 m_law
/-! ### what the top has written -/
structure Txt (K : PySem.W.Frag) (mg : Str → Option Value) : Prop where
  h_is_whole : FHas K mg "is_whole" s_is_whole ["x", "least", "greatest"]
  h_is_row : FHas K mg "is_row" s_is_row ["x", "size"]
  h_are_places : FHas K mg "are_places" s_are_places ["count", "places"]
  h_is_pair_cover : FHas K mg "is_pair_cover" s_is_pair_cover ["lefts", "rights", "pairs", "cover"]
  h_cover_weight : FHas K mg "cover_weight" s_cover_weight ["lefts", "rights", "cover"]
  h_is_triple : FHas K mg "is_triple" s_is_triple ["lefts", "rights", "pairs", "triple"]
  h_is_pair_packing : FHas K mg "is_pair_packing" s_is_pair_packing ["lefts", "rights", "pairs", "packing"]
  h__law_number : FHas K mg "_law_number" s__law_number ["script", "k"]
  h__law_digits : FHas K mg "_law_digits" s__law_digits ["number", "sizes"]
  h__law_same : FHas K mg "_law_same" s__law_same ["told", "due"]
  h__law_whole : FHas K mg "_law_whole" s__law_whole ["x"]
  h__law_draw : FHas K mg "_law_draw" s__law_draw ["script"]
  h__law_cover : FHas K mg "_law_cover" s__law_cover ["rights", "pairs", "number"]
  h__law_packing : FHas K mg "_law_packing" s__law_packing ["lefts", "rights", "pairs", "number"]
  h__law_places : FHas K mg "_law_places" s__law_places ["places", "count"]
  h__law_is_cover : FHas K mg "_law_is_cover" s__law_is_cover ["lefts", "rights", "pairs", "cover"]
  h__law_is_packing : FHas K mg "_law_is_packing" s__law_is_packing ["lefts", "rights", "pairs", "packing"]
  h__law_bent_lists : FHas K mg "_law_bent_lists" s__law_bent_lists ["places", "count", "number"]
  h__law_bent_covers : FHas K mg "_law_bent_covers" s__law_bent_covers ["lefts", "rights", "cover", "number"]
  h__law_bent_packings : FHas K mg "_law_bent_packings" s__law_bent_packings ["lefts", "rights", "packing", "number"]
  b_bool : mg "bool" = none
  b_int : mg "int" = none
  b_isinstance : mg "isinstance" = none
  b_len : mg "len" = none
  b_list : mg "list" = none
  b_max : mg "max" = none
  b_min : mg "min" = none
  b_range : mg "range" = none
  b_set : mg "set" = none
  b_sorted : mg "sorted" = none
  b_str : mg "str" = none
  b_sum : mg "sum" = none
  b_tuple : mg "tuple" = none
section
variable {P : Program} {w : World} {K : PySem.W.Frag} {mg : Str → Option Value} {base : Heap}
theorem sc_is_whole : FnScope ["x", "least", "greatest"] ["x", "least", "greatest"] (defScope s_is_whole) := ⟨rfl, rfl, rfl, by decide +kernel, rfl, by decide +kernel, by decide +kernel⟩
theorem nx_is_whole : ∀ (ds : List D) (x : Exc) (ds' : List D), f_is_whole ds ≠ .exc x ds' := fnSem_noexc [0, 0, 0] 0 m_is_whole
theorem fd_is_whole (T : Txt K mg) : FnD P w K mg base 1 "is_whole" [0, 0, 0] f_is_whole := by
  obtain ⟨fa, fd, F, hb, hm, hk⟩ := T.h_is_whole.ex
  have nd := (sc_is_whole).nd
  refine ⟨fa, fd, _, fn_ok (A := []) (k := 0) F sc_is_whole rfl 0 rfl ?hA (fun cdv Ar outer s H E hr => ?hB), hb, hm, hk⟩
  case hB =>
    have hu := hr.units
    exact dss_one (ds_ret (de_db (db_bop (dbs_and (db_of (de_callB call_isInstDD (by rfl) T.b_isinstance (by decide +kernel) (da_cons (de_var (pv 0)) (da_cons (de_ty (by rfl) T.b_int (by decide +kernel)) (da_nil))))) (dbs_and (db_not (db_of (de_callB call_isInstDD (by rfl) T.b_isinstance (by decide +kernel) (da_cons (de_var (pv 0)) (da_cons (de_ty (by rfl) T.b_bool (by decide +kernel)) (da_nil)))))) (dbs_one (db_chain (op_leD hu) (op_leD hu) (de_var (pv 1)) (de_var (pv 0)) (de_var (pv 2)))))))))
  case hA => decide
theorem sc_is_row : FnScope ["x", "size"] ["x", "size"] (defScope s_is_row) := ⟨rfl, rfl, rfl, by decide +kernel, rfl, by decide +kernel, by decide +kernel⟩
theorem nx_is_row : ∀ (ds : List D) (x : Exc) (ds' : List D), f_is_row ds ≠ .exc x ds' := fnSem_noexc [0, 0] 0 m_is_row
theorem fd_is_row (T : Txt K mg) : FnD P w K mg base 1 "is_row" [0, 0] f_is_row := by
  obtain ⟨fa, fd, F, hb, hm, hk⟩ := T.h_is_row.ex
  have nd := (sc_is_row).nd
  refine ⟨fa, fd, _, fn_ok (A := []) (k := 0) F sc_is_row rfl 0 rfl ?hA (fun cdv Ar outer s H E hr => ?hB), hb, hm, hk⟩
  case hB =>
    have hu := hr.units
    exact dss_one (ds_ret (de_db (db_bop (dbs_and (db_of (de_callB call_isInstDD (by rfl) T.b_isinstance (by decide +kernel) (da_cons (de_var (pv 0)) (da_cons (de_ty (by rfl) T.b_tuple (by decide +kernel)) (da_nil))))) (dbs_one (db_cmp (op_eqDD hu) (de_callB call_lenDD (by rfl) T.b_len (by decide +kernel) (da_cons (de_var (pv 0)) (da_nil))) (de_var (pv 1))))))))
  case hA => decide
theorem sc_are_places : FnScope ["count", "places", "before", "place"] ["count", "places"] (defScope s_are_places) := ⟨rfl, rfl, rfl, by decide +kernel, rfl, by decide +kernel, by decide +kernel⟩
theorem nx_are_places : ∀ (ds : List D) (x : Exc) (ds' : List D), f_are_places ds ≠ .exc x ds' := fnSem_noexc [0, 0] 2 m_are_places
theorem fd_are_places (T : Txt K mg) : FnD P w K mg base 2 "are_places" [0, 0] f_are_places := by
  obtain ⟨fa, fd, F, hb, hm, hk⟩ := T.h_are_places.ex
  have nd := (sc_are_places).nd
  refine ⟨fa, fd, _, fn_ok (A := (([] ++ []) ++ ([2] ++ (([3] ++ (([] ++ []) ++ [2])) ++ [])))) (k := 1) F sc_are_places rfl 2 rfl ?hA (fun cdv Ar outer s H E hr => ?hB), hb, hm, hk⟩
  case hB =>
    have hu := hr.units
    exact dss_cons (ds_if (dt_not (dt_val (de_callB call_isInstDD (by rfl) T.b_isinstance (by decide +kernel) (da_cons (de_var (pv 1)) (da_cons (de_ty (by rfl) T.b_list (by decide +kernel)) (da_nil))))))
            (dss_one (ds_ret (de_bl)))
            (dss_nil))
            (dss_cons (ds_setF nd rfl (Or.inl rfl) (de_un un_negD (de_int)))
            (dss_cons (ds_for [3] PassesOwn.never rfl (di_seq (de_var (pv 1))) (dg_name nd rfl (Or.inl rfl))
            (dss_cons (ds_if (dt_not (dt_val (de_call (fd_is_whole T) nx_is_whole (hr.mono (by decide)) (by rfl) (dar_ex (de_var (pv 3)) (dar_ex (de_op op_addD (de_var (pv 2)) (de_int)) (dar_ex (de_op op_subD (de_var (pv 0)) (de_int)) (dar_nil)))))))
            (dss_one (ds_ret (de_bl)))
            (dss_nil))
            (dss_one (ds_setF nd rfl (Or.inl rfl) (de_var (pv 3))))))
            (dss_one (ds_ret (de_bl)))))
  case hA => decide
theorem sc_is_pair_cover : FnScope ["lefts", "rights", "pairs", "cover", "i", "j"] ["lefts", "rights", "pairs", "cover"] (defScope s_is_pair_cover) := ⟨rfl, rfl, rfl, by decide +kernel, rfl, by decide +kernel, by decide +kernel⟩
theorem nx_is_pair_cover : ∀ (ds : List D) (x : Exc) (ds' : List D), f_is_pair_cover ds ≠ .exc x ds' := fnSem_noexc [0, 0, 0, 0] 2 m_is_pair_cover
theorem fd_is_pair_cover (T : Txt K mg) : FnD P w K mg base 3 "is_pair_cover" [0, 0, 0, 0] f_is_pair_cover := by
  obtain ⟨fa, fd, F, hb, hm, hk⟩ := T.h_is_pair_cover.ex
  have nd := (sc_is_pair_cover).nd
  refine ⟨fa, fd, _, fn_ok (A := (([] ++ []) ++ (([] ++ []) ++ (([4, 5] ++ ([] ++ [])) ++ [])))) (k := 2) F sc_is_pair_cover rfl 2 rfl ?hA (fun cdv Ar outer s H E hr => ?hB), hb, hm, hk⟩
  case hB =>
    have hu := hr.units
    exact dss_cons (ds_if (dt_not (dt_val (de_call (fd_is_row T) nx_is_row (hr.mono (by decide)) (by rfl) (dar_ex (de_var (pv 3)) (dar_ex (de_int) (dar_nil))))))
            (dss_one (ds_ret (de_bl)))
            (dss_nil))
            (dss_cons (ds_if (dt_bop (dws_or (dt_not (dt_val (de_call (fd_are_places T) nx_are_places (hr.mono (by decide)) (by rfl) (dar_ex (de_callB call_lenDD (by rfl) T.b_len (by decide +kernel) (da_cons (de_var (pv 0)) (da_nil))) (dar_ex (de_ix (ix_D hu) (de_var (pv 3)) (de_int)) (dar_nil)))))) (dws_or1 (dt_not (dt_val (de_call (fd_are_places T) nx_are_places (hr.mono (by decide)) (by rfl) (dar_ex (de_callB call_lenDD (by rfl) T.b_len (by decide +kernel) (da_cons (de_var (pv 1)) (da_nil))) (dar_ex (de_ix (ix_D hu) (de_var (pv 3)) (de_int)) (dar_nil)))))))))
            (dss_one (ds_ret (de_bl)))
            (dss_nil))
            (dss_cons (ds_for [4, 5] PassesOwn.never rfl (di_seq (de_var (pv 2))) (dg_tup rfl (dgs_cons nd rfl (Or.inl rfl) (dgs_cons nd rfl (Or.inl rfl) dgs_nil)))
            (dss_one (ds_if (dt_bop (dws_and (dt_cmp (op_notInDD hu) (de_var (pv 4)) (de_ix (ix_D hu) (de_var (pv 3)) (de_int))) (dws_and1 (dt_cmp (op_notInDD hu) (de_var (pv 5)) (de_ix (ix_D hu) (de_var (pv 3)) (de_int))))))
            (dss_one (ds_ret (de_bl)))
            (dss_nil))))
            (dss_one (ds_ret (de_bl)))))
  case hA => decide
theorem sc_cover_weight : FnScope ["lefts", "rights", "cover", "i", "j"] ["lefts", "rights", "cover"] (defScope s_cover_weight) := ⟨rfl, rfl, rfl, by decide +kernel, rfl, by decide +kernel, by decide +kernel⟩
theorem nx_cover_weight : ∀ (ds : List D) (x : Exc) (ds' : List D), f_cover_weight ds ≠ .exc x ds' := fnSem_noexc [0, 0, 0] 2 m_cover_weight
theorem fd_cover_weight (T : Txt K mg) : FnD P w K mg base 1 "cover_weight" [0, 0, 0] f_cover_weight := by
  obtain ⟨fa, fd, F, hb, hm, hk⟩ := T.h_cover_weight.ex
  have nd := (sc_cover_weight).nd
  refine ⟨fa, fd, _, fn_ok (A := []) (k := 0) F sc_cover_weight rfl 2 rfl ?hA (fun cdv Ar outer s H E hr => ?hB), hb, hm, hk⟩
  case hB =>
    have hu := hr.units
    exact dss_one (ds_ret (de_op op_addD (de_callB (call_sumDD rfl) (by rfl) T.b_sum (by decide +kernel) (da_cons (de_comp rfl nd (di_seq (de_ix (ix_D hu) (de_var (pv 2)) (de_int))) (own := [("i", 3)]) (show BlkOk ["lefts", "rights", "cover", "i", "j"] (defScope s_cover_weight) _ _ from ⟨rfl, by decide +kernel, by decide +kernel, by decide +kernel, by decide +kernel⟩) (dgb_name fun _ _ _ _ _ => pg_name nd rfl (by first | exact Or.inl rfl | exact Or.inr rfl)) (by decide) (fun _ _ _ _ _ => dts_nil) (fun _ _ _ _ _ => de_ix (ix_D hu) (de_var (pv 0)) (de_var (pv 3)))) (da_nil))) (de_callB (call_sumDD rfl) (by rfl) T.b_sum (by decide +kernel) (da_cons (de_comp rfl nd (di_seq (de_ix (ix_D hu) (de_var (pv 2)) (de_int))) (own := [("j", 4)]) (show BlkOk ["lefts", "rights", "cover", "i", "j"] (defScope s_cover_weight) _ _ from ⟨rfl, by decide +kernel, by decide +kernel, by decide +kernel, by decide +kernel⟩) (dgb_name fun _ _ _ _ _ => pg_name nd rfl (by first | exact Or.inl rfl | exact Or.inr rfl)) (by decide) (fun _ _ _ _ _ => dts_nil) (fun _ _ _ _ _ => de_ix (ix_D hu) (de_var (pv 1)) (de_var (pv 4)))) (da_nil)))))
  case hA => decide
theorem sc_is_triple : FnScope ["lefts", "rights", "pairs", "triple"] ["lefts", "rights", "pairs", "triple"] (defScope s_is_triple) := ⟨rfl, rfl, rfl, by decide +kernel, rfl, by decide +kernel, by decide +kernel⟩
theorem nx_is_triple : ∀ (ds : List D) (x : Exc) (ds' : List D), f_is_triple ds ≠ .exc x ds' := fnSem_noexc [0, 0, 0, 0] 0 m_is_triple
theorem fd_is_triple (T : Txt K mg) : FnD P w K mg base 2 "is_triple" [0, 0, 0, 0] f_is_triple := by
  obtain ⟨fa, fd, F, hb, hm, hk⟩ := T.h_is_triple.ex
  have nd := (sc_is_triple).nd
  refine ⟨fa, fd, _, fn_ok (A := (([] ++ []) ++ (([] ++ []) ++ []))) (k := 1) F sc_is_triple rfl 0 rfl ?hA (fun cdv Ar outer s H E hr => ?hB), hb, hm, hk⟩
  case hB =>
    have hu := hr.units
    exact dss_cons (ds_if (dt_bop (dws_or (dt_not (dt_val (de_call (fd_is_row T) nx_is_row (hr.mono (by decide)) (by rfl) (dar_ex (de_var (pv 3)) (dar_ex (de_int) (dar_nil)))))) (dws_or1 (dt_not (dt_val (de_call (fd_is_whole T) nx_is_whole (hr.mono (by decide)) (by rfl) (dar_ex (de_ix (ix_D hu) (de_var (pv 3)) (de_int)) (dar_ex (de_int) (dar_ex (de_op op_subD (de_callB call_lenDD (by rfl) T.b_len (by decide +kernel) (da_cons (de_var (pv 0)) (da_nil))) (de_int)) (dar_nil))))))))))
            (dss_one (ds_ret (de_bl)))
            (dss_nil))
            (dss_cons (ds_if (dt_bop (dws_or (dt_not (dt_val (de_call (fd_is_whole T) nx_is_whole (hr.mono (by decide)) (by rfl) (dar_ex (de_ix (ix_D hu) (de_var (pv 3)) (de_int)) (dar_ex (de_int) (dar_ex (de_op op_subD (de_callB call_lenDD (by rfl) T.b_len (by decide +kernel) (da_cons (de_var (pv 1)) (da_nil))) (de_int)) (dar_nil))))))) (dws_or1 (dt_cmp (op_notInDD hu) (de_tup (da_cons (de_ix (ix_D hu) (de_var (pv 3)) (de_int)) (da_cons (de_ix (ix_D hu) (de_var (pv 3)) (de_int)) (da_nil)))) (de_var (pv 2))))))
            (dss_one (ds_ret (de_bl)))
            (dss_nil))
            (dss_one (ds_ret (de_call (fd_is_whole T) nx_is_whole (hr.mono (by decide)) (by rfl) (dar_ex (de_ix (ix_D hu) (de_var (pv 3)) (de_int)) (dar_ex (de_int) (dar_ex (de_callB (call_minDD rfl) (by rfl) T.b_min (by decide +kernel) (da_cons (de_ix (ix_D hu) (de_var (pv 0)) (de_ix (ix_D hu) (de_var (pv 3)) (de_int))) (da_cons (de_ix (ix_D hu) (de_var (pv 1)) (de_ix (ix_D hu) (de_var (pv 3)) (de_int))) (da_nil)))) (dar_nil))))))))
  case hA => decide
theorem sc_is_pair_packing : FnScope ["lefts", "rights", "pairs", "packing", "left_rest", "right_rest", "before", "triple"] ["lefts", "rights", "pairs", "packing"] (defScope s_is_pair_packing) := ⟨rfl, rfl, rfl, by decide +kernel, rfl, by decide +kernel, by decide +kernel⟩
theorem nx_is_pair_packing : ∀ (ds : List D) (x : Exc) (ds' : List D), f_is_pair_packing ds ≠ .exc x ds' := fnSem_noexc [0, 0, 0, 0] 4 m_is_pair_packing
theorem fd_is_pair_packing (T : Txt K mg) : FnD P w K mg base 3 "is_pair_packing" [0, 0, 0, 0] f_is_pair_packing := by
  obtain ⟨fa, fd, F, hb, hm, hk⟩ := T.h_is_pair_packing.ex
  have nd := (sc_is_pair_packing).nd
  refine ⟨fa, fd, _, fn_ok (A := (([] ++ []) ++ ([4] ++ ([5] ++ ([6] ++ (([7] ++ (([] ++ []) ++ ([6] ++ ([] ++ [])))) ++ [])))))) (k := 2) F sc_is_pair_packing rfl 4 rfl ?hA (fun cdv Ar outer s H E hr => ?hB), hb, hm, hk⟩
  case hB =>
    have hu := hr.units
    exact dss_cons (ds_if (dt_not (dt_val (de_callB call_isInstDD (by rfl) T.b_isinstance (by decide +kernel) (da_cons (de_var (pv 3)) (da_cons (de_ty (by rfl) T.b_list (by decide +kernel)) (da_nil))))))
            (dss_one (ds_ret (de_bl)))
            (dss_nil))
            (dss_cons (ds_set nd rfl (Or.inl rfl) (de_callTy call_listDD (by rfl) T.b_list (by decide +kernel) (da_cons (de_var (pv 0)) (da_nil))))
            (dss_cons (ds_set nd rfl (Or.inl rfl) (de_callTy call_listDD (by rfl) T.b_list (by decide +kernel) (da_cons (de_var (pv 1)) (da_nil))))
            (dss_cons (ds_setF nd rfl (Or.inl rfl) (de_tup (da_cons (de_un un_negD (de_int)) (da_cons (de_un un_negD (de_int)) (da_nil)))))
            (dss_cons (ds_for [7] PassesOwn.never rfl (di_seq (de_var (pv 3))) (dg_name nd rfl (Or.inl rfl))
            (dss_cons (ds_if (dt_bop (dws_or (dt_not (dt_val (de_call (fd_is_triple T) nx_is_triple (hr.mono (by decide)) (by rfl) (dar_ex (de_var (pv 0)) (dar_ex (de_var (pv 1)) (dar_ex (de_var (pv 2)) (dar_ex (de_var (pv 7)) (dar_nil)))))))) (dws_or1 (dt_cmp (op_leD hu) (de_tup (da_cons (de_ix (ix_D hu) (de_var (pv 7)) (de_int)) (da_cons (de_ix (ix_D hu) (de_var (pv 7)) (de_int)) (da_nil)))) (de_var (pv 6))))))
            (dss_one (ds_ret (de_bl)))
            (dss_nil))
            (dss_cons (ds_setF nd rfl (Or.inl rfl) (de_tup (da_cons (de_ix (ix_D hu) (de_var (pv 7)) (de_int)) (da_cons (de_ix (ix_D hu) (de_var (pv 7)) (de_int)) (da_nil)))))
            (dss_cons (ds_put hu (pv 4) (de_ix (ix_D hu) (de_var (pv 7)) (de_int)) (de_tmp [4] [] (de_op op_subD (de_ix (ix_D hu) (de_var (pv 4)) (de_ix (ix_D hu) (de_var (pv 7)) (de_int))) (de_ix (ix_D hu) (de_var (pv 7)) (de_int)))))
            (dss_one (ds_put hu (pv 5) (de_ix (ix_D hu) (de_var (pv 7)) (de_int)) (de_tmp [5] [] (de_op op_subD (de_ix (ix_D hu) (de_var (pv 5)) (de_ix (ix_D hu) (de_var (pv 7)) (de_int))) (de_ix (ix_D hu) (de_var (pv 7)) (de_int))))))))))
            (dss_one (ds_ret (de_frz [4, 5] (de_db (db_bop (dbs_and (db_cmp op_geD (de_minDef rfl (by rfl) T.b_min (de_var (pv 4)) (de_int)) (de_int)) (dbs_one (db_cmp op_geD (de_minDef rfl (by rfl) T.b_min (de_var (pv 5)) (de_int)) (de_int)))))))))))))
  case hA => decide
theorem sc__law_number : FnScope ["script", "k", "cell", "first", "second"] ["script", "k"] (defScope s__law_number) := ⟨rfl, rfl, rfl, by decide +kernel, rfl, by decide +kernel, by decide +kernel⟩
theorem nx__law_number : ∀ (ds : List D) (x : Exc) (ds' : List D), f__law_number ds ≠ .exc x ds' := fnSem_noexc [0, 0] 3 m__law_number
theorem fd__law_number (T : Txt K mg) : FnD P w K mg base 1 "_law_number" [0, 0] f__law_number := by
  obtain ⟨fa, fd, F, hb, hm, hk⟩ := T.h__law_number.ex
  have nd := (sc__law_number).nd
  refine ⟨fa, fd, _, fn_ok (A := ([2] ++ (([2] ++ []) ++ (([] ++ []) ++ ([3] ++ ([4] ++ [])))))) (k := 0) F sc__law_number rfl 3 rfl ?hA (fun cdv Ar outer s H E hr => ?hB), hb, hm, hk⟩
  case hB =>
    have hu := hr.units
    exact dss_cons (ds_setF nd rfl (Or.inl rfl) (de_int))
            (dss_cons (ds_if (dt_cmp op_ltD (de_var (pv 1)) (de_callB call_lenDD (by rfl) T.b_len (by decide +kernel) (da_cons (de_var (pv 0)) (da_nil))))
            (dss_one (ds_setF nd rfl (Or.inl rfl) (de_callTy call_intDD (by rfl) T.b_int (by decide +kernel) (da_cons (de_ix (ix_D hu) (de_var (pv 0)) (de_var (pv 1))) (da_nil)))))
            (dss_nil))
            (dss_cons (ds_if (dt_cmp op_geD (de_var (pv 2)) (de_op op_powD (de_int) (de_int)))
            (dss_one (ds_ret (de_op op_subD (de_var (pv 2)) (de_op op_powD (de_int) (de_int)))))
            (dss_nil))
            (dss_cons (ds_setF nd rfl (Or.inl rfl) (de_op op_modD (de_callTy call_intDD (by rfl) T.b_int (by decide +kernel) (da_cons (de_op op_addD (de_op op_addD (de_op op_mulD (de_var (pv 2)) (de_int)) (de_op op_mulD (de_var (pv 1)) (de_int))) (de_int)) (da_nil))) (de_int)))
            (dss_cons (ds_setF nd rfl (Or.inl rfl) (de_op op_modD (de_callTy call_intDD (by rfl) T.b_int (by decide +kernel) (da_cons (de_op op_addD (de_op op_addD (de_op op_mulD (de_var (pv 3)) (de_var (pv 3))) (de_op op_mulD (de_var (pv 1)) (de_int))) (de_int)) (da_nil))) (de_int)))
            (dss_one (ds_ret (de_op op_addD (de_op op_mulD (de_var (pv 4)) (de_int)) (de_var (pv 3)))))))))
  case hA => decide
theorem sc__law_digits : FnScope ["number", "sizes", "digits", "size"] ["number", "sizes"] (defScope s__law_digits) := ⟨rfl, rfl, rfl, by decide +kernel, rfl, by decide +kernel, by decide +kernel⟩
theorem nx__law_digits : ∀ (ds : List D) (x : Exc) (ds' : List D), f__law_digits ds ≠ .exc x ds' := fnSem_noexc [0, 0] 2 m__law_digits
theorem fd__law_digits (T : Txt K mg) : FnD P w K mg base 1 "_law_digits" [0, 0] f__law_digits := by
  obtain ⟨fa, fd, F, hb, hm, hk⟩ := T.h__law_digits.ex
  have nd := (sc__law_digits).nd
  refine ⟨fa, fd, _, fn_ok (A := ([2] ++ (([3] ++ ([] ++ [0])) ++ []))) (k := 0) F sc__law_digits rfl 2 rfl ?hA (fun cdv Ar outer s H E hr => ?hB), hb, hm, hk⟩
  case hB =>
    have hu := hr.units
    exact dss_cons (ds_set nd rfl (Or.inl rfl) (de_lst (da_nil)))
            (dss_cons (ds_for [3] PassesOwn.never rfl (di_seq (de_var (pv 1))) (dg_name nd rfl (Or.inl rfl))
            (dss_cons (ds_app (pv 2) (de_op op_modD (de_callTy call_intDD (by rfl) T.b_int (by decide +kernel) (da_cons (de_var (pv 0)) (da_nil))) (de_var (pv 3))))
            (dss_one (ds_setF nd rfl (Or.inl rfl) (de_op op_fdivD (de_var (pv 0)) (de_var (pv 3)))))))
            (dss_one (ds_ret (de_move (pv 2)))))
  case hA => decide
theorem sc__law_same : FnScope ["told", "due", "k"] ["told", "due"] (defScope s__law_same) := ⟨rfl, rfl, rfl, by decide +kernel, rfl, by decide +kernel, by decide +kernel⟩
theorem nx__law_same : ∀ (n : Nat) (ds : List D) (x : Exc) (ds' : List D), f__law_same n ds ≠ .exc x ds'
  | 0, _, _, _ => by intro h; cases h
  | n + 1, ds, x, ds' => fnSem_noexc [0, 0] 1 (m__law_same (f__law_same n)) ds x ds'
theorem fd__law_same (T : Txt K mg) : ∀ n : Nat, FnD P w K mg base (n + 1) "_law_same" [0, 0] (f__law_same n)
  | 0 => by
    obtain ⟨fa, fd, F, hb, hm, hk⟩ := T.h__law_same.ex
    exact ⟨fa, fd, _, fnD_stuck rfl, hb, hm, hk⟩
  | n + 1 => by
    have C : FnD P w K mg base (n + 1) "_law_same" [0, 0] (f__law_same n) := fd__law_same T n
    have nx := nx__law_same n
    obtain ⟨fa, fd, F, hb, hm, hk⟩ := T.h__law_same.ex
    have nd := (sc__law_same).nd
    refine ⟨fa, fd, _, fn_ok (A := (((([] ++ []) ++ (([] ++ []) ++ (([] ++ []) ++ (([2] ++ ([] ++ [])) ++ [])))) ++ []) ++ (([] ++ []) ++ (([] ++ []) ++ (([] ++ []) ++ []))))) F sc__law_same rfl 1 rfl ?hA (fun cdv Ar outer s H E hr => ?hB), hb, hm, hk⟩
    case hB =>
      have hu := hr.units
      exact dss_cons (ds_if (dt_val (de_callB call_isInstDD (by rfl) T.b_isinstance (by decide +kernel) (da_cons (de_var (pv 1)) (da_cons (de_tup (da_cons (de_ty (by rfl) T.b_list (by decide +kernel)) (da_cons (de_ty (by rfl) T.b_tuple (by decide +kernel)) (da_nil)))) (da_nil)))))
            (dss_cons (ds_if (dt_bop (dws_and (dt_val (de_callB call_isInstDD (by rfl) T.b_isinstance (by decide +kernel) (da_cons (de_var (pv 1)) (da_cons (de_ty (by rfl) T.b_list (by decide +kernel)) (da_nil))))) (dws_and1 (dt_not (dt_val (de_callB call_isInstDD (by rfl) T.b_isinstance (by decide +kernel) (da_cons (de_var (pv 0)) (da_cons (de_ty (by rfl) T.b_list (by decide +kernel)) (da_nil)))))))))
            (dss_one (ds_ret (de_bl)))
            (dss_nil))
            (dss_cons (ds_if (dt_bop (dws_and (dt_val (de_callB call_isInstDD (by rfl) T.b_isinstance (by decide +kernel) (da_cons (de_var (pv 1)) (da_cons (de_ty (by rfl) T.b_tuple (by decide +kernel)) (da_nil))))) (dws_and1 (dt_not (dt_val (de_callB call_isInstDD (by rfl) T.b_isinstance (by decide +kernel) (da_cons (de_var (pv 0)) (da_cons (de_ty (by rfl) T.b_tuple (by decide +kernel)) (da_nil)))))))))
            (dss_one (ds_ret (de_bl)))
            (dss_nil))
            (dss_cons (ds_if (dt_cmp (op_neDD hu) (de_callB call_lenDD (by rfl) T.b_len (by decide +kernel) (da_cons (de_var (pv 0)) (da_nil))) (de_callB call_lenDD (by rfl) T.b_len (by decide +kernel) (da_cons (de_var (pv 1)) (da_nil))))
            (dss_one (ds_ret (de_bl)))
            (dss_nil))
            (dss_cons (ds_for [2] PassesOwn.never rfl (di_range1 (by rfl) T.b_range (da_cons (de_callB call_lenDD (by rfl) T.b_len (by decide +kernel) (da_cons (de_var (pv 1)) (da_nil))) (da_nil))) (dg_name nd rfl (Or.inl rfl))
            (dss_one (ds_if (dt_not (dt_val (de_call C nx hr (by rfl) (dar_ex (de_ix (ix_D hu) (de_var (pv 0)) (de_var (pv 2))) (dar_ex (de_ix (ix_D hu) (de_var (pv 1)) (de_var (pv 2))) (dar_nil))))))
            (dss_one (ds_ret (de_bl)))
            (dss_nil))))
            (dss_one (ds_ret (de_bl)))))))
            (dss_nil))
            (dss_cons (ds_if (dt_cmp op_isD (de_var (pv 1)) (de_non))
            (dss_one (ds_ret (de_db (db_cmp op_isD (de_var (pv 0)) (de_non)))))
            (dss_nil))
            (dss_cons (ds_if (dt_val (de_callB call_isInstDD (by rfl) T.b_isinstance (by decide +kernel) (da_cons (de_var (pv 1)) (da_cons (de_ty (by rfl) T.b_bool (by decide +kernel)) (da_nil)))))
            (dss_one (ds_ret (de_db (db_bop (dbs_and (db_of (de_callB call_isInstDD (by rfl) T.b_isinstance (by decide +kernel) (da_cons (de_var (pv 0)) (da_cons (de_ty (by rfl) T.b_bool (by decide +kernel)) (da_nil))))) (dbs_one (db_cmp (op_eqDD hu) (de_var (pv 0)) (de_var (pv 1)))))))))
            (dss_nil))
            (dss_cons (ds_if (dt_val (de_callB call_isInstDD (by rfl) T.b_isinstance (by decide +kernel) (da_cons (de_var (pv 1)) (da_cons (de_ty (by rfl) T.b_int (by decide +kernel)) (da_nil)))))
            (dss_one (ds_ret (de_db (db_bop (dbs_and (db_of (de_callB call_isInstDD (by rfl) T.b_isinstance (by decide +kernel) (da_cons (de_var (pv 0)) (da_cons (de_ty (by rfl) T.b_int (by decide +kernel)) (da_nil))))) (dbs_and (db_not (db_of (de_callB call_isInstDD (by rfl) T.b_isinstance (by decide +kernel) (da_cons (de_var (pv 0)) (da_cons (de_ty (by rfl) T.b_bool (by decide +kernel)) (da_nil)))))) (dbs_one (db_cmp (op_eqDD hu) (de_var (pv 0)) (de_var (pv 1))))))))))
            (dss_nil))
            (dss_one (ds_ret (de_db (db_bop (dbs_and (db_of (de_callB call_isInstDD (by rfl) T.b_isinstance (by decide +kernel) (da_cons (de_var (pv 0)) (da_cons (de_ty (by rfl) T.b_str (by decide +kernel)) (da_nil))))) (dbs_one (db_cmp (op_eqDD hu) (de_var (pv 0)) (de_var (pv 1))))))))))))
    case hA => decide
theorem sc__law_whole : FnScope ["x"] ["x"] (defScope s__law_whole) := ⟨rfl, rfl, rfl, by decide +kernel, rfl, by decide +kernel, by decide +kernel⟩
theorem nx__law_whole : ∀ (ds : List D) (x : Exc) (ds' : List D), f__law_whole ds ≠ .exc x ds' := fnSem_noexc [0] 0 m__law_whole
theorem fd__law_whole (T : Txt K mg) : FnD P w K mg base 1 "_law_whole" [0] f__law_whole := by
  obtain ⟨fa, fd, F, hb, hm, hk⟩ := T.h__law_whole.ex
  have nd := (sc__law_whole).nd
  refine ⟨fa, fd, _, fn_ok (A := []) (k := 0) F sc__law_whole rfl 0 rfl ?hA (fun cdv Ar outer s H E hr => ?hB), hb, hm, hk⟩
  case hB =>
    have hu := hr.units
    exact dss_one (ds_ret (de_db (db_bop (dbs_and (db_of (de_callB call_isInstDD (by rfl) T.b_isinstance (by decide +kernel) (da_cons (de_var (pv 0)) (da_cons (de_ty (by rfl) T.b_int (by decide +kernel)) (da_nil))))) (dbs_one (db_not (db_of (de_callB call_isInstDD (by rfl) T.b_isinstance (by decide +kernel) (da_cons (de_var (pv 0)) (da_cons (de_ty (by rfl) T.b_bool (by decide +kernel)) (da_nil)))))))))))
  case hA => decide
theorem sc__law_draw : FnScope ["script", "sizes", "left", "right", "most", "lefts", "pairs", "i", "rights", "number", "j"] ["script"] (defScope s__law_draw) := ⟨rfl, rfl, rfl, by decide +kernel, rfl, by decide +kernel, by decide +kernel⟩
theorem nx__law_draw : ∀ (ds : List D) (x : Exc) (ds' : List D), f__law_draw ds ≠ .exc x ds' := fnSem_noexc [0] 10 m__law_draw
theorem fd__law_draw (T : Txt K mg) : FnD P w K mg base 2 "_law_draw" [0] f__law_draw := by
  obtain ⟨fa, fd, F, hb, hm, hk⟩ := T.h__law_draw.ex
  have nd := (sc__law_draw).nd
  refine ⟨fa, fd, _, fn_ok (A := ([1] ++ ([2] ++ ([3] ++ ((([2] ++ [3]) ++ []) ++ ([4] ++ ([5] ++ ([6] ++ (([7] ++ ([9] ++ ([] ++ ([9] ++ ([10] ++ (([] ++ []) ++ [9])))))) ++ ([8] ++ [])))))))))) (k := 1) F sc__law_draw rfl 10 rfl ?hA (fun cdv Ar outer s H E hr => ?hB), hb, hm, hk⟩
  case hB =>
    have hu := hr.units
    exact dss_cons (ds_setF nd rfl (Or.inl rfl) (de_call (fd__law_digits T) nx__law_digits (hr.mono (by decide)) (by rfl) (dar_ex (de_call (fd__law_number T) nx__law_number (hr.mono (by decide)) (by rfl) (dar_ex (de_var (pv 0)) (dar_ex (de_int) (dar_nil)))) (dar_ex (de_lst (da_cons (de_int) (da_cons (de_int) (da_cons (de_int) (da_cons (de_int) (da_cons (de_int) (da_nil))))))) (dar_nil)))))
            (dss_cons (ds_setF nd rfl (Or.inl rfl) (de_ix (ix_D hu) (de_var (pv 1)) (de_int)))
            (dss_cons (ds_setF nd rfl (Or.inl rfl) (de_ix (ix_D hu) (de_var (pv 1)) (de_int)))
            (dss_cons (ds_if (dt_cmp (op_eqDD hu) (de_ix (ix_D hu) (de_var (pv 1)) (de_int)) (de_int))
            (dss_cons (ds_setF nd rfl (Or.inl rfl) (de_int))
            (dss_one (ds_setF nd rfl (Or.inl rfl) (de_int))))
            (dss_nil))
            (dss_cons (ds_setF nd rfl (Or.inr rfl) (de_ix (ix_D hu) (de_lst (da_cons (de_int) (da_cons (de_int) (da_nil)))) (de_ix (ix_D hu) (de_var (pv 1)) (de_int))))
            (dss_cons (ds_set nd rfl (Or.inl rfl) (de_lst (da_nil)))
            (dss_cons (ds_set nd rfl (Or.inl rfl) (de_lst (da_nil)))
            (dss_cons (ds_for [7, 9, 10] PassesOwn.never rfl (di_range1 (by rfl) T.b_range (da_cons (de_var (pv 2)) (da_nil))) (dg_name nd rfl (Or.inl rfl))
            (dss_cons (ds_setF nd rfl (Or.inl rfl) (de_call (fd__law_number T) nx__law_number (hr.mono (by decide)) (by rfl) (dar_ex (de_var (pv 0)) (dar_ex (de_op op_addD (de_int) (de_var (pv 7))) (dar_nil)))))
            (dss_cons (ds_app (pv 5) (de_op op_addD (de_int) (de_op op_modD (de_callTy call_intDD (by rfl) T.b_int (by decide +kernel) (da_cons (de_var (pv 9)) (da_nil))) (de_var (pv 4)))))
            (dss_cons (ds_setF nd rfl (Or.inl rfl) (de_op op_fdivD (de_var (pv 9)) (de_var (pv 4))))
            (dss_one (ds_for [10] PassesOwn.never rfl (di_range1 (by rfl) T.b_range (da_cons (de_var (pv 3)) (da_nil))) (dg_name nd rfl (Or.inl rfl))
            (dss_cons (ds_if (dt_cmp (op_leD hu) (de_op op_modD (de_callTy call_intDD (by rfl) T.b_int (by decide +kernel) (da_cons (de_var (pv 9)) (da_nil))) (de_int)) (de_op op_fdivD (de_ix (ix_D hu) (de_var (pv 1)) (de_int)) (de_int)))
            (dss_one (ds_app (pv 6) (de_tup (da_cons (de_var (pv 7)) (da_cons (de_var (pv 10)) (da_nil))))))
            (dss_nil))
            (dss_one (ds_setF nd rfl (Or.inl rfl) (de_op op_fdivD (de_var (pv 9)) (de_int)))))))))))
            (dss_cons (ds_setLcF rfl nd rfl rfl (di_range1 (by rfl) T.b_range (da_cons (de_var (pv 3)) (da_nil))) (own := [("j", 10)]) (show BlkOk ["script", "sizes", "left", "right", "most", "lefts", "pairs", "i", "rights", "number", "j"] (defScope s__law_draw) _ _ from ⟨rfl, by decide +kernel, by decide +kernel, by decide +kernel, by decide +kernel⟩) (dgb_name fun _ _ _ _ _ => pg_name nd rfl (by first | exact Or.inl rfl | exact Or.inr rfl)) (by decide) (fun _ _ _ _ _ => dts_nil) (fun _ _ _ _ _ => de_op op_addD (de_int) (de_op op_modD (de_callTy call_intDD (by rfl) T.b_int (by decide +kernel) (da_cons (de_call (fd__law_number T) nx__law_number (hr.mono (by decide)) (by rfl) (dar_ex (de_var (pv 0)) (dar_ex (de_op op_addD (de_int) (de_var (pv 10))) (dar_nil)))) (da_nil))) (de_var (pv 4)))))
            (dss_one (ds_ret (de_frz [5, 6] (de_tup (da_cons (de_var (pv 5)) (da_cons (de_var (pv 8)) (da_cons (de_var (pv 6)) (da_nil))))))))))))))))
  case hA => decide
theorem sc__law_cover : FnScope ["rights", "pairs", "number", "chosen", "j", "pair"] ["rights", "pairs", "number"] (defScope s__law_cover) := ⟨rfl, rfl, rfl, by decide +kernel, rfl, by decide +kernel, by decide +kernel⟩
theorem nx__law_cover : ∀ (ds : List D) (x : Exc) (ds' : List D), f__law_cover ds ≠ .exc x ds' := fnSem_noexc [0, 0, 0] 3 m__law_cover
theorem fd__law_cover (T : Txt K mg) : FnD P w K mg base 1 "_law_cover" [0, 0, 0] f__law_cover := by
  obtain ⟨fa, fd, F, hb, hm, hk⟩ := T.h__law_cover.ex
  have nd := (sc__law_cover).nd
  refine ⟨fa, fd, _, fn_ok (A := ([3] ++ (([4] ++ (([] ++ []) ++ [2])) ++ []))) (k := 0) F sc__law_cover rfl 3 rfl ?hA (fun cdv Ar outer s H E hr => ?hB), hb, hm, hk⟩
  case hB =>
    have hu := hr.units
    exact dss_cons (ds_set nd rfl (Or.inr rfl) (de_lst (da_nil)))
            (dss_cons (ds_for [4] PassesOwn.never rfl (di_range1 (by rfl) T.b_range (da_cons (de_callB call_lenDD (by rfl) T.b_len (by decide +kernel) (da_cons (de_var (pv 0)) (da_nil))) (da_nil))) (dg_name nd rfl (Or.inl rfl))
            (dss_cons (ds_if (dt_cmp (op_eqDD hu) (de_op op_modD (de_callTy call_intDD (by rfl) T.b_int (by decide +kernel) (da_cons (de_var (pv 2)) (da_nil))) (de_int)) (de_int))
            (dss_one (ds_app (pv 3) (de_var (pv 4))))
            (dss_nil))
            (dss_one (ds_setF nd rfl (Or.inl rfl) (de_op op_fdivD (de_var (pv 2)) (de_int))))))
            (dss_one (ds_ret (de_frz [3] (de_tup (da_cons (de_sortSet rfl (by rfl) T.b_sorted (by rfl) T.b_set (de_comp rfl nd (di_seq (de_var (pv 1))) (own := [("pair", 5)]) (show BlkOk ["rights", "pairs", "number", "chosen", "j", "pair"] (defScope s__law_cover) _ _ from ⟨rfl, by decide +kernel, by decide +kernel, by decide +kernel, by decide +kernel⟩) (dgb_name fun _ _ _ _ _ => pg_name nd rfl (by first | exact Or.inl rfl | exact Or.inr rfl)) (by decide) (fun _ _ _ _ _ => dts_one (dt_cmp (op_notInDD hu) (de_ix (ix_D hu) (de_var (pv 5)) (de_int)) (de_var (pv 3)))) (fun _ _ _ _ _ => de_ix (ix_D hu) (de_var (pv 5)) (de_int)))) (da_cons (de_var (pv 3)) (da_nil))))))))
  case hA => decide
theorem sc__law_packing : FnScope ["lefts", "rights", "pairs", "number", "left_rest", "right_rest", "packing", "i", "j", "digits", "amount"] ["lefts", "rights", "pairs", "number"] (defScope s__law_packing) := ⟨rfl, rfl, rfl, by decide +kernel, rfl, by decide +kernel, by decide +kernel⟩
theorem nx__law_packing : ∀ (ds : List D) (x : Exc) (ds' : List D), f__law_packing ds ≠ .exc x ds' := fnSem_noexc [0, 0, 0, 0] 7 m__law_packing
theorem fd__law_packing (T : Txt K mg) : FnD P w K mg base 2 "_law_packing" [0, 0, 0, 0] f__law_packing := by
  obtain ⟨fa, fd, F, hb, hm, hk⟩ := T.h__law_packing.ex
  have nd := (sc__law_packing).nd
  refine ⟨fa, fd, _, fn_ok (A := ([4] ++ ([5] ++ ([6] ++ (([7, 8] ++ ([9] ++ ([3] ++ ([10] ++ (([10] ++ []) ++ (([] ++ ([] ++ [])) ++ [])))))) ++ []))))) (k := 1) F sc__law_packing rfl 7 rfl ?hA (fun cdv Ar outer s H E hr => ?hB), hb, hm, hk⟩
  case hB =>
    have hu := hr.units
    exact dss_cons (ds_set nd rfl (Or.inl rfl) (de_callTy call_listDD (by rfl) T.b_list (by decide +kernel) (da_cons (de_var (pv 0)) (da_nil))))
            (dss_cons (ds_set nd rfl (Or.inl rfl) (de_callTy call_listDD (by rfl) T.b_list (by decide +kernel) (da_cons (de_var (pv 1)) (da_nil))))
            (dss_cons (ds_set nd rfl (Or.inl rfl) (de_lst (da_nil)))
            (dss_cons (ds_for [7, 8, 9, 10] PassesOwn.never rfl (di_seq (de_var (pv 2))) (dg_tup rfl (dgs_cons nd rfl (Or.inl rfl) (dgs_cons nd rfl (Or.inl rfl) dgs_nil)))
            (dss_cons (ds_setF nd rfl (Or.inl rfl) (de_call (fd__law_digits T) nx__law_digits (hr.mono (by decide)) (by rfl) (dar_ex (de_var (pv 3)) (dar_ex (de_lst (da_cons (de_int) (da_cons (de_int) (da_nil)))) (dar_nil)))))
            (dss_cons (ds_setF nd rfl (Or.inl rfl) (de_op op_fdivD (de_var (pv 3)) (de_int)))
            (dss_cons (ds_setF nd rfl (Or.inl rfl) (de_tmp [4, 5] [] (de_callB (call_minDD rfl) (by rfl) T.b_min (by decide +kernel) (da_cons (de_ix (ix_D hu) (de_var (pv 4)) (de_var (pv 7))) (da_cons (de_ix (ix_D hu) (de_var (pv 5)) (de_var (pv 8))) (da_nil))))))
            (dss_cons (ds_if (dt_cmp (op_eqDD hu) (de_ix (ix_D hu) (de_var (pv 9)) (de_int)) (de_int))
            (dss_one (ds_setF nd rfl (Or.inl rfl) (de_callB (call_minDD rfl) (by rfl) T.b_min (by decide +kernel) (da_cons (de_var (pv 10)) (da_cons (de_ix (ix_D hu) (de_var (pv 9)) (de_int)) (da_nil))))))
            (dss_nil))
            (dss_one (ds_if (dt_bop (dws_and (dt_cmp op_gtD (de_var (pv 10)) (de_int)) (dws_and1 (dt_cmp (op_neDD hu) (de_ix (ix_D hu) (de_var (pv 9)) (de_int)) (de_int)))))
            (dss_cons (ds_app (pv 6) (de_tup (da_cons (de_var (pv 7)) (da_cons (de_var (pv 8)) (da_cons (de_var (pv 10)) (da_nil))))))
            (dss_cons (ds_put hu (pv 4) (de_var (pv 7)) (de_tmp [4] [] (de_op op_subD (de_ix (ix_D hu) (de_var (pv 4)) (de_var (pv 7))) (de_var (pv 10)))))
            (dss_one (ds_put hu (pv 5) (de_var (pv 8)) (de_tmp [5] [] (de_op op_subD (de_ix (ix_D hu) (de_var (pv 5)) (de_var (pv 8))) (de_var (pv 10))))))))
            (dss_nil))))))))
            (dss_one (ds_ret (de_move (pv 6)))))))
  case hA => decide
theorem sc__law_places : FnScope ["places", "count", "before", "place"] ["places", "count"] (defScope s__law_places) := ⟨rfl, rfl, rfl, by decide +kernel, rfl, by decide +kernel, by decide +kernel⟩
theorem nx__law_places : ∀ (ds : List D) (x : Exc) (ds' : List D), f__law_places ds ≠ .exc x ds' := fnSem_noexc [0, 0] 2 m__law_places
theorem fd__law_places (T : Txt K mg) : FnD P w K mg base 2 "_law_places" [0, 0] f__law_places := by
  obtain ⟨fa, fd, F, hb, hm, hk⟩ := T.h__law_places.ex
  have nd := (sc__law_places).nd
  refine ⟨fa, fd, _, fn_ok (A := (([] ++ []) ++ ([2] ++ (([3] ++ (([] ++ []) ++ [2])) ++ [])))) (k := 1) F sc__law_places rfl 2 rfl ?hA (fun cdv Ar outer s H E hr => ?hB), hb, hm, hk⟩
  case hB =>
    have hu := hr.units
    exact dss_cons (ds_if (dt_not (dt_val (de_callB call_isInstDD (by rfl) T.b_isinstance (by decide +kernel) (da_cons (de_var (pv 0)) (da_cons (de_ty (by rfl) T.b_list (by decide +kernel)) (da_nil))))))
            (dss_one (ds_ret (de_bl)))
            (dss_nil))
            (dss_cons (ds_setF nd rfl (Or.inl rfl) (de_un un_negD (de_int)))
            (dss_cons (ds_for [3] PassesOwn.never rfl (di_seq (de_var (pv 0))) (dg_name nd rfl (Or.inl rfl))
            (dss_cons (ds_if (dt_bop (dws_or (dt_not (dt_val (de_call (fd__law_whole T) nx__law_whole (hr.mono (by decide)) (by rfl) (dar_ex (de_var (pv 3)) (dar_nil))))) (dws_or (dt_cmp (op_leD hu) (de_var (pv 3)) (de_var (pv 2))) (dws_or1 (dt_cmp op_geD (de_var (pv 3)) (de_var (pv 1)))))))
            (dss_one (ds_ret (de_bl)))
            (dss_nil))
            (dss_one (ds_setF nd rfl (Or.inl rfl) (de_var (pv 3))))))
            (dss_one (ds_ret (de_bl)))))
  case hA => decide
theorem sc__law_is_cover : FnScope ["lefts", "rights", "pairs", "cover", "i", "j"] ["lefts", "rights", "pairs", "cover"] (defScope s__law_is_cover) := ⟨rfl, rfl, rfl, by decide +kernel, rfl, by decide +kernel, by decide +kernel⟩
theorem nx__law_is_cover : ∀ (ds : List D) (x : Exc) (ds' : List D), f__law_is_cover ds ≠ .exc x ds' := fnSem_noexc [0, 0, 0, 0] 2 m__law_is_cover
theorem fd__law_is_cover (T : Txt K mg) : FnD P w K mg base 3 "_law_is_cover" [0, 0, 0, 0] f__law_is_cover := by
  obtain ⟨fa, fd, F, hb, hm, hk⟩ := T.h__law_is_cover.ex
  have nd := (sc__law_is_cover).nd
  refine ⟨fa, fd, _, fn_ok (A := (([] ++ []) ++ (([] ++ []) ++ (([4, 5] ++ ([] ++ [])) ++ [])))) (k := 2) F sc__law_is_cover rfl 2 rfl ?hA (fun cdv Ar outer s H E hr => ?hB), hb, hm, hk⟩
  case hB =>
    have hu := hr.units
    exact dss_cons (ds_if (dt_bop (dws_or (dt_not (dt_val (de_callB call_isInstDD (by rfl) T.b_isinstance (by decide +kernel) (da_cons (de_var (pv 3)) (da_cons (de_ty (by rfl) T.b_tuple (by decide +kernel)) (da_nil)))))) (dws_or1 (dt_cmp (op_neDD hu) (de_callB call_lenDD (by rfl) T.b_len (by decide +kernel) (da_cons (de_var (pv 3)) (da_nil))) (de_int)))))
            (dss_one (ds_ret (de_bl)))
            (dss_nil))
            (dss_cons (ds_if (dt_bop (dws_or (dt_not (dt_val (de_call (fd__law_places T) nx__law_places (hr.mono (by decide)) (by rfl) (dar_ex (de_ix (ix_D hu) (de_var (pv 3)) (de_int)) (dar_ex (de_callB call_lenDD (by rfl) T.b_len (by decide +kernel) (da_cons (de_var (pv 0)) (da_nil))) (dar_nil)))))) (dws_or1 (dt_not (dt_val (de_call (fd__law_places T) nx__law_places (hr.mono (by decide)) (by rfl) (dar_ex (de_ix (ix_D hu) (de_var (pv 3)) (de_int)) (dar_ex (de_callB call_lenDD (by rfl) T.b_len (by decide +kernel) (da_cons (de_var (pv 1)) (da_nil))) (dar_nil)))))))))
            (dss_one (ds_ret (de_bl)))
            (dss_nil))
            (dss_cons (ds_for [4, 5] PassesOwn.never rfl (di_seq (de_var (pv 2))) (dg_tup rfl (dgs_cons nd rfl (Or.inl rfl) (dgs_cons nd rfl (Or.inl rfl) dgs_nil)))
            (dss_one (ds_if (dt_bop (dws_and (dt_cmp (op_notInDD hu) (de_var (pv 4)) (de_ix (ix_D hu) (de_var (pv 3)) (de_int))) (dws_and1 (dt_cmp (op_notInDD hu) (de_var (pv 5)) (de_ix (ix_D hu) (de_var (pv 3)) (de_int))))))
            (dss_one (ds_ret (de_bl)))
            (dss_nil))))
            (dss_one (ds_ret (de_bl)))))
  case hA => decide
theorem sc__law_is_packing : FnScope ["lefts", "rights", "pairs", "packing", "left_used", "right_used", "before", "triple", "i", "j"] ["lefts", "rights", "pairs", "packing"] (defScope s__law_is_packing) := ⟨rfl, rfl, rfl, by decide +kernel, rfl, by decide +kernel, by decide +kernel⟩
theorem nx__law_is_packing : ∀ (ds : List D) (x : Exc) (ds' : List D), f__law_is_packing ds ≠ .exc x ds' := fnSem_noexc [0, 0, 0, 0] 6 m__law_is_packing
theorem fd__law_is_packing (T : Txt K mg) : FnD P w K mg base 2 "_law_is_packing" [0, 0, 0, 0] f__law_is_packing := by
  obtain ⟨fa, fd, F, hb, hm, hk⟩ := T.h__law_is_packing.ex
  have nd := (sc__law_is_packing).nd
  refine ⟨fa, fd, _, fn_ok (A := (([] ++ []) ++ ([4] ++ ([5] ++ ([6] ++ (([7] ++ (([] ++ []) ++ (([] ++ []) ++ ([6] ++ ([] ++ []))))) ++ (([8] ++ ([] ++ [])) ++ (([9] ++ ([] ++ [])) ++ [])))))))) (k := 1) F sc__law_is_packing rfl 6 rfl ?hA (fun cdv Ar outer s H E hr => ?hB), hb, hm, hk⟩
  case hB =>
    have hu := hr.units
    exact dss_cons (ds_if (dt_not (dt_val (de_callB call_isInstDD (by rfl) T.b_isinstance (by decide +kernel) (da_cons (de_var (pv 3)) (da_cons (de_ty (by rfl) T.b_list (by decide +kernel)) (da_nil))))))
            (dss_one (ds_ret (de_bl)))
            (dss_nil))
            (dss_cons (ds_set nd rfl (Or.inl rfl) (de_op op_mulD (de_lst (da_cons (de_int) (da_nil))) (de_callB call_lenDD (by rfl) T.b_len (by decide +kernel) (da_cons (de_var (pv 0)) (da_nil)))))
            (dss_cons (ds_set nd rfl (Or.inl rfl) (de_op op_mulD (de_lst (da_cons (de_int) (da_nil))) (de_callB call_lenDD (by rfl) T.b_len (by decide +kernel) (da_cons (de_var (pv 1)) (da_nil)))))
            (dss_cons (ds_setF nd rfl (Or.inl rfl) (de_tup (da_cons (de_un un_negD (de_int)) (da_cons (de_un un_negD (de_int)) (da_nil)))))
            (dss_cons (ds_for [7] PassesOwn.never rfl (di_seq (de_var (pv 3))) (dg_name nd rfl (Or.inl rfl))
            (dss_cons (ds_if (dt_bop (dws_or (dt_not (dt_val (de_callB call_isInstDD (by rfl) T.b_isinstance (by decide +kernel) (da_cons (de_var (pv 7)) (da_cons (de_ty (by rfl) T.b_tuple (by decide +kernel)) (da_nil)))))) (dws_or (dt_cmp (op_neDD hu) (de_callB call_lenDD (by rfl) T.b_len (by decide +kernel) (da_cons (de_var (pv 7)) (da_nil))) (de_int)) (dws_or (dt_not (dt_val (de_call (fd__law_whole T) nx__law_whole (hr.mono (by decide)) (by rfl) (dar_ex (de_ix (ix_D hu) (de_var (pv 7)) (de_int)) (dar_nil))))) (dws_or1 (dt_cmp op_ltD (de_ix (ix_D hu) (de_var (pv 7)) (de_int)) (de_int)))))))
            (dss_one (ds_ret (de_bl)))
            (dss_nil))
            (dss_cons (ds_if (dt_bop (dws_or (dt_not (dt_val (de_call (fd__law_whole T) nx__law_whole (hr.mono (by decide)) (by rfl) (dar_ex (de_ix (ix_D hu) (de_var (pv 7)) (de_int)) (dar_nil))))) (dws_or (dt_not (dt_val (de_call (fd__law_whole T) nx__law_whole (hr.mono (by decide)) (by rfl) (dar_ex (de_ix (ix_D hu) (de_var (pv 7)) (de_int)) (dar_nil))))) (dws_or (dt_cmp (op_notInDD hu) (de_slice sl_D (de_var (pv 7)) (do_none) (do_some (de_int))) (de_var (pv 2))) (dws_or1 (dt_cmp (op_leD hu) (de_slice sl_D (de_var (pv 7)) (do_none) (do_some (de_int))) (de_var (pv 6))))))))
            (dss_one (ds_ret (de_bl)))
            (dss_nil))
            (dss_cons (ds_setF nd rfl (Or.inl rfl) (de_slice sl_D (de_var (pv 7)) (do_none) (do_some (de_int))))
            (dss_cons (ds_put hu (pv 4) (de_ix (ix_D hu) (de_var (pv 7)) (de_int)) (de_tmp [4] [] (de_op op_addD (de_ix (ix_D hu) (de_var (pv 4)) (de_ix (ix_D hu) (de_var (pv 7)) (de_int))) (de_ix (ix_D hu) (de_var (pv 7)) (de_int)))))
            (dss_one (ds_put hu (pv 5) (de_ix (ix_D hu) (de_var (pv 7)) (de_int)) (de_tmp [5] [] (de_op op_addD (de_ix (ix_D hu) (de_var (pv 5)) (de_ix (ix_D hu) (de_var (pv 7)) (de_int))) (de_ix (ix_D hu) (de_var (pv 7)) (de_int)))))))))))
            (dss_cons (ds_for [8] PassesOwn.never rfl (di_range1 (by rfl) T.b_range (da_cons (de_callB call_lenDD (by rfl) T.b_len (by decide +kernel) (da_cons (de_var (pv 0)) (da_nil))) (da_nil))) (dg_name nd rfl (Or.inl rfl))
            (dss_one (ds_if (dt_tmp [4] [] (dt_cmp op_gtD (de_ix (ix_D hu) (de_var (pv 4)) (de_var (pv 8))) (de_ix (ix_D hu) (de_var (pv 0)) (de_var (pv 8)))))
            (dss_one (ds_ret (de_bl)))
            (dss_nil))))
            (dss_cons (ds_for [9] PassesOwn.never rfl (di_range1 (by rfl) T.b_range (da_cons (de_callB call_lenDD (by rfl) T.b_len (by decide +kernel) (da_cons (de_var (pv 1)) (da_nil))) (da_nil))) (dg_name nd rfl (Or.inl rfl))
            (dss_one (ds_if (dt_tmp [5] [] (dt_cmp op_gtD (de_ix (ix_D hu) (de_var (pv 5)) (de_var (pv 9))) (de_ix (ix_D hu) (de_var (pv 1)) (de_var (pv 9)))))
            (dss_one (ds_ret (de_bl)))
            (dss_nil))))
            (dss_one (ds_ret (de_bl)))))))))
  case hA => decide
theorem sc__law_bent_lists : FnScope ["places", "count", "number", "digits", "at", "bents", "k", "place"] ["places", "count", "number"] (defScope s__law_bent_lists) := ⟨rfl, rfl, rfl, by decide +kernel, rfl, by decide +kernel, by decide +kernel⟩
theorem nx__law_bent_lists : ∀ (ds : List D) (x : Exc) (ds' : List D), f__law_bent_lists ds ≠ .exc x ds' := fnSem_noexc [0, 0, 0] 5 m__law_bent_lists
theorem fd__law_bent_lists (T : Txt K mg) : FnD P w K mg base 2 "_law_bent_lists" [0, 0, 0] f__law_bent_lists := by
  obtain ⟨fa, fd, F, hb, hm, hk⟩ := T.h__law_bent_lists.ex
  have nd := (sc__law_bent_lists).nd
  refine ⟨fa, fd, _, fn_ok (A := ([3] ++ ([4] ++ ([5] ++ ([5] ++ ([5] ++ ([5] ++ []))))))) (k := 1) F sc__law_bent_lists rfl 5 rfl ?hA (fun cdv Ar outer s H E hr => ?hB), hb, hm, hk⟩
  case hB =>
    have hu := hr.units
    exact dss_cons (ds_setF nd rfl (Or.inl rfl) (de_call (fd__law_digits T) nx__law_digits (hr.mono (by decide)) (by rfl) (dar_ex (de_var (pv 2)) (dar_ex (de_lst (da_cons (de_op op_addD (de_callB call_lenDD (by rfl) T.b_len (by decide +kernel) (da_cons (de_var (pv 0)) (da_nil))) (de_int)) (da_cons (de_op op_addD (de_var (pv 1)) (de_int)) (da_cons (de_op op_addD (de_callB call_lenDD (by rfl) T.b_len (by decide +kernel) (da_cons (de_var (pv 0)) (da_nil))) (de_int)) (da_nil))))) (dar_nil)))))
            (dss_cons (ds_setF nd rfl (Or.inl rfl) (de_ix (ix_D hu) (de_var (pv 3)) (de_int)))
            (dss_cons (ds_setF nd rfl (Or.inl rfl) (de_lst (da_cons (de_op op_addD (de_slice sl_D (de_var (pv 0)) (do_none) (do_some (de_var (pv 4)))) (de_slice sl_D (de_var (pv 0)) (do_some (de_op op_addD (de_var (pv 4)) (de_int))) (do_none))) (da_cons (de_op op_addD (de_op op_addD (de_slice sl_D (de_var (pv 0)) (do_none) (do_some (de_var (pv 4)))) (de_lst (da_cons (de_op op_subD (de_ix (ix_D hu) (de_var (pv 3)) (de_int)) (de_int)) (da_nil)))) (de_slice sl_D (de_var (pv 0)) (do_some (de_var (pv 4))) (do_none))) (da_cons (de_op op_addD (de_var (pv 0)) (de_lst (da_cons (de_var (pv 1)) (da_nil)))) (da_cons (de_op op_addD (de_lst (da_cons (de_un un_negD (de_int)) (da_nil))) (de_var (pv 0))) (da_nil)))))))
            (dss_cons (ds_setF nd rfl (Or.inl rfl) (de_op op_addD (de_var (pv 5)) (de_lst (da_cons (de_op op_addD (de_var (pv 0)) (de_slice sl_D (de_var (pv 0)) (do_none) (do_some (de_int)))) (da_cons (de_comp rfl nd (di_range1 (by rfl) T.b_range (da_cons (de_callB call_lenDD (by rfl) T.b_len (by decide +kernel) (da_cons (de_var (pv 0)) (da_nil))) (da_nil))) (own := [("k", 6)]) (show BlkOk ["places", "count", "number", "digits", "at", "bents", "k", "place"] (defScope s__law_bent_lists) _ _ from ⟨rfl, by decide +kernel, by decide +kernel, by decide +kernel, by decide +kernel⟩) (dgb_name fun _ _ _ _ _ => pg_name nd rfl (by first | exact Or.inl rfl | exact Or.inr rfl)) (by decide) (fun _ _ _ _ _ => dts_nil) (fun _ _ _ _ _ => de_ix (ix_D hu) (de_var (pv 0)) (de_op op_subD (de_op op_subD (de_callB call_lenDD (by rfl) T.b_len (by decide +kernel) (da_cons (de_var (pv 0)) (da_nil))) (de_int)) (de_var (pv 6))))) (da_cons (de_callTy call_tupleDD (by rfl) T.b_tuple (by decide +kernel) (da_cons (de_var (pv 0)) (da_nil))) (da_cons (de_non) (da_nil))))))))
            (dss_cons (ds_setF nd rfl (Or.inl rfl) (de_op op_addD (de_var (pv 5)) (de_lst (da_cons (de_sortSet rfl (by rfl) T.b_sorted (by rfl) T.b_set (de_op op_addD (de_var (pv 0)) (de_lst (da_cons (de_op op_modD (de_callTy call_intDD (by rfl) T.b_int (by decide +kernel) (da_cons (de_ix (ix_D hu) (de_var (pv 3)) (de_int)) (da_nil))) (de_callB (call_maxDD rfl) (by rfl) T.b_max (by decide +kernel) (da_cons (de_int) (da_cons (de_var (pv 1)) (da_nil))))) (da_nil))))) (da_cons (de_comp rfl nd (di_seq (de_var (pv 0))) (own := [("place", 7)]) (show BlkOk ["places", "count", "number", "digits", "at", "bents", "k", "place"] (defScope s__law_bent_lists) _ _ from ⟨rfl, by decide +kernel, by decide +kernel, by decide +kernel, by decide +kernel⟩) (dgb_name fun _ _ _ _ _ => pg_name nd rfl (by first | exact Or.inl rfl | exact Or.inr rfl)) (by decide) (fun _ _ _ _ _ => dts_nil) (fun _ _ _ _ _ => de_db (db_cmp (op_eqDD hu) (de_var (pv 7)) (de_int)))) (da_cons (de_lst (da_cons (de_var (pv 0)) (da_nil))) (da_cons (de_int) (da_nil))))))))
            (dss_cons (ds_setF nd rfl (Or.inl rfl) (de_op op_addD (de_var (pv 5)) (de_lst (da_cons (de_comp rfl nd (di_seq (de_var (pv 0))) (own := [("place", 7)]) (show BlkOk ["places", "count", "number", "digits", "at", "bents", "k", "place"] (defScope s__law_bent_lists) _ _ from ⟨rfl, by decide +kernel, by decide +kernel, by decide +kernel, by decide +kernel⟩) (dgb_name fun _ _ _ _ _ => pg_name nd rfl (by first | exact Or.inl rfl | exact Or.inr rfl)) (by decide) (fun _ _ _ _ _ => dts_nil) (fun _ _ _ _ _ => de_callTy call_strDD (by rfl) T.b_str (by decide +kernel) (da_cons (de_var (pv 7)) (da_nil)))) (da_cons (de_lstRg rfl (by rfl) T.b_list (by rfl) T.b_range (de_var (pv 1))) (da_cons (de_slice sl_D (de_var (pv 0)) (do_some (de_int)) (do_none)) (da_cons (de_str) (da_cons (de_lst (da_cons (de_non) (da_nil))) (da_cons (de_op op_addD (de_var (pv 0)) (de_lst (da_cons (de_non) (da_nil)))) (da_nil))))))))))
            (dss_one (ds_ret (de_var (pv 5)))))))))
  case hA => decide
theorem sc__law_bent_covers : FnScope ["lefts", "rights", "cover", "number", "bents", "bent"] ["lefts", "rights", "cover", "number"] (defScope s__law_bent_covers) := ⟨rfl, rfl, rfl, by decide +kernel, rfl, by decide +kernel, by decide +kernel⟩
theorem nx__law_bent_covers : ∀ (ds : List D) (x : Exc) (ds' : List D), f__law_bent_covers ds ≠ .exc x ds' := fnSem_noexc [0, 0, 0, 0] 2 m__law_bent_covers
theorem fd__law_bent_covers (T : Txt K mg) : FnD P w K mg base 3 "_law_bent_covers" [0, 0, 0, 0] f__law_bent_covers := by
  obtain ⟨fa, fd, F, hb, hm, hk⟩ := T.h__law_bent_covers.ex
  have nd := (sc__law_bent_covers).nd
  refine ⟨fa, fd, _, fn_ok (A := ([4] ++ ([4] ++ []))) (k := 2) F sc__law_bent_covers rfl 2 rfl ?hA (fun cdv Ar outer s H E hr => ?hB), hb, hm, hk⟩
  case hB =>
    have hu := hr.units
    exact dss_cons (ds_setLcF rfl nd rfl rfl (di_seq (de_call (fd__law_bent_lists T) nx__law_bent_lists (hr.mono (by decide)) (by rfl) (dar_ex (de_ix (ix_D hu) (de_var (pv 2)) (de_int)) (dar_ex (de_callB call_lenDD (by rfl) T.b_len (by decide +kernel) (da_cons (de_var (pv 0)) (da_nil))) (dar_ex (de_var (pv 3)) (dar_nil)))))) (own := [("bent", 5)]) (show BlkOk ["lefts", "rights", "cover", "number", "bents", "bent"] (defScope s__law_bent_covers) _ _ from ⟨rfl, by decide +kernel, by decide +kernel, by decide +kernel, by decide +kernel⟩) (dgb_name fun _ _ _ _ _ => pg_name nd rfl (by first | exact Or.inl rfl | exact Or.inr rfl)) (by decide) (fun _ _ _ _ _ => dts_nil) (fun _ _ _ _ _ => de_tup (da_cons (de_var (pv 5)) (da_cons (de_ix (ix_D hu) (de_var (pv 2)) (de_int)) (da_nil)))))
            (dss_cons (ds_setF nd rfl (Or.inl rfl) (de_op op_addD (de_var (pv 4)) (de_comp rfl nd (di_seq (de_call (fd__law_bent_lists T) nx__law_bent_lists (hr.mono (by decide)) (by rfl) (dar_ex (de_ix (ix_D hu) (de_var (pv 2)) (de_int)) (dar_ex (de_callB call_lenDD (by rfl) T.b_len (by decide +kernel) (da_cons (de_var (pv 1)) (da_nil))) (dar_ex (de_op op_fdivD (de_var (pv 3)) (de_int)) (dar_nil)))))) (own := [("bent", 5)]) (show BlkOk ["lefts", "rights", "cover", "number", "bents", "bent"] (defScope s__law_bent_covers) _ _ from ⟨rfl, by decide +kernel, by decide +kernel, by decide +kernel, by decide +kernel⟩) (dgb_name fun _ _ _ _ _ => pg_name nd rfl (by first | exact Or.inl rfl | exact Or.inr rfl)) (by decide) (fun _ _ _ _ _ => dts_nil) (fun _ _ _ _ _ => de_tup (da_cons (de_ix (ix_D hu) (de_var (pv 2)) (de_int)) (da_cons (de_var (pv 5)) (da_nil)))))))
            (dss_one (ds_ret (de_op op_addD (de_var (pv 4)) (de_lst (da_cons (de_callTy call_listDD (by rfl) T.b_list (by decide +kernel) (da_cons (de_var (pv 2)) (da_nil))) (da_cons (de_op op_addD (de_var (pv 2)) (de_tup (da_cons (de_lst (da_nil)) (da_nil)))) (da_cons (de_slice sl_D (de_var (pv 2)) (do_none) (do_some (de_int))) (da_cons (de_tup (da_nil)) (da_cons (de_non) (da_cons (de_tup (da_cons (de_ix (ix_D hu) (de_var (pv 2)) (de_int)) (da_cons (de_ix (ix_D hu) (de_var (pv 2)) (de_int)) (da_nil)))) (da_cons (de_lst (da_cons (de_var (pv 2)) (da_nil))) (da_cons (de_bl) (da_nil))))))))))))))
  case hA => decide
theorem sc__law_bent_packings : FnScope ["lefts", "rights", "packing", "number", "digits", "at", "extra", "bents", "i", "j", "amount", "place", "triple", "k"] ["lefts", "rights", "packing", "number"] (defScope s__law_bent_packings) := ⟨rfl, rfl, rfl, by decide +kernel, rfl, by decide +kernel, by decide +kernel⟩
theorem nx__law_bent_packings : ∀ (ds : List D) (x : Exc) (ds' : List D), f__law_bent_packings ds ≠ .exc x ds' := fnSem_noexc [0, 0, 0, 0] 10 m__law_bent_packings
theorem fd__law_bent_packings (T : Txt K mg) : FnD P w K mg base 2 "_law_bent_packings" [0, 0, 0, 0] f__law_bent_packings := by
  obtain ⟨fa, fd, F, hb, hm, hk⟩ := T.h__law_bent_packings.ex
  have nd := (sc__law_bent_packings).nd
  refine ⟨fa, fd, _, fn_ok (A := ([4] ++ ([5] ++ ([6] ++ ([7] ++ ([7] ++ ([7] ++ ([7] ++ ((([8, 9, 10] ++ ([11] ++ (([12] ++ []) ++ (([12] ++ []) ++ [])))) ++ []) ++ []))))))))) (k := 1) F sc__law_bent_packings rfl 10 rfl ?hA (fun cdv Ar outer s H E hr => ?hB), hb, hm, hk⟩
  case hB =>
    have hu := hr.units
    exact dss_cons (ds_setF nd rfl (Or.inl rfl) (de_call (fd__law_digits T) nx__law_digits (hr.mono (by decide)) (by rfl) (dar_ex (de_var (pv 3)) (dar_ex (de_lst (da_cons (de_op op_addD (de_callB call_lenDD (by rfl) T.b_len (by decide +kernel) (da_cons (de_var (pv 2)) (da_nil))) (de_int)) (da_cons (de_callB (call_maxDD rfl) (by rfl) T.b_max (by decide +kernel) (da_cons (de_int) (da_cons (de_callB call_lenDD (by rfl) T.b_len (by decide +kernel) (da_cons (de_var (pv 0)) (da_nil))) (da_nil)))) (da_cons (de_callB (call_maxDD rfl) (by rfl) T.b_max (by decide +kernel) (da_cons (de_int) (da_cons (de_callB call_lenDD (by rfl) T.b_len (by decide +kernel) (da_cons (de_var (pv 1)) (da_nil))) (da_nil)))) (da_cons (de_int) (da_cons (de_op op_addD (de_callB call_lenDD (by rfl) T.b_len (by decide +kernel) (da_cons (de_var (pv 2)) (da_nil))) (de_int)) (da_nil))))))) (dar_nil)))))
            (dss_cons (ds_setF nd rfl (Or.inl rfl) (de_ix (ix_D hu) (de_var (pv 4)) (de_int)))
            (dss_cons (ds_setF nd rfl (Or.inl rfl) (de_tup (da_cons (de_ix (ix_D hu) (de_var (pv 4)) (de_int)) (da_cons (de_ix (ix_D hu) (de_var (pv 4)) (de_int)) (da_cons (de_op op_addD (de_int) (de_ix (ix_D hu) (de_var (pv 4)) (de_int))) (da_nil))))))
            (dss_cons (ds_set nd rfl (Or.inl rfl) (de_lst (da_cons (de_op op_addD (de_slice sl_D (de_var (pv 2)) (do_none) (do_some (de_var (pv 5)))) (de_slice sl_D (de_var (pv 2)) (do_some (de_op op_addD (de_var (pv 5)) (de_int))) (do_none))) (da_cons (de_op op_addD (de_op op_addD (de_slice sl_D (de_var (pv 2)) (do_none) (do_some (de_var (pv 5)))) (de_lst (da_cons (de_var (pv 6)) (da_nil)))) (de_slice sl_D (de_var (pv 2)) (do_some (de_var (pv 5))) (do_none))) (da_cons (de_op op_addD (de_var (pv 2)) (de_slice sl_D (de_var (pv 2)) (do_none) (do_some (de_int)))) (da_cons (de_callTy call_tupleDD (by rfl) T.b_tuple (by decide +kernel) (da_cons (de_var (pv 2)) (da_nil))) (da_nil)))))))
            (dss_cons (ds_set nd rfl (Or.inl rfl) (de_frz [7] (de_op op_addD (de_var (pv 7)) (de_lst (da_cons (de_comp rfl nd (di_range1 (by rfl) T.b_range (da_cons (de_callB call_lenDD (by rfl) T.b_len (by decide +kernel) (da_cons (de_var (pv 2)) (da_nil))) (da_nil))) (own := [("k", 13)]) (show BlkOk ["lefts", "rights", "packing", "number", "digits", "at", "extra", "bents", "i", "j", "amount", "place", "triple", "k"] (defScope s__law_bent_packings) _ _ from ⟨rfl, by decide +kernel, by decide +kernel, by decide +kernel, by decide +kernel⟩) (dgb_name fun _ _ _ _ _ => pg_name nd rfl (by first | exact Or.inl rfl | exact Or.inr rfl)) (by decide) (fun _ _ _ _ _ => dts_nil) (fun _ _ _ _ _ => de_ix (ix_D hu) (de_var (pv 2)) (de_op op_subD (de_op op_subD (de_callB call_lenDD (by rfl) T.b_len (by decide +kernel) (da_cons (de_var (pv 2)) (da_nil))) (de_int)) (de_var (pv 13))))) (da_cons (de_lst (da_cons (de_var (pv 6)) (da_nil))) (da_cons (de_lst (da_cons (de_tup (da_cons (de_ix (ix_D hu) (de_var (pv 4)) (de_int)) (da_cons (de_ix (ix_D hu) (de_var (pv 4)) (de_int)) (da_cons (de_int) (da_nil))))) (da_nil))) (da_nil))))))))
            (dss_cons (ds_set nd rfl (Or.inl rfl) (de_frz [7] (de_op op_addD (de_var (pv 7)) (de_lst (da_cons (de_comp rfl nd (di_seq (de_var (pv 2))) (own := [("triple", 12)]) (show BlkOk ["lefts", "rights", "packing", "number", "digits", "at", "extra", "bents", "i", "j", "amount", "place", "triple", "k"] (defScope s__law_bent_packings) _ _ from ⟨rfl, by decide +kernel, by decide +kernel, by decide +kernel, by decide +kernel⟩) (dgb_name fun _ _ _ _ _ => pg_name nd rfl (by first | exact Or.inl rfl | exact Or.inr rfl)) (by decide) (fun _ _ _ _ _ => dts_nil) (fun _ _ _ _ _ => de_callTy call_listDD (by rfl) T.b_list (by decide +kernel) (da_cons (de_var (pv 12)) (da_nil)))) (da_cons (de_comp rfl nd (di_seq (de_var (pv 2))) (own := [("triple", 12)]) (show BlkOk ["lefts", "rights", "packing", "number", "digits", "at", "extra", "bents", "i", "j", "amount", "place", "triple", "k"] (defScope s__law_bent_packings) _ _ from ⟨rfl, by decide +kernel, by decide +kernel, by decide +kernel, by decide +kernel⟩) (dgb_name fun _ _ _ _ _ => pg_name nd rfl (by first | exact Or.inl rfl | exact Or.inr rfl)) (by decide) (fun _ _ _ _ _ => dts_nil) (fun _ _ _ _ _ => de_slice sl_D (de_var (pv 12)) (do_none) (do_some (de_int)))) (da_cons (de_non) (da_cons (de_lst (da_cons (de_non) (da_nil))) (da_cons (de_bl) (da_cons (de_str) (da_nil)))))))))))
            (dss_cons (ds_set nd rfl (Or.inl rfl) (de_frz [7] (de_op op_addD (de_var (pv 7)) (de_lst (da_cons (de_comp rfl nd (di_seq (de_var (pv 2))) (own := [("triple", 12)]) (show BlkOk ["lefts", "rights", "packing", "number", "digits", "at", "extra", "bents", "i", "j", "amount", "place", "triple", "k"] (defScope s__law_bent_packings) _ _ from ⟨rfl, by decide +kernel, by decide +kernel, by decide +kernel, by decide +kernel⟩) (dgb_name fun _ _ _ _ _ => pg_name nd rfl (by first | exact Or.inl rfl | exact Or.inr rfl)) (by decide) (fun _ _ _ _ _ => dts_nil) (fun _ _ _ _ _ => de_op op_addD (de_var (pv 12)) (de_tup (da_cons (de_int) (da_nil))))) (da_cons (de_op op_addD (de_var (pv 2)) (de_lst (da_cons (de_tup (da_cons (de_callB call_lenDD (by rfl) T.b_len (by decide +kernel) (da_cons (de_var (pv 0)) (da_nil))) (da_cons (de_int) (da_cons (de_int) (da_nil))))) (da_nil)))) (da_cons (de_op op_addD (de_var (pv 2)) (de_lst (da_cons (de_tup (da_cons (de_int) (da_cons (de_callB call_lenDD (by rfl) T.b_len (by decide +kernel) (da_cons (de_var (pv 1)) (da_nil))) (da_cons (de_int) (da_nil))))) (da_nil)))) (da_nil))))))))
            (dss_cons (ds_if (dt_val (de_var (pv 2)))
            (dss_cons (ds_asgG (dg_tup rfl (dgs_cons nd rfl (Or.inl rfl) (dgs_cons nd rfl (Or.inl rfl) (dgs_cons nd rfl (Or.inl rfl) dgs_nil)))) (de_ix (ix_D hu) (de_var (pv 2)) (de_op op_modD (de_callTy call_intDD (by rfl) T.b_int (by decide +kernel) (da_cons (de_ix (ix_D hu) (de_var (pv 4)) (de_int)) (da_nil))) (de_callB call_lenDD (by rfl) T.b_len (by decide +kernel) (da_cons (de_var (pv 2)) (da_nil))))))
            (dss_cons (ds_setF nd rfl (Or.inl rfl) (de_meth PySem.F.plainAttrs_list PySem.F.slot_list_index PySem.F.type_list_index (mt_indexDD hu) (de_var (pv 2)) (da_cons (de_tup (da_cons (de_var (pv 8)) (da_cons (de_var (pv 9)) (da_cons (de_var (pv 10)) (da_nil))))) (da_nil))))
            (dss_cons (ds_for [12] PassesOwn.never rfl (di_seq (de_lst (da_cons (de_tup (da_cons (de_var (pv 8)) (da_cons (de_var (pv 9)) (da_cons (de_op op_addD (de_var (pv 10)) (de_int)) (da_nil))))) (da_cons (de_tup (da_cons (de_var (pv 8)) (da_cons (de_var (pv 9)) (da_cons (de_op op_subD (de_var (pv 10)) (de_int)) (da_nil))))) (da_cons (de_tup (da_cons (de_var (pv 8)) (da_cons (de_var (pv 9)) (da_cons (de_int) (da_nil))))) (da_cons (de_tup (da_cons (de_var (pv 8)) (da_cons (de_var (pv 9)) (da_cons (de_un un_negD (de_int)) (da_nil))))) (da_cons (de_tup (da_cons (de_var (pv 8)) (da_cons (de_var (pv 9)) (da_cons (de_bl) (da_nil))))) (da_cons (de_tup (da_cons (de_var (pv 8)) (da_cons (de_var (pv 9)) (da_cons (de_non) (da_nil))))) (da_nil))))))))) (dg_name nd rfl (Or.inl rfl))
            (dss_one (ds_app (pv 7) (de_op op_addD (de_op op_addD (de_slice sl_D (de_var (pv 2)) (do_none) (do_some (de_var (pv 11)))) (de_lst (da_cons (de_var (pv 12)) (da_nil)))) (de_slice sl_D (de_var (pv 2)) (do_some (de_op op_addD (de_var (pv 11)) (de_int))) (do_none))))))
            (dss_cons (ds_for [12] PassesOwn.never rfl (di_seq (de_lst (da_cons (de_tup (da_cons (de_var (pv 9)) (da_cons (de_var (pv 8)) (da_cons (de_var (pv 10)) (da_nil))))) (da_cons (de_tup (da_cons (de_un un_negD (de_int)) (da_cons (de_var (pv 9)) (da_cons (de_var (pv 10)) (da_nil))))) (da_cons (de_tup (da_cons (de_var (pv 8)) (da_cons (de_un un_negD (de_int)) (da_cons (de_var (pv 10)) (da_nil))))) (da_cons (de_tup (da_cons (de_var (pv 8)) (da_cons (de_var (pv 9)) (da_cons (de_int) (da_nil))))) (da_cons (de_tup (da_cons (de_db (db_cmp (op_eqDD hu) (de_var (pv 8)) (de_int))) (da_cons (de_var (pv 9)) (da_cons (de_var (pv 10)) (da_nil))))) (da_cons (de_tup (da_cons (de_var (pv 8)) (da_cons (de_str) (da_cons (de_int) (da_nil))))) (da_nil))))))))) (dg_name nd rfl (Or.inl rfl))
            (dss_one (ds_app (pv 7) (de_op op_addD (de_op op_addD (de_slice sl_D (de_var (pv 2)) (do_none) (do_some (de_var (pv 11)))) (de_lst (da_cons (de_var (pv 12)) (da_nil)))) (de_slice sl_D (de_var (pv 2)) (do_some (de_op op_addD (de_var (pv 11)) (de_int))) (do_none))))))
            (dss_one (ds_app (pv 7) (de_op op_addD (de_op op_addD (de_slice sl_D (de_var (pv 2)) (do_none) (do_some (de_var (pv 11)))) (de_lst (da_cons (de_tup (da_cons (de_var (pv 8)) (da_cons (de_var (pv 9)) (da_cons (de_var (pv 10)) (da_nil))))) (da_cons (de_tup (da_cons (de_var (pv 8)) (da_cons (de_var (pv 9)) (da_cons (de_var (pv 10)) (da_nil))))) (da_nil))))) (de_slice sl_D (de_var (pv 2)) (do_some (de_op op_addD (de_var (pv 11)) (de_int))) (do_none)))))))))
            (dss_nil))
            (dss_one (ds_ret (de_move (pv 7)))))))))))
  case hA => decide
theorem sc_law : FnScope ["script", "lefts", "rights", "pairs", "passed", "cover", "packing", "weight", "bent", "told", "i", "j"] ["script"] (defScope s_law) := ⟨rfl, rfl, rfl, by decide +kernel, rfl, by decide +kernel, by decide +kernel⟩
theorem nx_law : ∀ (ds : List D) (x : Exc) (ds' : List D), f_law ds ≠ .exc x ds' := fnSem_noexc [0] 11 m_law
theorem ok_law (T : Txt K mg) {fa : Addr} {fd : FuncData} (F : Fun K "law" "law" s_law fa fd) : FnOk P w K mg base CX0 8 fa fd ["script"] (spD K mg [0] f_law) := by
  have nd := (sc_law).nd
  refine fn_ok (A := ([1, 2, 3] ++ ([4] ++ ([5] ++ ([6] ++ ([7] ++ (([] ++ []) ++ (([] ++ []) ++ (([] ++ []) ++ (([8] ++ ([] ++ [])) ++ (([8] ++ ([9] ++ ([] ++ []))) ++ []))))))))))) (k := 7) F sc_law rfl 11 rfl ?hA (fun cdv Ar outer s H E hr => ?hB)
  case hB =>
    have hu := hr.units
    exact dss_cons (ds_asgG (dg_tup rfl (dgs_cons nd rfl (Or.inr rfl) (dgs_cons nd rfl (Or.inr rfl) (dgs_cons nd rfl (Or.inl rfl) dgs_nil)))) (de_call (fd__law_draw T) nx__law_draw (hr.mono (by decide)) (by rfl) (dar_ex (de_var (pv 0)) (dar_nil))))
            (dss_cons (ds_setF nd rfl (Or.inl rfl) (de_lst (da_cons (de_callTy call_listDD (by rfl) T.b_list (by decide +kernel) (da_cons (de_var (pv 1)) (da_nil))) (da_cons (de_callTy call_listDD (by rfl) T.b_list (by decide +kernel) (da_cons (de_var (pv 2)) (da_nil))) (da_cons (de_callTy call_listDD (by rfl) T.b_list (by decide +kernel) (da_cons (de_var (pv 3)) (da_nil))) (da_nil))))))
            (dss_cons (ds_setF nd rfl (Or.inl rfl) (de_call (fd__law_cover T) nx__law_cover (hr.mono (by decide)) (by rfl) (dar_ex (de_var (pv 2)) (dar_ex (de_var (pv 3)) (dar_ex (de_call (fd__law_number T) nx__law_number (hr.mono (by decide)) (by rfl) (dar_ex (de_var (pv 0)) (dar_ex (de_int) (dar_nil)))) (dar_nil))))))
            (dss_cons (ds_setF nd rfl (Or.inl rfl) (de_call (fd__law_packing T) nx__law_packing (hr.mono (by decide)) (by rfl) (dar_ex (de_var (pv 1)) (dar_ex (de_var (pv 2)) (dar_ex (de_var (pv 3)) (dar_ex (de_call (fd__law_number T) nx__law_number (hr.mono (by decide)) (by rfl) (dar_ex (de_var (pv 0)) (dar_ex (de_int) (dar_nil)))) (dar_nil)))))))
            (dss_cons (ds_setF nd rfl (Or.inl rfl) (de_op op_addD (de_callB (call_sumDD rfl) (by rfl) T.b_sum (by decide +kernel) (da_cons (de_comp rfl nd (di_seq (de_ix (ix_D hu) (de_var (pv 5)) (de_int))) (own := [("i", 10)]) (show BlkOk ["script", "lefts", "rights", "pairs", "passed", "cover", "packing", "weight", "bent", "told", "i", "j"] (defScope s_law) _ _ from ⟨rfl, by decide +kernel, by decide +kernel, by decide +kernel, by decide +kernel⟩) (dgb_name fun _ _ _ _ _ => pg_name nd rfl (by first | exact Or.inl rfl | exact Or.inr rfl)) (by decide) (fun _ _ _ _ _ => dts_nil) (fun _ _ _ _ _ => de_ix (ix_D hu) (de_var (pv 1)) (de_var (pv 10)))) (da_nil))) (de_callB (call_sumDD rfl) (by rfl) T.b_sum (by decide +kernel) (da_cons (de_comp rfl nd (di_seq (de_ix (ix_D hu) (de_var (pv 5)) (de_int))) (own := [("j", 11)]) (show BlkOk ["script", "lefts", "rights", "pairs", "passed", "cover", "packing", "weight", "bent", "told", "i", "j"] (defScope s_law) _ _ from ⟨rfl, by decide +kernel, by decide +kernel, by decide +kernel, by decide +kernel⟩) (dgb_name fun _ _ _ _ _ => pg_name nd rfl (by first | exact Or.inl rfl | exact Or.inr rfl)) (by decide) (fun _ _ _ _ _ => dts_nil) (fun _ _ _ _ _ => de_ix (ix_D hu) (de_var (pv 2)) (de_var (pv 11)))) (da_nil)))))
            (dss_cons (ds_if (dt_not (dt_val (de_call (fd__law_same T 6) (nx__law_same 6) (hr.mono (by decide)) (by rfl) (dar_ex (de_call (fd_cover_weight T) nx_cover_weight (hr.mono (by decide)) (by rfl) (dar_ex (de_ix (ix_D hu) (de_var (pv 4)) (de_int)) (dar_ex (de_ix (ix_D hu) (de_var (pv 4)) (de_int)) (dar_ex (de_tup (da_cons (de_callTy call_listDD (by rfl) T.b_list (by decide +kernel) (da_cons (de_ix (ix_D hu) (de_var (pv 5)) (de_int)) (da_nil))) (da_cons (de_callTy call_listDD (by rfl) T.b_list (by decide +kernel) (da_cons (de_ix (ix_D hu) (de_var (pv 5)) (de_int)) (da_nil))) (da_nil)))) (dar_nil))))) (dar_ex (de_var (pv 7)) (dar_nil))))))
            (dss_one (ds_ret (de_bl)))
            (dss_nil))
            (dss_cons (ds_if (dt_cmp op_isntD (de_call (fd_is_pair_cover T) nx_is_pair_cover (hr.mono (by decide)) (by rfl) (dar_ex (de_ix (ix_D hu) (de_var (pv 4)) (de_int)) (dar_ex (de_ix (ix_D hu) (de_var (pv 4)) (de_int)) (dar_ex (de_ix (ix_D hu) (de_var (pv 4)) (de_int)) (dar_ex (de_var (pv 5)) (dar_nil)))))) (de_bl))
            (dss_one (ds_ret (de_bl)))
            (dss_nil))
            (dss_cons (ds_if (dt_cmp op_isntD (de_call (fd_is_pair_packing T) nx_is_pair_packing (hr.mono (by decide)) (by rfl) (dar_ex (de_ix (ix_D hu) (de_var (pv 4)) (de_int)) (dar_ex (de_ix (ix_D hu) (de_var (pv 4)) (de_int)) (dar_ex (de_ix (ix_D hu) (de_var (pv 4)) (de_int)) (dar_ex (de_callTy call_listDD (by rfl) T.b_list (by decide +kernel) (da_cons (de_var (pv 6)) (da_nil))) (dar_nil)))))) (de_bl))
            (dss_one (ds_ret (de_bl)))
            (dss_nil))
            (dss_cons (ds_for [8] PassesOwn.never rfl (di_seq (de_call (fd__law_bent_covers T) nx__law_bent_covers (hr.mono (by decide)) (by rfl) (dar_ex (de_var (pv 1)) (dar_ex (de_var (pv 2)) (dar_ex (de_var (pv 5)) (dar_ex (de_call (fd__law_number T) nx__law_number (hr.mono (by decide)) (by rfl) (dar_ex (de_var (pv 0)) (dar_ex (de_int) (dar_nil)))) (dar_nil))))))) (dg_name nd rfl (Or.inl rfl))
            (dss_one (ds_if (dt_not (dt_val (de_call (fd__law_same T 6) (nx__law_same 6) (hr.mono (by decide)) (by rfl) (dar_ex (de_call (fd_is_pair_cover T) nx_is_pair_cover (hr.mono (by decide)) (by rfl) (dar_ex (de_ix (ix_D hu) (de_var (pv 4)) (de_int)) (dar_ex (de_ix (ix_D hu) (de_var (pv 4)) (de_int)) (dar_ex (de_ix (ix_D hu) (de_var (pv 4)) (de_int)) (dar_ex (de_var (pv 8)) (dar_nil)))))) (dar_ex (de_call (fd__law_is_cover T) nx__law_is_cover (hr.mono (by decide)) (by rfl) (dar_ex (de_var (pv 1)) (dar_ex (de_var (pv 2)) (dar_ex (de_var (pv 3)) (dar_ex (de_var (pv 8)) (dar_nil)))))) (dar_nil))))))
            (dss_one (ds_ret (de_bl)))
            (dss_nil))))
            (dss_cons (ds_for [8, 9] PassesOwn.never rfl (di_seq (de_call (fd__law_bent_packings T) nx__law_bent_packings (hr.mono (by decide)) (by rfl) (dar_ex (de_var (pv 1)) (dar_ex (de_var (pv 2)) (dar_ex (de_var (pv 6)) (dar_ex (de_call (fd__law_number T) nx__law_number (hr.mono (by decide)) (by rfl) (dar_ex (de_var (pv 0)) (dar_ex (de_int) (dar_nil)))) (dar_nil))))))) (dg_name nd rfl (Or.inl rfl))
            (dss_cons (ds_setF nd rfl (Or.inl rfl) (de_call (fd_is_pair_packing T) nx_is_pair_packing (hr.mono (by decide)) (by rfl) (dar_ex (de_ix (ix_D hu) (de_var (pv 4)) (de_int)) (dar_ex (de_ix (ix_D hu) (de_var (pv 4)) (de_int)) (dar_ex (de_ix (ix_D hu) (de_var (pv 4)) (de_int)) (dar_ex (de_var (pv 8)) (dar_nil)))))))
            (dss_one (ds_if (dt_not (dt_val (de_call (fd__law_same T 6) (nx__law_same 6) (hr.mono (by decide)) (by rfl) (dar_ex (de_var (pv 9)) (dar_ex (de_call (fd__law_is_packing T) nx__law_is_packing (hr.mono (by decide)) (by rfl) (dar_ex (de_var (pv 1)) (dar_ex (de_var (pv 2)) (dar_ex (de_var (pv 3)) (dar_ex (de_var (pv 8)) (dar_nil)))))) (dar_nil))))))
            (dss_one (ds_ret (de_bl)))
            (dss_nil)))))
            (dss_one (ds_ret (de_call (fd__law_same T 6) (nx__law_same 6) (hr.mono (by decide)) (by rfl) (dar_ex (de_var (pv 4)) (dar_ex (de_lst (da_cons (de_var (pv 1)) (da_cons (de_var (pv 2)) (da_cons (de_var (pv 3)) (da_nil))))) (dar_nil)))))))))))))))
  case hA => decide
theorem has_is_whole {h : Heap} {fa : Addr} {oc kV dc pm cd ct : Value} {od an : Option Addr} {sl : Array (Option Value)} (X : K.In h) (G : h.Ns mainGlobals mg)
    (a : PySem.W.nsIn K mainGlobals "is_whole" = some (some (.ref fa))) (l : K.lookup fa = some ⟨oc, od, .func (PySem.W.fnOf "is_whole" "is_whole" (defArgs s_is_whole) (defBody s_is_whole) (defScope s_is_whole) .none kV dc pm an cd ct), sl⟩) (c : PySem.W.codeIn K cd "is_whole" = true) (k : PySem.W.keepIn K (.ref fa) = true) : FHas K mg "is_whole" s_is_whole ["x", "least", "greatest"] := by
  have F := fun_mk (st := s_is_whole) l c k
  exact ⟨_, _, F, F.binds (ps := ["x", "least", "greatest"]) fun _ _ _ _ _ _ us hl => match us, hl with | [_, _, _], _ => rfl, PySem.W.mg_of X G a, k⟩
theorem has_is_row {h : Heap} {fa : Addr} {oc kV dc pm cd ct : Value} {od an : Option Addr} {sl : Array (Option Value)} (X : K.In h) (G : h.Ns mainGlobals mg)
    (a : PySem.W.nsIn K mainGlobals "is_row" = some (some (.ref fa))) (l : K.lookup fa = some ⟨oc, od, .func (PySem.W.fnOf "is_row" "is_row" (defArgs s_is_row) (defBody s_is_row) (defScope s_is_row) .none kV dc pm an cd ct), sl⟩) (c : PySem.W.codeIn K cd "is_row" = true) (k : PySem.W.keepIn K (.ref fa) = true) : FHas K mg "is_row" s_is_row ["x", "size"] := by
  have F := fun_mk (st := s_is_row) l c k
  exact ⟨_, _, F, F.binds (ps := ["x", "size"]) fun _ _ _ _ _ _ us hl => match us, hl with | [_, _], _ => rfl, PySem.W.mg_of X G a, k⟩
theorem has_are_places {h : Heap} {fa : Addr} {oc kV dc pm cd ct : Value} {od an : Option Addr} {sl : Array (Option Value)} (X : K.In h) (G : h.Ns mainGlobals mg)
    (a : PySem.W.nsIn K mainGlobals "are_places" = some (some (.ref fa))) (l : K.lookup fa = some ⟨oc, od, .func (PySem.W.fnOf "are_places" "are_places" (defArgs s_are_places) (defBody s_are_places) (defScope s_are_places) .none kV dc pm an cd ct), sl⟩) (c : PySem.W.codeIn K cd "are_places" = true) (k : PySem.W.keepIn K (.ref fa) = true) : FHas K mg "are_places" s_are_places ["count", "places"] := by
  have F := fun_mk (st := s_are_places) l c k
  exact ⟨_, _, F, F.binds (ps := ["count", "places"]) fun _ _ _ _ _ _ us hl => match us, hl with | [_, _], _ => rfl, PySem.W.mg_of X G a, k⟩
theorem has_is_pair_cover {h : Heap} {fa : Addr} {oc kV dc pm cd ct : Value} {od an : Option Addr} {sl : Array (Option Value)} (X : K.In h) (G : h.Ns mainGlobals mg)
    (a : PySem.W.nsIn K mainGlobals "is_pair_cover" = some (some (.ref fa))) (l : K.lookup fa = some ⟨oc, od, .func (PySem.W.fnOf "is_pair_cover" "is_pair_cover" (defArgs s_is_pair_cover) (defBody s_is_pair_cover) (defScope s_is_pair_cover) .none kV dc pm an cd ct), sl⟩) (c : PySem.W.codeIn K cd "is_pair_cover" = true) (k : PySem.W.keepIn K (.ref fa) = true) : FHas K mg "is_pair_cover" s_is_pair_cover ["lefts", "rights", "pairs", "cover"] := by
  have F := fun_mk (st := s_is_pair_cover) l c k
  exact ⟨_, _, F, F.binds (ps := ["lefts", "rights", "pairs", "cover"]) fun _ _ _ _ _ _ us hl => match us, hl with | [_, _, _, _], _ => rfl, PySem.W.mg_of X G a, k⟩
theorem has_cover_weight {h : Heap} {fa : Addr} {oc kV dc pm cd ct : Value} {od an : Option Addr} {sl : Array (Option Value)} (X : K.In h) (G : h.Ns mainGlobals mg)
    (a : PySem.W.nsIn K mainGlobals "cover_weight" = some (some (.ref fa))) (l : K.lookup fa = some ⟨oc, od, .func (PySem.W.fnOf "cover_weight" "cover_weight" (defArgs s_cover_weight) (defBody s_cover_weight) (defScope s_cover_weight) .none kV dc pm an cd ct), sl⟩) (c : PySem.W.codeIn K cd "cover_weight" = true) (k : PySem.W.keepIn K (.ref fa) = true) : FHas K mg "cover_weight" s_cover_weight ["lefts", "rights", "cover"] := by
  have F := fun_mk (st := s_cover_weight) l c k
  exact ⟨_, _, F, F.binds (ps := ["lefts", "rights", "cover"]) fun _ _ _ _ _ _ us hl => match us, hl with | [_, _, _], _ => rfl, PySem.W.mg_of X G a, k⟩
theorem has_is_triple {h : Heap} {fa : Addr} {oc kV dc pm cd ct : Value} {od an : Option Addr} {sl : Array (Option Value)} (X : K.In h) (G : h.Ns mainGlobals mg)
    (a : PySem.W.nsIn K mainGlobals "is_triple" = some (some (.ref fa))) (l : K.lookup fa = some ⟨oc, od, .func (PySem.W.fnOf "is_triple" "is_triple" (defArgs s_is_triple) (defBody s_is_triple) (defScope s_is_triple) .none kV dc pm an cd ct), sl⟩) (c : PySem.W.codeIn K cd "is_triple" = true) (k : PySem.W.keepIn K (.ref fa) = true) : FHas K mg "is_triple" s_is_triple ["lefts", "rights", "pairs", "triple"] := by
  have F := fun_mk (st := s_is_triple) l c k
  exact ⟨_, _, F, F.binds (ps := ["lefts", "rights", "pairs", "triple"]) fun _ _ _ _ _ _ us hl => match us, hl with | [_, _, _, _], _ => rfl, PySem.W.mg_of X G a, k⟩
theorem has_is_pair_packing {h : Heap} {fa : Addr} {oc kV dc pm cd ct : Value} {od an : Option Addr} {sl : Array (Option Value)} (X : K.In h) (G : h.Ns mainGlobals mg)
    (a : PySem.W.nsIn K mainGlobals "is_pair_packing" = some (some (.ref fa))) (l : K.lookup fa = some ⟨oc, od, .func (PySem.W.fnOf "is_pair_packing" "is_pair_packing" (defArgs s_is_pair_packing) (defBody s_is_pair_packing) (defScope s_is_pair_packing) .none kV dc pm an cd ct), sl⟩) (c : PySem.W.codeIn K cd "is_pair_packing" = true) (k : PySem.W.keepIn K (.ref fa) = true) : FHas K mg "is_pair_packing" s_is_pair_packing ["lefts", "rights", "pairs", "packing"] := by
  have F := fun_mk (st := s_is_pair_packing) l c k
  exact ⟨_, _, F, F.binds (ps := ["lefts", "rights", "pairs", "packing"]) fun _ _ _ _ _ _ us hl => match us, hl with | [_, _, _, _], _ => rfl, PySem.W.mg_of X G a, k⟩
theorem has__law_number {h : Heap} {fa : Addr} {oc kV dc pm cd ct : Value} {od an : Option Addr} {sl : Array (Option Value)} (X : K.In h) (G : h.Ns mainGlobals mg)
    (a : PySem.W.nsIn K mainGlobals "_law_number" = some (some (.ref fa))) (l : K.lookup fa = some ⟨oc, od, .func (PySem.W.fnOf "_law_number" "_law_number" (defArgs s__law_number) (defBody s__law_number) (defScope s__law_number) .none kV dc pm an cd ct), sl⟩) (c : PySem.W.codeIn K cd "_law_number" = true) (k : PySem.W.keepIn K (.ref fa) = true) : FHas K mg "_law_number" s__law_number ["script", "k"] := by
  have F := fun_mk (st := s__law_number) l c k
  exact ⟨_, _, F, F.binds (ps := ["script", "k"]) fun _ _ _ _ _ _ us hl => match us, hl with | [_, _], _ => rfl, PySem.W.mg_of X G a, k⟩
theorem has__law_digits {h : Heap} {fa : Addr} {oc kV dc pm cd ct : Value} {od an : Option Addr} {sl : Array (Option Value)} (X : K.In h) (G : h.Ns mainGlobals mg)
    (a : PySem.W.nsIn K mainGlobals "_law_digits" = some (some (.ref fa))) (l : K.lookup fa = some ⟨oc, od, .func (PySem.W.fnOf "_law_digits" "_law_digits" (defArgs s__law_digits) (defBody s__law_digits) (defScope s__law_digits) .none kV dc pm an cd ct), sl⟩) (c : PySem.W.codeIn K cd "_law_digits" = true) (k : PySem.W.keepIn K (.ref fa) = true) : FHas K mg "_law_digits" s__law_digits ["number", "sizes"] := by
  have F := fun_mk (st := s__law_digits) l c k
  exact ⟨_, _, F, F.binds (ps := ["number", "sizes"]) fun _ _ _ _ _ _ us hl => match us, hl with | [_, _], _ => rfl, PySem.W.mg_of X G a, k⟩
theorem has__law_same {h : Heap} {fa : Addr} {oc kV dc pm cd ct : Value} {od an : Option Addr} {sl : Array (Option Value)} (X : K.In h) (G : h.Ns mainGlobals mg)
    (a : PySem.W.nsIn K mainGlobals "_law_same" = some (some (.ref fa))) (l : K.lookup fa = some ⟨oc, od, .func (PySem.W.fnOf "_law_same" "_law_same" (defArgs s__law_same) (defBody s__law_same) (defScope s__law_same) .none kV dc pm an cd ct), sl⟩) (c : PySem.W.codeIn K cd "_law_same" = true) (k : PySem.W.keepIn K (.ref fa) = true) : FHas K mg "_law_same" s__law_same ["told", "due"] := by
  have F := fun_mk (st := s__law_same) l c k
  exact ⟨_, _, F, F.binds (ps := ["told", "due"]) fun _ _ _ _ _ _ us hl => match us, hl with | [_, _], _ => rfl, PySem.W.mg_of X G a, k⟩
theorem has__law_whole {h : Heap} {fa : Addr} {oc kV dc pm cd ct : Value} {od an : Option Addr} {sl : Array (Option Value)} (X : K.In h) (G : h.Ns mainGlobals mg)
    (a : PySem.W.nsIn K mainGlobals "_law_whole" = some (some (.ref fa))) (l : K.lookup fa = some ⟨oc, od, .func (PySem.W.fnOf "_law_whole" "_law_whole" (defArgs s__law_whole) (defBody s__law_whole) (defScope s__law_whole) .none kV dc pm an cd ct), sl⟩) (c : PySem.W.codeIn K cd "_law_whole" = true) (k : PySem.W.keepIn K (.ref fa) = true) : FHas K mg "_law_whole" s__law_whole ["x"] := by
  have F := fun_mk (st := s__law_whole) l c k
  exact ⟨_, _, F, F.binds (ps := ["x"]) fun _ _ _ _ _ _ us hl => match us, hl with | [_], _ => rfl, PySem.W.mg_of X G a, k⟩
theorem has__law_draw {h : Heap} {fa : Addr} {oc kV dc pm cd ct : Value} {od an : Option Addr} {sl : Array (Option Value)} (X : K.In h) (G : h.Ns mainGlobals mg)
    (a : PySem.W.nsIn K mainGlobals "_law_draw" = some (some (.ref fa))) (l : K.lookup fa = some ⟨oc, od, .func (PySem.W.fnOf "_law_draw" "_law_draw" (defArgs s__law_draw) (defBody s__law_draw) (defScope s__law_draw) .none kV dc pm an cd ct), sl⟩) (c : PySem.W.codeIn K cd "_law_draw" = true) (k : PySem.W.keepIn K (.ref fa) = true) : FHas K mg "_law_draw" s__law_draw ["script"] := by
  have F := fun_mk (st := s__law_draw) l c k
  exact ⟨_, _, F, F.binds (ps := ["script"]) fun _ _ _ _ _ _ us hl => match us, hl with | [_], _ => rfl, PySem.W.mg_of X G a, k⟩
theorem has__law_cover {h : Heap} {fa : Addr} {oc kV dc pm cd ct : Value} {od an : Option Addr} {sl : Array (Option Value)} (X : K.In h) (G : h.Ns mainGlobals mg)
    (a : PySem.W.nsIn K mainGlobals "_law_cover" = some (some (.ref fa))) (l : K.lookup fa = some ⟨oc, od, .func (PySem.W.fnOf "_law_cover" "_law_cover" (defArgs s__law_cover) (defBody s__law_cover) (defScope s__law_cover) .none kV dc pm an cd ct), sl⟩) (c : PySem.W.codeIn K cd "_law_cover" = true) (k : PySem.W.keepIn K (.ref fa) = true) : FHas K mg "_law_cover" s__law_cover ["rights", "pairs", "number"] := by
  have F := fun_mk (st := s__law_cover) l c k
  exact ⟨_, _, F, F.binds (ps := ["rights", "pairs", "number"]) fun _ _ _ _ _ _ us hl => match us, hl with | [_, _, _], _ => rfl, PySem.W.mg_of X G a, k⟩
theorem has__law_packing {h : Heap} {fa : Addr} {oc kV dc pm cd ct : Value} {od an : Option Addr} {sl : Array (Option Value)} (X : K.In h) (G : h.Ns mainGlobals mg)
    (a : PySem.W.nsIn K mainGlobals "_law_packing" = some (some (.ref fa))) (l : K.lookup fa = some ⟨oc, od, .func (PySem.W.fnOf "_law_packing" "_law_packing" (defArgs s__law_packing) (defBody s__law_packing) (defScope s__law_packing) .none kV dc pm an cd ct), sl⟩) (c : PySem.W.codeIn K cd "_law_packing" = true) (k : PySem.W.keepIn K (.ref fa) = true) : FHas K mg "_law_packing" s__law_packing ["lefts", "rights", "pairs", "number"] := by
  have F := fun_mk (st := s__law_packing) l c k
  exact ⟨_, _, F, F.binds (ps := ["lefts", "rights", "pairs", "number"]) fun _ _ _ _ _ _ us hl => match us, hl with | [_, _, _, _], _ => rfl, PySem.W.mg_of X G a, k⟩
theorem has__law_places {h : Heap} {fa : Addr} {oc kV dc pm cd ct : Value} {od an : Option Addr} {sl : Array (Option Value)} (X : K.In h) (G : h.Ns mainGlobals mg)
    (a : PySem.W.nsIn K mainGlobals "_law_places" = some (some (.ref fa))) (l : K.lookup fa = some ⟨oc, od, .func (PySem.W.fnOf "_law_places" "_law_places" (defArgs s__law_places) (defBody s__law_places) (defScope s__law_places) .none kV dc pm an cd ct), sl⟩) (c : PySem.W.codeIn K cd "_law_places" = true) (k : PySem.W.keepIn K (.ref fa) = true) : FHas K mg "_law_places" s__law_places ["places", "count"] := by
  have F := fun_mk (st := s__law_places) l c k
  exact ⟨_, _, F, F.binds (ps := ["places", "count"]) fun _ _ _ _ _ _ us hl => match us, hl with | [_, _], _ => rfl, PySem.W.mg_of X G a, k⟩
theorem has__law_is_cover {h : Heap} {fa : Addr} {oc kV dc pm cd ct : Value} {od an : Option Addr} {sl : Array (Option Value)} (X : K.In h) (G : h.Ns mainGlobals mg)
    (a : PySem.W.nsIn K mainGlobals "_law_is_cover" = some (some (.ref fa))) (l : K.lookup fa = some ⟨oc, od, .func (PySem.W.fnOf "_law_is_cover" "_law_is_cover" (defArgs s__law_is_cover) (defBody s__law_is_cover) (defScope s__law_is_cover) .none kV dc pm an cd ct), sl⟩) (c : PySem.W.codeIn K cd "_law_is_cover" = true) (k : PySem.W.keepIn K (.ref fa) = true) : FHas K mg "_law_is_cover" s__law_is_cover ["lefts", "rights", "pairs", "cover"] := by
  have F := fun_mk (st := s__law_is_cover) l c k
  exact ⟨_, _, F, F.binds (ps := ["lefts", "rights", "pairs", "cover"]) fun _ _ _ _ _ _ us hl => match us, hl with | [_, _, _, _], _ => rfl, PySem.W.mg_of X G a, k⟩
theorem has__law_is_packing {h : Heap} {fa : Addr} {oc kV dc pm cd ct : Value} {od an : Option Addr} {sl : Array (Option Value)} (X : K.In h) (G : h.Ns mainGlobals mg)
    (a : PySem.W.nsIn K mainGlobals "_law_is_packing" = some (some (.ref fa))) (l : K.lookup fa = some ⟨oc, od, .func (PySem.W.fnOf "_law_is_packing" "_law_is_packing" (defArgs s__law_is_packing) (defBody s__law_is_packing) (defScope s__law_is_packing) .none kV dc pm an cd ct), sl⟩) (c : PySem.W.codeIn K cd "_law_is_packing" = true) (k : PySem.W.keepIn K (.ref fa) = true) : FHas K mg "_law_is_packing" s__law_is_packing ["lefts", "rights", "pairs", "packing"] := by
  have F := fun_mk (st := s__law_is_packing) l c k
  exact ⟨_, _, F, F.binds (ps := ["lefts", "rights", "pairs", "packing"]) fun _ _ _ _ _ _ us hl => match us, hl with | [_, _, _, _], _ => rfl, PySem.W.mg_of X G a, k⟩
theorem has__law_bent_lists {h : Heap} {fa : Addr} {oc kV dc pm cd ct : Value} {od an : Option Addr} {sl : Array (Option Value)} (X : K.In h) (G : h.Ns mainGlobals mg)
    (a : PySem.W.nsIn K mainGlobals "_law_bent_lists" = some (some (.ref fa))) (l : K.lookup fa = some ⟨oc, od, .func (PySem.W.fnOf "_law_bent_lists" "_law_bent_lists" (defArgs s__law_bent_lists) (defBody s__law_bent_lists) (defScope s__law_bent_lists) .none kV dc pm an cd ct), sl⟩) (c : PySem.W.codeIn K cd "_law_bent_lists" = true) (k : PySem.W.keepIn K (.ref fa) = true) : FHas K mg "_law_bent_lists" s__law_bent_lists ["places", "count", "number"] := by
  have F := fun_mk (st := s__law_bent_lists) l c k
  exact ⟨_, _, F, F.binds (ps := ["places", "count", "number"]) fun _ _ _ _ _ _ us hl => match us, hl with | [_, _, _], _ => rfl, PySem.W.mg_of X G a, k⟩
theorem has__law_bent_covers {h : Heap} {fa : Addr} {oc kV dc pm cd ct : Value} {od an : Option Addr} {sl : Array (Option Value)} (X : K.In h) (G : h.Ns mainGlobals mg)
    (a : PySem.W.nsIn K mainGlobals "_law_bent_covers" = some (some (.ref fa))) (l : K.lookup fa = some ⟨oc, od, .func (PySem.W.fnOf "_law_bent_covers" "_law_bent_covers" (defArgs s__law_bent_covers) (defBody s__law_bent_covers) (defScope s__law_bent_covers) .none kV dc pm an cd ct), sl⟩) (c : PySem.W.codeIn K cd "_law_bent_covers" = true) (k : PySem.W.keepIn K (.ref fa) = true) : FHas K mg "_law_bent_covers" s__law_bent_covers ["lefts", "rights", "cover", "number"] := by
  have F := fun_mk (st := s__law_bent_covers) l c k
  exact ⟨_, _, F, F.binds (ps := ["lefts", "rights", "cover", "number"]) fun _ _ _ _ _ _ us hl => match us, hl with | [_, _, _, _], _ => rfl, PySem.W.mg_of X G a, k⟩
theorem has__law_bent_packings {h : Heap} {fa : Addr} {oc kV dc pm cd ct : Value} {od an : Option Addr} {sl : Array (Option Value)} (X : K.In h) (G : h.Ns mainGlobals mg)
    (a : PySem.W.nsIn K mainGlobals "_law_bent_packings" = some (some (.ref fa))) (l : K.lookup fa = some ⟨oc, od, .func (PySem.W.fnOf "_law_bent_packings" "_law_bent_packings" (defArgs s__law_bent_packings) (defBody s__law_bent_packings) (defScope s__law_bent_packings) .none kV dc pm an cd ct), sl⟩) (c : PySem.W.codeIn K cd "_law_bent_packings" = true) (k : PySem.W.keepIn K (.ref fa) = true) : FHas K mg "_law_bent_packings" s__law_bent_packings ["lefts", "rights", "packing", "number"] := by
  have F := fun_mk (st := s__law_bent_packings) l c k
  exact ⟨_, _, F, F.binds (ps := ["lefts", "rights", "packing", "number"]) fun _ _ _ _ _ _ us hl => match us, hl with | [_, _, _, _], _ => rfl, PySem.W.mg_of X G a, k⟩
theorem has_law {h : Heap} {fa : Addr} {oc kV dc pm cd ct : Value} {od an : Option Addr} {sl : Array (Option Value)} (X : K.In h) (G : h.Ns mainGlobals mg)
    (a : PySem.W.nsIn K mainGlobals "law" = some (some (.ref fa))) (l : K.lookup fa = some ⟨oc, od, .func (PySem.W.fnOf "law" "law" (defArgs s_law) (defBody s_law) (defScope s_law) .none kV dc pm an cd ct), sl⟩) (c : PySem.W.codeIn K cd "law" = true) (k : PySem.W.keepIn K (.ref fa) = true) : FHas K mg "law" s_law ["script"] := by
  have F := fun_mk (st := s_law) l c k
  exact ⟨_, _, F, F.binds (ps := ["script"]) fun _ _ _ _ _ _ us hl => match us, hl with | [_], _ => rfl, PySem.W.mg_of X G a, k⟩
theorem all_mk {l : PySem.W.OpenLaw} {h : Heap} {fa f1 : Addr} {oc kV dc pm cd ct : Value} {od an : Option Addr} {sl : Array (Option Value)} (hf : LawD f_law) (X : K.In h) (G : h.Ns mainGlobals mg) (hfa : mg "law" = some (.ref fa)) (T : Txt K mg)
    (a : PySem.W.nsIn K mainGlobals "law" = some (some (.ref f1))) (l1 : K.lookup f1 = some ⟨oc, od, .func (PySem.W.fnOf "law" "law" (defArgs s_law) (defBody s_law) (defScope s_law) .none kV dc pm an cd ct), sl⟩) (c : PySem.W.codeIn K cd "law" = true) (k : PySem.W.keepIn K (.ref f1) = true) :
    ∃ fd : FuncData, (∀ (s : Shared) (v : Value), BindsTo s fd ⟨[v], []⟩ [("script", v)]) ∧ ∀ base : Heap, K.In base → base.Ns mainGlobals mg → FnOk l.prog w K mg base CX0 8 fa fd ["script"] (spL K) := by
  have e := hfa.symm.trans (PySem.W.mg_of X G a)
  cases e
  exact ⟨PySem.W.fnOf "law" "law" (defArgs s_law) (defBody s_law) (defScope s_law) .none kV dc pm an cd ct, fun s v => .of_eq rfl, fun base _ _ => (ok_law T (fun_mk (st := s_law) l1 c k)).imp (spL_spD hf)⟩
end
end W

set_option autoImplicit false
set_option Elab.async false
set_option linter.all false
set_option maxRecDepth 100000
namespace W
open PySem PySem.Spec PyProof.Rows L2 DL
theorem run_number (ns : List Int) (k : Nat) : ∃ n d, f__law_number [.scr (ns.map .int), .int k] = .ret n d [.scr (ns.map .int), .int k] ∧ (n = 0 ∧ ∃ z : Int, d = .int z) := by
  refine fn_ret ?_
  unfold m__law_number
  simp
  intro h
  obtain ⟨a, ha, _⟩ := atI_in (xs := ns) (i := k) (by omega) (by omega)
  simp [ha]
def numv (ns : List Int) (k : Int) : Int := match f__law_number [.scr (ns.map .int), .int k] with
  | .ret _ (.int z) _ => z
  | _ => 0
theorem number (ns : List Int) (k : Int) (h : 0 ≤ k) : f__law_number [.scr (ns.map .int), .int k] = .ret 0 (.int (numv ns k)) [.scr (ns.map .int), .int k] := by
  obtain ⟨k, rfl⟩ := Int.eq_ofNat_of_zero_le h
  obtain ⟨n, d, e, rfl, z, rfl⟩ := run_number ns k
  unfold numv
  rw [e]
def digs : Int → List Int → List Int
  | _, [] => []
  | z, s :: r => (z % s) :: digs (z / s) r
theorem digits (z : Int) (sizes : List Int) (hs : ∀ s ∈ sizes, 0 < s ∧ s < 1073741824) (hl : sizes.length < 1000) :
    f__law_digits [.int z, .lst (sizes.map .int)] = .ret 1 (.lst ((digs z sizes).map .int)) [.int z, .lst (sizes.map .int)] := by
  suffices h : ∃ n d, f__law_digits [.int z, .lst (sizes.map .int)] = .ret n d [.int z, .lst (sizes.map .int)] ∧ (n = 1 ∧ d = .lst ((digs z sizes).map .int)) by
    obtain ⟨n, d, e, rfl, rfl⟩ := h
    exact e
  refine fn_ret ?_
  unfold m__law_digits
  simp
  refine WS_forB (fun k e => ∃ (z' : Int) (acc : List Int), acc.length = k ∧ acc ++ digs z' (sizes.drop k) = digs z sizes ∧ e = [some (0, .int z'), some (0, .lst (sizes.map .int)), some (1, .lst (acc.map .int)), none]) ?_ ?_ ?_
  · exact ⟨z, [], rfl, by simp, rfl⟩
  · rintro J hJ j d e hj ⟨z', acc, ha, hd, rfl⟩
    obtain ⟨x, hx, rfl⟩ := map_get hj
    have hx0 := hs x (List.mem_of_getElem? hx)
    have hjl := (List.getElem?_eq_some_iff.mp hx).1
    rw [drop_get hx] at hd
    simp [modD_int hx0.1, fdivD_int hx0.1 (show x < 2 ^ 30 by omega), LIM]
    refine ⟨by omega, hJ _ _ ⟨z' / x, acc ++ [z' % x], by simp [ha], ?_, by simp⟩⟩
    rw [← hd]; simp [digs]
  · rintro e ⟨z', acc, ha, hd, rfl⟩
    simp at hd ha
    simp [digs] at hd ⊢
    simp [hd]
/-! ### the draw -/
def lt2 (p q : Int × Int) : Prop := p.1 < q.1 ∨ (p.1 = q.1 ∧ p.2 < q.2)
structure Drawn (lefts rights : List Int) (pairs : List (Int × Int)) : Prop where
  l24 : lefts.length ≤ 24
  r24 : rights.length ≤ 24
  lpos : ∀ x ∈ lefts, 1 ≤ x
  rpos : ∀ x ∈ rights, 1 ≤ x
  inn : ∀ p ∈ pairs, 0 ≤ p.1 ∧ p.1 < lefts.length ∧ 0 ≤ p.2 ∧ p.2 < rights.length
  srt : pairs.Pairwise lt2
  len : pairs.length ≤ 576
theorem filterMap_get {α β : Type} (f : α → β) : ∀ l : List α, (l.filterMap fun x => some (f x)) = l.map f := fun l => by
  rw [List.filterMap_eq_map']
theorem draw (ns : List Int) : ∃ (lefts rights : List Int) (pairs : List (Int × Int)), Drawn lefts rights pairs ∧
    f__law_draw [.scr (ns.map .int)] = .ret 0 (.tup [.lst (lefts.map .int), .lst (rights.map .int), .lst (pairs.map ipD)]) [.scr (ns.map .int)] := by
  suffices h : ∃ n d, f__law_draw [.scr (ns.map .int)] = .ret n d [.scr (ns.map .int)] ∧ (n = 0 ∧ ∃ (lefts rights : List Int) (pairs : List (Int × Int)), Drawn lefts rights pairs ∧ d = .tup [.lst (lefts.map .int), .lst (rights.map .int), .lst (pairs.map ipD)]) by
    obtain ⟨n, d, e, rfl, l, r, p, D, rfl⟩ := h
    exact ⟨l, r, p, D, e⟩
  refine fn_ret ?_
  have h0 := number ns 0 (by decide)
  generalize numv ns 0 = z0 at h0
  have hd := digits z0 [9, 7, 7, 2, 4] (by decide) (by decide)
  simp [digs] at hd
  unfold m__law_draw
  rw [WS_assoc, WS_assoc, WS_assoc, WS_assoc]
  refine WS_cut (fun e => ∃ L R : Int, 0 ≤ L ∧ L ≤ 24 ∧ 0 ≤ R ∧ R ≤ 24 ∧ ∃ most : Int, 0 < most ∧ most < 1000 ∧ ∃ dl : List D, (∃ q : Int, L2.atI dl 4 = some (.int q)) ∧ e = [some (0, .scr (ns.map .int)), some (0, .lst dl), some (0, .int L), some (0, .int R), some (0, .int most), none, none, none, none, none, none]) ?_ ?_
  · have hm : ∃ most : Int, 0 < most ∧ most < 1000 ∧ L2.atI [D.int 9, D.int 999] (z0 / 9 / 7 / 7 % 2) = some (.int most) := by
      have h1 : z0 / 9 / 7 / 7 % 2 = 0 ∨ z0 / 9 / 7 / 7 % 2 = 1 := by omega
      rcases h1 with h1 | h1 <;> rw [h1]
      · exact ⟨9, by decide, by decide, rfl⟩
      · exact ⟨999, by decide, by decide, rfl⟩
    obtain ⟨most, m1, m2, hm⟩ := hm
    simp [h0, hd]
    have e0 : L2.atI [D.int (z0 % 9), D.int (z0 / 9 % 7), D.int (z0 / 9 / 7 % 7), D.int (z0 / 9 / 7 / 7 % 2), D.int (z0 / 9 / 7 / 7 / 2 % 4)] 0 = some (.int (z0 % 9)) := rfl
    have e1 : L2.atI [D.int (z0 % 9), D.int (z0 / 9 % 7), D.int (z0 / 9 / 7 % 7), D.int (z0 / 9 / 7 / 7 % 2), D.int (z0 / 9 / 7 / 7 / 2 % 4)] 1 = some (.int (z0 / 9 % 7)) := rfl
    have e2 : L2.atI [D.int (z0 % 9), D.int (z0 / 9 % 7), D.int (z0 / 9 / 7 % 7), D.int (z0 / 9 / 7 / 7 % 2), D.int (z0 / 9 / 7 / 7 / 2 % 4)] 2 = some (.int (z0 / 9 / 7 % 7)) := rfl
    have e3 : L2.atI [D.int (z0 % 9), D.int (z0 / 9 % 7), D.int (z0 / 9 / 7 % 7), D.int (z0 / 9 / 7 / 7 % 2), D.int (z0 / 9 / 7 / 7 / 2 % 4)] 3 = some (.int (z0 / 9 / 7 / 7 % 2)) := rfl
    simp [e0, e1, e2, e3, hm]
    refine ⟨fun _ => ⟨24, by decide, by decide, 24, by decide, by decide, most, m1, m2, _, ⟨_, rfl⟩, rfl, rfl, rfl, rfl⟩, fun _ => ⟨z0 / 9 % 7, by omega, by omega, z0 / 9 / 7 % 7, by omega, by omega, most, m1, m2, _, ⟨_, rfl⟩, rfl, rfl, rfl, rfl⟩⟩
  · rintro e ⟨L, R, l0, l1, r0, r1, most, m1, m2, dl, ⟨q, hq⟩, rfl⟩
    simp [rng1_nat l0 (by omega)]
    refine WS_forB (fun k e => ∃ (lefts : List Int) (pairs : List (Int × Int)), lefts.length = k ∧ (∀ x ∈ lefts, 1 ≤ x) ∧ pairs.Pairwise lt2 ∧ (∀ p ∈ pairs, 0 ≤ p.1 ∧ p.1 < k ∧ 0 ≤ p.2 ∧ p.2 < R) ∧ pairs.length ≤ 24 * k ∧
      e = [some (0, .scr (ns.map .int)), some (0, .lst dl), some (0, .int L), some (0, .int R), some (0, .int most), some (1, .lst (lefts.map .int)), some (1, .lst (pairs.map ipD)), none, none, none, none]) ?_ ?_ ?_
    · exact ⟨[], [], rfl, by simp, .nil, by simp, by simp, rfl⟩
    · rintro J hJ i d e hi ⟨lefts, pairs, hl, hp, hs, hin, hlen, rfl⟩
      obtain ⟨hiL, rfl⟩ := rangeD_get hi
      have hn := number ns (1 + (0 + (i : Int))) (by omega)
      simp only [Int.zero_add] at hn ⊢
      simp [hn, LIM, hl, modD_int m1, fdivD_int m1 (show most < 2 ^ 30 by omega), rng1_nat r0 (by omega)]
      refine ⟨by omega, ?_⟩
      refine WS_forB (fun k e => ∃ (pairs : List (Int × Int)) (num : Int), pairs.Pairwise lt2 ∧ (∀ p ∈ pairs, 0 ≤ p.1 ∧ (p.1 < i ∨ p.1 = i ∧ p.2 < k) ∧ 0 ≤ p.2 ∧ p.2 < R) ∧ pairs.length ≤ 24 * i + k ∧
        e = [some (0, .scr (ns.map .int)), some (0, .lst dl), some (0, .int L), some (0, .int R), some (0, .int most), some (1, .lst (lefts.map .int ++ [.int (1 + numv ns (1 + (i : Int)) % most)])), some (1, .lst (pairs.map ipD)), some (0, .int i), none, some (0, .int num), none]) ?_ ?_ ?_
      · exact ⟨pairs, _, hs, fun p h => ⟨(hin p h).1, .inl (hin p h).2.1, (hin p h).2.2⟩, hlen, rfl⟩
      · rintro J hJ j d e hj ⟨ps, num, hs, hin, hlen, rfl⟩
        obtain ⟨hjR, rfl⟩ := rangeD_get hj
        simp only [Int.zero_add]
        simp [hq, LIM]
        refine ⟨fun _ => ⟨by omega, hJ _ _ ⟨ps ++ [((i : Int), (j : Int))], num / 4, ?_, ?_, ?_, by simp [ipD]⟩⟩, fun _ => hJ _ _ ⟨ps, num / 4, hs, fun p h => ?_, by omega, rfl⟩⟩
        · refine List.pairwise_append.mpr ⟨hs, by simp, fun a ha b hb => ?_⟩
          simp at hb
          subst hb
          have := hin a ha
          unfold lt2
          omega
        · intro p hp
          rcases List.mem_append.mp hp with hp | hp
          · have := hin p hp; omega
          · simp at hp; subst hp; simp; omega
        · simp; omega
        · have := hin p h; omega
      · rintro e ⟨ps, num, hs, hin, hlen, rfl⟩
        simp at hin hlen ⊢
        refine hJ _ _ ⟨lefts ++ [1 + numv ns (1 + (i : Int)) % most], ps, by simp [hl], fun x hx => ?_, hs, fun p hp => ?_, by omega, by simp⟩
        · rcases List.mem_append.mp hx with hx | hx
          · exact hp x hx
          · simp at hx
            have := Int.emod_nonneg (numv ns (1 + (i : Int))) (show most ≠ 0 by omega)
            omega
        · have := hin p.1 p.2 hp; omega
    · rintro e ⟨lefts, pairs, hl, hp, hs, hin, hlen, rfl⟩
      simp [rng1_nat r0 (by omega)]
      refine WE_compL (fun d => match d with
        | .int j => some (.int (1 + numv ns (25 + j) % most))
        | _ => none) _ _ (by simp; omega) (fun d hd => ?_) ?_ (fun _ _ z => z)
      · obtain ⟨j, hj, rfl⟩ := rangeD_mem hd
        have hn := number ns (25 + (0 + (j : Int))) (by omega)
        simp only [Int.zero_add] at hn ⊢
        simp [hn, modD_int m1]
      · have e1 : (rangeD 0 R.toNat).filterMap (fun d => match d with
          | .int j => some (D.int (1 + numv ns (25 + j) % most))
          | _ => none) = ((List.range R.toNat).map fun (j : Nat) => 1 + numv ns (25 + (j : Int)) % most).map D.int := by
          unfold rangeD
          rw [List.filterMap_map, List.map_map]
          simp
          rw [← List.filterMap_eq_map]
          rfl
        simp at hl hin hlen
        simp [e1]
        refine ⟨lefts, (List.range R.toNat).map fun (j : Nat) => 1 + numv ns (25 + (j : Int)) % most, pairs, ⟨by omega, by simp; omega, hp, fun x hx => ?_, fun p hp => ?_, hs, by omega⟩, rfl, by simp, rfl⟩
        · obtain ⟨j, _, rfl⟩ := List.mem_map.mp hx
          have := Int.emod_nonneg (numv ns (25 + (j : Int))) (show most ≠ 0 by omega)
          omega
        · have := hin p.1 p.2 hp
          simp; omega
end W

set_option autoImplicit false
set_option Elab.async false
set_option linter.all false
set_option maxRecDepth 100000
namespace W
open PySem PySem.Spec PyProof.Rows L2 DL
/-- an item that isinstance knows -/
def Kn (d : D) : Prop := ∃ t, tyOfD d = some t
/-- a value from a function -/
def BoolIs (o : FR) (ds : List D) (p : Prop) : Prop := ∃ b : Bool, o = .ret 0 (.bl b) ds ∧ (b = true ↔ p)
theorem BoolIs.of {pm : List Nat} {kk : Nat} {m : MS} {ds : List D} {p : Prop} (h : ∀ J : Nat → D → Prop, (∀ b : Bool, (b = true ↔ p) → J 0 (.bl b)) → WS (m (mkEnv pm ds ++ List.replicate kk none)) (bodyP pm ds J)) : BoolIs (fnSem pm kk m ds) ds p := by
  obtain ⟨n, d, e, rfl, b, rfl, hb⟩ := fn_retB (R := fun n d => n = 0 ∧ ∃ b : Bool, d = .bl b ∧ (b = true ↔ p)) fun J hJ => h J fun b hb => hJ _ _ ⟨rfl, b, rfl, hb⟩
  exact ⟨b, e, hb⟩
theorem is_whole {d : D} {a b : Int} (hd : Kn d) : BoolIs (f_is_whole [d, .int a, .int b]) [d, .int a, .int b] (∃ i, d = .int i ∧ a ≤ i ∧ i ≤ b) := by
  refine BoolIs.of fun J hJ => ?_
  unfold m_is_whole
  obtain ⟨t, ht⟩ := hd
  cases d <;> simp at ht <;> simp [isTyB_eq]
  all_goals first
    | exact hJ false (by simp)
    | skip
  rename_i i
  refine ⟨fun h => hJ _ ?_, fun h => hJ _ ?_⟩
  · simp; omega
  · simp; omega
theorem whole {d : D} (hd : Kn d) : BoolIs (f__law_whole [d]) [d] (∃ i, d = .int i) := by
  refine BoolIs.of fun J hJ => ?_
  unfold m__law_whole
  obtain ⟨t, ht⟩ := hd
  cases d <;> simp at ht <;> simp [isTyB_eq]
  all_goals exact hJ _ (by simp)
theorem is_row {d : D} {k : Int} (hd : Kn d) : BoolIs (f_is_row [d, .int k]) [d, .int k] (∃ ds, d = .tup ds ∧ (ds.length : Int) = k) := by
  refine BoolIs.of fun J hJ => ?_
  unfold m_is_row
  obtain ⟨t, ht⟩ := hd
  cases d <;> simp at ht <;> simp [isTyB_eq]
  all_goals exact hJ _ (by simp)
def Asc (n : Int) (cs : List Int) : Prop := cs.Pairwise (· < ·) ∧ ∀ c ∈ cs, 0 ≤ c ∧ c < n
def PlOk (n : Int) (d : D) : Prop := ∃ cs : List Int, d = .lst (cs.map .int) ∧ Asc n cs
def KnL (d : D) : Prop := Kn d ∧ ∀ ds, d = .lst ds → ∀ x ∈ ds, Kn x
theorem Asc.snoc {n x : Int} {cs : List Int} (h : Asc n cs) (h1 : ∀ c ∈ cs, c < x) (h2 : 0 ≤ x) (h3 : x < n) : Asc n (cs ++ [x]) :=
  ⟨List.pairwise_append.mpr ⟨h.1, by simp, fun a ha b hb => by simp at hb; subst hb; exact h1 a ha⟩, fun c hc => by
    rcases List.mem_append.mp hc with hc | hc
    · exact h.2 c hc
    · simp at hc; subst hc; exact ⟨h2, h3⟩⟩
/-- what a place that stands at j must be -/
theorem PlOk.at {n : Int} {ds : List D} {j : Nat} {d : D} {cs : List Int} (h : PlOk n (.lst ds)) (hj : ds[j]? = some d) (ht : ds.take j = cs.map .int) : ∃ x, d = .int x ∧ 0 ≤ x ∧ x < n ∧ ∀ c ∈ cs, c < x := by
  obtain ⟨as, e, h1, h2⟩ := h
  cases e
  obtain ⟨x, hx, rfl⟩ := map_get hj
  have hm := List.mem_of_getElem? hx
  refine ⟨x, rfl, (h2 x hm).1, (h2 x hm).2, fun c hc => ?_⟩
  have e2 : as.take j = cs := by
    rw [← List.map_take] at ht
    exact map_int_inj ht
  rw [← e2] at hc
  obtain ⟨i, hi⟩ := List.mem_iff_getElem?.mp hc
  rw [List.getElem?_take] at hi
  split at hi
  · rename_i hij
    obtain ⟨a1, a2⟩ := List.getElem?_eq_some_iff.mp hi
    obtain ⟨b1, b2⟩ := List.getElem?_eq_some_iff.mp hx
    have := List.pairwise_iff_getElem.mp h1 i j a1 b1 hij
    rw [a2, b2] at this; exact this
  · cases hi
theorem are_places {d : D} {n : Int} (hd : KnL d) : BoolIs (f_are_places [.int n, d]) [.int n, d] (PlOk n d) := by
  refine BoolIs.of fun J hJ => ?_
  unfold m_are_places
  obtain ⟨⟨t, ht⟩, hl⟩ := hd
  cases d <;> simp at ht <;> simp [isTyB_eq]
  case lst ds =>
    refine WS_forB (fun k e => ∃ (cs : List Int) (bef : Int), ds.take k = cs.map .int ∧ Asc n cs ∧ (∀ c ∈ cs, c ≤ bef) ∧ -1 ≤ bef ∧ (bef ∈ cs ∨ bef = -1) ∧ e = [some (0, .int n), some (0, .lst ds), some (0, .int bef), none]) ?_ ?_ ?_
    · exact ⟨[], -1, by simp, ⟨.nil, by simp⟩, by simp, by decide, .inr rfl, rfl⟩
    · rintro K hK j d e hj ⟨cs, bef, h1, h2, h3, h4, h5, rfl⟩
      obtain ⟨b, hb, hi⟩ := is_whole (d := d) (a := bef + 1) (b := n - 1) (hl ds rfl d (List.mem_of_getElem? hj))
      simp [hb]
      refine ⟨fun e => hJ false ?_, fun e => ?_⟩
      · subst e
        simp
        intro p
        obtain ⟨x, rfl, x1, x2, x3⟩ := p.at hj h1
        refine absurd (hi.mpr ⟨x, rfl, ?_, by omega⟩) (by simp)
        rcases h5 with h5 | h5
        · have := x3 bef h5; omega
        · omega
      · subst e
        obtain ⟨x, rfl, x1, x2⟩ := hi.mp rfl
        exact hK _ _ ⟨cs ++ [x], x, by rw [take_get hj, h1]; simp, h2.snoc (fun c hc => by have := h3 c hc; omega) (by omega) (by omega), fun c hc => by
          rcases List.mem_append.mp hc with hc | hc
          · have := h3 c hc; omega
          · simp at hc; omega, by omega, .inl (by simp), rfl⟩
    · rintro e ⟨cs, bef, h1, h2, h3, h4, h5, rfl⟩
      simp
      refine hJ true ?_
      simp at h1 ⊢
      exact ⟨cs, by rw [h1], h2⟩
  all_goals exact hJ _ (by simp [PlOk])
theorem law_places {d : D} {n : Int} (hd : KnL d) : BoolIs (f__law_places [d, .int n]) [d, .int n] (PlOk n d) := by
  refine BoolIs.of fun J hJ => ?_
  unfold m__law_places
  obtain ⟨⟨t, ht⟩, hl⟩ := hd
  cases d <;> simp at ht <;> simp [isTyB_eq]
  case lst ds =>
    refine WS_forB (fun k e => ∃ (cs : List Int) (bef : Int), ds.take k = cs.map .int ∧ Asc n cs ∧ (∀ c ∈ cs, c ≤ bef) ∧ -1 ≤ bef ∧ (bef ∈ cs ∨ bef = -1) ∧ e = [some (0, .lst ds), some (0, .int n), some (0, .int bef), none]) ?_ ?_ ?_
    · exact ⟨[], -1, by simp, ⟨.nil, by simp⟩, by simp, by decide, .inr rfl, rfl⟩
    · rintro K hK j d e hj ⟨cs, bef, h1, h2, h3, h4, h5, rfl⟩
      obtain ⟨b, hb, hi⟩ := whole (d := d) (hl ds rfl d (List.mem_of_getElem? hj))
      simp [hb]
      have bad : ∀ x, d = .int x → (x ≤ bef ∨ n ≤ x) → J 0 (.bl false) := fun x e h => hJ false (by
        subst e
        simp
        intro p
        obtain ⟨y, e, y1, y2, y3⟩ := p.at hj h1
        cases e
        rcases h5 with h5 | h5
        · have := y3 bef h5; omega
        · omega)
      refine ⟨fun e => hJ false ?_, fun e => ?_⟩
      · subst e
        simp
        intro p
        obtain ⟨x, rfl, _⟩ := p.at hj h1
        exact absurd (hi.mpr ⟨x, rfl⟩) (by simp)
      · subst e
        obtain ⟨x, rfl⟩ := hi.mp rfl
        simp
        refine ⟨fun h => bad x rfl (.inl h), fun h => ⟨fun h' => bad x rfl (.inr h'), fun h' => ?_⟩⟩
        exact hK _ _ ⟨cs ++ [x], x, by rw [take_get hj, h1]; simp, h2.snoc (fun c hc => by have := h3 c hc; omega) (by omega) (by omega), fun c hc => by
          rcases List.mem_append.mp hc with hc | hc
          · have := h3 c hc; omega
          · simp at hc; omega, by omega, .inl (by simp), rfl⟩
    · rintro e ⟨cs, bef, h1, h2, h3, h4, h5, rfl⟩
      simp
      refine hJ true ?_
      simp at h1 ⊢
      exact ⟨cs, by rw [h1], h2⟩
  all_goals exact hJ _ (by simp [PlOk])
end W

set_option autoImplicit false
set_option Elab.async false
set_option linter.all false
set_option maxRecDepth 100000
namespace W
open PySem PySem.Spec PyProof.Rows L2 DL
def KnC (c : D) : Prop := Kn c ∧ ∀ ds, c = .tup ds → ∀ x ∈ ds, KnL x
def CovOk (nL nR : Int) (pairs : List (Int × Int)) (c : D) : Prop := ∃ c0 c1 : List Int, c = .tup [.lst (c0.map .int), .lst (c1.map .int)] ∧ Asc nL c0 ∧ Asc nR c1 ∧ ∀ p ∈ pairs, p.1 ∈ c0 ∨ p.2 ∈ c1
theorem two_of {ds : List D} (h : (ds.length : Int) = 2) : ∃ a b, ds = [a, b] := by
  match ds, h with
  | [a, b], _ => exact ⟨a, b, rfl⟩
  | [], h => simp at h
  | [_], h => simp at h
  | _ :: _ :: _ :: _, h => simp at h; omega
theorem three_of {ds : List D} (h : (ds.length : Int) = 3) : ∃ a b c, ds = [a, b, c] := by
  match ds, h with
  | [a, b, c], _ => exact ⟨a, b, c, rfl⟩
  | [], h => simp at h
  | [_], h => simp at h
  | [_, _], h => simp at h
  | _ :: _ :: _ :: _ :: _, h => simp at h; omega
@[simp] theorem atI2_0 {α : Type} {a b : α} : L2.atI [a, b] 0 = some a := rfl
@[simp] theorem atI2_1 {α : Type} {a b : α} : L2.atI [a, b] 1 = some b := rfl
@[simp] theorem atI3_0 {α : Type} {a b c : α} : L2.atI [a, b, c] 0 = some a := rfl
@[simp] theorem atI3_1 {α : Type} {a b c : α} : L2.atI [a, b, c] 1 = some b := rfl
@[simp] theorem atI3_2 {α : Type} {a b c : α} : L2.atI [a, b, c] 2 = some c := rfl
theorem is_pair_cover {Ld Rd : List D} {pairs : List (Int × Int)} {c : D} (hc : KnC c) :
    BoolIs (f_is_pair_cover [.lst Ld, .lst Rd, .lst (pairs.map ipD), c]) [.lst Ld, .lst Rd, .lst (pairs.map ipD), c] (CovOk Ld.length Rd.length pairs c) := by
  refine BoolIs.of fun J hJ => ?_
  unfold m_is_pair_cover
  obtain ⟨b, hb, hi⟩ := is_row (k := 2) hc.1
  simp [hb]
  refine ⟨fun e => hJ false ?_, fun e => ?_⟩
  · subst e
    simp
    rintro ⟨c0, c1, rfl, _⟩
    exact absurd (hi.mpr ⟨_, rfl, rfl⟩) (by simp)
  · subst e
    obtain ⟨ds, rfl, hl⟩ := hi.mp rfl
    obtain ⟨a, b, rfl⟩ := two_of hl
    have ka := hc.2 _ rfl a (by simp)
    have kb := hc.2 _ rfl b (by simp)
    obtain ⟨ba, ha, hia⟩ := are_places (n := Ld.length) ka
    obtain ⟨bb, hb2, hib⟩ := are_places (n := Rd.length) kb
    simp [ha, hb2]
    refine ⟨fun e => hJ false ?_, fun e => ⟨fun e' => hJ false ?_, fun e' => ?_⟩⟩
    · subst e
      simp
      rintro ⟨c0, c1, e, h0, h1, _⟩
      simp at e
      exact absurd (hia.mpr ⟨c0, e.1, h0⟩) (by simp)
    · subst e'
      simp
      rintro ⟨c0, c1, e, h0, h1, _⟩
      simp at e
      exact absurd (hib.mpr ⟨c1, e.2, h1⟩) (by simp)
    · subst e
      subst e'
      obtain ⟨c0, rfl, h0⟩ := hia.mp rfl
      obtain ⟨c1, rfl, h1⟩ := hib.mp rfl
      refine WS_forB (fun k e => (∀ p ∈ pairs.take k, p.1 ∈ c0 ∨ p.2 ∈ c1) ∧ e = [some (0, .lst Ld), some (0, .lst Rd), some (0, .lst (pairs.map ipD)), some (0, .tup [.lst (c0.map .int), .lst (c1.map .int)]), none, none]) ?_ ?_ ?_
      · exact ⟨by simp, rfl⟩
      · rintro K hK j d e hj ⟨h2, rfl⟩
        obtain ⟨p, hp, rfl⟩ := map_get hj
        have go : (p.1 ∈ c0 ∨ p.2 ∈ c1) → ∀ q ∈ pairs.take (j + 1), q.1 ∈ c0 ∨ q.2 ∈ c1 := fun h q hq => by
          rw [take_get hp] at hq
          rcases List.mem_append.mp hq with hq | hq
          · exact h2 q hq
          · simp at hq; subst hq; exact h
        simp [ipD]
        refine ⟨fun n0 => ⟨fun n1 => hJ false ?_, fun n1 => hK _ _ ⟨go (.inr n1), rfl⟩⟩, fun n0 => hK _ _ ⟨go (.inl n0), rfl⟩⟩
        simp
        rintro ⟨a0, a1, e, _, _, h⟩
        simp at e
        obtain rfl := map_int_inj e.1
        obtain rfl := map_int_inj e.2
        rcases h p (List.mem_of_getElem? hp) with h | h
        · exact n0 h
        · exact n1 h
      · rintro e ⟨h2, rfl⟩
        simp
        refine hJ true ?_
        simp at h2 ⊢
        exact ⟨c0, c1, rfl, h0, h1, fun p hp => h2 p.1 p.2 hp⟩
theorem law_is_cover {Ld Rd : List D} {pairs : List (Int × Int)} {c : D} (hc : KnC c) :
    BoolIs (f__law_is_cover [.lst Ld, .lst Rd, .lst (pairs.map ipD), c]) [.lst Ld, .lst Rd, .lst (pairs.map ipD), c] (CovOk Ld.length Rd.length pairs c) := by
  refine BoolIs.of fun J hJ => ?_
  unfold m__law_is_cover
  have notTup : (∀ ds, c ≠ .tup ds) → J 0 (.bl false) := fun h => hJ false (by
    simp
    rintro ⟨c0, c1, rfl, _⟩
    exact h _ rfl)
  have hc0 := hc
  obtain ⟨⟨t, ht⟩, hc2⟩ := hc0
  cases c <;> simp at ht <;> simp [isTyB_eq]
  case tup ds =>
    refine ⟨fun h => hJ false ?_, fun h => ?_⟩
    · simp
      rintro ⟨c0, c1, e, _⟩
      cases e
      simp at h
    · obtain ⟨a, b, rfl⟩ := two_of (ds := ds) (by omega)
      have ka := hc2 _ rfl a (by simp)
      have kb := hc2 _ rfl b (by simp)
      obtain ⟨ba, ha, hia⟩ := law_places (n := Ld.length) ka
      obtain ⟨bb, hb2, hib⟩ := law_places (n := Rd.length) kb
      simp [ha, hb2]
      refine ⟨fun e => hJ false ?_, fun e => ⟨fun e' => hJ false ?_, fun e' => ?_⟩⟩
      · subst e
        simp
        rintro ⟨c0, c1, e, h0, h1, _⟩
        simp at e
        exact absurd (hia.mpr ⟨c0, e.1, h0⟩) (by simp)
      · subst e'
        simp
        rintro ⟨c0, c1, e, h0, h1, _⟩
        simp at e
        exact absurd (hib.mpr ⟨c1, e.2, h1⟩) (by simp)
      · subst e
        subst e'
        obtain ⟨c0, rfl, h0⟩ := hia.mp rfl
        obtain ⟨c1, rfl, h1⟩ := hib.mp rfl
        refine WS_forB (fun k e => (∀ p ∈ pairs.take k, p.1 ∈ c0 ∨ p.2 ∈ c1) ∧ e = [some (0, .lst Ld), some (0, .lst Rd), some (0, .lst (pairs.map ipD)), some (0, .tup [.lst (c0.map .int), .lst (c1.map .int)]), none, none]) ?_ ?_ ?_
        · exact ⟨by simp, rfl⟩
        · rintro K hK j d e hj ⟨h2, rfl⟩
          obtain ⟨p, hp, rfl⟩ := map_get hj
          have go : (p.1 ∈ c0 ∨ p.2 ∈ c1) → ∀ q ∈ pairs.take (j + 1), q.1 ∈ c0 ∨ q.2 ∈ c1 := fun h q hq => by
            rw [take_get hp] at hq
            rcases List.mem_append.mp hq with hq | hq
            · exact h2 q hq
            · simp at hq; subst hq; exact h
          simp [ipD]
          refine ⟨fun n0 => ⟨fun n1 => hJ false ?_, fun n1 => hK _ _ ⟨go (.inr n1), rfl⟩⟩, fun n0 => hK _ _ ⟨go (.inl n0), rfl⟩⟩
          simp
          rintro ⟨a0, a1, e, _, _, h⟩
          simp at e
          obtain rfl := map_int_inj e.1
          obtain rfl := map_int_inj e.2
          rcases h p (List.mem_of_getElem? hp) with h | h
          · exact n0 h
          · exact n1 h
        · rintro e ⟨h2, rfl⟩
          simp
          refine hJ true ?_
          simp at h2 ⊢
          exact ⟨c0, c1, rfl, h0, h1, fun p hp => h2 p.1 p.2 hp⟩
  all_goals exact notTup (by simp)
/-! ### the cover that is made -/
theorem cover {lefts rights : List Int} {pairs : List (Int × Int)} (hD : Drawn lefts rights pairs) (z : Int) : ∃ c0 c1 : List Int, Asc lefts.length c0 ∧ Asc rights.length c1 ∧ (∀ p ∈ pairs, p.1 ∈ c0 ∨ p.2 ∈ c1) ∧
    f__law_cover [.lst (rights.map .int), .lst (pairs.map ipD), .int z] = .ret 0 (.tup [.lst (c0.map .int), .lst (c1.map .int)]) [.lst (rights.map .int), .lst (pairs.map ipD), .int z] := by
  suffices h : ∃ n d, f__law_cover [.lst (rights.map .int), .lst (pairs.map ipD), .int z] = .ret n d [.lst (rights.map .int), .lst (pairs.map ipD), .int z] ∧ (n = 0 ∧ ∃ c0 c1 : List Int, Asc lefts.length c0 ∧ Asc rights.length c1 ∧ (∀ p ∈ pairs, p.1 ∈ c0 ∨ p.2 ∈ c1) ∧ d = .tup [.lst (c0.map .int), .lst (c1.map .int)]) by
    obtain ⟨n, d, e, rfl, c0, c1, h0, h1, h2, rfl⟩ := h
    exact ⟨c0, c1, h0, h1, h2, e⟩
  refine fn_retB _ fun J hJ => ?_
  unfold m__law_cover
  have hr := hD.r24
  simp [rng1_nat (show (0 : Int) ≤ rights.length by omega) (by omega)]
  refine WS_forB (fun k e => ∃ (cs : List Int) (z : Int), Asc k cs ∧ cs.length ≤ k ∧ e = [some (0, .lst (rights.map .int)), some (0, .lst (pairs.map ipD)), some (0, .int z), some (1, .lst (cs.map .int)), none, none]) ?_ ?_ ?_
  · exact ⟨[], z, ⟨.nil, by simp⟩, by simp, rfl⟩
  · rintro K hK j d e hj ⟨cs, z, h1, h2, rfl⟩
    obtain ⟨hjR, rfl⟩ := rangeD_get hj
    simp [LIM]
    refine ⟨fun _ => ⟨by omega, hK _ _ ⟨cs ++ [(j : Int)], z / 3, ?_, by simp; omega, by simp⟩⟩, fun _ => hK _ _ ⟨cs, z / 3, ⟨h1.1, fun c hc => ?_⟩, by omega, by simp⟩⟩
    · refine Asc.snoc (n := ((j + 1 : Nat) : Int)) ⟨h1.1, fun c hc => ?_⟩ (fun c hc => (h1.2 c hc).2) (by omega) (by omega)
      have := h1.2 c hc; omega
    · have := h1.2 c hc; omega
  · rintro e ⟨cs, z, h1, h2, rfl⟩
    simp at h1
    simp
    refine WE_compL (fun d => match isPr d with
      | some p => if p.2 ∈ cs then none else some (.int p.1)
      | none => none) _ _ (by have := hD.len; simp; omega) (fun d hd => ?_) ?_ (fun _ _ z => z)
    · obtain ⟨p, hp, rfl⟩ := List.mem_map.mp hd
      simp [ipD, isPr]
    · have e1 : ((pairs.map ipD).filterMap fun d => match isPr d with
        | some p => if p.2 ∈ cs then none else some (D.int p.1)
        | none => none) = ((pairs.filter fun p => !decide (p.2 ∈ cs)).map (·.1)).map D.int := by
        rw [List.filterMap_map, fm_eq (c := fun p : Int × Int => !decide (p.2 ∈ cs)) (g := fun p : Int × Int => D.int p.1)]
        · rw [List.map_map]; rfl
        · intro p _
          by_cases h : p.2 ∈ cs <;> simp [isPr, ipD, h]
      have hm : ∀ x : Int, x ∈ (pairs.filter fun p => !decide (p.2 ∈ cs)).map (·.1) → 0 ≤ x ∧ x < lefts.length := fun x hx => by
        obtain ⟨p, hp, rfl⟩ := List.mem_map.mp hx
        have := hD.inn p ((List.mem_filter.mp hp).1)
        exact ⟨this.1, this.2.1⟩
      have ha : Asc lefts.length (sortU ((pairs.filter fun p => !decide (p.2 ∈ cs)).map (·.1))) := ⟨sortU_sorted _, fun c hc => hm c ((sortU_mem _ _).mp hc)⟩
      have hl : (sortU ((pairs.filter fun p => !decide (p.2 ∈ cs)).map (·.1))).length < 64 := by
        have := asc_len (n := lefts.length) _ 0 ha.1 fun x hx => by have := ha.2 x hx; omega
        have := hD.l24
        omega
      have hl2 : ((pairs.filter fun p => !decide (p.2 ∈ cs)).map (·.1)).length < 4000 := by
        rw [List.length_map]
        have := List.length_filter_le (fun p : Int × Int => !decide (p.2 ∈ cs)) pairs
        have := hD.len
        omega
      simp only [List.nil_append, e1, sortSetD_ints hl hl2, oP_some]
      simp
      refine hJ _ _ ⟨rfl, _, cs, ha, h1, fun p hp => ?_, rfl⟩
      by_cases h : p.2 ∈ cs
      · exact .inr h
      · exact .inl ((sortU_mem _ _).mpr (List.mem_map.mpr ⟨p, List.mem_filter.mpr ⟨hp, by simp [h]⟩, rfl⟩))
end W

set_option autoImplicit false
set_option Elab.async false
set_option linter.all false
set_option maxRecDepth 100000
namespace W
open PySem PySem.Spec PyProof.Rows L2 DL
abbrev Tp := Int × Int × Int
def tpD (t : Tp) : D := .tup [.int t.1, .int t.2.1, .int t.2.2]
def key (t : Tp) : Int × Int := (t.1, t.2.1)
def KnP (c : D) : Prop := Kn c ∧ ∀ ds, c = .lst ds → ∀ x ∈ ds, Kn x ∧ ∀ es, x = .tup es → ∀ y ∈ es, Kn y
/-- what is used of a place on the left, on the right -/
def useL (ts : List Tp) (i : Int) : Int := (ts.map fun t => if t.1 = i then t.2.2 else 0).sum
def useR (ts : List Tp) (i : Int) : Int := (ts.map fun t => if t.2.1 = i then t.2.2 else 0).sum
theorem useL_snoc (ts : List Tp) (t : Tp) (i : Int) : useL (ts ++ [t]) i = useL ts i + if t.1 = i then t.2.2 else 0 := by simp [useL]
theorem useR_snoc (ts : List Tp) (t : Tp) (i : Int) : useR (ts ++ [t]) i = useR ts i + if t.2.1 = i then t.2.2 else 0 := by simp [useR]
def Good (pairs : List (Int × Int)) (ts : List Tp) : Prop := (∀ t ∈ ts, key t ∈ pairs ∧ 1 ≤ t.2.2) ∧ ts.Pairwise fun s t => lt2 (key s) (key t)
def PackT (lefts rights : List Int) (pairs : List (Int × Int)) (ts : List Tp) : Prop := Good pairs ts ∧ (∀ i : Nat, i < lefts.length → useL ts i ≤ lefts.getD i 0) ∧ ∀ i : Nat, i < rights.length → useR ts i ≤ rights.getD i 0
def PackOk (lefts rights : List Int) (pairs : List (Int × Int)) (d : D) : Prop := ∃ ts, d = .lst (ts.map tpD) ∧ PackT lefts rights pairs ts
theorem tp_inj : ∀ {as bs : List Tp}, as.map tpD = bs.map tpD → as = bs
  | [], [], _ => rfl
  | [], _ :: _, h => by cases h
  | _ :: _, [], h => by cases h
  | a :: as, b :: bs, h => by
    simp only [List.map_cons, List.cons.injEq, tpD, D.tup.injEq, D.int.injEq] at h
    obtain ⟨⟨h1, h2, h3, _⟩, h4⟩ := h
    rw [tp_inj h4]
    obtain ⟨a1, a2, a3⟩ := a
    obtain ⟨b1, b2, b3⟩ := b
    simp only at h1 h2 h3
    rw [h1, h2, h3]
theorem use_ge {f : Tp → Int} : ∀ {ts : List Tp} {t : Tp}, t ∈ ts → (∀ s ∈ ts, 0 ≤ f s) → f t ≤ (ts.map f).sum
  | s :: ts, t, h, hp => by
    have hr : 0 ≤ (ts.map f).sum := by
      have : ∀ l : List Tp, (∀ s ∈ l, 0 ≤ f s) → 0 ≤ (l.map f).sum := fun l => by
        induction l with
        | nil => intro _; simp
        | cons a l ih =>
          intro h
          have h1 := h a List.mem_cons_self
          have h2 := ih fun s hs => h s (List.mem_cons_of_mem _ hs)
          simp only [List.map_cons, List.sum_cons]; omega
      exact this ts fun s hs => hp s (List.mem_cons_of_mem _ hs)
    simp only [List.map_cons, List.sum_cons]
    rcases List.mem_cons.mp h with rfl | h
    · omega
    · have := use_ge h fun s hs => hp s (List.mem_cons_of_mem _ hs)
      have := hp s List.mem_cons_self
      omega
theorem le2_lt2 {p q : Int × Int} : le2 p q = false ↔ lt2 q p := by
  unfold le2 lt2
  split
  · rename_i h; simp [h]
  · rename_i h; simp; omega
/-- the triple at j of what is in order -/
theorem PackOk.at {lefts rights : List Int} {pairs : List (Int × Int)} {ds : List D} {j : Nat} {d : D} {ts : List Tp} (hin : ∀ p ∈ pairs, 0 ≤ p.1 ∧ p.1 < lefts.length ∧ 0 ≤ p.2 ∧ p.2 < rights.length) (h : PackOk lefts rights pairs (.lst ds)) (hj : ds[j]? = some d) (ht : ds.take j = ts.map tpD) :
    ∃ t, d = tpD t ∧ key t ∈ pairs ∧ 1 ≤ t.2.2 ∧ t.2.2 ≤ lefts.getD t.1.toNat 0 ∧ t.2.2 ≤ rights.getD t.2.1.toNat 0 ∧ ∀ s ∈ ts, lt2 (key s) (key t) := by
  obtain ⟨as, e, ⟨h1, h2⟩, h3, h4⟩ := h
  cases e
  obtain ⟨t, htj, rfl⟩ := map_get hj
  have hm := List.mem_of_getElem? htj
  obtain ⟨k1, k2⟩ := h1 t hm
  have hk := hin _ k1
  simp only [key] at hk
  have e2 : as.take j = ts := by
    rw [← List.map_take] at ht
    exact tp_inj ht
  refine ⟨t, rfl, k1, k2, ?_, ?_, fun s hs => ?_⟩
  · have := h3 t.1.toNat (by omega)
    have g := use_ge (f := fun s : Tp => if s.1 = ((t.1.toNat : Nat) : Int) then s.2.2 else 0) hm fun s hs => by have := (h1 s hs).2; split <;> omega
    rw [if_pos (by omega)] at g
    unfold useL at this; omega
  · have := h4 t.2.1.toNat (by omega)
    have g := use_ge (f := fun s : Tp => if s.2.1 = ((t.2.1.toNat : Nat) : Int) then s.2.2 else 0) hm fun s hs => by have := (h1 s hs).2; split <;> omega
    rw [if_pos (by omega)] at g
    unfold useR at this; omega
  · rw [← e2] at hs
    obtain ⟨i, hi⟩ := List.mem_iff_getElem?.mp hs
    rw [List.getElem?_take] at hi
    split at hi
    · rename_i hij
      obtain ⟨a1, a2⟩ := List.getElem?_eq_some_iff.mp hi
      obtain ⟨b1, b2⟩ := List.getElem?_eq_some_iff.mp htj
      have := List.pairwise_iff_getElem.mp h2 i j a1 b1 hij
      rw [a2, b2] at this; exact this
    · cases hi
theorem atI_ints {ns : List Int} {i : Int} (h0 : 0 ≤ i) (h : i < ns.length) : L2.atI ns i = some (ns.getD i.toNat 0) := by
  obtain ⟨a, h1, _, h2⟩ := atI_in h0 h
  rw [h1]
  rw [List.getD_eq_getElem?_getD, h2]; rfl
theorem is_triple {lefts rights : List Int} {pairs : List (Int × Int)} {d : D} (hin : ∀ p ∈ pairs, 0 ≤ p.1 ∧ p.1 < lefts.length ∧ 0 ≤ p.2 ∧ p.2 < rights.length) (hd : Kn d ∧ ∀ es, d = .tup es → ∀ y ∈ es, Kn y) :
    BoolIs (f_is_triple [.lst (lefts.map .int), .lst (rights.map .int), .lst (pairs.map ipD), d]) [.lst (lefts.map .int), .lst (rights.map .int), .lst (pairs.map ipD), d]
      (∃ t, d = tpD t ∧ key t ∈ pairs ∧ 1 ≤ t.2.2 ∧ t.2.2 ≤ lefts.getD t.1.toNat 0 ∧ t.2.2 ≤ rights.getD t.2.1.toNat 0) := by
  refine BoolIs.of fun J hJ => ?_
  unfold m_is_triple
  obtain ⟨b, hb, hi⟩ := is_row (k := 3) hd.1
  simp [hb]
  refine ⟨fun e => hJ false ?_, fun e => ?_⟩
  · subst e
    refine ⟨by simp, ?_⟩
    rintro ⟨t, rfl, _⟩
    exact absurd (hi.mpr ⟨_, rfl, rfl⟩) (by simp)
  subst e
  obtain ⟨ds, rfl, hl⟩ := hi.mp rfl
  obtain ⟨a, b, c, rfl⟩ := three_of hl
  have ka := hd.2 _ rfl a (by simp)
  have kb := hd.2 _ rfl b (by simp)
  have kc := hd.2 _ rfl c (by simp)
  obtain ⟨ba, ha, hia⟩ := is_whole (d := a) (a := 0) (b := (lefts.length : Int) - 1) ka
  obtain ⟨bb, hb2, hib⟩ := is_whole (d := b) (a := 0) (b := (rights.length : Int) - 1) kb
  simp [ha, hb2]
  have no : (∀ t : Tp, .tup [a, b, c] = tpD t → key t ∈ pairs → 1 ≤ t.2.2 → t.2.2 ≤ lefts.getD t.1.toNat 0 → t.2.2 ≤ rights.getD t.2.1.toNat 0 → False) → J 0 (.bl false) := fun h => hJ false ⟨by simp, by
    rintro ⟨t, h1, h2, h3, h4, h5⟩
    exact (h t h1 h2 h3 h4 h5).elim⟩
  refine ⟨fun e => no fun t h1 h2 _ _ _ => ?_, fun e => ⟨fun e' => no fun t h1 h2 _ _ _ => ?_, fun e' => ?_⟩⟩
  · subst e
    simp [tpD] at h1
    have := hin _ h2
    simp only [key] at this
    exact absurd (hia.mpr ⟨t.1, h1.1, by omega, by omega⟩) (by simp)
  · subst e'
    simp [tpD] at h1
    have := hin _ h2
    simp only [key] at this
    exact absurd (hib.mpr ⟨t.2.1, h1.2.1, by omega, by omega⟩) (by simp)
  subst e
  subst e'
  obtain ⟨x, rfl, x0, x1⟩ := hia.mp rfl
  obtain ⟨y, rfl, y0, y1⟩ := hib.mp rfl
  simp
  refine ⟨fun hn => no fun t h1 h2 _ _ _ => ?_, fun hp => ?_⟩
  · simp [tpD] at h1
    refine hn ?_
    rw [h1.1, h1.2.1]; exact h2
  obtain ⟨u, hu⟩ : ∃ u, lefts.getD x.toNat 0 = u := ⟨_, rfl⟩
  obtain ⟨v, hv⟩ : ∃ v, rights.getD y.toNat 0 = v := ⟨_, rfl⟩
  have A1 := atI_ints x0 (show x < lefts.length by omega)
  have A2 := atI_ints y0 (show y < rights.length by omega)
  rw [hu] at A1
  rw [hv] at A2
  obtain ⟨bc, hc, hic⟩ := is_whole (d := c) (a := 1) (b := if v < u then v else u) kc
  simp [A1, A2, hc]
  refine hJ bc ?_
  rw [hic]
  constructor
  · rintro ⟨i, rfl, i1, i2⟩
    refine ⟨(x, y, i), rfl, hp, i1, ?_, ?_⟩
    · show i ≤ lefts.getD x.toNat 0
      rw [hu]
      split at i2 <;> omega
    · show i ≤ rights.getD y.toNat 0
      rw [hv]
      split at i2 <;> omega
  · rintro ⟨t, h1, h2, h3, h4, h5⟩
    simp [tpD] at h1
    obtain ⟨rfl, rfl, rfl⟩ := h1
    rw [hu] at h4
    rw [hv] at h5
    exact ⟨t.2.2, rfl, h3, by split <;> omega⟩
end W

set_option autoImplicit false
set_option Elab.async false
set_option linter.all false
set_option maxRecDepth 100000
namespace W
open PySem PySem.Spec PyProof.Rows L2 DL
theorem minDef_nn : ∀ {ns : List Int}, 0 ≤ KX.minDef ns 0 ↔ ∀ x ∈ ns, 0 ≤ x
  | [] => by simp [KX.minDef]
  | n :: r => by
    obtain ⟨h1, h2, h3⟩ := KX.foldl_min r n
    show 0 ≤ r.foldl min n ↔ _
    constructor
    · intro h x hx
      rcases List.mem_cons.mp hx with rfl | hx
      · omega
      · have := h3 x hx; omega
    · intro h
      rcases h1 with e | e
      · rw [e]; exact h n List.mem_cons_self
      · exact h _ (List.mem_cons_of_mem _ e)
theorem getD_set {ns : List Int} {i j : Nat} {v : Int} (h : i < ns.length) : (ns.set i v).getD j 0 = if i = j then v else ns.getD j 0 := by
  rw [List.getD_eq_getElem?_getD, List.getD_eq_getElem?_getD]
  by_cases e : i = j
  · subst e; rw [List.getElem?_set_self h, if_pos rfl]; rfl
  · rw [List.getElem?_set_ne e, if_neg e]
/-- how far the loop is -/
def Bef (pairs : List (Int × Int)) (ts : List Tp) (bef : Int × Int) : Prop := (∀ s ∈ ts, key s = bef ∨ lt2 (key s) bef) ∧ (bef = (-1, -1) ∨ ∃ s ∈ ts, key s = bef)
theorem lt2_trans {a b c : Int × Int} (h : lt2 a b) (k : lt2 b c) : lt2 a c := by unfold lt2 at *; omega
theorem Good.snoc {pairs : List (Int × Int)} {ts : List Tp} {t : Tp} {bef : Int × Int} (h : Good pairs ts) (hb : Bef pairs ts bef) (h1 : key t ∈ pairs) (h2 : 1 ≤ t.2.2) (h3 : le2 (key t) bef = false) : Good pairs (ts ++ [t]) ∧ Bef pairs (ts ++ [t]) (key t) := by
  have hl := le2_lt2.mp h3
  have all : ∀ s ∈ ts, lt2 (key s) (key t) := fun s hs => by
    rcases hb.1 s hs with e | e
    · rw [e]; exact hl
    · exact lt2_trans e hl
  refine ⟨⟨fun s hs => ?_, List.pairwise_append.mpr ⟨h.2, by simp, fun a ha b hb => by simp at hb; subst hb; exact all a ha⟩⟩, fun s hs => ?_, .inr ⟨t, by simp, rfl⟩⟩
  · rcases List.mem_append.mp hs with hs | hs
    · exact h.1 s hs
    · simp at hs; subst hs; exact ⟨h1, h2⟩
  · rcases List.mem_append.mp hs with hs | hs
    · exact .inr (all s hs)
    · simp at hs; subst hs; exact .inl rfl
/-- what is in order stands behind what was last -/
theorem Bef.late {pairs : List (Int × Int)} {ts : List Tp} {t : Tp} {bef : Int × Int} {l r : Int} (hb : Bef pairs ts bef) (hin : ∀ p ∈ pairs, 0 ≤ p.1 ∧ p.1 < l ∧ 0 ≤ p.2 ∧ p.2 < r) (h1 : key t ∈ pairs) (h2 : ∀ s ∈ ts, lt2 (key s) (key t)) : le2 (key t) bef = false := by
  rw [le2_lt2]
  rcases hb.2 with rfl | ⟨s, hs, rfl⟩
  · have := hin _ h1
    unfold lt2; simp only; omega
  · exact h2 s hs
def RestL (lefts lr : List Int) (ts : List Tp) : Prop := lr.length = lefts.length ∧ ∀ i : Nat, i < lefts.length → lr.getD i 0 = lefts.getD i 0 - useL ts i
def RestR (rights rr : List Int) (ts : List Tp) : Prop := rr.length = rights.length ∧ ∀ i : Nat, i < rights.length → rr.getD i 0 = rights.getD i 0 - useR ts i
theorem RestL.snoc {lefts lr : List Int} {ts : List Tp} {t : Tp} (h : RestL lefts lr ts) (h0 : 0 ≤ t.1) (h1 : t.1 < lefts.length) : RestL lefts (lr.set t.1.toNat (lr.getD t.1.toNat 0 - t.2.2)) (ts ++ [t]) := by
  refine ⟨by rw [List.length_set]; exact h.1, fun i hi => ?_⟩
  rw [getD_set (by rw [h.1]; omega), useL_snoc]
  by_cases e : t.1.toNat = i
  · rw [if_pos e, if_pos (by omega), h.2 _ (by omega), ← e]; omega
  · rw [if_neg e, if_neg (by omega), h.2 i hi]; omega
theorem RestR.snoc {lefts lr : List Int} {ts : List Tp} {t : Tp} (h : RestR lefts lr ts) (h0 : 0 ≤ t.2.1) (h1 : t.2.1 < lefts.length) : RestR lefts (lr.set t.2.1.toNat (lr.getD t.2.1.toNat 0 - t.2.2)) (ts ++ [t]) := by
  refine ⟨by rw [List.length_set]; exact h.1, fun i hi => ?_⟩
  rw [getD_set (by rw [h.1]; omega), useR_snoc]
  by_cases e : t.2.1.toNat = i
  · rw [if_pos e, if_pos (by omega), h.2 _ (by omega), ← e]; omega
  · rw [if_neg e, if_neg (by omega), h.2 i hi]; omega
theorem nn_getD {ns : List Int} : (∀ x ∈ ns, 0 ≤ x) ↔ ∀ i : Nat, i < ns.length → 0 ≤ ns.getD i 0 := by
  constructor
  · intro h i hi
    rw [List.getD_eq_getElem?_getD, List.getElem?_eq_getElem hi]
    exact h _ (List.getElem_mem hi)
  · intro h x hx
    obtain ⟨i, hi, rfl⟩ := List.getElem_of_mem hx
    have := h i hi
    rw [List.getD_eq_getElem?_getD, List.getElem?_eq_getElem hi] at this
    exact this
theorem RestL.end {lefts lr : List Int} {ts : List Tp} (h : RestL lefts lr ts) : 0 ≤ KX.minDef lr 0 ↔ ∀ i : Nat, i < lefts.length → useL ts i ≤ lefts.getD i 0 := by
  rw [minDef_nn, nn_getD, h.1]
  exact ⟨fun k i hi => by have := k i hi; rw [h.2 i hi] at this; omega, fun k i hi => by rw [h.2 i hi]; have := k i hi; omega⟩
theorem RestR.end {lefts lr : List Int} {ts : List Tp} (h : RestR lefts lr ts) : 0 ≤ KX.minDef lr 0 ↔ ∀ i : Nat, i < lefts.length → useR ts i ≤ lefts.getD i 0 := by
  rw [minDef_nn, nn_getD, h.1]
  exact ⟨fun k i hi => by have := k i hi; rw [h.2 i hi] at this; omega, fun k i hi => by rw [h.2 i hi]; have := k i hi; omega⟩
theorem PackOk_lst {lefts rights : List Int} {pairs : List (Int × Int)} {ts : List Tp} : PackOk lefts rights pairs (.lst (ts.map tpD)) ↔ PackT lefts rights pairs ts := by
  constructor
  · rintro ⟨as, e, h⟩
    simp only [D.lst.injEq] at e
    rw [tp_inj e]; exact h
  · exact fun h => ⟨ts, rfl, h⟩
theorem is_pair_packing {lefts rights : List Int} {pairs : List (Int × Int)} {d : D} (hin : ∀ p ∈ pairs, 0 ≤ p.1 ∧ p.1 < lefts.length ∧ 0 ≤ p.2 ∧ p.2 < rights.length) (hd : KnP d) :
    BoolIs (f_is_pair_packing [.lst (lefts.map .int), .lst (rights.map .int), .lst (pairs.map ipD), d]) [.lst (lefts.map .int), .lst (rights.map .int), .lst (pairs.map ipD), d] (PackOk lefts rights pairs d) := by
  refine BoolIs.of fun J hJ => ?_
  unfold m_is_pair_packing
  have notL : (∀ ds, d ≠ .lst ds) → J 0 (.bl false) := fun h => hJ false (by
    simp
    rintro ⟨ts, rfl, _⟩
    exact h _ rfl)
  have hd0 := hd
  obtain ⟨⟨t, ht⟩, hl⟩ := hd0
  cases d <;> simp at ht <;> simp [isTyB_eq]
  case lst ds =>
    refine WS_forB (fun k e => ∃ (ts : List Tp) (bef : Int × Int) (lr rr : List Int), ds.take k = ts.map tpD ∧ Good pairs ts ∧ Bef pairs ts bef ∧ RestL lefts lr ts ∧ RestR rights rr ts ∧
      e = [some (0, .lst (lefts.map .int)), some (0, .lst (rights.map .int)), some (0, .lst (pairs.map ipD)), some (0, .lst ds), some (1, .lst (lr.map .int)), some (1, .lst (rr.map .int)), some (0, .tup [.int bef.1, .int bef.2]), none]) ?_ ?_ ?_
    · exact ⟨[], (-1, -1), lefts, rights, by simp, ⟨by simp, .nil⟩, ⟨by simp, .inl rfl⟩, ⟨rfl, fun i _ => by simp [useL]⟩, ⟨rfl, fun i _ => by simp [useR]⟩, rfl⟩
    · rintro K hK j d e hj ⟨ts, bef, lr, rr, h1, h2, h3, h4, h5, rfl⟩
      obtain ⟨b, hb, hi⟩ := is_triple (d := d) hin (hl ds rfl d (List.mem_of_getElem? hj))
      simp [hb]
      refine ⟨fun e => hJ false ?_, fun e => ?_⟩
      · subst e
        refine ⟨by simp, fun p => ?_⟩
        obtain ⟨t, rfl, a1, a2, a3, a4, _⟩ := p.at hin hj h1
        exact absurd (hi.mpr ⟨t, rfl, a1, a2, a3, a4⟩) (by simp)
      subst e
      obtain ⟨t, rfl, a1, a2, a3, a4⟩ := hi.mp rfl
      have hk := hin _ a1
      simp only [key] at hk
      simp [tpD]
      refine ⟨fun e => hJ false ⟨by simp, fun p => ?_⟩, fun e => ?_⟩
      · obtain ⟨t', e', _, _, _, _, b5⟩ := p.at hin hj h1
        have : t = t' := by have := tp_inj (as := [t]) (bs := [t']) (by simp [e']); simpa using this
        subst this
        have := h3.late hin a1 b5
        simp [key] at this
        rw [this] at e; cases e
      · simp [tmpE, tmp1, backE, back1, okL, okL1, closedM, atI_ints hk.1 (show t.1 < lr.length by rw [h4.1]; omega), atI_ints hk.2.2.1 (show t.2.1 < rr.length by rw [h5.1]; omega), flatT]
        rw [putD_ints hk.1 (by rw [h4.1]; omega)]
        simp [tmpE, tmp1, backE, back1, okL, okL1, closedM, flatT, atI_ints hk.2.2.1 (show t.2.1 < rr.length by rw [h5.1]; omega)]
        rw [putD_ints hk.2.2.1 (by rw [h5.1]; omega)]
        simp
        obtain ⟨g1, g2⟩ := h2.snoc h3 a1 a2 e
        exact hK _ _ ⟨ts ++ [t], key t, _, _, by rw [take_get hj, h1]; simp [tpD], g1, g2, h4.snoc hk.1 hk.2.1, h5.snoc hk.2.2.1 hk.2.2.2, by simp [List.map_set, key]⟩
    · rintro e ⟨ts, bef, lr, rr, h1, h2, h3, h4, h5, rfl⟩
      simp at h1
      subst h1
      simp
      refine ⟨fun e1 => hJ _ ?_, fun e1 => hJ false ⟨by simp, fun p => ?_⟩⟩
      · rw [PackOk_lst]
        simp only [decide_eq_true_eq]
        rw [h5.end]
        exact ⟨fun k => ⟨h2, h4.end.mp e1, k⟩, fun k => k.2.2⟩
      · rw [PackOk_lst] at p
        have := h4.end.mpr p.2.1
        omega
  all_goals exact notL (by simp)
def UsedL (lefts lu : List Int) (ts : List Tp) : Prop := lu.length = lefts.length ∧ ∀ i : Nat, i < lefts.length → lu.getD i 0 = useL ts i
def UsedR (rights ru : List Int) (ts : List Tp) : Prop := ru.length = rights.length ∧ ∀ i : Nat, i < rights.length → ru.getD i 0 = useR ts i
theorem UsedL.snoc {lefts lr : List Int} {ts : List Tp} {t : Tp} (h : UsedL lefts lr ts) (h0 : 0 ≤ t.1) (h1 : t.1 < lefts.length) : UsedL lefts (lr.set t.1.toNat (lr.getD t.1.toNat 0 + t.2.2)) (ts ++ [t]) := by
  refine ⟨by rw [List.length_set]; exact h.1, fun i hi => ?_⟩
  rw [getD_set (by rw [h.1]; omega), useL_snoc]
  by_cases e : t.1.toNat = i
  · rw [if_pos e, if_pos (by omega), h.2 _ (by omega), ← e]
  · rw [if_neg e, if_neg (by omega), h.2 i hi]; omega
theorem UsedR.snoc {lefts lr : List Int} {ts : List Tp} {t : Tp} (h : UsedR lefts lr ts) (h0 : 0 ≤ t.2.1) (h1 : t.2.1 < lefts.length) : UsedR lefts (lr.set t.2.1.toNat (lr.getD t.2.1.toNat 0 + t.2.2)) (ts ++ [t]) := by
  refine ⟨by rw [List.length_set]; exact h.1, fun i hi => ?_⟩
  rw [getD_set (by rw [h.1]; omega), useR_snoc]
  by_cases e : t.2.1.toNat = i
  · rw [if_pos e, if_pos (by omega), h.2 _ (by omega), ← e]
  · rw [if_neg e, if_neg (by omega), h.2 i hi]; omega
theorem cut2 {a b c : D} : cutD [a, b, c] none (some 2) = [a, b] := rfl
theorem law_is_packing {lefts rights : List Int} {pairs : List (Int × Int)} {d : D} (hL : lefts.length ≤ 24) (hR : rights.length ≤ 24) (hin : ∀ p ∈ pairs, 0 ≤ p.1 ∧ p.1 < lefts.length ∧ 0 ≤ p.2 ∧ p.2 < rights.length) (hd : KnP d) :
    BoolIs (f__law_is_packing [.lst (lefts.map .int), .lst (rights.map .int), .lst (pairs.map ipD), d]) [.lst (lefts.map .int), .lst (rights.map .int), .lst (pairs.map ipD), d] (PackOk lefts rights pairs d) := by
  refine BoolIs.of fun J hJ => ?_
  unfold m__law_is_packing
  have notL : (∀ ds, d ≠ .lst ds) → J 0 (.bl false) := fun h => hJ false (by
    simp
    rintro ⟨ts, rfl, _⟩
    exact h _ rfl)
  have hd0 := hd
  obtain ⟨⟨t, ht⟩, hl⟩ := hd0
  have m1 := mulD_zeros (show lefts.length ≤ 16777216 by omega)
  have m2 := mulD_zeros (show rights.length ≤ 16777216 by omega)
  generalize hu0 : List.replicate lefts.length (0 : Int) = u0 at m1
  generalize hv0 : List.replicate rights.length (0 : Int) = v0 at m2
  cases d <;> simp at ht <;> simp [isTyB_eq, m1, m2]
  case lst ds =>
    subst hu0
    subst hv0
    refine WS_forB (fun k e => ∃ (ts : List Tp) (bef : Int × Int) (lu ru : List Int), ds.take k = ts.map tpD ∧ Good pairs ts ∧ Bef pairs ts bef ∧ UsedL lefts lu ts ∧ UsedR rights ru ts ∧
      e = [some (0, .lst (lefts.map .int)), some (0, .lst (rights.map .int)), some (0, .lst (pairs.map ipD)), some (0, .lst ds), some (1, .lst (lu.map .int)), some (1, .lst (ru.map .int)), some (0, .tup [.int bef.1, .int bef.2]), none, none, none]) ?_ ?_ ?_
    · exact ⟨[], (-1, -1), List.replicate lefts.length 0, List.replicate rights.length 0, by simp, ⟨by simp, .nil⟩, ⟨by simp, .inl rfl⟩, ⟨by simp, fun i hi => by simp [useL, hi]⟩, ⟨by simp, fun i hi => by simp [useR, hi]⟩, by simp⟩
    · rintro K hK j d e hj ⟨ts, bef, lu, ru, h1, h2, h3, h4, h5, rfl⟩
      have kd := hl ds rfl d (List.mem_of_getElem? hj)
      have no : (∀ t, d = tpD t → key t ∈ pairs → 1 ≤ t.2.2 → (∀ s ∈ ts, lt2 (key s) (key t)) → False) → J 0 (.bl false) := fun h => hJ false ⟨by simp, fun p => by
        obtain ⟨t, e, a1, a2, _, _, a5⟩ := p.at hin hj h1
        exact (h t e a1 a2 a5).elim⟩
      have kd0 := kd
      obtain ⟨⟨t, ht⟩, kt⟩ := kd0
      cases d <;> simp at ht <;> simp [isTyB_eq]
      case tup es =>
        refine ⟨fun h => no fun t e _ _ _ => ?_, fun h => ?_⟩
        · cases e; simp at h
        obtain ⟨a, b, c, rfl⟩ := three_of (ds := es) (by omega)
        obtain ⟨ba, ha, hia⟩ := whole (kt _ rfl a (by simp))
        obtain ⟨bb, hb, hib⟩ := whole (kt _ rfl b (by simp))
        obtain ⟨bc, hc, hic⟩ := whole (kt _ rfl c (by simp))
        simp [ha, hb, hc]
        refine ⟨fun e => no fun t e' _ _ _ => ?_, fun e => ?_⟩
        · subst e
          simp [tpD] at e'
          exact absurd (hic.mpr ⟨_, e'.2.2⟩) (by simp)
        subst e
        obtain ⟨m, rfl⟩ := hic.mp rfl
        simp
        refine ⟨fun h => no fun t e' _ h2 _ => ?_, fun h => ?_⟩
        · simp [tpD] at e'; omega
        simp [ha]
        refine ⟨fun e => no fun t e' _ _ _ => ?_, fun e => ?_⟩
        · subst e
          simp [tpD] at e'
          exact absurd (hia.mpr ⟨_, e'.1⟩) (by simp)
        subst e
        obtain ⟨x, rfl⟩ := hia.mp rfl
        simp [hb]
        refine ⟨fun e => no fun t e' _ _ _ => ?_, fun e => ?_⟩
        · subst e
          simp [tpD] at e'
          exact absurd (hib.mpr ⟨_, e'.2.1⟩) (by simp)
        subst e
        obtain ⟨y, rfl⟩ := hib.mp rfl
        simp [cut2]
        refine ⟨fun hn => no fun t e' h1 _ _ => ?_, fun hp => ?_⟩
        · simp [tpD] at e'
          refine hn ?_
          rw [e'.1, e'.2.1]; exact h1
        have hk := hin _ hp
        simp only at hk
        refine ⟨fun e => no fun t e' a1 _ a5 => ?_, fun e => ?_⟩
        · simp [tpD] at e'
          have := h3.late hin a1 a5
          simp only [key] at this
          rw [← e'.1, ← e'.2.1] at this
          rw [this] at e; cases e
        simp [tmpE, tmp1, backE, back1, okL, okL1, closedM, flatT, atI_ints hk.1 (show x < lu.length by rw [h4.1]; omega)]
        rw [putD_ints hk.1 (by rw [h4.1]; omega)]
        simp [tmpE, tmp1, backE, back1, okL, okL1, closedM, flatT, atI_ints hk.2.2.1 (show y < ru.length by rw [h5.1]; omega)]
        rw [putD_ints hk.2.2.1 (by rw [h5.1]; omega)]
        simp
        obtain ⟨g1, g2⟩ := h2.snoc (t := (x, y, m)) h3 hp (by omega) e
        exact hK _ _ ⟨ts ++ [(x, y, m)], (x, y), _, _, by rw [take_get hj, h1]; simp [tpD], g1, g2, h4.snoc hk.1 hk.2.1, h5.snoc hk.2.2.1 hk.2.2.2, by simp [List.map_set]⟩
      all_goals exact no fun t e _ _ _ => by cases e
    · rintro e ⟨ts, bef, lu, ru, h1, h2, h3, h4, h5, rfl⟩
      simp at h1
      subst h1
      simp [rng1_nat (show (0 : Int) ≤ lefts.length by omega) (by omega)]
      refine WS_forB (fun k e => (∀ i : Nat, i < k → useL ts i ≤ lefts.getD i 0) ∧
        e = [some (0, .lst (lefts.map .int)), some (0, .lst (rights.map .int)), some (0, .lst (pairs.map ipD)), some (0, .lst (ts.map tpD)), some (1, .lst (lu.map .int)), some (1, .lst (ru.map .int)), some (0, .tup [.int bef.1, .int bef.2]), none, none, none]) ?_ ?_ ?_
      · exact ⟨fun i hi => absurd hi (Nat.not_lt_zero _), rfl⟩
      · rintro K hK j d e hj ⟨k1, rfl⟩
        obtain ⟨hjL, rfl⟩ := rangeD_get hj
        have f1 := atI_ints (ns := lu) (i := (j : Int)) (by omega) (by rw [h4.1]; omega)
        have f2 := atI_ints (ns := lefts) (i := (j : Int)) (by omega) (by omega)
        rw [Int.toNat_natCast] at f1 f2
        rw [h4.2 j hjL] at f1
        simp [tmpE, tmp1, backE, back1, okL, okL1, f1, f2]
        refine ⟨fun h => hJ false ⟨by simp, fun p => ?_⟩, fun h => hK _ _ ⟨fun i hi => ?_, rfl⟩⟩
        · have := (PackOk_lst.mp p).2.1 j hjL
          rw [List.getD_eq_getElem?_getD] at this
          omega
        · rcases Nat.lt_succ_iff_lt_or_eq.mp hi with hi | rfl
          · exact k1 i hi
          · rw [List.getD_eq_getElem?_getD]; omega
      · rintro e ⟨k1, rfl⟩
        simp [rng1_nat (show (0 : Int) ≤ rights.length by omega) (by omega)] at k1 ⊢
        refine WS_forB (fun k e => (∀ i : Nat, i < k → useR ts i ≤ rights.getD i 0) ∧
          e = [some (0, .lst (lefts.map .int)), some (0, .lst (rights.map .int)), some (0, .lst (pairs.map ipD)), some (0, .lst (ts.map tpD)), some (1, .lst (lu.map .int)), some (1, .lst (ru.map .int)), some (0, .tup [.int bef.1, .int bef.2]), none, none, none]) ?_ ?_ ?_
        · exact ⟨fun i hi => absurd hi (Nat.not_lt_zero _), rfl⟩
        · rintro K hK j d e hj ⟨k2, rfl⟩
          obtain ⟨hjL, rfl⟩ := rangeD_get hj
          have f1 := atI_ints (ns := ru) (i := (j : Int)) (by omega) (by rw [h5.1]; omega)
          have f2 := atI_ints (ns := rights) (i := (j : Int)) (by omega) (by omega)
          rw [Int.toNat_natCast] at f1 f2
          rw [h5.2 j hjL] at f1
          simp [tmpE, tmp1, backE, back1, okL, okL1, f1, f2]
          refine ⟨fun h => hJ false ⟨by simp, fun p => ?_⟩, fun h => hK _ _ ⟨fun i hi => ?_, rfl⟩⟩
          · have := (PackOk_lst.mp p).2.2 j hjL
            rw [List.getD_eq_getElem?_getD] at this
            omega
          · rcases Nat.lt_succ_iff_lt_or_eq.mp hi with hi | rfl
            · exact k2 i hi
            · rw [List.getD_eq_getElem?_getD]; omega
        · rintro e ⟨k2, rfl⟩
          simp at k2 ⊢
          refine hJ true ?_
          rw [PackOk_lst]
          exact ⟨fun _ => ⟨h2, fun i hi => by rw [List.getD_eq_getElem?_getD]; exact k1 i hi, fun i hi => by rw [List.getD_eq_getElem?_getD]; exact k2 i hi⟩, fun _ => rfl⟩
  all_goals exact notL (by simp)
end W

set_option autoImplicit false
set_option Elab.async false
set_option linter.all false
set_option maxRecDepth 100000
namespace W
open PySem PySem.Spec PyProof.Rows L2 DL
def NN (ns : List Int) : Prop := ∀ i : Nat, i < ns.length → 0 ≤ ns.getD i 0
theorem NN.set {ns : List Int} {i : Nat} {v : Int} (h : NN ns) (hi : i < ns.length) (hv : 0 ≤ v) : NN (ns.set i v) := fun j hj => by
  rw [List.length_set] at hj
  rw [getD_set hi]
  split
  · exact hv
  · exact h j hj
theorem packing {lefts rights : List Int} {pairs : List (Int × Int)} (hD : Drawn lefts rights pairs) (z : Int) : ∃ ts : List Tp, PackT lefts rights pairs ts ∧ ts.length ≤ pairs.length ∧
    f__law_packing [.lst (lefts.map .int), .lst (rights.map .int), .lst (pairs.map ipD), .int z] = .ret 1 (.lst (ts.map tpD)) [.lst (lefts.map .int), .lst (rights.map .int), .lst (pairs.map ipD), .int z] := by
  suffices h : ∃ n d, f__law_packing [.lst (lefts.map .int), .lst (rights.map .int), .lst (pairs.map ipD), .int z] = .ret n d [.lst (lefts.map .int), .lst (rights.map .int), .lst (pairs.map ipD), .int z] ∧ (n = 1 ∧ ∃ ts : List Tp, PackT lefts rights pairs ts ∧ ts.length ≤ pairs.length ∧ d = .lst (ts.map tpD)) by
    obtain ⟨n, d, e, rfl, ts, h0, h1, rfl⟩ := h
    exact ⟨ts, h0, h1, e⟩
  refine fn_retB _ fun J hJ => ?_
  unfold m__law_packing
  simp
  refine WS_forB (fun k e => ∃ (ts : List Tp) (lr rr : List Int) (z : Int), ts.length ≤ k ∧ (∀ t ∈ ts, key t ∈ pairs.take k ∧ 1 ≤ t.2.2) ∧ (ts.Pairwise fun s t => lt2 (key s) (key t)) ∧ RestL lefts lr ts ∧ RestR rights rr ts ∧ NN lr ∧ NN rr ∧
    e = [some (0, .lst (lefts.map .int)), some (0, .lst (rights.map .int)), some (0, .lst (pairs.map ipD)), some (0, .int z), some (1, .lst (lr.map .int)), some (1, .lst (rr.map .int)), some (1, .lst (ts.map tpD)), none, none, none, none]) ?_ ?_ ?_
  · exact ⟨[], lefts, rights, z, by simp, by simp, .nil, ⟨rfl, fun i _ => by simp [useL]⟩, ⟨rfl, fun i _ => by simp [useR]⟩, nn_getD.mp fun x hx => by have := hD.lpos x hx; omega, nn_getD.mp fun x hx => by have := hD.rpos x hx; omega, rfl⟩
  · rintro K hK j d e hj ⟨ts, lr, rr, z, h0, h1, h2, h3, h4, h5, h6, rfl⟩
    obtain ⟨p, hp, rfl⟩ := map_get hj
    have hm := List.mem_of_getElem? hp
    have hk := hD.inn p hm
    have hd := digits z [4, 7] (by decide) (by decide)
    simp [digs] at hd
    have il : p.1.toNat < lr.length := by rw [h3.1]; omega
    have ir : p.2.toNat < rr.length := by rw [h4.1]; omega
    have a1 := atI_ints hk.1 (show p.1 < lr.length by rw [h3.1]; omega)
    have a2 := atI_ints hk.2.2.1 (show p.2 < rr.length by rw [h4.1]; omega)
    have n1 := h5 p.1.toNat il
    have n2 := h6 p.2.toNat ir
    obtain ⟨x, hx⟩ : ∃ x, lr.getD p.1.toNat 0 = x := ⟨_, rfl⟩
    obtain ⟨y, hy⟩ : ∃ y, rr.getD p.2.toNat 0 = y := ⟨_, rfl⟩
    rw [hx] at a1 n1
    rw [hy] at a2 n2
    have same : K (j + 1) [some (0, .lst (lefts.map .int)), some (0, .lst (rights.map .int)), some (0, .lst (pairs.map ipD)), some (0, .int (z / 28)), some (1, .lst (lr.map .int)), some (1, .lst (rr.map .int)), some (1, .lst (ts.map tpD)), none, none, none, none] :=
      hK _ _ ⟨ts, lr, rr, _, by omega, fun t ht => ⟨List.mem_of_mem_take (i := j) (by rw [List.take_take, Nat.min_eq_left (by omega)]; exact (h1 t ht).1), (h1 t ht).2⟩, h2, h3, h4, h5, h6, rfl⟩
    have more : ∀ a : Int, 0 < a → a ≤ x → a ≤ y → K (j + 1) [some (0, .lst (lefts.map .int)), some (0, .lst (rights.map .int)), some (0, .lst (pairs.map ipD)), some (0, .int (z / 28)), some (1, .lst ((lr.map .int).set p.1.toNat (.int (x - a)))), some (1, .lst ((rr.map .int).set p.2.toNat (.int (y - a)))), some (1, .lst (ts.map tpD ++ [.tup [.int p.1, .int p.2, .int a]])), none, none, none, none] := fun a a0 ax ay => by
      refine hK _ _ ⟨ts ++ [(p.1, p.2, a)], lr.set p.1.toNat (x - a), rr.set p.2.toNat (y - a), z / 28, by simp; omega, fun t ht => ?_, List.pairwise_append.mpr ⟨h2, by simp, fun s hs t ht => ?_⟩, ?_, ?_, h5.set il (by omega), h6.set ir (by omega), by simp [tpD]⟩
      · rw [take_get hp]
        rcases List.mem_append.mp ht with ht | ht
        · exact ⟨List.mem_append_left _ (h1 t ht).1, (h1 t ht).2⟩
        · simp at ht; subst ht; exact ⟨by simp [key], by simp; omega⟩
      · simp at ht
        subst ht
        obtain ⟨i, hi⟩ := List.mem_iff_getElem?.mp (h1 s hs).1
        rw [List.getElem?_take] at hi
        split at hi
        · rename_i hij
          obtain ⟨b1, b2⟩ := List.getElem?_eq_some_iff.mp hi
          obtain ⟨c1, c2⟩ := List.getElem?_eq_some_iff.mp hp
          have := List.pairwise_iff_getElem.mp hD.srt i j b1 c1 hij
          rw [b2, c2] at this; exact this
        · cases hi
      · have := h3.snoc (t := (p.1, p.2, a)) hk.1 hk.2.1
        simp only [hx] at this; exact this
      · have := h4.snoc (t := (p.1, p.2, a)) hk.2.2.1 hk.2.2.2
        simp only [hy] at this; exact this
    have q1 : ∀ v : Int, putD (.lst (lr.map .int)) (.int p.1) (.int v) = some (.lst ((lr.set p.1.toNat v).map .int)) := fun v => putD_ints hk.1 (by omega)
    have q2 : ∀ v : Int, putD (.lst (rr.map .int)) (.int p.2) (.int v) = some (.lst ((rr.set p.2.toNat v).map .int)) := fun v => putD_ints hk.2.2.1 (by omega)
    have hl : ts.length < LIM := by
      have := hD.len
      have := (List.getElem?_eq_some_iff.mp hp).1
      rw [LIMn]; omega
    simp [ipD, hd, tmpE, tmp1, backE, back1, okL, okL1, closedM, flatT, a1, a2, q1, q2]
    refine ⟨fun _ => ⟨fun h => ⟨fun _ => ⟨hl, more _ h ?_ ?_⟩, fun _ => same⟩, fun _ => same⟩, fun _ => ⟨fun h => ⟨fun _ => ⟨hl, more _ h ?_ ?_⟩, fun _ => same⟩, fun _ => same⟩⟩
    all_goals (repeat' split) <;> omega
  · rintro e ⟨ts, lr, rr, z, h0, h1, h2, h3, h4, h5, h6, rfl⟩
    simp at h0 h1
    simp
    exact hJ _ _ ⟨rfl, ts, ⟨⟨fun t ht => h1 t.1 t.2.1 t.2.2 ht, h2⟩, h3.end.mp (minDef_nn.mpr (nn_getD.mpr h5)), h4.end.mp (minDef_nn.mpr (nn_getD.mpr h6))⟩, h0, rfl⟩
end W

set_option autoImplicit false
set_option Elab.async false
set_option linter.all false
set_option maxRecDepth 100000
namespace W
open PySem PySem.Spec PyProof.Rows L2 DL
theorem Kn.int {i : Int} : Kn (.int i) := ⟨_, rfl⟩
theorem Kn.bl {i : Bool} : Kn (.bl i) := ⟨_, rfl⟩
theorem Kn.str {i : Str} : Kn (.str i) := ⟨_, rfl⟩
theorem Kn.non : Kn .non := ⟨_, rfl⟩
theorem Kn.lst {i : List D} : Kn (.lst i) := ⟨_, rfl⟩
theorem Kn.tup {i : List D} : Kn (.tup i) := ⟨_, rfl⟩
theorem KnL.lst {ds : List D} (h : ∀ x ∈ ds, Kn x) : KnL (.lst ds) := ⟨Kn.lst, fun _ e => by cases e; exact h⟩
theorem KnL.of {d : D} (h : Kn d) (n : ∀ ds, d ≠ .lst ds) : KnL d := ⟨h, fun _ e => absurd e (n _)⟩
theorem ints_Kn {ns : List Int} : ∀ x ∈ ns.map D.int, Kn x := fun x h => by
  obtain ⟨i, _, rfl⟩ := List.mem_map.mp h
  exact Kn.int
def KnA (ds : List D) : Prop := ∀ x ∈ ds, Kn x
theorem KnA.nil : KnA [] := fun x h => by cases h
theorem KnA.cons {d : D} {ds : List D} (h : Kn d) (k : KnA ds) : KnA (d :: ds) := fun x hx => by
  rcases List.mem_cons.mp hx with rfl | hx
  · exact h
  · exact k x hx
theorem KnA.append {as bs : List D} (h : KnA as) (k : KnA bs) : KnA (as ++ bs) := fun x hx => by
  rcases List.mem_append.mp hx with hx | hx
  · exact h x hx
  · exact k x hx
theorem KnA.cut {ds : List D} {lo hi : Option Int} (h : KnA ds) : KnA (cutD ds lo hi) := fun x hx => h x (cut_sub hx)
theorem KnA.ints {ns : List Int} : KnA (ns.map D.int) := ints_Kn
theorem KnA.l {ds : List D} (h : KnA ds) : KnL (.lst ds) := KnL.lst h
theorem Asc.len {n : Nat} {cs : List Int} (h : Asc n cs) : cs.length ≤ n := asc_len cs 0 h.1 fun x hx => by have := h.2 x hx; omega
theorem sortU_len : ∀ l : List Int, (sortU l).length ≤ l.length
  | [] => Nat.le_refl _
  | x :: r => by
    have h : ∀ l : List Int, (insU x l).length ≤ l.length + 1 := fun l => by
      induction l with
      | nil => simp [insU]
      | cons y r ih =>
        unfold insU
        split
        · simp
        · split
          · simp
          · simp; omega
    have := h (sortU r)
    have := sortU_len r
    simp only [List.length_cons]
    show (insU x (sortU r)).length ≤ _
    omega
theorem bent_lists {n : Nat} {cs : List Int} (hn : n ≤ 24) (h : Asc n cs) (z : Int) : ∃ bs : List D, bs.length ≤ 100 ∧ (∀ b ∈ bs, KnL b) ∧
    f__law_bent_lists [.lst (cs.map .int), .int n, .int z] = .ret 0 (.lst bs) [.lst (cs.map .int), .int n, .int z] := by
  suffices h : ∃ m d, f__law_bent_lists [.lst (cs.map .int), .int n, .int z] = .ret m d [.lst (cs.map .int), .int n, .int z] ∧ (m = 0 ∧ ∃ bs : List D, bs.length ≤ 100 ∧ (∀ b ∈ bs, KnL b) ∧ d = .lst bs) by
    obtain ⟨m, d, e, rfl, bs, h0, h1, rfl⟩ := h
    exact ⟨bs, h0, h1, e⟩
  refine fn_retB _ fun J hJ => ?_
  unfold m__law_bent_lists
  have hl := h.len
  have hd := digits z [(cs.length : Int) + 1, (n : Int) + 3, (cs.length : Int) + 1] (by simp; omega) (by simp)
  simp only [digs, List.map_cons, List.map_nil] at hd
  generalize z % ((cs.length : Int) + 1) = d0 at hd
  generalize z / ((cs.length : Int) + 1) % ((n : Int) + 3) = d1 at hd
  generalize z / ((cs.length : Int) + 1) / ((n : Int) + 3) % ((cs.length : Int) + 1) = d2 at hd
  have cl : ∀ lo hi : Option Int, (cutD (cs.map D.int) lo hi).length ≤ 24 := fun lo hi => by
    have := cut_len (ds := cs.map D.int) (lo := lo) (hi := hi)
    rw [List.length_map] at this; omega
  have e0 : L2.atI [D.int d0, D.int d1, D.int d2] 0 = some (.int d0) := rfl
  have e1 : L2.atI [D.int d0, D.int d1, D.int d2] 1 = some (.int d1) := rfl
  have ad : ∀ xs ys : List D, xs.length ≤ 100 → ys.length ≤ 100 → addD (.lst xs) (.lst ys) = some (1, .lst (xs ++ ys)) := fun xs ys a b => addD_lst (by omega)
  have hM : (cs.map D.int).length ≤ 24 := by simp; omega
  have a1 : ∀ lo hi lo' hi', addD (.lst (cutD (cs.map D.int) lo hi)) (.lst (cutD (cs.map D.int) lo' hi')) = some (1, .lst (cutD (cs.map D.int) lo hi ++ cutD (cs.map D.int) lo' hi')) := fun lo hi lo' hi' => ad _ _ (by have := cl lo hi; omega) (by have := cl lo' hi'; omega)
  have a2 : ∀ lo hi x, addD (.lst (cutD (cs.map D.int) lo hi)) (.lst [x]) = some (1, .lst (cutD (cs.map D.int) lo hi ++ [x])) := fun lo hi x => ad _ _ (by have := cl lo hi; omega) (by simp)
  have a3 : ∀ lo hi x lo' hi', addD (.lst (cutD (cs.map D.int) lo hi ++ [x])) (.lst (cutD (cs.map D.int) lo' hi')) = some (1, .lst (cutD (cs.map D.int) lo hi ++ [x] ++ cutD (cs.map D.int) lo' hi')) := fun lo hi x lo' hi' => ad _ _ (by have := cl lo hi; simp; omega) (by have := cl lo' hi'; omega)
  have a4 : ∀ x, addD (.lst (cs.map D.int)) (.lst [x]) = some (1, .lst (cs.map D.int ++ [x])) := fun x => ad _ _ (by omega) (by simp)
  have a5 : ∀ x, addD (.lst [x]) (.lst (cs.map D.int)) = some (1, .lst (x :: cs.map D.int)) := fun x => ad _ _ (by simp) (by omega)
  have a6 : ∀ lo hi, addD (.lst (cs.map D.int)) (.lst (cutD (cs.map D.int) lo hi)) = some (1, .lst (cs.map D.int ++ cutD (cs.map D.int) lo hi)) := fun lo hi => ad _ _ (by omega) (by have := cl lo hi; omega)
  have hpos : (0 : Int) < (if (1 : Int) < (n : Int) then (n : Int) else 1) := by split <;> omega
  have hm := modD_int (i := d1) hpos
  generalize d1 % (if (1 : Int) < (n : Int) then (n : Int) else 1) = d4 at hm
  have hs : sortSetD (.lst (cs.map D.int ++ [.int d4])) = some (1, .lst ((sortU (cs ++ [d4])).map .int)) := by
    have := sortU_len (cs ++ [d4])
    have := sortSetD_ints (ns := cs ++ [d4]) (by simp at this ⊢; omega) (by simp; omega)
    simpa using this
  have hr : lstRgD (.int n) = some (1, .lst ((List.range n).map fun i => .int (i : Nat))) := by
    have : (n : Int) ≤ 16777216 ∧ -(2 ^ 62) ≤ (n : Int) := ⟨by omega, by omega⟩
    show (if _ then _ else _) = _
    exact if_pos this
  simp [hd, e0, e1, a1, a2, a3, a4, a5, a6, rng1_nat (show (0 : Int) ≤ cs.length by omega) (by omega)]
  refine WE_compC (fun x => Kn x) (by simp; omega) (fun d hd => ?_) (fun o1 k1 l1 => ?_) (fun _ _ z => z)
  · obtain ⟨j, hj, rfl⟩ := rangeD_mem hd
    obtain ⟨a, ha, _⟩ := atI_in (xs := cs) (i := (cs.length : Int) - 1 - (j : Int)) (by omega) (by omega)
    simp [ha, Kn.int]
  simp [hd, e0, e1, a1, a2, a3, a4, a5, a6, hm, hs]
  refine WE_compC (fun x => Kn x) (by simp; omega) (fun d hd => ?_) (fun o2 k2 l2 => ?_) (fun _ _ z => z)
  · obtain ⟨i, hi, rfl⟩ := List.mem_map.mp hd
    simp [Kn.bl]
  simp [hd, e0, e1, a1, a2, a3, a4, a5, a6, hm, hs]
  refine WE_compC (fun x => Kn x) (by simp; omega) (fun d hd => ?_) (fun o3 k3 l3 => ?_) (fun _ _ z => z)
  · obtain ⟨i, hi, rfl⟩ := List.mem_map.mp hd
    have hi' := h.2 i hi
    have hst : strD [.int i] = some (0, .str (toString i)) := by
      show (if _ then _ else _) = _
      refine if_pos ?_
      refine Nat.lt_of_le_of_lt (Nat.log2_le_self _) ?_
      omega
    simp [hst, Kn.str]
  simp [hd, e0, e1, a1, a2, a3, a4, a5, a6, hm, hs, hr]
  have kM : KnA (cs.map D.int) := KnA.ints
  refine hJ _ _ ⟨rfl, _, by simp, ?_, rfl⟩
  simp only [List.forall_mem_cons]
  exact ⟨(kM.cut.append kM.cut).l, (kM.cut.append (kM.cut.cons Kn.int)).l, (kM.append (KnA.nil.cons Kn.int)).l, (kM.cons Kn.int).l, (kM.append kM.cut).l, KnA.l k1, .of Kn.tup (by simp), .of Kn.non (by simp), KnA.ints.l, KnA.l k2, (KnA.nil.cons Kn.lst).l, .of Kn.int (by simp), KnA.l k3, KnA.l (fun x hx => by
    obtain ⟨i, _, rfl⟩ := List.mem_map.mp hx
    exact Kn.int), kM.cut.l, .of Kn.str (by simp), (KnA.nil.cons Kn.non).l, (kM.append (KnA.nil.cons Kn.non)).l, fun _ h => by cases h⟩
theorem KnC.tup2 {a b : D} (ha : KnL a) (hb : KnL b) : KnC (.tup [a, b]) := ⟨Kn.tup, fun ds e x hx => by
  cases e
  simp at hx
  rcases hx with rfl | rfl
  · exact ha
  · exact hb⟩
theorem KnC.of {d : D} (h : Kn d) (n : ∀ ds, d ≠ .tup ds) : KnC d := ⟨h, fun _ e => absurd e (n _)⟩
theorem bent_covers {lefts rights : List Int} {c0 c1 : List Int} (hl : lefts.length ≤ 24) (hr : rights.length ≤ 24) (h0 : Asc lefts.length c0) (h1 : Asc rights.length c1) (z : Int) : ∃ bs : List D, (∀ b ∈ bs, KnC b) ∧
    f__law_bent_covers [.lst (lefts.map .int), .lst (rights.map .int), .tup [.lst (c0.map .int), .lst (c1.map .int)], .int z] = .ret 1 (.lst bs) [.lst (lefts.map .int), .lst (rights.map .int), .tup [.lst (c0.map .int), .lst (c1.map .int)], .int z] := by
  suffices h : ∃ m d, f__law_bent_covers [.lst (lefts.map .int), .lst (rights.map .int), .tup [.lst (c0.map .int), .lst (c1.map .int)], .int z] = .ret m d [.lst (lefts.map .int), .lst (rights.map .int), .tup [.lst (c0.map .int), .lst (c1.map .int)], .int z] ∧ (m = 1 ∧ ∃ bs : List D, (∀ b ∈ bs, KnC b) ∧ d = .lst bs) by
    obtain ⟨m, d, e, rfl, bs, h0, rfl⟩ := h
    exact ⟨bs, h0, e⟩
  refine fn_retB _ fun J hJ => ?_
  unfold m__law_bent_covers
  obtain ⟨b1, l1, k1, f1⟩ := bent_lists hl h0 z
  obtain ⟨b2, l2, k2, f2⟩ := bent_lists hr h1 (z / 7919)
  have K0 : KnL (.lst (c0.map .int)) := KnA.ints.l
  have K1 : KnL (.lst (c1.map .int)) := KnA.ints.l
  simp [f1, f2]
  refine WE_compC KnC (by omega) (fun d hd => ?_) (fun o1 q1 w1 => ?_) (fun _ _ z => z)
  · simp [KnC.tup2 (k1 d hd) K1]
  simp [f1, f2]
  refine WE_compC KnC (by omega) (fun d hd => ?_) (fun o2 q2 w2 => ?_) (fun _ _ z => z)
  · simp [KnC.tup2 K0 (k2 d hd)]
  have ad : addD (.lst o1) (.lst o2) = some (1, .lst (o1 ++ o2)) := addD_lst (by omega)
  have ad2 : ∀ x y z u v w s t : D, addD (.lst (o1 ++ o2)) (.lst [x, y, z, u, v, w, s, t]) = some (1, .lst (o1 ++ o2 ++ [x, y, z, u, v, w, s, t])) := fun x y z u v w s t => addD_lst (by simp; omega)
  simp [ad, ad2]
  refine hJ _ _ ⟨rfl, _, fun b hb => ?_, rfl⟩
  rcases List.mem_append.mp hb with hb | hb
  · exact q1 b hb
  rcases List.mem_append.mp hb with hb | hb
  · exact q2 b hb
  simp only [List.mem_cons, List.not_mem_nil, or_false] at hb
  rcases hb with rfl | rfl | rfl | rfl | rfl | rfl | rfl | rfl
  · exact .of Kn.lst (by simp)
  · refine ⟨Kn.tup, fun ds e x hx => ?_⟩
    cases e
    simp at hx
    rcases hx with rfl | rfl | rfl
    · exact K0
    · exact K1
    · exact KnA.nil.l
  · refine ⟨Kn.tup, fun ds e x hx => ?_⟩
    cases e
    have := cut_sub hx
    simp at this
    rcases this with rfl | rfl
    · exact K0
    · exact K1
  · exact ⟨Kn.tup, fun ds e x hx => by cases e; cases hx⟩
  · exact .of Kn.non (by simp)
  · exact KnC.tup2 K1 K0
  · exact .of Kn.lst (by simp)
  · exact .of Kn.bl (by simp)
end W

set_option autoImplicit false
set_option Elab.async false
set_option linter.all false
set_option maxRecDepth 100000
namespace W
open PySem PySem.Spec PyProof.Rows L2 DL
def KnT (x : D) : Prop := Kn x ∧ ∀ es, x = .tup es → ∀ y ∈ es, Kn y
def KnTA (ds : List D) : Prop := ∀ x ∈ ds, KnT x
theorem KnT.of {d : D} (h : Kn d) (n : ∀ ds, d ≠ .tup ds) : KnT d := ⟨h, fun _ e => absurd e (n _)⟩
theorem KnT.tup {ds : List D} (h : KnA ds) : KnT (.tup ds) := ⟨Kn.tup, fun _ e => by cases e; exact h⟩
theorem KnTA.nil : KnTA [] := fun x h => by cases h
theorem KnTA.cons {d : D} {ds : List D} (h : KnT d) (k : KnTA ds) : KnTA (d :: ds) := fun x hx => by
  rcases List.mem_cons.mp hx with rfl | hx
  · exact h
  · exact k x hx
theorem KnTA.append {as bs : List D} (h : KnTA as) (k : KnTA bs) : KnTA (as ++ bs) := fun x hx => by
  rcases List.mem_append.mp hx with hx | hx
  · exact h x hx
  · exact k x hx
theorem KnTA.cut {ds : List D} {lo hi : Option Int} (h : KnTA ds) : KnTA (cutD ds lo hi) := fun x hx => h x (cut_sub hx)
theorem KnP.l {ds : List D} (h : KnTA ds) : KnP (.lst ds) := ⟨Kn.lst, fun _ e => by cases e; exact h⟩
theorem KnP.of {d : D} (h : Kn d) (n : ∀ ds, d ≠ .lst ds) : KnP d := ⟨h, fun _ e => absurd e (n _)⟩
theorem KnT.three {a b c : D} (h1 : Kn a) (h2 : Kn b) (h3 : Kn c) : KnT (.tup [a, b, c]) := .tup ((KnA.nil.cons h3).cons h2 |>.cons h1)
theorem KnT.tp {t : Tp} : KnT (tpD t) := .three .int .int .int
theorem KnTA.tps {ts : List Tp} : KnTA (ts.map tpD) := fun x h => by
  obtain ⟨t, _, rfl⟩ := List.mem_map.mp h
  exact .tp
theorem idx_some {d : D} : ∀ {ds : List D}, (∃ z ∈ ds, eqv z d = true) → ∃ j, idxOf d ds = some j ∧ j < ds.length
  | [], ⟨_, h, _⟩ => by cases h
  | y :: r, ⟨z, h, e⟩ => by
    unfold idxOf
    by_cases c : eqv y d = true
    · exact ⟨0, by rw [if_pos c], by simp⟩
    · rcases List.mem_cons.mp h with rfl | h
      · exact absurd e c
      · obtain ⟨j, hj, hl⟩ := idx_some ⟨z, h, e⟩
        exact ⟨j + 1, by rw [if_neg c, hj]; rfl, by simp; omega⟩
theorem okN_tp {t : Tp} : okN 40 (tpD t) = true := by simp [tpD, okN, okN_int]
theorem index_tp {ts : List Tp} {t : Tp} (h : t ∈ ts) (hl : ts.length ≤ 576) : ∃ j : Nat, indexD (.lst (ts.map tpD)) [.tup [.int t.1, .int t.2.1, .int t.2.2]] = some (0, .int j) ∧ j < ts.length := by
  obtain ⟨j, hj, hjl⟩ := idx_some (d := tpD t) (ds := ts.map tpD) ⟨tpD t, List.mem_map_of_mem h, by simp [tpD, eqv, eqvs]⟩
  have h2 : (ts.map tpD).all (okN 40) = true := by
    rw [List.all_map]
    exact List.all_eq_true.mpr fun i _ => okN_tp
  have hc : (okN 40 (tpD t) && (ts.map tpD).all (okN 40) && decide ((ts.map tpD).length ≤ LIM)) = true := by
    rw [okN_tp, h2, List.length_map, LIMn]
    simp; omega
  refine ⟨j, ?_, by simpa using hjl⟩
  show (if (okN 40 (tpD t) && (ts.map tpD).all (okN 40) && decide ((ts.map tpD).length ≤ LIM)) = true then _ else _) = _
  rw [if_pos hc]
  show (idxOf (tpD t) (ts.map tpD)).map _ = _
  rw [hj]; rfl
theorem bent_packings {lefts rights : List Int} {ts : List Tp} (hl : lefts.length ≤ 24) (hr : rights.length ≤ 24) (ht : ts.length ≤ 576) (z : Int) : ∃ bs : List D, (∀ b ∈ bs, KnP b) ∧
    f__law_bent_packings [.lst (lefts.map .int), .lst (rights.map .int), .lst (ts.map tpD), .int z] = .ret 1 (.lst bs) [.lst (lefts.map .int), .lst (rights.map .int), .lst (ts.map tpD), .int z] := by
  suffices h : ∃ m d, f__law_bent_packings [.lst (lefts.map .int), .lst (rights.map .int), .lst (ts.map tpD), .int z] = .ret m d [.lst (lefts.map .int), .lst (rights.map .int), .lst (ts.map tpD), .int z] ∧ (m = 1 ∧ ∃ bs : List D, (∀ b ∈ bs, KnP b) ∧ d = .lst bs) by
    obtain ⟨m, d, e, rfl, bs, h0, rfl⟩ := h
    exact ⟨bs, h0, e⟩
  refine fn_retB _ fun J hJ => ?_
  unfold m__law_bent_packings
  have hpl : (0 : Int) < (if (1 : Int) < (lefts.length : Int) then (lefts.length : Int) else 1) ∧ (if (1 : Int) < (lefts.length : Int) then (lefts.length : Int) else 1) < 1073741824 := by constructor <;> split <;> omega
  have hpr : (0 : Int) < (if (1 : Int) < (rights.length : Int) then (rights.length : Int) else 1) ∧ (if (1 : Int) < (rights.length : Int) then (rights.length : Int) else 1) < 1073741824 := by constructor <;> split <;> omega
  have hd := digits z [(ts.length : Int) + 1, if (1 : Int) < (lefts.length : Int) then (lefts.length : Int) else 1, if (1 : Int) < (rights.length : Int) then (rights.length : Int) else 1, 1000, (ts.length : Int) + 1] (by
    intro s hs
    simp only [List.mem_cons, List.not_mem_nil, or_false] at hs
    rcases hs with rfl | rfl | rfl | rfl | rfl
    · omega
    · exact hpl
    · exact hpr
    · decide
    · omega) (by simp)
  simp only [digs, List.map_cons, List.map_nil] at hd
  obtain ⟨d0, d1, d2, d3, d4, hd⟩ : ∃ d0 d1 d2 d3 d4 : Int, f__law_digits [.int z, .lst [.int ((ts.length : Int) + 1), .int (if (1 : Int) < (lefts.length : Int) then (lefts.length : Int) else 1), .int (if (1 : Int) < (rights.length : Int) then (rights.length : Int) else 1), .int 1000, .int ((ts.length : Int) + 1)]] = .ret 1 (.lst [.int d0, .int d1, .int d2, .int d3, .int d4]) [.int z, .lst [.int ((ts.length : Int) + 1), .int (if (1 : Int) < (lefts.length : Int) then (lefts.length : Int) else 1), .int (if (1 : Int) < (rights.length : Int) then (rights.length : Int) else 1), .int 1000, .int ((ts.length : Int) + 1)]] := ⟨_, _, _, _, _, hd⟩
  have e0 : L2.atI [D.int d0, D.int d1, D.int d2, D.int d3, D.int d4] 0 = some (.int d0) := rfl
  have e1 : L2.atI [D.int d0, D.int d1, D.int d2, D.int d3, D.int d4] 1 = some (.int d1) := rfl
  have e2 : L2.atI [D.int d0, D.int d1, D.int d2, D.int d3, D.int d4] 2 = some (.int d2) := rfl
  have e3 : L2.atI [D.int d0, D.int d1, D.int d2, D.int d3, D.int d4] 3 = some (.int d3) := rfl
  have e4 : L2.atI [D.int d0, D.int d1, D.int d2, D.int d3, D.int d4] 4 = some (.int d4) := rfl
  have hM : (ts.map tpD).length ≤ 576 := by simpa using ht
  have cl : ∀ lo hi : Option Int, (cutD (ts.map tpD) lo hi).length ≤ 576 := fun lo hi => Nat.le_trans cut_len hM
  have ad : ∀ xs ys : List D, xs.length ≤ 1000 → ys.length ≤ 1000 → addD (.lst xs) (.lst ys) = some (1, .lst (xs ++ ys)) := fun xs ys a b => addD_lst (by omega)
  have a1 : ∀ lo hi lo' hi', addD (.lst (cutD (ts.map tpD) lo hi)) (.lst (cutD (ts.map tpD) lo' hi')) = some (1, .lst (cutD (ts.map tpD) lo hi ++ cutD (ts.map tpD) lo' hi')) := fun lo hi lo' hi' => ad _ _ (by have := cl lo hi; omega) (by have := cl lo' hi'; omega)
  have a2 : ∀ lo hi x, addD (.lst (cutD (ts.map tpD) lo hi)) (.lst [x]) = some (1, .lst (cutD (ts.map tpD) lo hi ++ [x])) := fun lo hi x => ad _ _ (by have := cl lo hi; omega) (by simp)
  have a2' : ∀ lo hi x y, addD (.lst (cutD (ts.map tpD) lo hi)) (.lst [x, y]) = some (1, .lst (cutD (ts.map tpD) lo hi ++ [x, y])) := fun lo hi x y => ad _ _ (by have := cl lo hi; omega) (by simp)
  have a3 : ∀ lo hi x lo' hi', addD (.lst (cutD (ts.map tpD) lo hi ++ [x])) (.lst (cutD (ts.map tpD) lo' hi')) = some (1, .lst (cutD (ts.map tpD) lo hi ++ [x] ++ cutD (ts.map tpD) lo' hi')) := fun lo hi x lo' hi' => ad _ _ (by have := cl lo hi; simp; omega) (by have := cl lo' hi'; omega)
  have a3' : ∀ lo hi x y lo' hi', addD (.lst (cutD (ts.map tpD) lo hi ++ [x, y])) (.lst (cutD (ts.map tpD) lo' hi')) = some (1, .lst (cutD (ts.map tpD) lo hi ++ [x, y] ++ cutD (ts.map tpD) lo' hi')) := fun lo hi x y lo' hi' => ad _ _ (by have := cl lo hi; simp; omega) (by have := cl lo' hi'; omega)
  have a4 : ∀ x, addD (.lst (ts.map tpD)) (.lst [x]) = some (1, .lst (ts.map tpD ++ [x])) := fun x => ad _ _ (by omega) (by simp)
  have a6 : ∀ lo hi, addD (.lst (ts.map tpD)) (.lst (cutD (ts.map tpD) lo hi)) = some (1, .lst (ts.map tpD ++ cutD (ts.map tpD) lo hi)) := fun lo hi => ad _ _ (by omega) (by have := cl lo hi; omega)
  refine WS_cutB (fun e => e = [some (0, .lst (lefts.map .int)), some (0, .lst (rights.map .int)), some (0, .lst (ts.map tpD)), some (0, .int z), some (0, .lst [.int d0, .int d1, .int d2, .int d3, .int d4]), none, none, none, none, none, none, none, none, none]) (fun K hK => ?_) ?_
  · simp
    rw [hd]
    simp
    exact hK _ rfl
  rintro e rfl
  rw [WS_assoc, WS_assoc, WS_assoc, WS_assoc, WS_assoc]
  refine WS_cutB (fun e => ∃ bs : List D, bs.length ≤ 20 ∧ (∀ b ∈ bs, KnP b) ∧ e = [some (0, .lst (lefts.map .int)), some (0, .lst (rights.map .int)), some (0, .lst (ts.map tpD)), some (0, .int z), some (0, .lst [.int d0, .int d1, .int d2, .int d3, .int d4]), some (0, .int d0), some (0, .tup [.int d1, .int d2, .int (1 + d3)]), some (1, .lst bs), none, none, none, none, none, none]) (fun K hK => ?_) ?_
  · simp [e0, e1, e2, e3, e4, a1, a2, a3, a4, a6, rng1_nat (show (0 : Int) ≤ ts.length by omega) (by omega)]
    refine WE_compC KnT (by simp; omega) (fun d hd => ?_) (fun o1 k1 l1 => ?_) (fun _ _ z => z)
    · obtain ⟨j, hj, rfl⟩ := rangeD_mem hd
      obtain ⟨a, ha, hm, _⟩ := atI_in (xs := ts.map tpD) (i := (ts.length : Int) - 1 - (j : Int)) (by omega) (by simp; omega)
      simp [ha, KnTA.tps a hm]
    simp [e0, e1, e2, e3, e4]
    refine WE_compC KnT (by simp; omega) (fun d hd => ?_) (fun o2 k2 l2 => ?_) (fun _ _ z => z)
    · obtain ⟨t, _, rfl⟩ := List.mem_map.mp hd
      simp [tpD, KnT.of Kn.lst]
    simp
    refine WE_compC KnT (by simp; omega) (fun d hd => ?_) (fun o3 k3 l3 => ?_) (fun _ _ z => z)
    · obtain ⟨t, _, rfl⟩ := List.mem_map.mp hd
      simp [tpD, cut2]
      exact .tup ((KnA.nil.cons .int).cons .int)
    simp
    refine WE_compC KnT (by simp; omega) (fun d hd => ?_) (fun o4 k4 l4 => ?_) (fun _ _ z => z)
    · obtain ⟨t, _, rfl⟩ := List.mem_map.mp hd
      simp [tpD]
      exact .tup ((((KnA.nil.cons .int).cons .int).cons .int).cons .int)
    simp [a4]
    have kM : KnTA (ts.map tpD) := .tps
    have ke : KnT (.tup [.int d1, .int d2, .int (1 + d3)]) := .three .int .int .int
    refine hK _ ⟨_, by simp, ?_, rfl⟩
    simp only [List.forall_mem_cons]
    exact ⟨.l (kM.cut.append kM.cut), .l (kM.cut.append (kM.cut.cons ke)), .l (kM.append kM.cut), .of .tup (by simp), .l k1, .l (KnTA.nil.cons ke), .l (KnTA.nil.cons (.three .int .int .int)), .l k2, .l k3, .of .non (by simp), .l (KnTA.nil.cons (.of .non (by simp))), .of .bl (by simp), .of .str (by simp), .l k4, .l (kM.append (KnTA.nil.cons (.three .int .int .int))), .l (kM.append (KnTA.nil.cons (.three .int .int .int))), fun _ h => by cases h⟩
  rintro e ⟨bs, hb1, hb2, rfl⟩
  simp
  refine ⟨fun hne => ?_, fun hn => ?_⟩
  · have hpos : 0 < ts.length := List.length_pos_iff.mpr (by simpa using hne)
    have hm : 0 ≤ d4 % (ts.length : Int) ∧ d4 % (ts.length : Int) < ts.length := ⟨Int.emod_nonneg _ (by omega), Int.emod_lt_of_pos _ (by omega)⟩
    obtain ⟨t, hta, htm, _⟩ := atI_in (xs := ts) hm.1 hm.2
    have hta' : L2.atI (ts.map tpD) (d4 % (ts.length : Int)) = some (tpD t) := by
      unfold L2.atI at hta ⊢
      rw [List.length_map]
      cases hx : L2.ixN ts.length (d4 % (ts.length : Int)) with
      | none => rw [hx] at hta; cases hta
      | some q =>
        rw [hx] at hta
        show (ts.map tpD)[q]? = _
        rw [List.getElem?_map, show ts[q]? = some t from hta]; rfl
    obtain ⟨q, hq, hql⟩ := index_tp htm ht
    simp [e4, modD_int (show (0 : Int) < ts.length by omega), hta']
    simp [tpD, isTy, hq, eqD_int]
    have kM : KnTA (ts.map tpD) := .tps
    have fl : ∀ (items : List D) (bs : List D) (n0 : Nat) (Q : Post), items.length ≤ 10 → n0 ≤ 40 → KnTA items → bs.length ≤ n0 → (∀ b ∈ bs, KnP b) →
        (∀ bs' : List D, bs'.length ≤ n0 + items.length → (∀ b ∈ bs', KnP b) → Q.nx [some (0, .lst (lefts.map .int)), some (0, .lst (rights.map .int)), some (0, .lst (ts.map tpD)), some (0, .int z), some (0, .lst [.int d0, .int d1, .int d2, .int d3, .int d4]), some (0, .int d0), some (0, .tup [.int d1, .int d2, .int (1 + d3)]), some (1, .lst bs'), some (0, .int t.1), some (0, .int t.2.1), some (0, .int t.2.2), some (0, .int q), none, none]) →
        WS (mForL (gN 12) [12] (mApp 7 (mOp2 addD (mOp2 addD (mSlice sliceD (mVar 2) mONone (mOSome (mVar 11))) (mLst (mCons (mVar 12) mNil))) (mSlice sliceD (mVar 2) (mOSome (mOp2 addD (mVar 11) (mC (.int 1)))) mONone))) items
          [some (0, .lst (lefts.map .int)), some (0, .lst (rights.map .int)), some (0, .lst (ts.map tpD)), some (0, .int z), some (0, .lst [.int d0, .int d1, .int d2, .int d3, .int d4]), some (0, .int d0), some (0, .tup [.int d1, .int d2, .int (1 + d3)]), some (1, .lst bs), some (0, .int t.1), some (0, .int t.2.1), some (0, .int t.2.2), some (0, .int q), none, none]) Q := by
      intro items bs n0 Q hi hn0 hk hb1 hb2 hq'
      refine WS_forB (fun k e => ∃ bs' : List D, bs'.length ≤ n0 + k ∧ (∀ b ∈ bs', KnP b) ∧ e = [some (0, .lst (lefts.map .int)), some (0, .lst (rights.map .int)), some (0, .lst (ts.map tpD)), some (0, .int z), some (0, .lst [.int d0, .int d1, .int d2, .int d3, .int d4]), some (0, .int d0), some (0, .tup [.int d1, .int d2, .int (1 + d3)]), some (1, .lst bs'), some (0, .int t.1), some (0, .int t.2.1), some (0, .int t.2.2), some (0, .int q), none, none]) ?_ ?_ ?_
      · exact ⟨bs, hb1, hb2, rfl⟩
      · rintro K hK j d e hj ⟨bs', g1, g2, rfl⟩
        have hjl := (List.getElem?_eq_some_iff.mp hj).1
        simp [a2, a3]
        refine ⟨by rw [LIMn]; omega, hK _ _ ⟨_, ?_, ?_, rfl⟩⟩
        · simp; omega
        · intro b hb
          rcases List.mem_append.mp hb with hb | hb
          · exact g2 b hb
          · simp only [List.mem_singleton] at hb
            subst hb
            exact .l (kM.cut.append (kM.cut.cons (hk d (List.mem_of_getElem? hj))))
      · rintro e ⟨bs', g1, g2, rfl⟩
        exact hq' bs' g1 g2
    refine fl _ _ 20 _ (by simp) (by omega) ?_ hb1 hb2 fun b1 h1 h2 => ?_
    · intro x hx
      simp only [List.mem_cons, List.not_mem_nil, or_false] at hx
      rcases hx with rfl | rfl | rfl | rfl | rfl | rfl
      · exact .three .int .int .int
      · exact .three .int .int .int
      · exact .three .int .int .int
      · exact .three .int .int .int
      · exact .three .int .int .bl
      · exact .three .int .int .non
    simp [eqD_int]
    simp at h1
    refine fl _ _ 26 _ (by simp) (by omega) ?_ h1 h2 fun b3 h3 h4 => ?_
    · intro x hx
      simp only [List.mem_cons, List.not_mem_nil, or_false] at hx
      rcases hx with rfl | rfl | rfl | rfl | rfl | rfl
      · exact .three .int .int .int
      · exact .three .int .int .int
      · exact .three .int .int .int
      · exact .three .int .int .int
      · exact .three .bl .int .int
      · exact .three .int .str .int
    simp at h3
    simp [a2', a3']
    refine ⟨by rw [LIMn]; omega, hJ _ _ ⟨rfl, _, ?_, rfl⟩⟩
    intro b hb
    rcases List.mem_append.mp hb with hb | hb
    · exact h4 b hb
    · simp only [List.mem_singleton] at hb
      subst hb
      exact .l (kM.cut.append ((kM.cut.cons (.three .int .int .int)).cons (.three .int .int .int)))
  · refine hJ _ _ ⟨rfl, bs, hb2, rfl⟩
end W

set_option autoImplicit false
set_option Elab.async false
set_option linter.all false
set_option maxRecDepth 100000
namespace W
open PySem PySem.Spec PyProof.Rows L2 DL
/-- what _law_same can look through -/
def okS : Nat → D → Bool
  | _, .non => true
  | _, .bl _ => true
  | _, .int _ => true
  | _, .str _ => true
  | n + 1, .lst ds => decide (ds.length ≤ 16777216) && ds.all (okS n)
  | n + 1, .tup ds => decide (ds.length ≤ 16777216) && ds.all (okS n)
  | _, _ => false
theorem same_seq {n : Nat} {ds : List D} (hl : ds.length ≤ 16777216) (ih : ∀ d ∈ ds, f__law_same (n + 1) [d, d] = .ret 0 (.bl true) [d, d]) {d : D} (hd : d = .lst ds ∨ d = .tup ds) {Q : Post} (hq : Q.nx [some (0, d), some (0, d), none]) :
    WS (mForL (gN 2) [2] (mIf (mNot (mTru (mCall [0, 0] (f__law_same (n + 1)) [.ex (mOp2 idxD (mVar 0) (mVar 2)), .ex (mOp2 idxD (mVar 1) (mVar 2))]))) (mRet (mC (.bl false))) mSkip) (rangeD 0 ds.length) [some (0, d), some (0, d), none]) Q := by
  refine WS_forB (fun k e => e = [some (0, d), some (0, d), none]) rfl ?_ ?_
  · rintro K hK j x e hj rfl
    obtain ⟨hjl, rfl⟩ := rangeD_get hj
    have ha := atI_nat hjl
    have hi := ih ds[j] (List.getElem_mem hjl)
    rcases hd with rfl | rfl <;> simp [ha, hi] <;> exact hK _ _ rfl
  · rintro e rfl
    exact hq
theorem eqD_bl {a b : Bool} : eqD (.bl a) (.bl b) = some (a == b) := rfl
theorem eqD_str {a b : Str} : eqD (.str a) (.str b) = some (a == b) := rfl
theorem isD_non {a : D} (h : ∀ b, a ≠ .bl b) : isD a .non = some (isNonD a) := by
  cases a <;> first | rfl | exact absurd rfl (h _)
theorem isD_bln {a : Bool} : isD (.bl a) .non = some false := rfl
set_option maxHeartbeats 4000000 in
theorem same_refl : ∀ (n : Nat) (d : D), okS n d = true → f__law_same (n + 1) [d, d] = .ret 0 (.bl true) [d, d] := by
  intro n
  induction n with
  | zero =>
    intro d h
    suffices h : ∃ m r, f__law_same 1 [d, d] = .ret m r [d, d] ∧ (m = 0 ∧ r = .bl true) by
      obtain ⟨m, r, e, rfl, rfl⟩ := h; exact e
    refine fn_ret ?_
    unfold m__law_same
    cases d <;> simp [okS] at h <;> simp [isTyB_eq, isD_non, isD_bln, isNonD, eqD_bl, eqD_str]
  | succ n ih =>
    intro d h
    suffices h : ∃ m r, f__law_same (n + 2) [d, d] = .ret m r [d, d] ∧ (m = 0 ∧ r = .bl true) by
      obtain ⟨m, r, e, rfl, rfl⟩ := h; exact e
    refine fn_ret ?_
    unfold m__law_same
    cases d <;> simp [okS] at h <;> simp [isTyB_eq, isD_non, isD_bln, isNonD, eqD_bl, eqD_str]
    case lst ds =>
      simp only [rng1_nat (show (0 : Int) ≤ ds.length by omega) (by omega), oP_some]
      exact same_seq h.1 (fun d hd => ih d (h.2 d hd)) (.inl rfl) (by simp)
    case tup ds =>
      simp only [rng1_nat (show (0 : Int) ≤ ds.length by omega) (by omega), oP_some]
      exact same_seq h.1 (fun d hd => ih d (h.2 d hd)) (.inr rfl) (by simp)
def getF (l : List Int) (d : D) : Option D := match isIn d with
  | some i => some (.int (l.getD i.toNat 0))
  | none => none
def wts (l c : List Int) : List Int := c.map fun i => l.getD i.toNat 0
theorem getF_map {l c : List Int} : (c.map D.int).filterMap (getF l) = (wts l c).map .int := by
  unfold wts
  rw [List.filterMap_map, fm_all (g := fun i : Int => D.int (l.getD i.toNat 0)), List.map_map]
  · rfl
  · intro i _; rfl
theorem cover_weight {lefts rights : List Int} {c0 c1 : List Int} (l0 : c0.length ≤ 24) (l1 : c1.length ≤ 24) (h0 : Asc lefts.length c0) (h1 : Asc rights.length c1) :
    f_cover_weight [.lst (lefts.map .int), .lst (rights.map .int), .tup [.lst (c0.map .int), .lst (c1.map .int)]] = .ret 0 (.int ((wts lefts c0).sum + (wts rights c1).sum)) [.lst (lefts.map .int), .lst (rights.map .int), .tup [.lst (c0.map .int), .lst (c1.map .int)]] := by
  suffices h : ∃ m r, f_cover_weight [.lst (lefts.map .int), .lst (rights.map .int), .tup [.lst (c0.map .int), .lst (c1.map .int)]] = .ret m r [.lst (lefts.map .int), .lst (rights.map .int), .tup [.lst (c0.map .int), .lst (c1.map .int)]] ∧ (m = 0 ∧ r = .int ((wts lefts c0).sum + (wts rights c1).sum)) by
    obtain ⟨m, r, e, rfl, rfl⟩ := h; exact e
  refine fn_ret ?_
  unfold m_cover_weight
  simp
  refine WE_compL (getF lefts) _ _ (by simp; omega) (fun d hd => ?_) ?_ (fun _ _ z => z)
  · obtain ⟨i, hi, rfl⟩ := List.mem_map.mp hd
    simp [getF, atI_ints (h0.2 i hi).1 (h0.2 i hi).2]
  rw [List.nil_append, getF_map]
  simp
  refine WE_compL (getF rights) _ _ (by simp; omega) (fun d hd => ?_) ?_ (fun _ _ z => z)
  · obtain ⟨i, hi, rfl⟩ := List.mem_map.mp hd
    simp [getF, atI_ints (h1.2 i hi).1 (h1.2 i hi).2]
  rw [List.nil_append, getF_map]
  simp
end W

set_option autoImplicit false
set_option Elab.async false
set_option linter.all false
set_option maxRecDepth 100000
namespace W
open PySem PySem.Spec PyProof.Rows L2 DL
theorem same_bl (b : Bool) : f__law_same 6 [.bl b, .bl b] = .ret 0 (.bl true) [.bl b, .bl b] := same_refl 5 _ rfl
theorem same_int (i : Int) : f__law_same 6 [.int i, .int i] = .ret 0 (.bl true) [.int i, .int i] := same_refl 5 _ rfl
theorem BoolIs.same {o o' : FR} {ds ds' : List D} {p : Prop} (h : BoolIs o ds p) (k : BoolIs o' ds' p) : ∃ b : Bool, o = .ret 0 (.bl b) ds ∧ o' = .ret 0 (.bl b) ds' := by
  obtain ⟨b, e, h⟩ := h
  obtain ⟨c, e', k⟩ := k
  have : b = c := by
    rw [Bool.eq_iff_iff, h, k]
  subst this
  exact ⟨b, e, e'⟩
theorem BoolIs.tru {o : FR} {ds : List D} {p : Prop} (h : BoolIs o ds p) (hp : p) : o = .ret 0 (.bl true) ds := by
  obtain ⟨b, e, h⟩ := h
  rw [h.mpr hp] at e; exact e
theorem okS_ints {n : Nat} {ns : List Int} (h : ns.length ≤ 24) : okS (n + 1) (.lst (ns.map .int)) = true := by
  simp only [okS, Bool.and_eq_true, decide_eq_true_eq, List.length_map]
  refine ⟨by omega, ?_⟩
  rw [List.all_map]
  exact List.all_eq_true.mpr fun i _ => by cases n <;> simp [okS]
set_option maxHeartbeats 8000000 in
theorem law_holds : LawD f_law := by
  intro ns _ _
  suffices h : ∃ m r, f_law [.scr (ns.map .int)] = .ret m r [.scr (ns.map .int)] ∧ r = .bl true by
    obtain ⟨m, r, e, rfl⟩ := h; exact ⟨m, _, e⟩
  refine fn_retB (fun _ r => r = .bl true) fun J hJ => ?_
  have good : ∀ n, J n (.bl true) := fun n => hJ n _ rfl
  obtain ⟨lefts, rights, pairs, hD, fd⟩ := draw ns
  obtain ⟨c0, c1, h0, h1, hc, fc⟩ := cover hD (numv ns 49)
  obtain ⟨ts, hp, hpl, fp⟩ := packing hD (numv ns 50)
  have n49 := number ns 49 (by decide)
  have n50 := number ns 50 (by decide)
  have n51 := number ns 51 (by decide)
  have n52 := number ns 52 (by decide)
  have l0 : c0.length ≤ 24 := by have := h0.len; have := hD.l24; omega
  have l1 : c1.length ≤ 24 := by have := h1.len; have := hD.r24; omega
  have fw := cover_weight l0 l1 h0 h1
  have K0 : KnL (.lst (c0.map .int)) := KnA.ints.l
  have K1 : KnL (.lst (c1.map .int)) := KnA.ints.l
  have ic := (is_pair_cover (Ld := lefts.map .int) (Rd := rights.map .int) (pairs := pairs) (KnC.tup2 K0 K1)).tru ⟨c0, c1, rfl, by simpa using h0, by simpa using h1, hc⟩
  have kp : KnP (.lst (ts.map tpD)) := .l .tps
  have ip := (is_pair_packing hD.inn kp).tru ⟨ts, rfl, hp⟩
  obtain ⟨bc, hbc, fbc⟩ := bent_covers hD.l24 hD.r24 h0 h1 (numv ns 51)
  obtain ⟨bp, hbp, fbp⟩ := bent_packings hD.l24 hD.r24 (ts := ts) (by have := hD.len; omega) (numv ns 52)
  unfold m_law
  have P0 : L2.atI [D.lst (lefts.map .int), D.lst (rights.map .int), D.lst (pairs.map ipD)] 0 = some (.lst (lefts.map .int)) := rfl
  rw [WS_assoc, WS_assoc, WS_assoc, WS_assoc]
  refine WS_cutB (fun e => e = [some (0, .scr (ns.map .int)), some (0, .lst (lefts.map .int)), some (0, .lst (rights.map .int)), some (0, .lst (pairs.map ipD)), some (0, .lst [.lst (lefts.map .int), .lst (rights.map .int), .lst (pairs.map ipD)]), some (0, .tup [.lst (c0.map .int), .lst (c1.map .int)]), some (0, .lst (ts.map tpD)), some (0, .int ((wts lefts c0).sum + (wts rights c1).sum)), none, none, none, none]) (fun K hK => ?_) ?_
  · simp [fd, fc, fp, n49, n50]
    refine WE_compL (getF lefts) _ _ (by simp; omega) (fun d hd => ?_) ?_ (fun _ _ z => z)
    · obtain ⟨i, hi, rfl⟩ := List.mem_map.mp hd
      simp [getF, atI_ints (h0.2 i hi).1 (h0.2 i hi).2]
    rw [List.nil_append, getF_map]
    simp
    refine WE_compL (getF rights) _ _ (by simp; omega) (fun d hd => ?_) ?_ (fun _ _ z => z)
    · obtain ⟨i, hi, rfl⟩ := List.mem_map.mp hd
      simp [getF, atI_ints (h1.2 i hi).1 (h1.2 i hi).2]
    rw [List.nil_append, getF_map]
    simp
    exact hK _ rfl
  rintro e rfl
  simp [fw, same_int, ic, ip, n51, fbc]
  refine WS_forB (fun k e => e = [some (0, .scr (ns.map .int)), some (0, .lst (lefts.map .int)), some (0, .lst (rights.map .int)), some (0, .lst (pairs.map ipD)), some (0, .lst [.lst (lefts.map .int), .lst (rights.map .int), .lst (pairs.map ipD)]), some (0, .tup [.lst (c0.map .int), .lst (c1.map .int)]), some (0, .lst (ts.map tpD)), some (0, .int ((wts lefts c0).sum + (wts rights c1).sum)), none, none, none, none]) rfl ?_ ?_
  · rintro K hK j d e hj rfl
    have kd := hbc d (List.mem_of_getElem? hj)
    obtain ⟨b, f1, f2⟩ := (is_pair_cover (Ld := lefts.map .int) (Rd := rights.map .int) (pairs := pairs) kd).same (law_is_cover (Ld := lefts.map .int) (Rd := rights.map .int) (pairs := pairs) kd)
    simp [f1, f2, same_bl]
    exact hK _ _ rfl
  rintro e rfl
  simp [n52, fbp]
  refine WS_forB (fun k e => e = [some (0, .scr (ns.map .int)), some (0, .lst (lefts.map .int)), some (0, .lst (rights.map .int)), some (0, .lst (pairs.map ipD)), some (0, .lst [.lst (lefts.map .int), .lst (rights.map .int), .lst (pairs.map ipD)]), some (0, .tup [.lst (c0.map .int), .lst (c1.map .int)]), some (0, .lst (ts.map tpD)), some (0, .int ((wts lefts c0).sum + (wts rights c1).sum)), none, none, none, none]) rfl ?_ ?_
  · rintro K hK j d e hj rfl
    have kd := hbp d (List.mem_of_getElem? hj)
    obtain ⟨b, f1, f2⟩ := (is_pair_packing hD.inn kd).same (law_is_packing hD.l24 hD.r24 hD.inn kd)
    simp [f1, f2, same_bl]
    exact hK _ _ rfl
  rintro e rfl
  have hs : okS 5 (.lst [.lst (lefts.map .int), .lst (rights.map .int), .lst (pairs.map ipD)]) = true := by
    have a := okS_ints (n := 3) hD.l24
    have b := okS_ints (n := 3) hD.r24
    have c : okS 4 (.lst (pairs.map ipD)) = true := by
      simp only [okS, Bool.and_eq_true, decide_eq_true_eq, List.length_map]
      refine ⟨by have := hD.len; omega, ?_⟩
      rw [List.all_map]
      exact List.all_eq_true.mpr fun i _ => by simp [okS, ipD]
    show (decide _ && (okS 4 _ && (okS 4 _ && (okS 4 _ && true)))) = true
    rw [a, b, c]; rfl
  simp [same_refl 5 _ hs, good]
end W

open PySem PySem.W PyProof.Rows
set_option maxRecDepth 100000 in
set_option maxHeartbeats 0 in
theorem PySem.Challenge.cw_shredday_k48_judges_of_covers_and_packin_holds : PySem.Challenge.rw_shredday_k48_judges_of_covers_and_packin.Holds := by
  w_on; o_law; k_head; (case hw => w_witness2)
  k_fill
  refine DL.walkL (l := PySem.Challenge.rw_shredday_k48_judges_of_covers_and_packin) (k := 8) rfl rfl ⟨rfl, by decide, by decide⟩ (fun w h Y => PySem.W.kIn_of Y) ?F
  case F =>
    intro w mg fa h KX G hmg
    refine' W.all_mk W.law_holds KX G hmg ⟨W.has_is_whole KX G ?a0 ?l0 ?c0 ?k0, W.has_is_row KX G ?a1 ?l1 ?c1 ?k1, W.has_are_places KX G ?a2 ?l2 ?c2 ?k2, W.has_is_pair_cover KX G ?a3 ?l3 ?c3 ?k3, W.has_cover_weight KX G ?a4 ?l4 ?c4 ?k4, W.has_is_triple KX G ?a5 ?l5 ?c5 ?k5, W.has_is_pair_packing KX G ?a6 ?l6 ?c6 ?k6, W.has__law_number KX G ?a7 ?l7 ?c7 ?k7, W.has__law_digits KX G ?a8 ?l8 ?c8 ?k8, W.has__law_same KX G ?a9 ?l9 ?c9 ?k9, W.has__law_whole KX G ?a10 ?l10 ?c10 ?k10, W.has__law_draw KX G ?a11 ?l11 ?c11 ?k11, W.has__law_cover KX G ?a12 ?l12 ?c12 ?k12, W.has__law_packing KX G ?a13 ?l13 ?c13 ?k13, W.has__law_places KX G ?a14 ?l14 ?c14 ?k14, W.has__law_is_cover KX G ?a15 ?l15 ?c15 ?k15, W.has__law_is_packing KX G ?a16 ?l16 ?c16 ?k16, W.has__law_bent_lists KX G ?a17 ?l17 ?c17 ?k17, W.has__law_bent_covers KX G ?a18 ?l18 ?c18 ?k18, W.has__law_bent_packings KX G ?a19 ?l19 ?c19 ?k19, PySem.W.mg_none_of KX G ?z0, PySem.W.mg_none_of KX G ?z1, PySem.W.mg_none_of KX G ?z2, PySem.W.mg_none_of KX G ?z3, PySem.W.mg_none_of KX G ?z4, PySem.W.mg_none_of KX G ?z5, PySem.W.mg_none_of KX G ?z6, PySem.W.mg_none_of KX G ?z7, PySem.W.mg_none_of KX G ?z8, PySem.W.mg_none_of KX G ?z9, PySem.W.mg_none_of KX G ?z10, PySem.W.mg_none_of KX G ?z11, PySem.W.mg_none_of KX G ?z12⟩ ?aL ?lL ?cL ?kL
    (case a0 => k_is); (case l0 => k_is); (case c0 => k_is); (case k0 => k_is)
    (case a1 => k_is); (case l1 => k_is); (case c1 => k_is); (case k1 => k_is)
    (case a2 => k_is); (case l2 => k_is); (case c2 => k_is); (case k2 => k_is)
    (case a3 => k_is); (case l3 => k_is); (case c3 => k_is); (case k3 => k_is)
    (case a4 => k_is); (case l4 => k_is); (case c4 => k_is); (case k4 => k_is)
    (case a5 => k_is); (case l5 => k_is); (case c5 => k_is); (case k5 => k_is)
    (case a6 => k_is); (case l6 => k_is); (case c6 => k_is); (case k6 => k_is)
    (case a7 => k_is); (case l7 => k_is); (case c7 => k_is); (case k7 => k_is)
    (case a8 => k_is); (case l8 => k_is); (case c8 => k_is); (case k8 => k_is)
    (case a9 => k_is); (case l9 => k_is); (case c9 => k_is); (case k9 => k_is)
    (case a10 => k_is); (case l10 => k_is); (case c10 => k_is); (case k10 => k_is)
    (case a11 => k_is); (case l11 => k_is); (case c11 => k_is); (case k11 => k_is)
    (case a12 => k_is); (case l12 => k_is); (case c12 => k_is); (case k12 => k_is)
    (case a13 => k_is); (case l13 => k_is); (case c13 => k_is); (case k13 => k_is)
    (case a14 => k_is); (case l14 => k_is); (case c14 => k_is); (case k14 => k_is)
    (case a15 => k_is); (case l15 => k_is); (case c15 => k_is); (case k15 => k_is)
    (case a16 => k_is); (case l16 => k_is); (case c16 => k_is); (case k16 => k_is)
    (case a17 => k_is); (case l17 => k_is); (case c17 => k_is); (case k17 => k_is)
    (case a18 => k_is); (case l18 => k_is); (case c18 => k_is); (case k18 => k_is)
    (case a19 => k_is); (case l19 => k_is); (case c19 => k_is); (case k19 => k_is)
    (case aL => k_is); (case lL => k_is); (case cL => k_is); (case kL => k_is)
    (case z0 => k_is)
    (case z1 => k_is)
    (case z2 => k_is)
    (case z3 => k_is)
    (case z4 => k_is)
    (case z5 => k_is)
    (case z6 => k_is)
    (case z7 => k_is)
    (case z8 => k_is)
    (case z9 => k_is)
    (case z10 => k_is)
    (case z11 => k_is)
    (case z12 => k_is)
