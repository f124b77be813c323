import PyProof.Rows.All
import Wide.All
import OpenK.AllK
import Wide.FinOn
import HandS.ForMost
import HandS.ForExc
import HandS.Evl
import HandS.Wide
import HandS.TupAny
import HandS.IsInst
import HandS.Deep
import HandS.ExcInit
import HandS.SortInts
import HandS.Defaults
import HandS.ExcOwn
import HandS.TryMany
import HandS.Style
import HandS.ExcSuper
import HandS.ExcValue
import KE.KSuper
import KE.KExcInit
import HandS.ExcField
import HandS.Walk
import HandS.Zip
import HandS.Ends
import HandS.EndBits
import HandS.HeadEnd
import HandS.Head0
import HandS.Head1
import HandS.Head2
import HandS.HeadHook1
import HandS.HeadHook2
import HandS.Property
import HandS.ExcIs
import HandS.TupMul
import KE.GoesNew
import KE.GoesMore
import KE.KTryMore
import HandS.ForDict
import PySem.Challenge.RW_planecuts_k00_errors_apart
set_option Elab.async false
set_option linter.all false
set_option maxRecDepth 100000
set_option maxHeartbeats 2000000
/-! # A pure layer over the hand layer: data trees, a small store of mutable things, readings over these -/
namespace DL
open PySem PySem.Spec L2
open Evl (Ex)

/-- data: trees; loc k: the k-th mutable thing of the store -/
inductive D where
  | non | bl (b : Bool) | int (i : Int) | str (x : Str) | tup (xs : List D) | lst (xs : List D) | scr (xs : List D) | loc (k : Nat) | ty (n : String) | cls (a : Addr)
  /-- a tuple of ours (a key); an instance; a dict whose keys are tuples -/
  | kt (xs : List D) | ins (C : Addr) (ns : List Str) (xs : List D) | dct (ks : List (List L2.Key)) (xs : List D)
  /-- an exception of ours -/
  | err (C : Addr) (ns : List Str) (xs : List D)
/-- what stands in the store -/
inductive MO where
  | dead | lst (xs : List D) | frz (xs : List D) | dt (ks : List (List L2.Key)) (xs : List D) | ins (C : Addr) (ns : List Str) (xs : List D)
abbrev MH := List MO
abbrev SL := List (Option D)
/-- the names' values; what is wanted of an exception: the values, its class, its place, its word, the store -/
structure RH where
  sl : SL
  ex : SL → Addr → D → Str → MH → Prop
  xd : Option (Addr × D × Str) := none
def live : Option MO → Prop
  | some (.lst _) => True
  | some (.dt _ _) => True
  | some (.ins _ _ _) => True
  | _ => False

mutual
def Rel (K : PySem.W.Frag) (F : Hp) (al : List Addr) : D → V → Prop
  | .non, v => v = .non
  | .bl b, v => v = .bl b
  | .int i, v => v = .int i
  | .str x, v => v = .str x
  | .tup ds, v => ∃ a xs, v = .ref a ∧ SqT K F a xs ∧ RelA K F al ds xs
  | .lst ds, v => ∃ a xs, v = .ref a ∧ F a = some (.lst xs) ∧ RelA K F al ds xs
  | .scr ds, v => ∃ a xs, v = .ref a ∧ SqL K F a xs ∧ RelA K F al ds xs
  | .loc k, v => ∃ a, al[k]? = some a ∧ v = .ref a
  | .ty n, v => v = .ty n
  | .cls a, v => v = .ref a
  | .kt ds, v => ∃ a xs, v = .ref a ∧ F a = some (.tup xs) ∧ RelA K F al ds xs
  | .ins C ns ds, v => ∃ a dx xs, v = .ref a ∧ F a = some (.ins C dx (ns.zip xs)) ∧ RelA K F al ds xs
  | .err C ns ds, v => ∃ a dx xs, v = .ref a ∧ F a = some (exo a C (some dx)) ∧ F dx = some (exd dx (ns.zip xs)) ∧ RelA K F al ds xs
  | .dct ks ds, v => ∃ a xs, v = .ref a ∧ F a = some (.dT (ks.zip xs)) ∧ RelA K F al ds xs
def RelA (K : PySem.W.Frag) (F : Hp) (al : List Addr) : List D → List V → Prop
  | [], xs => xs = []
  | d :: ds, xs => ∃ y ys, xs = y :: ys ∧ Rel K F al d y ∧ RelA K F al ds ys
end

def Pre (a b : List Addr) : Prop := ∀ (k : Nat) (x : Addr), a[k]? = some x → b[k]? = some x
theorem Pre.refl (a : List Addr) : Pre a a := fun _ _ h => h
theorem Pre.trans {a b c : List Addr} (h : Pre a b) (g : Pre b c) : Pre a c := fun k x e => g k x (h k x e)
theorem Pre.app (a b : List Addr) : Pre a (a ++ b) := fun k x e => by
  rw [List.getElem?_append_left (List.getElem?_eq_some_iff.mp e).1]
  exact e

section
variable {K : PySem.W.Frag} {F F' : Hp} {al al' : List Addr}
mutual
theorem Rel.mono (e : Ex F F') (p : Pre al al') : ∀ {d : D} {v : V}, Rel K F al d v → Rel K F' al' d v
  | .non, _, h => h
  | .bl _, _, h => h
  | .int _, _, h => h
  | .str _, _, h => h
  | .tup _, _, ⟨a, xs, h1, h2, h3⟩ => ⟨a, xs, h1, Evl.ex_t e h2, RelA.mono e p h3⟩
  | .lst _, _, ⟨a, xs, h1, h2, h3⟩ => ⟨a, xs, h1, e _ _ h2, RelA.mono e p h3⟩
  | .scr _, _, ⟨a, xs, h1, h2, h3⟩ => ⟨a, xs, h1, Evl.ex_l e h2, RelA.mono e p h3⟩
  | .loc _, _, ⟨a, h1, h2⟩ => ⟨a, p _ _ h1, h2⟩
  | .ty _, _, h => h
  | .cls _, _, h => h
  | .kt _, _, ⟨a, xs, h1, h2, h3⟩ => ⟨a, xs, h1, e _ _ h2, RelA.mono e p h3⟩
  | .ins _ _ _, _, ⟨a, dx, xs, h1, h2, h3⟩ => ⟨a, dx, xs, h1, e _ _ h2, RelA.mono e p h3⟩
  | .err _ _ _, _, ⟨a, dx, xs, h1, h2, h4, h3⟩ => ⟨a, dx, xs, h1, e _ _ h2, e _ _ h4, RelA.mono e p h3⟩
  | .dct _ _, _, ⟨a, xs, h1, h2, h3⟩ => ⟨a, xs, h1, e _ _ h2, RelA.mono e p h3⟩
theorem RelA.mono (e : Ex F F') (p : Pre al al') : ∀ {ds : List D} {xs : List V}, RelA K F al ds xs → RelA K F' al' ds xs
  | [], _, h => h
  | _ :: _, _, ⟨y, ys, h1, h2, h3⟩ => ⟨y, ys, h1, Rel.mono e p h2, RelA.mono e p h3⟩
end
theorem RelA.length : ∀ {ds : List D} {xs : List V}, RelA K F al ds xs → xs.length = ds.length
  | [], _, h => by cases h; rfl
  | _ :: _, _, ⟨y, ys, h1, _, h3⟩ => by subst h1; simp [RelA.length h3]
theorem RelA.app : ∀ {ds es : List D} {xs ys : List V}, RelA K F al ds xs → RelA K F al es ys → RelA K F al (ds ++ es) (xs ++ ys)
  | [], _, _, _, h, g => by cases h; exact g
  | _ :: _, _, _, _, ⟨y, ys, h1, h2, h3⟩, g => ⟨y, ys ++ _, by rw [h1]; rfl, h2, RelA.app h3 g⟩
theorem RelA.one {d : D} {v : V} (h : Rel K F al d v) : RelA K F al [d] [v] := ⟨v, [], rfl, h, rfl⟩
theorem RelA.get : ∀ {ds : List D} {xs : List V} {i : Nat} {d : D}, RelA K F al ds xs → ds[i]? = some d → ∃ v, xs[i]? = some v ∧ Rel K F al d v
  | _ :: _, _, 0, _, ⟨y, ys, h1, h2, _⟩, e => by
    simp at e; subst e; subst h1; exact ⟨y, rfl, h2⟩
  | _ :: _, _, i + 1, _, ⟨y, ys, h1, _, h3⟩, e => by
    obtain ⟨v, e1, r⟩ := RelA.get (i := i) h3 (by simpa using e)
    subst h1
    exact ⟨v, by simpa using e1, r⟩
theorem RelA.drop : ∀ {ds : List D} {xs : List V} (n : Nat), RelA K F al ds xs → RelA K F al (ds.drop n) (xs.drop n)
  | _, _, 0, h => h
  | [], _, _ + 1, h => by cases h; rfl
  | _ :: _, _, n + 1, ⟨y, ys, h1, _, h3⟩ => by subst h1; exact RelA.drop n h3
theorem RelA.take : ∀ {ds : List D} {xs : List V} (n : Nat), RelA K F al ds xs → RelA K F al (ds.take n) (xs.take n)
  | _, _, 0, h => by simp [RelA]
  | [], _, _ + 1, h => by cases h; rfl
  | _ :: _, _, n + 1, ⟨y, ys, h1, h2, h3⟩ => by subst h1; exact ⟨y, _, rfl, h2, RelA.take n h3⟩
theorem RelA.set {d : D} {v : V} (r : Rel K F al d v) : ∀ {ds : List D} {xs : List V} (i : Nat), RelA K F al ds xs → RelA K F al (ds.set i d) (xs.set i v)
  | [], _, _, h => by cases h; rfl
  | _ :: _, _, 0, ⟨y, ys, h1, _, h3⟩ => by subst h1; exact ⟨v, ys, rfl, r, h3⟩
  | _ :: _, _, i + 1, ⟨y, ys, h1, h2, h3⟩ => by subst h1; exact ⟨y, _, rfl, h2, RelA.set r i h3⟩
theorem RelA.rep : ∀ {ds : List D} {xs : List V} (n : Nat), RelA K F al ds xs → RelA K F al (List.replicate n ds).flatten (List.replicate n xs).flatten
  | _, _, 0, _ => rfl
  | ds, xs, n + 1, h => by
    rw [List.replicate_succ, List.replicate_succ, List.flatten_cons, List.flatten_cons]
    exact RelA.app h (RelA.rep n h)
theorem RelA.rev : ∀ {ds : List D} {xs : List V}, RelA K F al ds xs → RelA K F al ds.reverse xs.reverse
  | [], _, h => by cases h; rfl
  | _ :: _, _, ⟨y, ys, h1, h2, h3⟩ => by
    subst h1
    rw [List.reverse_cons, List.reverse_cons]
    exact RelA.app (RelA.rev h3) (RelA.one h2)
end

/-! ### no place of the store within -/
mutual
def D.plain : D → Bool
  | .tup ds => plainA ds
  | .lst ds => plainA ds
  | .scr ds => plainA ds
  | .kt ds => plainA ds
  | .ins _ _ ds => plainA ds
  | .err _ _ ds => plainA ds
  | .dct _ ds => plainA ds
  | .loc _ => false
  | .ty _ => true
  | .cls _ => true
  | .non => true
  | .bl _ => true
  | .int _ => true
  | .str _ => true
def plainA : List D → Bool
  | [] => true
  | d :: ds => D.plain d && plainA ds
end
section
variable {K : PySem.W.Frag} {F : Hp} {al al' : List Addr}
mutual
theorem Rel.plain : ∀ {d : D} {v : V}, D.plain d = true → Rel K F al d v → Rel K F al' d v
  | .non, _, _, h => h
  | .bl _, _, _, h => h
  | .int _, _, _, h => h
  | .str _, _, _, h => h
  | .tup _, _, p, ⟨a, xs, h1, h2, h3⟩ => ⟨a, xs, h1, h2, RelA.plain p h3⟩
  | .lst _, _, p, ⟨a, xs, h1, h2, h3⟩ => ⟨a, xs, h1, h2, RelA.plain p h3⟩
  | .scr _, _, p, ⟨a, xs, h1, h2, h3⟩ => ⟨a, xs, h1, h2, RelA.plain p h3⟩
  | .loc _, _, p, _ => by cases p
  | .ty _, _, _, h => h
  | .cls _, _, _, h => h
  | .kt _, _, p, ⟨a, xs, h1, h2, h3⟩ => ⟨a, xs, h1, h2, RelA.plain p h3⟩
  | .ins _ _ _, _, p, ⟨a, dx, xs, h1, h2, h3⟩ => ⟨a, dx, xs, h1, h2, RelA.plain p h3⟩
  | .err _ _ _, _, p, ⟨a, dx, xs, h1, h2, h4, h3⟩ => ⟨a, dx, xs, h1, h2, h4, RelA.plain p h3⟩
  | .dct _ _, _, p, ⟨a, xs, h1, h2, h3⟩ => ⟨a, xs, h1, h2, RelA.plain p h3⟩
theorem RelA.plain : ∀ {ds : List D} {xs : List V}, plainA ds = true → RelA K F al ds xs → RelA K F al' ds xs
  | [], _, _, h => h
  | _ :: _, _, p, ⟨y, ys, h1, h2, h3⟩ => by
    have p' := Bool.and_eq_true_iff.mp p
    exact ⟨y, ys, h1, Rel.plain p'.1 h2, RelA.plain p'.2 h3⟩
end
end
def MO.plain : MO → Bool
  | .dead => true
  | .lst ds => plainA ds
  | .frz ds => plainA ds
  | .dt _ ds => plainA ds
  | .ins _ _ ds => plainA ds

/-! ### the state -/
/-- what is said of one thing of the store -/
def MAt (K : PySem.W.Frag) (F : Hp) (al : List Addr) (H : Hp) (a : Addr) : MO → Prop
  | .dead => True
  | .frz ds => ∃ xs, F a = some (.lst xs) ∧ RelA K F al ds xs
  | .lst ds => F a = none ∧ ∃ xs, H a = some (.lst xs) ∧ RelA K F al ds xs
  | .dt ks ds => F a = none ∧ ∃ xs, H a = some (.dT (ks.zip xs)) ∧ RelA K F al ds xs ∧ ks.length = ds.length
  | .ins C ns ds => F a = none ∧ ∃ dx xs, H a = some (.ins C dx (ns.zip xs)) ∧ RelA K F al ds xs ∧ ns.length = ds.length
structure HR (K : PySem.W.Frag) (F : Hp) (al : List Addr) (H : Hp) (M : MH) : Prop where
  ext : Ex F H
  len : al.length = M.length
  trk : ∀ (k : Nat) (a : Addr), al[k]? = some a → H a ≠ none
  inj : ∀ (k j : Nat) (a : Addr), al[k]? = some a → al[j]? = some a → live M[k]? → k = j
  mem : ∀ (k : Nat) (a : Addr) (o : MO), al[k]? = some a → M[k]? = some o → MAt K F al H a o
/-- a step of the state -/
structure Stp (K : PySem.W.Frag) (F : Hp) (al : List Addr) (H : Hp) (M : MH) (F' : Hp) (al' : List Addr) (H' : Hp) (M' : MH) : Prop where
  ex : Ex F F'
  pre : Pre al al'
  hr : HR K F' al' H' M'
  fr : ∀ (b : Addr) (o : HO), H b = some o → (∀ k : Nat, al[k]? = some b → ¬ live M[k]?) → H' b = some o
  old : ∀ k : Nat, k < M.length → live M'[k]? → live M[k]?
  new : ∀ (k : Nat) (a : Addr), al'[k]? = some a → M.length ≤ k → H a = none
  le : M.length ≤ M'.length
  fzn : ∀ a : Addr, F a = none → F' a = none ∨ H a = none ∨ ∃ k : Nat, al[k]? = some a ∧ live M[k]?
section
variable {K : PySem.W.Frag} {F F' F2 : Hp} {al al' al2 : List Addr} {H H' H2 : Hp} {M M' M2 : MH}
theorem Stp.refl (h : HR K F al H M) : Stp K F al H M F al H M :=
  ⟨fun _ _ e => e, Pre.refl _, h, fun _ _ e _ => e, fun _ _ l => l, fun k a e l => by
    have := (List.getElem?_eq_some_iff.mp e).1
    have := h.len
    omega, Nat.le_refl _, fun _ e => .inl e⟩
theorem Stp.trans (h0 : HR K F al H M) (a : Stp K F al H M F' al' H' M') (b : Stp K F' al' H' M' F2 al2 H2 M2) : Stp K F al H M F2 al2 H2 M2 where
  ex := a.ex.trans b.ex
  pre := a.pre.trans b.pre
  hr := b.hr
  fr := fun c o e n => b.fr c o (a.fr c o e n) fun k q l => by
    by_cases hk : k < M.length
    · have l' := a.old k hk l
      have hk' : k < al.length := by rw [h0.len]; exact hk
      have e1 : al[k]? = some al[k] := by simp [hk']
      have e2 := a.pre k _ e1
      rw [q] at e2
      exact n k (e1.trans e2.symm) l'
    · have := a.new k c q (by omega)
      rw [this] at e; cases e
  old := fun k hk l => a.old k hk (b.old k (Nat.lt_of_lt_of_le hk a.le) l)
  new := fun k c q l => by
    by_cases hk : k < M'.length
    · have hk' : k < al'.length := by rw [a.hr.len]; exact hk
      have e1 : al'[k]? = some al'[k] := by simp [hk']
      have e2 := b.pre k _ e1
      rw [q] at e2
      exact a.new k c (e1.trans e2.symm) l
    · have h1 := b.new k c q (by omega)
      cases e : H c with
      | none => rfl
      | some o =>
        exfalso
        have e' : H' c = some o := a.fr c o e fun j qj lj => by
          have hlt : j < M.length := by
            have := (List.getElem?_eq_some_iff.mp qj).1
            rw [h0.len] at this; exact this
          have q2 := b.pre j c (a.pre j c qj)
          -- a place that lives has its object
          have t := a.hr.trk j c (a.pre j c qj)
          exact t h1
        rw [h1] at e'; cases e'
  le := Nat.le_trans a.le b.le
  fzn := fun c e => by
    rcases a.fzn c e with e1 | e1 | e1
    · rcases b.fzn c e1 with e2 | e2 | ⟨k, e2, l⟩
      · exact .inl e2
      · by_cases hl : ∃ k : Nat, al[k]? = some c ∧ live M[k]?
        · exact .inr (.inr hl)
        · cases q : H c with
          | none => exact .inr (.inl rfl)
          | some o =>
            have := a.fr c o q fun k e3 l => hl ⟨k, e3, l⟩
            rw [this] at e2; cases e2
      · by_cases hk : k < M.length
        · have hk' : k < al.length := by rw [h0.len]; exact hk
          have e3 : al[k]? = some al[k] := by simp [hk']
          have e4 := a.pre k _ e3
          rw [e2] at e4
          exact .inr (.inr ⟨k, e3.trans e4.symm, a.old k hk l⟩)
        · exact .inr (.inl (a.new k c e2 (by omega)))
    · exact .inr (.inl e1)
    · exact .inr (.inr e1)
end
/-! ### the names' values -/
def ES (K : PySem.W.Frag) (F : Hp) (al : List Addr) (s : L2.St) (r : SL) : Prop := s.length = r.length ∧ ∀ (i : Nat) (d : D), r[i]? = some (some d) → ∃ v, s[i]? = some (some v) ∧ Rel K F al d v
theorem ES.mono {K : PySem.W.Frag} {F F' : Hp} {al al' : List Addr} {s : L2.St} {r : SL} (h : ES K F al s r) (e : Ex F F') (p : Pre al al') : ES K F' al' s r :=
  ⟨h.1, fun i d q => let ⟨v, a, b⟩ := h.2 i d q; ⟨v, a, b.mono e p⟩⟩
/-- an exception's own dict -/
def XD (K : PySem.W.Frag) (F : Hp) (al : List Addr) (H : Hp) (dx : Option Addr) (p : D) (w : Str) : Prop :=
  ∃ (d : Addr) (fs : List (Str × V)) (v : V), dx = some d ∧ H d = some (.xd fs) ∧ fs.lookup ("place" : Str) = some v ∧ Rel K F al p v ∧ fs.lookup ("word" : Str) = some (.str w)
theorem XD.step {K : PySem.W.Frag} {F F' : Hp} {al al' : List Addr} {H H' : Hp} {M M' : MH} {dx : Option Addr} {p : D} {w : Str} (h : XD K F al H dx p w) (h0 : HR K F al H M) (a : Stp K F al H M F' al' H' M') : XD K F' al' H' dx p w := by
  obtain ⟨d, fs, v, e1, e2, e3, e4, e5⟩ := h
  refine ⟨d, fs, v, e1, a.fr d _ e2 fun k ek l => ?_, e3, e4.mono a.ex a.pre, e5⟩
  cases hm : M[k]? with
  | none => rw [hm] at l; exact l
  | some o =>
    rw [hm] at l
    cases o with
    | lst ds =>
      obtain ⟨_, xs, e6, _⟩ := h0.mem k d _ ek hm
      rw [e2] at e6; cases e6
    | dt ks ds =>
      obtain ⟨_, xs, e6, _⟩ := h0.mem k d _ ek hm
      rw [e2] at e6; cases e6
    | ins C ns ds =>
      obtain ⟨_, dx, xs, e6, _⟩ := h0.mem k d _ ek hm
      rw [e2] at e6; cases e6
    | _ => exact l
/-- the names' values, and what is wanted of an exception; the one that was caught -/
structure ER (K : PySem.W.Frag) (W : WX) (F : Hp) (al : List Addr) (H : Hp) (M : MH) (s : L2.St) (r : RH) : Prop where
  es : ES K F al s r.sl
  xe : ∀ (C : Addr) (dx : Option Addr) (p : D) (w : Str) (s' : L2.St) (sl : SL) (H' : Hp) (F' : Hp) (al' : List Addr) (M' : MH), Stp K F al H M F' al' H' M' → ES K F' al' s' sl → XD K F' al' H' dx p w → r.ex sl C p w M' → W (.ref C) dx s' H'
  xd : ∀ (d : Addr) (p : D) (w : Str), r.xd = some (d, p, w) → XD K F al H (some d) p w
theorem ER.step {K : PySem.W.Frag} {W : WX} {F F' : Hp} {al al' : List Addr} {H H' : Hp} {M M' : MH} {s : L2.St} {r : RH} (h : ER K W F al H M s r) (h0 : HR K F al H M) (a : Stp K F al H M F' al' H' M') : ER K W F' al' H' M' s r :=
  ⟨h.es.mono a.ex a.pre, fun C dx p w s' sl H2 F2 al2 M2 b => h.xe C dx p w s' sl H2 F2 al2 M2 (a.trans h0 b), fun d p w e => (h.xd d p w e).step h0 a⟩
end DL

set_option Elab.async false
set_option linter.all false
set_option maxRecDepth 100000
set_option maxHeartbeats 2000000
namespace DL
open PySem PySem.Spec L2
open Evl (Ex)

/-! ### readings over data -/
abbrev DK := D → MH → Prop
abbrev DE := RH → MH → DK → Prop
abbrev DT := RH → MH → (Bool → MH → Prop) → Prop
abbrev DA := RH → MH → (List D → MH → Prop) → Prop
structure DEnds where
  nx : RH → MH → Prop
  rt : DK
  bk : RH → MH → Prop
  ct : RH → MH → Prop
abbrev DS := DEnds → RH → MH → Prop

def lE (K : PySem.W.Frag) (W : WX) (m : DE) : TE := fun s H Q => ∃ F al r M, ∃ R : DK, ER K W F al H M s r ∧ HR K F al H M ∧ m r M R ∧ ∀ v H' F' al' d M', Stp K F al H M F' al' H' M' → Rel K F' al' d v → R d M' → Q v H'
def lT (K : PySem.W.Frag) (W : WX) (m : DT) : TT := fun s H Q => ∃ F al r M, ∃ R : Bool → MH → Prop, ER K W F al H M s r ∧ HR K F al H M ∧ m r M R ∧ ∀ b H' F' al' M', Stp K F al H M F' al' H' M' → R b M' → Q b H'
def lA (K : PySem.W.Frag) (W : WX) (m : DA) : TA := fun s H Q => ∃ F al r M, ∃ R : List D → MH → Prop, ER K W F al H M s r ∧ HR K F al H M ∧ m r M R ∧ ∀ vs H' F' al' ds M', Stp K F al H M F' al' H' M' → RelA K F' al' ds vs → R ds M' → Q vs H'
/-- behind a statement -/
def Aft (K : PySem.W.Frag) (W : WX) (F : Hp) (al : List Addr) (H : Hp) (M : MH) (P : RH → MH → Prop) (Q : L2.St → Hp → Prop) : Prop :=
  ∀ s' H' F' al' r' M', Stp K F al H M F' al' H' M' → ER K W F' al' H' M' s' r' → P r' M' → Q s' H'
def lS (K : PySem.W.Frag) (W : WX) (m : DS) : TS := fun D s H => ∃ F al r M, ∃ E : DEnds, ER K W F al H M s r ∧ HR K F al H M ∧ m E r M ∧ Aft K W F al H M E.nx D.nx ∧ Aft K W F al H M E.bk D.bk ∧ Aft K W F al H M E.ct D.ct ∧
  ∀ v H' F' al' d M', Stp K F al H M F' al' H' M' → Rel K F' al' d v → E.rt d M' → D.rt v H'
theorem Aft.trans {K : PySem.W.Frag} {W : WX} {F F' : Hp} {al al' : List Addr} {H H' : Hp} {M M' : MH} {P : RH → MH → Prop} {Q : L2.St → Hp → Prop} (h0 : HR K F al H M) (a : Stp K F al H M F' al' H' M') (h : Aft K W F al H M P Q) : Aft K W F' al' H' M' P Q :=
  fun s' H2 F2 al2 r' M2 b e p => h s' H2 F2 al2 r' M2 (a.trans h0 b) e p

def ME (X : Cx) (W : WX) (e : Expr) (m : DE) : Prop := PE X e (lE X.K W m)
def MT (X : Cx) (W : WX) (e : Expr) (m : DT) : Prop := PT X e (lT X.K W m)
def MW (X : Cx) (W : WX) (e : Expr) (m : DT) : Prop := PW X e (lT X.K W m)
def MA (X : Cx) (W : WX) (es : List Expr) (m : DA) : Prop := PA X es (lA X.K W m)
def MS (X : Cx) (W : WX) (st : Stmt) (m : DS) : Prop := PS X st (lS X.K W m)
def MSs (X : Cx) (W : WX) (st : List Stmt) (m : DS) : Prop := PSs X st (lS X.K W m)

section
variable {X : Cx} {e : Expr} {es : List Expr} {st : Stmt} {sts : List Stmt}
theorem PE.imp {t t' : TE} (h : PE X e t) (i : ∀ s H Q, t' s H Q → t s H Q) : PE X e t' := ⟨fun pins s σ H Q I q => h.run pins s σ H Q I (i _ _ _ q)⟩
theorem PT.imp {t t' : TT} (h : PT X e t) (i : ∀ s H Q, t' s H Q → t s H Q) : PT X e t' := ⟨fun pins s σ H Q I q => h.run pins s σ H Q I (i _ _ _ q)⟩
theorem PW.imp {t t' : TT} (h : PW X e t) (i : ∀ s H Q, t' s H Q → t s H Q) : PW X e t' := ⟨fun wh pins s σ H Q I q => h.run wh pins s σ H Q I (i _ _ _ q)⟩
theorem PA.imp {t t' : TA} (h : PA X es t) (i : ∀ s H Q, t' s H Q → t s H Q) : PA X es t' := ⟨fun pos pins s σ H Q I q => h.run pos pins s σ H Q I (i _ _ _ q)⟩
theorem PS.imp {t t' : TS} (h : PS X st t) (i : ∀ D s H, t' D s H → t D s H) : PS X st t' := ⟨fun pins s σ H D I q => h.run pins s σ H D I (i _ _ _ q)⟩
theorem PSs.imp {t t' : TS} (h : PSs X sts t) (i : ∀ D s H, t' D s H → t D s H) : PSs X sts t' := ⟨fun pins s σ H D I q => h.run pins s σ H D I (i _ _ _ q)⟩
end

/-! ### the ends of a reading by values -/
def Out (K : PySem.W.Frag) (F : Hp) (al : List Addr) (H : Hp) (M : MH) (R : DK) (Q : VK) : Prop :=
  ∀ v H' F' al' d M', Stp K F al H M F' al' H' M' → Rel K F' al' d v → R d M' → Q v H'
/-- a new list: data for ever, or a new thing of the store -/
def nw : Bool → List D → MH → DK → Prop
  | true, ds, M, R => R (.lst ds) M
  | false, ds, M, R => R (.loc M.length) (M ++ [.lst ds])
section
variable {K : PySem.W.Frag} {F : Hp} {al : List Addr} {H : Hp} {M : MH} {R : DK} {Q : VK} {p : Addr} {ds : List D} {xs : List V} {fz : Bool}
theorem Out.pure {d : D} {v : V} (k : Out K F al H M R Q) (h : HR K F al H M) (r : Rel K F al d v) (q : R d M) : Q v H := k v H F al d M (Stp.refl h) r q
theorem Out.pq {d : D} {v : V} (k : Out K F al H M R Q) (h : HR K F al H M) (q : R d M) (r : Rel K F al d v) : Q v H := Out.pure k h r q
theorem MAt.mono {F' H' : Hp} {al' : List Addr} {a : Addr} : ∀ {o : MO}, MAt K F al H a o → Ex F F' → Pre al al' → (∀ u, F a = none → H a = some u → H' a = some u) → (F a = none → F' a = none) → MAt K F' al' H' a o
  | .dead, _, _, _, _, _ => trivial
  | .frz _, ⟨xs, e, r⟩, x, p, _, _ => ⟨xs, x _ _ e, r.mono x p⟩
  | .lst _, ⟨n, xs, e, r⟩, x, p, hh, hf => ⟨hf n, xs, hh _ n e, r.mono x p⟩
  | .dt _ _, ⟨n, xs, e, r, q⟩, x, p, hh, hf => ⟨hf n, xs, hh _ n e, r.mono x p, q⟩
  | .ins _ _ _, ⟨n, dx, xs, e, r, q⟩, x, p, hh, hf => ⟨hf n, dx, xs, hh _ n e, r.mono x p, q⟩
/-- a fresh object, data for ever -/
theorem HR.newF {o : HO} (h : HR K F al H M) (hp : H p = none) : Stp K F al H M (upd F p o) al (upd H p o) M := by
  have fp : F p = none := Evl.fresh_back h.ext hp
  have ne : ∀ (k : Nat) (a : Addr), al[k]? = some a → a ≠ p := fun k a e z => h.trk k a e (by rw [z]; exact hp)
  refine ⟨Evl.Ex.new fp, Pre.refl _, ⟨?_, h.len, ?_, h.inj, ?_⟩, fun b u e _ => by rw [upd_ne (ne_of_none e hp)]; exact e, fun _ _ l => l, fun k a e l => ?_, Nat.le_refl _, fun a e => ?_⟩
  · intro a u e
    by_cases ha : a = p
    · subst ha; rw [upd_same] at e ⊢; exact e
    · rw [upd_ne ha] at e ⊢; exact h.ext a u e
  · intro k a e
    rw [upd_ne (ne k a e)]; exact h.trk k a e
  · intro k a u e1 e2
    refine (h.mem k a u e1 e2).mono (Evl.Ex.new fp) (Pre.refl _) (fun w _ q => ?_) (fun q => ?_)
    · rw [upd_ne (ne k a e1)]; exact q
    · rw [upd_ne (ne k a e1)]; exact q
  · have := (List.getElem?_eq_some_iff.mp e).1
    have := h.len
    omega
  · by_cases ha : a = p
    · subst ha; exact .inr (.inl hp)
    · rw [upd_ne ha]; exact .inl e
theorem app_get {α : Type} {l : List α} {x y : α} {k : Nat} (e : (l ++ [x])[k]? = some y) : (l[k]? = some y ∧ k < l.length) ∨ (k = l.length ∧ x = y) := by
  by_cases hk : k < l.length
  · rw [List.getElem?_append_left hk] at e
    exact .inl ⟨e, hk⟩
  · rw [List.getElem?_append_right (by omega)] at e
    have h0 : k - l.length = 0 := by
      cases hn : k - l.length with
      | zero => rfl
      | succ n => rw [hn] at e; simp at e
    rw [h0] at e
    simp at e
    exact .inr ⟨by omega, e⟩
/-- a fresh list, a new thing of the store -/
theorem HR.newM (h : HR K F al H M) (hp : H p = none) (r : RelA K F al ds xs) : Stp K F al H M F (al ++ [p]) (upd H p (.lst xs)) (M ++ [.lst ds]) := by
  have fp : F p = none := Evl.fresh_back h.ext hp
  have ne : ∀ (k : Nat) (a : Addr), al[k]? = some a → a ≠ p := fun k a e z => h.trk k a e (by rw [z]; exact hp)
  have lm : ∀ k, k < M.length → (M ++ [MO.lst ds])[k]? = M[k]? := fun k hk => List.getElem?_append_left hk
  refine ⟨fun _ _ e => e, Pre.app _ _, ⟨?_, by simp [h.len], ?_, ?_, ?_⟩, fun b u e _ => by rw [upd_ne (ne_of_none e hp)]; exact e, fun k hk l => by rw [lm k hk] at l; exact l, fun k a e l => ?_, by simp, fun _ e => .inl e⟩
  · intro a u e
    have ha : a ≠ p := fun z => by rw [z, fp] at e; cases e
    rw [upd_ne ha]; exact h.ext a u e
  · intro k a e
    rcases app_get e with ⟨e, _⟩ | ⟨_, e⟩
    · rw [upd_ne (ne k a e)]; exact h.trk k a e
    · subst e; rw [upd_same]; simp
  · intro k j a e1 e2 l
    rcases app_get e1 with ⟨e1, k1⟩ | ⟨k1, e1⟩
    · rcases app_get e2 with ⟨e2, k2⟩ | ⟨k2, e2⟩
      · rw [lm k (by have := h.len; omega)] at l
        exact h.inj k j a e1 e2 l
      · subst e2; exact absurd rfl (ne k _ e1)
    · rcases app_get e2 with ⟨e2, k2⟩ | ⟨k2, e2⟩
      · subst e1; exact absurd rfl (ne j _ e2)
      · omega
  · intro k a u e1 e2
    rcases app_get e1 with ⟨e1, k1⟩ | ⟨k1, e1⟩
    · rw [lm k (by have := h.len; omega)] at e2
      refine (h.mem k a u e1 e2).mono (fun _ _ e => e) (Pre.app _ _) (fun w _ q => ?_) (fun q => q)
      rw [upd_ne (ne k a e1)]; exact q
    · subst e1
      rcases app_get e2 with ⟨e2, k2⟩ | ⟨k2, e2⟩
      · have := h.len; omega
      · subst e2
        exact ⟨fp, xs, upd_same, r.mono (fun _ _ e => e) (Pre.app _ _)⟩
  · rcases app_get e with ⟨e, k1⟩ | ⟨k1, e⟩
    · have := h.len; omega
    · subst e; exact hp
theorem Out.new (k : Out K F al H M R Q) (h : HR K F al H M) (hp : H p = none) (r : RelA K F al ds xs) (q : nw fz ds M R) : Q (.ref p) (upd H p (.lst xs)) := by
  have fp : F p = none := Evl.fresh_back h.ext hp
  cases fz with
  | true => exact k _ _ _ _ (.lst ds) _ (h.newF (o := .lst xs) hp) ⟨p, xs, rfl, upd_same, r.mono (Evl.Ex.new fp) (Pre.refl _)⟩ q
  | false =>
    refine k _ _ _ _ (.loc M.length) _ (h.newM hp r) ⟨p, ?_, rfl⟩ q
    have e : M.length = al.length := h.len.symm
    rw [e, List.getElem?_append_right (Nat.le_refl _)]
    simp
theorem Out.newK (k : Out K F al H M R Q) (h : HR K F al H M) (hp : H p = none) (r : RelA K F al ds xs) (q : R (.kt ds) M) : Q (.ref p) (upd H p (.tup xs)) := by
  have fp : F p = none := Evl.fresh_back h.ext hp
  exact k _ _ _ _ (.kt ds) _ (h.newF (o := .tup xs) hp) ⟨p, xs, rfl, upd_same, r.mono (Evl.Ex.new fp) (Pre.refl _)⟩ q
theorem Out.newT (k : Out K F al H M R Q) (h : HR K F al H M) (hp : H p = none) (r : RelA K F al ds xs) (q : R (.tup ds) M) : Q (.ref p) (upd H p (.tup xs)) := by
  have fp : F p = none := Evl.fresh_back h.ext hp
  exact k _ _ _ _ (.tup ds) _ (h.newF (o := .tup xs) hp) ⟨p, xs, rfl, Evl.st_of upd_same, r.mono (Evl.Ex.new fp) (Pre.refl _)⟩ q
end

/-! ### what is read -/
/-- a list's items (also of the script); a list's that is ours; a tuple's; either's -/
def rdL (M : MH) : D → Option (List D)
  | .lst ds => some ds
  | .scr ds => some ds
  | .loc k => match M[k]? with
    | some (.lst ds) => some ds
    | some (.frz ds) => some ds
    | _ => none
  | _ => none
def rdW (M : MH) : D → Option (List D)
  | .lst ds => some ds
  | .loc k => match M[k]? with
    | some (.lst ds) => some ds
    | some (.frz ds) => some ds
    | _ => none
  | _ => none
def rdT : D → Option (List D)
  | .tup ds => some ds
  | .kt ds => some ds
  | _ => none
def rdS (M : MH) : D → Option (List D)
  | .tup ds => some ds
  | .kt ds => some ds
  | d => rdL M d
section
variable {K : PySem.W.Frag} {F : Hp} {al : List Addr} {H : Hp} {M : MH} {d : D} {v : V} {ds : List D}
theorem HR.rdW_ (h : HR K F al H M) (r : Rel K F al d v) (e : rdW M d = some ds) : ∃ a xs, v = .ref a ∧ H a = some (.lst xs) ∧ RelA K F al ds xs := by
  cases d with
  | lst es =>
    simp only [rdW, Option.some.injEq] at e
    subst e
    obtain ⟨a, xs, r1, r2, r3⟩ := r
    exact ⟨a, xs, r1, h.ext _ _ r2, r3⟩
  | loc k =>
    obtain ⟨a, r1, r2⟩ := r
    simp only [rdW] at e
    split at e
    · rename_i es hm
      cases e
      obtain ⟨_, xs, r3, r4⟩ := h.mem k a _ r1 hm
      exact ⟨a, xs, r2, r3, r4⟩
    · rename_i es hm
      cases e
      obtain ⟨xs, r3, r4⟩ := h.mem k a _ r1 hm
      exact ⟨a, xs, r2, h.ext _ _ r3, r4⟩
    · cases e
  | _ => cases e
theorem HR.rdL_ (h : HR K F al H M) (r : Rel K F al d v) (e : rdL M d = some ds) : ∃ a xs, v = .ref a ∧ SqL K H a xs ∧ RelA K F al ds xs := by
  cases d with
  | scr es =>
    simp only [rdL, Option.some.injEq] at e
    subst e
    obtain ⟨a, xs, r1, r2, r3⟩ := r
    exact ⟨a, xs, r1, Evl.ex_l h.ext r2, r3⟩
  | lst es =>
    obtain ⟨a, xs, r1, r2, r3⟩ := h.rdW_ r (show rdW M (.lst es) = some ds from e)
    exact ⟨a, xs, r1, SqL.of r2, r3⟩
  | loc k =>
    obtain ⟨a, xs, r1, r2, r3⟩ := h.rdW_ r (show rdW M (.loc k) = some ds from e)
    exact ⟨a, xs, r1, SqL.of r2, r3⟩
  | _ => cases e
theorem HR.rdT_ (h : HR K F al H M) (r : Rel K F al d v) (e : rdT d = some ds) : ∃ a xs, v = .ref a ∧ SqT K H a xs ∧ RelA K F al ds xs := by
  cases d with
  | tup es =>
    simp only [rdT, Option.some.injEq] at e
    subst e
    obtain ⟨a, xs, r1, r2, r3⟩ := r
    exact ⟨a, xs, r1, Evl.ex_t h.ext r2, r3⟩
  | kt es =>
    simp only [rdT, Option.some.injEq] at e
    subst e
    obtain ⟨a, xs, r1, r2, r3⟩ := r
    exact ⟨a, xs, r1, Evl.st_of (h.ext _ _ r2), r3⟩
  | _ => cases e
theorem HR.rdS_ (h : HR K F al H M) (r : Rel K F al d v) (e : rdS M d = some ds) : ∃ a xs, v = .ref a ∧ (SqL K H a xs ∨ SqT K H a xs) ∧ RelA K F al ds xs := by
  cases d with
  | tup es =>
    obtain ⟨a, xs, r1, r2, r3⟩ := h.rdT_ r (show rdT (.tup es) = some ds from e)
    exact ⟨a, xs, r1, .inr r2, r3⟩
  | kt es =>
    obtain ⟨a, xs, r1, r2, r3⟩ := h.rdT_ r (show rdT (.kt es) = some ds from e)
    exact ⟨a, xs, r1, .inr r2, r3⟩
  | lst es =>
    obtain ⟨a, xs, r1, r2, r3⟩ := h.rdL_ r (show rdL M (.lst es) = some ds from e)
    exact ⟨a, xs, r1, .inl r2, r3⟩
  | scr es =>
    obtain ⟨a, xs, r1, r2, r3⟩ := h.rdL_ r (show rdL M (.scr es) = some ds from e)
    exact ⟨a, xs, r1, .inl r2, r3⟩
  | loc k =>
    obtain ⟨a, xs, r1, r2, r3⟩ := h.rdL_ r (show rdL M (.loc k) = some ds from e)
    exact ⟨a, xs, r1, .inl r2, r3⟩
  | _ => cases e
end

/-! ### plain data as the library's data -/
mutual
def py : D → PyData
  | .non => .none
  | .bl b => .bool b
  | .int i => .int i
  | .str x => .str x
  | .tup ds => .tuple (pyA ds)
  | .lst ds => .list (pyA ds)
  | .scr ds => .list (pyA ds)
  | .loc _ => .none
  | .ty _ => .none
  | .cls _ => .none
  | .kt ds => .tuple (pyA ds)
  | .ins _ _ _ => .none
  | .err _ _ _ => .none
  | .dct _ _ => .none
def pyA : List D → List PyData
  | [] => []
  | d :: ds => py d :: pyA ds
end
/-! data proper: no place, no class -/
mutual
def D.dat : D → Bool
  | .tup ds => datA ds
  | .lst ds => datA ds
  | .scr ds => datA ds
  | .kt ds => datA ds
  | .ins _ _ _ => false
  | .err _ _ _ => false
  | .dct _ _ => false
  | .loc _ => false
  | .ty _ => false
  | .cls _ => false
  | .non => true
  | .bl _ => true
  | .int _ => true
  | .str _ => true
def datA : List D → Bool
  | [] => true
  | d :: ds => D.dat d && datA ds
end
section
variable {K : PySem.W.Frag} {F H : Hp} {al : List Addr}
mutual
theorem Rel.dp (e : Ex F H) : ∀ {d : D} {v : V}, D.dat d = true → Rel K F al d v → Dp K H v (py d)
  | .non, _, _, h => by cases h; exact .non
  | .bl _, _, _, h => by cases h; exact .bl _
  | .int _, _, _, h => by cases h; exact .int _
  | .str _, _, _, h => by cases h; exact .str _
  | .tup _, _, p, ⟨a, xs, h1, h2, h3⟩ => by subst h1; exact .tup (Evl.ex_t e h2) (RelA.dp e p h3)
  | .lst _, _, p, ⟨a, xs, h1, h2, h3⟩ => by subst h1; exact .lst (SqL.of (e _ _ h2)) (RelA.dp e p h3)
  | .scr _, _, p, ⟨a, xs, h1, h2, h3⟩ => by subst h1; exact .lst (Evl.ex_l e h2) (RelA.dp e p h3)
  | .loc _, _, p, _ => by cases p
  | .ty _, _, p, _ => by cases p
  | .cls _, _, p, _ => by cases p
  | .kt _, _, p, ⟨a, xs, h1, h2, h3⟩ => by subst h1; exact .tup (Evl.st_of (e _ _ h2)) (RelA.dp e p h3)
  | .ins _ _ _, _, p, _ => by cases p
  | .err _ _ _, _, p, _ => by cases p
  | .dct _ _, _, p, _ => by cases p
theorem RelA.dp (e : Ex F H) : ∀ {ds : List D} {xs : List V}, datA ds = true → RelA K F al ds xs → DpAll K H xs (pyA ds)
  | [], _, _, h => by cases h; exact .nil
  | _ :: _, _, p, ⟨y, ys, h1, h2, h3⟩ => by
    have p' := Bool.and_eq_true_iff.mp p
    subst h1
    exact .cons (Rel.dp e p'.1 h2) (RelA.dp e p'.2 h3)
end
end
/-- the data that a value is now -/
def pyM (M : MH) : D → Option PyData
  | .loc k => match M[k]? with
    | some (.lst ds) => if datA ds then some (.list (pyA ds)) else none
    | some (.frz ds) => if datA ds then some (.list (pyA ds)) else none
    | _ => none
  | d => if D.dat d then some (py d) else none
theorem HR.pyM_ {K : PySem.W.Frag} {F : Hp} {al : List Addr} {H : Hp} {M : MH} {d : D} {v : V} {p : PyData} (h : HR K F al H M) (r : Rel K F al d v) (e : pyM M d = some p) : Dp K H v p := by
  have key : ∀ d, (if D.dat d then some (py d) else none) = some p → Rel K F al d v → Dp K H v p := fun d e r => by
    split at e
    · rename_i hp; cases e; exact Rel.dp h.ext hp r
    · cases e
  cases d with
  | loc k =>
    simp only [pyM] at e
    obtain ⟨a, r1, r2⟩ := r
    subst r2
    split at e
    · rename_i ds hm
      split at e
      · rename_i hp
        cases e
        obtain ⟨_, xs, e1, r3⟩ := h.mem k a _ r1 hm
        exact .lst (SqL.of e1) (RelA.dp h.ext hp r3)
      · cases e
    · rename_i ds hm
      split at e
      · rename_i hp
        cases e
        obtain ⟨xs, e1, r3⟩ := h.mem k a _ r1 hm
        exact .lst (SqL.of (h.ext _ _ e1)) (RelA.dp h.ext hp r3)
      · cases e
    · cases e
  | non => exact key .non e r
  | bl b => exact key (.bl b) e r
  | int i => exact key (.int i) e r
  | str x => exact key (.str x) e r
  | tup ds => exact key (.tup ds) e r
  | lst ds => exact key (.lst ds) e r
  | scr ds => exact key (.scr ds) e r
  | ty n => exact key (.ty n) e r
  | cls n => exact key (.cls n) e r
  | kt ds => exact key (.kt ds) e r
  | ins C ns ds => exact key (.ins C ns ds) e r
  | err C ns ds => exact key (.err C ns ds) e r
  | dct ks ds => exact key (.dct ks ds) e r
end DL

set_option Elab.async false
set_option linter.all false
set_option maxRecDepth 100000
set_option maxHeartbeats 2000000
namespace DL
open PySem PySem.Spec L2
open Evl (Ex)
open PyProof.Rows (b2i)

/-! ### operations by values, over data -/
def Sim1 (K : PySem.W.Frag) (r : V → Hp → VK → Prop) (m : D → MH → DK → Prop) : Prop :=
  ∀ (F : Hp) (al : List Addr) (H : Hp) (M : MH) (x : V) (d : D) (R : DK) (Q : VK), HR K F al H M → Rel K F al d x → m d M R → Out K F al H M R Q → r x H Q
def Sim2 (K : PySem.W.Frag) (r : R2) (m : D → D → MH → DK → Prop) : Prop :=
  ∀ (F : Hp) (al : List Addr) (H : Hp) (M : MH) (x y : V) (d e : D) (R : DK) (Q : VK), HR K F al H M → Rel K F al d x → Rel K F al e y → m d e M R → Out K F al H M R Q → r x y H Q
def SimC (K : PySem.W.Frag) (r : List V → Hp → VK → Prop) (m : List D → MH → DK → Prop) : Prop :=
  ∀ (F : Hp) (al : List Addr) (H : Hp) (M : MH) (xs : List V) (ds : List D) (R : DK) (Q : VK), HR K F al H M → RelA K F al ds xs → m ds M R → Out K F al H M R Q → r xs H Q
theorem Out.step {K : PySem.W.Frag} {F F' : Hp} {al al' : List Addr} {H H' : Hp} {M M' : MH} {R : DK} {Q : VK} (h0 : HR K F al H M) (k : Out K F al H M R Q) (a : Stp K F al H M F' al' H' M') : Out K F' al' H' M' R Q :=
  fun v H2 F2 al2 d M2 b r q => k v H2 F2 al2 d M2 (a.trans h0 b) r q

section
variable {X : Cx} {W : WX} {a b c e : Expr} {es : List Expr} {ma mb mc me : DE} {mas : DA} {pos : Pos}

/-! ### names, constants -/
def dVar (i : Nat) : DE := fun r M R => match r.sl[i]? with
  | some (some d) => R d M
  | _ => False
def dC (d : D) : DE := fun _ M R => R d M
theorem me_var {i : Nat} {x : Str} (hN : X.N[i]? = some x) (hv : Vis X.env.scope x) (hd : (x == ("__debug__" : Str)) = false := by decide) (hcd : (x == ("__classdict__" : Str)) = false := by decide) : ME X W (.Name x pos) (dVar i) := by
  refine PE.imp (pe_var hN hv hd hcd) ?_
  rintro s H Q ⟨F, al, r, M, R, er, hr, hm, k⟩
  unfold dVar at hm
  split at hm
  · rename_i d hd
    obtain ⟨v, e, rv⟩ := er.es.2 i d hd
    exact ⟨v, e, Out.pure k hr rv hm⟩
  · exact hm.elim
theorem lE_C {K : PySem.W.Frag} {d : D} {v : V} (h : ∀ F al, Rel K F al d v) : ∀ s H Q, lE K W (dC d) s H Q → tC v s H Q := by
  rintro s H Q ⟨F, al, r, M, R, er, hr, hm, k⟩
  exact Out.pure k hr (h F al) hm
theorem me_int {i j} : ME X W (.Constant (.int i) j pos) (dC (.int i)) := PE.imp pe_int (lE_C fun _ _ => rfl)
theorem me_bl {i j} : ME X W (.Constant (.bool i) j pos) (dC (.bl i)) := PE.imp pe_bl (lE_C fun _ _ => rfl)
theorem me_non {j} : ME X W (.Constant .none j pos) (dC .non) := PE.imp pe_non (lE_C fun _ _ => rfl)
theorem me_str {x j} : ME X W (.Constant (.str x) j pos) (dC (.str x)) := PE.imp pe_str (lE_C fun _ _ => rfl)
/-- a constant of the module: a tuple, an int, a text -/
theorem me_glob {x : Str} {v : V} {u : Value} {d : D} (hg : Gl X x) (hm : X.mg x = some u) (r : RelV v u) (hd : ∀ F al, Rel X.K F al d v) (hdb : (x == ("__debug__" : Str)) = false := by decide) : ME X W (.Name x pos) (dC d) :=
  PE.imp (pe_glob hg hm r hdb) (lE_C hd)
/-- a built-in class as a value; an own class -/
theorem me_ty {x : Str} {n : String} (hg : Gl X x) (hm : X.mg x = none) (hv : bootBuiltins x = some (.type n)) (hn : x ≠ "__name__" := by decide) (hdb : (x == ("__debug__" : Str)) = false := by decide) : ME X W (.Name x pos) (dC (.ty n)) :=
  PE.imp (pe_bltn (v := .ty n) hg hm hv rfl hn hdb) (lE_C fun _ _ => rfl)
theorem me_cls {x : Str} {c : Addr} (hg : Gl X x) (hm : X.mg x = some (.ref c)) (hdb : (x == ("__debug__" : Str)) = false := by decide) : ME X W (.Name x pos) (dC (.cls c)) :=
  PE.imp (pe_glob (v := .ref c) hg hm rfl hdb) (lE_C fun _ _ => rfl)

/-! ### operators -/
def dOp (m2 : D → D → MH → DK → Prop) (ma mb : DE) : DE := fun r M R => ma r M fun d M1 => mb r M1 fun e M2 => m2 d e M2 R
def dUn (m1 : D → MH → DK → Prop) (ma : DE) : DE := fun r M R => ma r M fun d M1 => m1 d M1 R
theorem sim_op {K : PySem.W.Frag} {r : R2} {m2 : D → D → MH → DK → Prop} (hs : Sim2 K r m2) : ∀ s H Q, lE K W (dOp m2 ma mb) s H Q → tOp r (lE K W ma) (lE K W mb) s H Q := by
  rintro s H Q ⟨F, al, r, M, R, er, hr, hm, k⟩
  refine ⟨F, al, r, M, _, er, hr, hm, fun x H1 F1 al1 d M1 s1 r1 hm1 => ?_⟩
  refine ⟨F1, al1, r, M1, _, er.step hr s1, s1.hr, hm1, fun y H2 F2 al2 e M2 s2 r2 hm2 => ?_⟩
  exact hs F2 al2 H2 M2 x y d e R Q s2.hr (r1.mono s2.ex s2.pre) r2 hm2 (Out.step hr k (s1.trans hr s2))
theorem me_op {op : Operator} {r : R2} {m2 : D → D → MH → DK → Prop} (ho : OpR X (binaryOp op) r) (hs : Sim2 X.K r m2) (ha : ME X W a ma) (hb : ME X W b mb) : ME X W (.BinOp a op b pos) (dOp m2 ma mb) := PE.imp (pe_op ho ha hb) (sim_op hs)
/-- a comparison by values -/
def CmpD (X : Cx) (op : CmpOp) (m2 : D → D → MH → DK → Prop) : Prop := ∃ r, OpR X (compareOp op) r ∧ Sim2 X.K r m2
theorem me_cmp0 {op : CmpOp} {r : R2} {m2 : D → D → MH → DK → Prop} (ho : OpR X (compareOp op) r) (hs : Sim2 X.K r m2) (ha : ME X W a ma) (hb : ME X W b mb) (hm : behindInMarks op b = false) : ME X W (.Compare a [op] [b] pos) (dOp m2 ma mb) := PE.imp (pe_cmpR ho ha hb hm) (sim_op hs)
theorem me_cmp {op : CmpOp} {m2 : D → D → MH → DK → Prop} (h : CmpD X op m2) (ha : ME X W a ma) (hb : ME X W b mb) (hm : behindInMarks op b = false) : ME X W (.Compare a [op] [b] pos) (dOp m2 ma mb) :=
  let ⟨_, ho, hs⟩ := h
  me_cmp0 ho hs ha hb hm
theorem me_un {op : UnaryOp} {r : V → Hp → VK → Prop} {m1 : D → MH → DK → Prop} (ho : UnR X (unaryOp op) r) (hs : Sim1 X.K r m1) (ha : ME X W a ma) : ME X W (.UnaryOp op a pos) (dUn m1 ma) := by
  refine PE.imp (pe_un ho ha) ?_
  rintro s H Q ⟨F, al, r, M, R, er, hr, hm, k⟩
  refine ⟨F, al, r, M, _, er, hr, hm, fun x H1 F1 al1 d M1 s1 r1 hm1 => ?_⟩
  exact hs F1 al1 H1 M1 x d R Q s1.hr r1 hm1 (Out.step hr k s1)

/-- of ints -/
def dI (C : Int → Int → Prop) (g : Int → Int → D) : D → D → MH → DK → Prop
  | .int i, .int j, M, R => C i j ∧ R (g i j) M
  | _, _, _, _ => False
theorem sim_I {K : PySem.W.Frag} {C : Int → Int → Prop} {g : Int → Int → D} {g' : Int → Int → V} (hg : ∀ i j F al, Rel K F al (g i j) (g' i j)) : Sim2 K (rI C g') (dI C g) := by
  intro F al H M x y d e R Q h rx ry hm k
  cases d <;> try exact hm.elim
  cases e <;> try exact hm.elim
  rename_i i j
  cases rx; cases ry
  exact ⟨i, j, rfl, rfl, hm.1, Out.pure k h (hg i j F al) hm.2⟩
def dI0 (g : Int → Int → D) : D → D → MH → DK → Prop
  | .int i, .int j, M, R => R (g i j) M
  | _, _, _, _ => False
theorem sim_I0 {K : PySem.W.Frag} {g : Int → Int → D} {g' : Int → Int → V} (hg : ∀ i j F al, Rel K F al (g i j) (g' i j)) : Sim2 K (rI0 g') (dI0 g) := by
  intro F al H M x y d e R Q h rx ry hm k
  cases d <;> try exact hm.elim
  cases e <;> try exact hm.elim
  rename_i i j
  cases rx; cases ry
  exact ⟨i, j, rfl, rfl, Out.pure k h (hg i j F al) hm⟩
/-- + : ints, texts, tuples, lists -/
def dAdd (fz : Bool) : D → D → MH → DK → Prop
  | .int i, .int j, M, R => R (.int (i + j)) M
  | .str x, .str y, M, R => x.length + y.length ≤ sizeLine ∧ R (.str (x ++ y)) M
  | .tup xs, .tup ys, M, R => xs.length + ys.length ≤ sizeLine ∧ R (.tup (xs ++ ys)) M
  | .kt xs, .kt ys, M, R => xs.length + ys.length ≤ sizeLine ∧ R (.kt (xs ++ ys)) M
  | .bl p, .bl q, M, R => R (.int (b2i p + b2i q)) M
  | .int i, .bl q, M, R => R (.int (i + b2i q)) M
  | d, e, M, R => match rdW M d, rdW M e with
    | some xs, some ys => xs.length + ys.length ≤ sizeLine ∧ nw fz (xs ++ ys) M R
    | _, _ => False
def rAddA (K : PySem.W.Frag) : R2 := fun x y H Q => (fun x y H Q => (fun x y H Q => (fun x y H Q => (fun x y H Q => rI0 (fun i j => .int (i + j)) x y H Q ∨ ∃ i j, x = .str i ∧ y = .str j ∧ i.length + j.length ≤ sizeLine ∧ Q (.str (i ++ j)) H) x y H Q ∨ rCatA K x y H Q) x y H Q ∨ rCat x y H Q) x y H Q ∨
  ∃ p q, x = .bl p ∧ y = .bl q ∧ Q (.int (b2i p + b2i q)) H) x y H Q ∨ ∃ i q, x = .int i ∧ y = .bl q ∧ Q (.int (i + b2i q)) H
theorem op_add_bb : OpR X (binaryOp .Add) (fun x y H Q => ∃ p q, x = .bl p ∧ y = .bl q ∧ Q (.int (b2i p + b2i q)) H) := by
  intro pins s σ H x y v u Q I rx ry h
  obtain ⟨p, q, rfl, rfl, hq⟩ := h
  cases rx; cases ry
  exact PyProof.Rows.add_bool ⟨.int _, H, I.tok _, ⟨_, rfl⟩, hq⟩
theorem op_sub_bb : OpR X (binaryOp .Sub) (fun x y H Q => ∃ p q, x = .bl p ∧ y = .bl q ∧ Q (.int (b2i p - b2i q)) H) := by
  intro pins s σ H x y v u Q I rx ry h
  obtain ⟨p, q, rfl, rfl, hq⟩ := h
  cases rx; cases ry
  exact PyProof.Rows.sub_bool ⟨.int _, H, I.tok _, ⟨_, rfl⟩, hq⟩
theorem op_addA : OpR X (binaryOp .Add) (rAddA X.K) := OpR.or (OpR.or (OpR.or (OpR.or (OpR.or op_add op_add_str) op_catA) op_cat) op_add_bb) op_add_ib
theorem sim_add {K : PySem.W.Frag} {fz : Bool} : Sim2 K (rAddA K) (dAdd fz) := by
  intro F al H M x y d e R Q h rx ry hm k
  have lists : ∀ (xs ys : List D), rdW M d = some xs → rdW M e = some ys → xs.length + ys.length ≤ sizeLine → nw fz (xs ++ ys) M R → rCat x y H Q := by
    intro xs ys e1 e2 hl hn
    obtain ⟨a, us, rfl, ha, ra⟩ := h.rdW_ rx e1
    obtain ⟨b, vs, rfl, hb, rb⟩ := h.rdW_ ry e2
    exact ⟨a, b, us, vs, rfl, rfl, ha, hb, by rw [ra.length, rb.length]; exact hl, fun p hp => Out.new k h hp (ra.app rb) hn⟩
  unfold dAdd at hm
  split at hm
  · cases rx; cases ry
    exact .inl (.inl (.inl (.inl (.inl ⟨_, _, rfl, rfl, Out.pq k h hm rfl⟩))))
  · cases rx; cases ry
    exact .inl (.inl (.inl (.inl (.inr ⟨_, _, rfl, rfl, hm.1, Out.pq k h hm.2 rfl⟩))))
  · rename_i xs ys
    obtain ⟨a, us, rfl, ha, ra⟩ := h.rdT_ rx (show rdT (.tup xs) = some xs from rfl)
    obtain ⟨b, vs, rfl, hb, rb⟩ := h.rdT_ ry (show rdT (.tup ys) = some ys from rfl)
    refine .inl (.inl (.inl (.inr ⟨a, b, us, vs, rfl, rfl, ha, hb, by rw [ra.length, rb.length]; exact hm.1, fun z => ?_, fun _ z => ?_, fun _ _ p hp => Out.newT k h hp (ra.app rb) hm.2⟩)))
    · subst z
      have : xs = [] := List.eq_nil_of_length_eq_zero (by rw [← ra.length]; rfl)
      subst this
      exact Out.pure k h ry hm.2
    · subst z
      have : ys = [] := List.eq_nil_of_length_eq_zero (by rw [← rb.length]; rfl)
      subst this
      exact Out.pure k h rx (by have := hm.2; rwa [List.append_nil] at this)
  · rename_i xs ys
    obtain ⟨a, us, rfl, ha, ra⟩ := h.rdT_ rx (show rdT (.kt xs) = some xs from rfl)
    obtain ⟨b, vs, rfl, hb, rb⟩ := h.rdT_ ry (show rdT (.kt ys) = some ys from rfl)
    refine .inl (.inl (.inl (.inr ⟨a, b, us, vs, rfl, rfl, ha, hb, by rw [ra.length, rb.length]; exact hm.1, fun z => ?_, fun _ z => ?_, fun _ _ p hp => Out.newK k h hp (ra.app rb) hm.2⟩)))
    · subst z
      have : xs = [] := List.eq_nil_of_length_eq_zero (by rw [← ra.length]; rfl)
      subst this
      exact Out.pure k h ry hm.2
    · subst z
      have : ys = [] := List.eq_nil_of_length_eq_zero (by rw [← rb.length]; rfl)
      subst this
      exact Out.pure k h rx (by have := hm.2; rwa [List.append_nil] at this)
  · cases rx; cases ry
    exact .inl (.inr ⟨_, _, rfl, rfl, Out.pq k h hm rfl⟩)
  · cases rx; cases ry
    exact .inr ⟨_, _, rfl, rfl, Out.pq k h hm rfl⟩
  · split at hm
    · rename_i xs ys e1 e2
      exact .inl (.inl (.inr (lists xs ys e1 e2 hm.1 hm.2)))
    · exact hm.elim
theorem me_add (fz : Bool) (ha : ME X W a ma) (hb : ME X W b mb) : ME X W (.BinOp a .Add b pos) (dOp (dAdd fz) ma mb) := me_op op_addA sim_add ha hb
/-- - : ints, truth values -/
def dSub : D → D → MH → DK → Prop
  | .int i, .int j, M, R => R (.int (i - j)) M
  | .bl p, .bl q, M, R => R (.int (b2i p - b2i q)) M
  | _, _, _, _ => False
theorem me_sub (ha : ME X W a ma) (hb : ME X W b mb) : ME X W (.BinOp a .Sub b pos) (dOp dSub ma mb) := by
  refine me_op (OpR.or op_sub op_sub_bb) ?_ ha hb
  intro F al H M x y d e R Q h rx ry hm k
  unfold dSub at hm
  split at hm
  · cases rx; cases ry
    exact .inl ⟨_, _, rfl, rfl, Out.pq k h hm rfl⟩
  · cases rx; cases ry
    exact .inr ⟨_, _, rfl, rfl, Out.pq k h hm rfl⟩
  · exact hm.elim
/-- * : ints; a list or a tuple and an int -/
def dMul (fz : Bool) : D → D → MH → DK → Prop
  | .int i, .int j, M, R => IntMulOk i j ∧ R (.int (i * j)) M
  | d, .int k, M, R => match rdW M d with
    | some xs => (0 ≤ k ∧ k < 2 ^ 62 ∧ xs.length * k.toNat ≤ sizeLine) ∧ nw fz (List.replicate k.toNat xs).flatten M R
    | none => False
  | _, _, _, _ => False
theorem op_mulG : OpR X (binaryOp .Mult) (rI IntMulOk fun i j => .int (i * j)) := opI fun _ _ _ _ _ _ _ hc q => PyProof.Rows.mul_int q hc
theorem me_mul (fz : Bool) (ha : ME X W a ma) (hb : ME X W b mb) : ME X W (.BinOp a .Mult b pos) (dOp (dMul fz) ma mb) := by
  refine me_op (OpR.or op_mulG op_rep) ?_ ha hb
  intro F al H M x y d e R Q h rx ry hm k
  unfold dMul at hm
  split at hm
  · cases rx; cases ry
    exact .inl ⟨_, _, rfl, rfl, hm.1, Out.pq k h hm.2 rfl⟩
  · split at hm
    · rename_i xs e1
      obtain ⟨a, us, rfl, ha, ra⟩ := h.rdW_ rx e1
      cases ry
      exact .inr ⟨a, _, us, rfl, rfl, ha, by omega, by omega, by rw [ra.length]; exact hm.1.2.2, fun p hp => Out.new k h hp (ra.rep _) hm.2⟩
    · exact hm.elim
  · exact hm.elim
def CFd (i j : Int) : Prop := j ≠ 0 ∧ Builtin.divisionGoesByPylong i j = false
theorem op_fdivG : OpR X (binaryOp .FloorDiv) (rI CFd fun i j => .int (i.fdiv j)) := opI fun _ _ _ _ _ _ _ hc q => PyProof.Rows.floordiv_int hc.1 q (.inl hc.2)
theorem me_fdiv (ha : ME X W a ma) (hb : ME X W b mb) : ME X W (.BinOp a .FloorDiv b pos) (dOp (dI CFd fun i j => .int (i.fdiv j)) ma mb) := me_op op_fdivG (sim_I fun _ _ _ _ => rfl) ha hb
theorem me_mod (ha : ME X W a ma) (hb : ME X W b mb) : ME X W (.BinOp a .Mod b pos) (dOp (dI (fun _ j => j ≠ 0) fun i j => .int (i.fmod j)) ma mb) := me_op op_modN (sim_I fun _ _ _ _ => rfl) ha hb
theorem me_pow (ha : ME X W a ma) (hb : ME X W b mb) : ME X W (.BinOp a .Pow b pos) (dOp (dI CPow fun i j => .int (i ^ j.toNat)) ma mb) := me_op op_pow (sim_I fun _ _ _ _ => rfl) ha hb
def dNeg : D → MH → DK → Prop
  | .int i, M, R => R (.int (-i)) M
  | _, _, _ => False
theorem me_neg (ha : ME X W a ma) : ME X W (.UnaryOp .USub a pos) (dUn dNeg ma) := by
  refine me_un un_neg ?_ ha
  intro F al H M x d R Q h rx hm k
  cases d <;> try exact hm.elim
  cases rx
  exact ⟨_, rfl, Out.pq k h hm rfl⟩

/-! ### comparisons -/
def dCmpI (g : Int → Int → Bool) : D → D → MH → DK → Prop := dI0 fun i j => .bl (g i j)
theorem cd_lt : CmpD X .Lt (dCmpI fun i j => decide (i < j)) := ⟨_, op_lt, (sim_I0 fun _ _ _ _ => rfl)⟩
theorem cd_le : CmpD X .LtE (dCmpI fun i j => decide (i ≤ j)) := ⟨_, op_le, (sim_I0 fun _ _ _ _ => rfl)⟩
theorem cd_gt : CmpD X .Gt (dCmpI fun i j => decide (j < i)) := ⟨_, op_gt, (sim_I0 fun _ _ _ _ => rfl)⟩
theorem cd_ge : CmpD X .GtE (dCmpI fun i j => decide (j ≤ i)) := ⟨_, op_ge, (sim_I0 fun _ _ _ _ => rfl)⟩
/-- == and != of data -/
def dEq : D → D → MH → DK → Prop := fun d e M R => match d, e with
  | .str x, .str y => R (.bl (decide (x = y))) M
  | d, e => match pyM M d, pyM M e with
    | some p, some q => (SeqAt.shaped p = true ∧ SeqAt.shaped q = true) ∧ R (.bl (PyData.eqv p q)) M
    | _, _ => False
def dNe : D → D → MH → DK → Prop := fun d e M R => match pyM M d, pyM M e with
  | some p, some q => (SeqAt.shaped p = true ∧ SeqAt.shaped q = true) ∧ R (.bl (!PyData.eqv p q)) M
  | _, _ => False
theorem cd_eq (hu : X.A.units + 64 < cLine) : CmpD X .Eq dEq := by
  refine ⟨_, OpR.or op_eq (op_eqD hu), ?_⟩
  intro F al H M x y d e R Q h rx ry hm k
  unfold dEq at hm
  split at hm
  · rename_i p q
    cases rx
    cases ry
    refine .inl ⟨rfl, ?_⟩
    have e : decide (V.str p = V.str q) = decide (p = q) := by simp
    rw [e]
    exact Out.pq k h hm rfl
  · split at hm
    · rename_i p q e1 e2
      exact .inr ⟨p, q, h.pyM_ rx e1, h.pyM_ ry e2, hm.1.1, hm.1.2, Out.pq k h hm.2 rfl⟩
    · exact hm.elim
theorem cd_ne (hu : X.A.units + 64 < cLine) : CmpD X .NotEq dNe := by
  refine ⟨_, (op_neD hu), ?_⟩
  intro F al H M x y d e R Q h rx ry hm k
  unfold dNe at hm
  split at hm
  · rename_i p q e1 e2
    exact ⟨p, q, h.pyM_ rx e1, h.pyM_ ry e2, hm.1.1, hm.1.2, Out.pq k h hm.2 rfl⟩
  · exact hm.elim
/-- in, not in: of a list, of a tuple -/
def rInT (K : PySem.W.Frag) (ng : Bool) : R2 := fun x y H Q => ∃ d ds, Dp K H x d ∧ Dp K H y (.tuple ds) ∧ SeqAt.shaped d = true ∧ SeqAt.shaped (.tuple ds) = true ∧ Q (.bl (ng ^^ (ds.any fun z => PyData.eqv z d))) H
theorem room_in {A : Around} {ds : List PyData} {d : PyData} (sd : SeqAt.shaped d = true) (hu : A.units + 65 < cLine) : A.units + 1 + min (PyData.depthAll ds) d.depth < cLine := by
  have := SeqAt.depth_of_shaped sd
  omega
theorem op_inT (hu : X.A.units + 65 < cLine) : OpR X (compareOp .In) (rInT X.K false) := by
  intro pins s σ H x y v u Q I rx ry h
  obtain ⟨d, ds, hd, he, sd, se, q⟩ := h
  obtain ⟨as, r1⟩ := Dp.reads I d x v hd rx
  obtain ⟨bs, r2⟩ := Dp.reads I (.tuple ds) y u he ry
  rw [Bool.false_xor] at q
  exact SeqAt.in_tuple_reads r2 r1 (SeqAt.canLay_of_shaped se) (SeqAt.canLay_of_shaped sd) (room_in sd hu) ⟨.bl _, H, I, rfl, q⟩
theorem op_notInT (hu : X.A.units + 65 < cLine) : OpR X (compareOp .NotIn) (rInT X.K true) := by
  intro pins s σ H x y v u Q I rx ry h
  obtain ⟨d, ds, hd, he, sd, se, q⟩ := h
  obtain ⟨as, r1⟩ := Dp.reads I d x v hd rx
  obtain ⟨bs, r2⟩ := Dp.reads I (.tuple ds) y u he ry
  rw [Bool.true_xor] at q
  exact SeqAt.notIn_tuple_reads r2 r1 (SeqAt.canLay_of_shaped se) (SeqAt.canLay_of_shaped sd) (room_in sd hu) ⟨.bl _, H, I, rfl, q⟩
def dIn (ng : Bool) : D → D → MH → DK → Prop := fun d e M R => match pyM M d, pyM M e with
  | some p, some (.list qs) => (SeqAt.shaped p = true ∧ SeqAt.shaped (.list qs) = true) ∧ R (.bl (ng ^^ (qs.any fun z => PyData.eqv z p))) M
  | some p, some (.tuple qs) => (SeqAt.shaped p = true ∧ SeqAt.shaped (.tuple qs) = true) ∧ R (.bl (ng ^^ (qs.any fun z => PyData.eqv z p))) M
  | _, _ => False
theorem cd_in (hu : X.A.units + 65 < cLine) : CmpD X .In (dIn false) := by
  refine ⟨_, (OpR.or (op_inD hu) (op_inT hu)), ?_⟩
  intro F al H M x y d e R Q h rx ry hm k
  unfold dIn at hm
  split at hm
  · rename_i p q e1 e2
    exact .inl ⟨p, q, h.pyM_ rx e1, h.pyM_ ry e2, hm.1.1, hm.1.2, Out.pq (d := .bl _) k h (by have := hm.2; rwa [Bool.false_xor] at this) rfl⟩
  · rename_i p q e1 e2
    exact .inr ⟨p, q, h.pyM_ rx e1, h.pyM_ ry e2, hm.1.1, hm.1.2, Out.pq k h hm.2 rfl⟩
  · exact hm.elim
theorem cd_notIn (hu : X.A.units + 65 < cLine) : CmpD X .NotIn (dIn true) := by
  refine ⟨_, (OpR.or (op_notInD hu) (op_notInT hu)), ?_⟩
  intro F al H M x y d e R Q h rx ry hm k
  unfold dIn at hm
  split at hm
  · rename_i p q e1 e2
    exact .inl ⟨p, q, h.pyM_ rx e1, h.pyM_ ry e2, hm.1.1, hm.1.2, Out.pq (d := .bl _) k h (by have := hm.2; rwa [Bool.true_xor] at this) rfl⟩
  · rename_i p q e1 e2
    exact .inr ⟨p, q, h.pyM_ rx e1, h.pyM_ ry e2, hm.1.1, hm.1.2, Out.pq k h hm.2 rfl⟩
  · exact hm.elim
/-- is None -/
def isNon : D → Bool
  | .non => true
  | _ => false
def dIsN (ng : Bool) : D → D → MH → DK → Prop := fun d e M R => match e with
  | .non => R (.bl (ng ^^ isNon d)) M
  | _ => False
theorem isN_of {K : PySem.W.Frag} {F : Hp} {al : List Addr} {d : D} {x : V} (r : Rel K F al d x) : decide (x = .non) = isNon d := by
  cases d with
  | tup ds => obtain ⟨a, xs, rfl, _⟩ := r; rfl
  | kt ds => obtain ⟨a, xs, rfl, _⟩ := r; rfl
  | ins C ns ds => obtain ⟨a, dx, xs, rfl, _⟩ := r; rfl
  | err C ns ds => obtain ⟨a, dx, xs, rfl, _⟩ := r; rfl
  | dct ks ds => obtain ⟨a, xs, rfl, _⟩ := r; rfl
  | lst ds => obtain ⟨a, xs, rfl, _⟩ := r; rfl
  | scr ds => obtain ⟨a, xs, rfl, _⟩ := r; rfl
  | loc k => obtain ⟨a, _, rfl⟩ := r; rfl
  | _ => cases r; rfl
theorem cd_isN : CmpD X .Is (dIsN false) := by
  refine ⟨_, op_isN, ?_⟩
  intro F al H M x y d e R Q h rx ry hm k
  unfold dIsN at hm
  cases e <;> try exact hm.elim
  cases ry
  exact ⟨rfl, Out.pq (d := .bl (isNon d)) k h (by rwa [Bool.false_xor] at hm) (by rw [isN_of rx]; rfl)⟩
theorem cd_notN : CmpD X .IsNot (dIsN true) := by
  refine ⟨_, op_notN, ?_⟩
  intro F al H M x y d e R Q h rx ry hm k
  unfold dIsN at hm
  cases e <;> try exact hm.elim
  cases ry
  exact ⟨rfl, Out.pq (d := .bl (!isNon d)) k h (by rwa [Bool.true_xor] at hm) (by rw [isN_of rx]; rfl)⟩

/-! ### tests -/
def dTru : D → MH → (Bool → Prop) → Prop
  | .non, _, R => R false
  | .bl b, _, R => R b
  | .int i, _, R => R (i != 0)
  | .str x, _, R => x.length ≤ sizeLine ∧ R ((x.length : Int) != 0)
  | d, M, R => match rdS M d with
    | some ds => R (!ds.isEmpty)
    | none => False
theorem isEmptyA {K : PySem.W.Frag} {F : Hp} {al : List Addr} {ds : List D} {xs : List V} (r : RelA K F al ds xs) : xs.isEmpty = ds.isEmpty := by
  cases ds with
  | nil => cases r; rfl
  | cons d ds => obtain ⟨y, ys, rfl, _⟩ := r; rfl
theorem HR.tru {K : PySem.W.Frag} {F : Hp} {al : List Addr} {H : Hp} {M : MH} {d : D} {v : V} {R : Bool → Prop} (h : HR K F al H M) (r : Rel K F al d v) (q : dTru d M R) : ∃ k, TruV K v H k ∧ R k := by
  have seq : ∀ ds, rdS M d = some ds → R (!ds.isEmpty) → ∃ k, TruV K v H k ∧ R k := by
    intro ds e q
    obtain ⟨a, xs, rfl, hx, ra⟩ := h.rdS_ r e
    refine ⟨!xs.isEmpty, ?_, by rw [isEmptyA ra]; exact q⟩
    rcases hx with hx | hx
    · exact .inl ⟨xs, hx, rfl⟩
    · exact .inr (.inl ⟨xs, hx, rfl⟩)
  cases d with
  | non => cases r; exact ⟨_, rfl, q⟩
  | bl b => cases r; exact ⟨_, rfl, q⟩
  | int i => cases r; exact ⟨_, rfl, q⟩
  | str x => cases r; exact ⟨_, ⟨q.1, rfl⟩, q.2⟩
  | tup ds => exact seq ds rfl q
  | lst ds => exact seq ds rfl q
  | scr ds => exact seq ds rfl q
  | loc j =>
    have q' : match rdS M (.loc j) with | some ds => R (!ds.isEmpty) | none => False := q
    split at q'
    · rename_i ds e; exact seq ds e q'
    · exact q'.elim
  | ty n => exact q.elim
  | cls a => exact q.elim
  | kt ds => exact seq ds rfl q
  | ins C ns ds => exact q.elim
  | err C ns ds => exact q.elim
  | dct ks ds => exact q.elim
def dTest (ma : DE) : DT := fun r M R => ma r M fun d M1 => dTru d M1 fun b => R b M1
theorem mt_val (ha : ME X W a ma) (he : ∀ whole, isTrue a X.env whole = (do let v ← whole; standAt a.pos; holding [v] (truthy v)) := by intro _; rfl) : MT X W a (dTest ma) := by
  refine PT.imp (pt_truth ha he) ?_
  rintro s H Q ⟨F, al, r, M, R, er, hr, hm, k⟩
  refine ⟨F, al, r, M, _, er, hr, hm, fun x H1 F1 al1 d M1 s1 r1 hm1 => ?_⟩
  obtain ⟨c, hc, q⟩ := s1.hr.tru r1 hm1
  exact ⟨c, hc, k _ _ _ _ _ s1 q⟩
/-- a comparison as a test -/
def dTestB (ma : DE) : DT := fun r M R => ma r M fun d M1 => match d with
  | .bl b => R b M1
  | _ => False
theorem lT_B {K : PySem.W.Frag} : ∀ s H Q, lT K W (dTestB ma) s H Q → tTest (lE K W ma) s H Q := by
  rintro s H Q ⟨F, al, r, M, R, er, hr, hm, k⟩
  refine ⟨F, al, r, M, _, er, hr, hm, fun x H1 F1 al1 d M1 s1 r1 hm1 => ?_⟩
  split at hm1
  · cases r1
    exact ⟨_, rfl, k _ _ _ _ _ s1 hm1⟩
  · exact hm1.elim
theorem lT_B2 {K : PySem.W.Frag} {t : TE} (h : ∀ s H Q, lE K W ma s H Q → t s H Q) : ∀ s H Q, lT K W (dTestB ma) s H Q → tTest t s H Q := by
  rintro s H Q ⟨F, al, r, M, R, er, hr, hm, k⟩
  refine h s H _ ⟨F, al, r, M, _, er, hr, hm, fun x H1 F1 al1 d M1 s1 r1 hm1 => ?_⟩
  split at hm1
  · cases r1
    exact ⟨_, rfl, k _ _ _ _ _ s1 hm1⟩
  · exact hm1.elim
theorem mt_cmp {op : CmpOp} {m2 : D → D → MH → DK → Prop} (h : CmpD X op m2) (ha : ME X W a ma) (hb : ME X W b mb) (hm : behindInMarks op b = false) : MT X W (.Compare a [op] [b] pos) (dTestB (dOp m2 ma mb)) :=
  let ⟨_, ho, hs⟩ := h
  PT.imp (pt_cmpR ho ha hb hm) (lT_B2 (sim_op hs))
/-- a op b op' c -/
def dChain (m2 m2' : D → D → MH → DK → Prop) (ma mb mc : DE) : DE := fun r M R => ma r M fun d M1 => mb r M1 fun e M2 => m2 d e M2 fun z M3 => match z with
  | .bl c => if c = true then mc r M3 fun f M4 => m2' e f M4 R else R (.bl false) M3
  | _ => False
theorem sim_chain {K : PySem.W.Frag} {ra rb : R2} {m2 m2' : D → D → MH → DK → Prop} (hs : Sim2 K ra m2) (hs' : Sim2 K rb m2') : ∀ s H Q, lE K W (dChain m2 m2' ma mb mc) s H Q → tChain ra rb (lE K W ma) (lE K W mb) (lE K W mc) s H Q := by
  rintro s H Q ⟨F, al, r, M, R, er, hr, hm, k⟩
  refine ⟨F, al, r, M, _, er, hr, hm, fun x H1 F1 al1 d M1 s1 r1 hm1 => ?_⟩
  refine ⟨F1, al1, r, M1, _, er.step hr s1, s1.hr, hm1, fun y H2 F2 al2 e M2 s2 r2 hm2 => ?_⟩
  refine hs F2 al2 H2 M2 x y d e _ _ s2.hr (r1.mono s2.ex s2.pre) r2 hm2 (fun z H3 F3 al3 dz M3 s3 r3 hm3 => ?_)
  have s13 := (s1.trans hr s2).trans hr s3
  split at hm3
  · rename_i c
    cases r3
    refine ⟨c, rfl, ?_⟩
    cases c with
    | true => exact ⟨F3, al3, r, M3, _, er.step hr s13, s3.hr, hm3, fun w H4 F4 al4 f M4 s4 r4 hm4 => hs' F4 al4 H4 M4 y w e f R Q s4.hr ((r2.mono s3.ex s3.pre).mono s4.ex s4.pre) r4 hm4 (Out.step hr k (s13.trans hr s4))⟩
    | false => exact k _ _ _ _ (.bl false) _ s13 rfl hm3
  · exact hm3.elim
theorem me_chain {op op' : CmpOp} {m2 m2' : D → D → MH → DK → Prop} (h : CmpD X op m2) (h' : CmpD X op' m2') (ha : ME X W a ma) (hb : ME X W b mb) (hc : ME X W c mc)
    (hm : lastMarks [op, op'] [b, c] = false := by with_unfolding_all rfl) : ME X W (.Compare a [op, op'] [b, c] pos) (dChain m2 m2' ma mb mc) :=
  let ⟨_, ho, hs⟩ := h
  let ⟨_, ho', hs'⟩ := h'
  PE.imp (pe_chain ho ho' ha hb hc hm) (sim_chain hs hs')
theorem mt_chain {op op' : CmpOp} {m2 m2' : D → D → MH → DK → Prop} (h : CmpD X op m2) (h' : CmpD X op' m2') (ha : ME X W a ma) (hb : ME X W b mb) (hc : ME X W c mc)
    (hm : lastMarks [op, op'] [b, c] = false := by with_unfolding_all rfl) : MT X W (.Compare a [op, op'] [b, c] pos) (dTestB (dChain m2 m2' ma mb mc)) :=
  let ⟨_, ho, hs⟩ := h
  let ⟨_, ho', hs'⟩ := h'
  PT.imp (pt_chain ho ho' ha hb hc hm) (lT_B2 (sim_chain hs hs'))
def dAnd (t u : DT) : DT := fun r M R => t r M fun b M1 => if b = true then u r M1 R else R false M1
def dOr (t u : DT) : DT := fun r M R => t r M fun b M1 => if b = true then R true M1 else u r M1 R
def dNot (t : DT) : DT := fun r M R => t r M fun b M1 => R (!b) M1
variable {tA tB' : DT} {rest : List Expr}
theorem mw_and1 (ha : MT X W a tA) : MW X W (.BoolOp .And [a] pos) tA := pw_and1 ha
theorem mw_or1 (ha : MT X W a tA) : MW X W (.BoolOp .Or [a] pos) tA := pw_or1 ha
theorem lT_and {K : PySem.W.Frag} : ∀ s H Q, lT K W (dAnd tA tB') s H Q → tAnd (lT K W tA) (lT K W tB') s H Q := by
  rintro s H Q ⟨F, al, r, M, R, er, hr, hm, k⟩
  refine ⟨F, al, r, M, _, er, hr, hm, fun c H1 F1 al1 M1 s1 hm1 => ?_⟩
  cases c with
  | true => exact ⟨F1, al1, r, M1, R, er.step hr s1, s1.hr, hm1, fun b H2 F2 al2 M2 s2 q => k b H2 F2 al2 M2 (s1.trans hr s2) q⟩
  | false => exact k _ _ _ _ _ s1 hm1
theorem lT_or {K : PySem.W.Frag} : ∀ s H Q, lT K W (dOr tA tB') s H Q → tOr (lT K W tA) (lT K W tB') s H Q := by
  rintro s H Q ⟨F, al, r, M, R, er, hr, hm, k⟩
  refine ⟨F, al, r, M, _, er, hr, hm, fun c H1 F1 al1 M1 s1 hm1 => ?_⟩
  cases c with
  | false => exact ⟨F1, al1, r, M1, R, er.step hr s1, s1.hr, hm1, fun b H2 F2 al2 M2 s2 q => k b H2 F2 al2 M2 (s1.trans hr s2) q⟩
  | true => exact k _ _ _ _ _ s1 hm1
theorem mw_and (ha : MT X W a tA) (hb : MW X W (.BoolOp .And (b :: rest) pos) tB') : MW X W (.BoolOp .And (a :: b :: rest) pos) (dAnd tA tB') := PW.imp (pw_and ha hb) lT_and
theorem mw_or (ha : MT X W a tA) (hb : MW X W (.BoolOp .Or (b :: rest) pos) tB') : MW X W (.BoolOp .Or (a :: b :: rest) pos) (dOr tA tB') := PW.imp (pw_or ha hb) lT_or
theorem MW.mt (h : MW X W e tA) : MT X W e tA := PW.pt h
theorem mt_not (ha : MT X W a tA) : MT X W (.UnaryOp .Not a pos) (dNot tA) := by
  refine PT.imp (pt_not ha) ?_
  rintro s H Q ⟨F, al, r, M, R, er, hr, hm, k⟩
  exact ⟨F, al, r, M, _, er, hr, hm, fun c H1 F1 al1 M1 s1 hm1 => k _ _ _ _ _ s1 hm1⟩
/-- and, or, not as values: all but the last are truth values -/
def dAndV (ma mb : DE) : DE := fun r M R => ma r M fun d M1 => match d with
  | .bl b => if b = true then mb r M1 R else R (.bl false) M1
  | _ => False
def dOrV (ma mb : DE) : DE := fun r M R => ma r M fun d M1 => match d with
  | .bl b => if b = true then R (.bl true) M1 else mb r M1 R
  | _ => False
def dNotV (ma : DE) : DE := fun r M R => ma r M fun d M1 => match d with
  | .bl b => R (.bl (!b)) M1
  | _ => False
theorem me_one {op} (ha : ME X W a ma) : ME X W (.BoolOp op [a] pos) ma := pe_one ha
theorem me_and (ha : ME X W a ma) (hb : ME X W (.BoolOp .And (b :: rest) pos) mb) : ME X W (.BoolOp .And (a :: b :: rest) pos) (dAndV ma mb) := by
  refine PE.imp (pe_and ha hb) ?_
  rintro s H Q ⟨F, al, r, M, R, er, hr, hm, k⟩
  refine ⟨F, al, r, M, _, er, hr, hm, fun x H1 F1 al1 d M1 s1 r1 hm1 => ?_⟩
  cases d <;> try exact hm1.elim
  rename_i c
  cases r1
  refine ⟨c, rfl, ?_⟩
  cases c with
  | true => exact ⟨F1, al1, r, M1, R, er.step hr s1, s1.hr, hm1, Out.step hr k s1⟩
  | false => exact k _ _ _ _ (.bl false) _ s1 rfl hm1
theorem me_or (ha : ME X W a ma) (hb : ME X W (.BoolOp .Or (b :: rest) pos) mb) : ME X W (.BoolOp .Or (a :: b :: rest) pos) (dOrV ma mb) := by
  refine PE.imp (pe_or ha hb) ?_
  rintro s H Q ⟨F, al, r, M, R, er, hr, hm, k⟩
  refine ⟨F, al, r, M, _, er, hr, hm, fun x H1 F1 al1 d M1 s1 r1 hm1 => ?_⟩
  cases d <;> try exact hm1.elim
  rename_i c
  cases r1
  refine ⟨c, rfl, ?_⟩
  cases c with
  | false => exact ⟨F1, al1, r, M1, R, er.step hr s1, s1.hr, hm1, Out.step hr k s1⟩
  | true => exact k _ _ _ _ (.bl true) _ s1 rfl hm1
theorem me_not (ha : ME X W a ma) : ME X W (.UnaryOp .Not a pos) (dNotV ma) := by
  refine PE.imp (pe_not ha) ?_
  rintro s H Q ⟨F, al, r, M, R, er, hr, hm, k⟩
  refine ⟨F, al, r, M, _, er, hr, hm, fun x H1 F1 al1 d M1 s1 r1 hm1 => ?_⟩
  cases d <;> try exact hm1.elim
  rename_i c
  cases r1
  exact ⟨c, rfl, k _ _ _ _ (.bl (!c)) _ s1 rfl hm1⟩
def dIf (t : DT) (ma mb : DE) : DE := fun r M R => t r M fun c M1 => if c = true then ma r M1 R else mb r M1 R
theorem me_ifExp (hc : MT X W c tA) (ha : ME X W a ma) (hb : ME X W b mb) : ME X W (.IfExp c a b pos) (dIf tA ma mb) := by
  refine PE.imp (pe_ifExp hc ha hb) ?_
  rintro s H Q ⟨F, al, r, M, R, er, hr, hm, k⟩
  refine ⟨F, al, r, M, _, er, hr, hm, fun c H1 F1 al1 M1 s1 hm1 => ?_⟩
  cases c with
  | true => exact ⟨F1, al1, r, M1, R, er.step hr s1, s1.hr, hm1, Out.step hr k s1⟩
  | false => exact ⟨F1, al1, r, M1, R, er.step hr s1, s1.hr, hm1, Out.step hr k s1⟩

/-! ### argument lists, displays -/
def dNil : DA := fun _ M R => R [] M
def dCons (ma : DE) (mr : DA) : DA := fun r M R => ma r M fun d M1 => mr r M1 fun ds M2 => R (d :: ds) M2
theorem ma_nil : MA X W [] dNil := by
  refine PA.imp pa_nil ?_
  rintro s H Q ⟨F, al, r, M, R, er, hr, hm, k⟩
  exact k _ _ _ _ [] _ (Stp.refl hr) rfl hm
theorem ma_cons (ha : ME X W a ma) (hs : MA X W es mas) (he : starEach (a :: es) X.env = (false, eval a X.env) :: starEach es X.env := by rfl) : MA X W (a :: es) (dCons ma mas) := by
  refine PA.imp (pa_cons ha hs he) ?_
  rintro s H Q ⟨F, al, r, M, R, er, hr, hm, k⟩
  refine ⟨F, al, r, M, _, er, hr, hm, fun x H1 F1 al1 d M1 s1 r1 hm1 => ?_⟩
  refine ⟨F1, al1, r, M1, _, er.step hr s1, s1.hr, hm1, fun xs H2 F2 al2 ds M2 s2 r2 hm2 => ?_⟩
  exact k _ _ _ _ (d :: ds) _ (s1.trans hr s2) ⟨x, xs, rfl, r1.mono s2.ex s2.pre, r2⟩ hm2
def dTup (mas : DA) : DE := fun r M R => mas r M fun ds M1 => ds.length ≤ sizeLine ∧ R (.tup ds) M1
def dLst (fz : Bool) (mas : DA) : DE := fun r M R => mas r M fun ds M1 => ds.length ≤ sizeLine ∧ nw fz ds M1 R
theorem me_tup {k} (h : MA X W es mas) : ME X W (.Tuple es k pos) (dTup mas) := by
  refine PE.imp (pe_tup h) ?_
  rintro s H Q ⟨F, al, r, M, R, er, hr, hm, k⟩
  refine ⟨F, al, r, M, _, er, hr, hm, fun xs H1 F1 al1 ds M1 s1 r1 hm1 => ?_⟩
  exact ⟨by rw [r1.length]; exact hm1.1, fun p hp => Out.newT (Out.step hr k s1) s1.hr hp r1 hm1.2⟩
def dTupK (mas : DA) : DE := fun r M R => mas r M fun ds M1 => ds.length ≤ sizeLine ∧ R (.kt ds) M1
theorem me_tupK {k} (h : MA X W es mas) : ME X W (.Tuple es k pos) (dTupK mas) := by
  refine PE.imp (pe_tup h) ?_
  rintro s H Q ⟨F, al, r, M, R, er, hr, hm, k⟩
  refine ⟨F, al, r, M, _, er, hr, hm, fun xs H1 F1 al1 ds M1 s1 r1 hm1 => ?_⟩
  exact ⟨by rw [r1.length]; exact hm1.1, fun p hp => Out.newK (Out.step hr k s1) s1.hr hp r1 hm1.2⟩
theorem me_lst (fz : Bool) (h : MA X W es mas) : ME X W (.List es pos) (dLst fz mas) := by
  refine PE.imp (pe_lst h) ?_
  rintro s H Q ⟨F, al, r, M, R, er, hr, hm, k⟩
  refine ⟨F, al, r, M, _, er, hr, hm, fun xs H1 F1 al1 ds M1 s1 r1 hm1 => ?_⟩
  exact ⟨by rw [r1.length]; exact hm1.1, fun p hp => Out.new (Out.step hr k s1) s1.hr hp r1 hm1.2⟩

/-! ### subscripts, slices -/
def dIx : D → D → MH → DK → Prop := fun d e M R => match d, e with
  | .str z, .int i => z.length ≤ sizeLine ∧ (match atI z.cps.toList i with
    | some c => R (.str ⟨#[c]⟩) M
    | none => False)
  | d, .int i => match rdS M d with
    | some ds => (match atI ds i with
      | some x => R x M
      | none => False)
    | none => False
  | _, _ => False
theorem atI_rel {K : PySem.W.Frag} {F : Hp} {al : List Addr} {ds : List D} {xs : List V} {i : Int} {d : D} (r : RelA K F al ds xs) (e : atI ds i = some d) : ∃ v, atI xs i = some v ∧ Rel K F al d v := by
  unfold atI at e ⊢
  rw [r.length]
  cases h : ixN ds.length i with
  | none => rw [h] at e; cases e
  | some j =>
    rw [h] at e
    exact r.get e
theorem me_ix (ha : ME X W a ma) (hb : ME X W b mb) (hs : PlainIx b := by intro _ _; rfl) : ME X W (.Subscript a b pos) (dOp dIx ma mb) := by
  refine PE.imp (pe_ix ix_seq ha hb hs) (sim_op ?_)
  intro F al H M x y d e R Q h rx ry hm k
  unfold dIx at hm
  split at hm
  · rename_i z i
    cases rx; cases ry
    obtain ⟨h1, h2⟩ := hm
    split at h2
    · rename_i c hc
      exact .inr (.inr ⟨_, _, c, rfl, rfl, h1, hc, Out.pq k h h2 rfl⟩)
    · exact h2.elim
  · split at hm
    · rename_i ds e1
      split at hm
      · rename_i w hw
        cases ry
        obtain ⟨a, xs, rfl, hx, ra⟩ := h.rdS_ rx e1
        obtain ⟨v, hv, rv⟩ := atI_rel ra hw
        rcases hx with hx | hx
        · exact .inl ⟨a, xs, _, v, rfl, rfl, hx, hv, Out.pure k h rv hm⟩
        · exact .inr (.inl ⟨a, xs, _, v, rfl, rfl, hx, hv, Out.pure k h rv hm⟩)
      · exact hm.elim
    · exact hm.elim
  · exact hm.elim
/-- a part of a slice -/
abbrev DO' := RH → MH → (Option Int → MH → Prop) → Prop
def lO (K : PySem.W.Frag) (W : WX) (m : DO') : TO := fun s H Q => ∃ F al r M, ∃ R : Option Int → MH → Prop, ER K W F al H M s r ∧ HR K F al H M ∧ m r M R ∧ ∀ o H' F' al' M', Stp K F al H M F' al' H' M' → R o M' → Q o H'
def MO' (X : Cx) (W : WX) (e : Option Expr) (m : DO') : Prop := PO X e (lO X.K W m)
theorem PO.imp {eo : Option Expr} {t t' : TO} (h : PO X eo t) (i : ∀ s H Q, t' s H Q → t s H Q) : PO X eo t' := ⟨fun pins s σ H Q I q => h.run pins s σ H Q I (i _ _ _ q)⟩
def dNoPart : DO' := fun _ M R => R none M
def dPart (ma : DE) : DO' := fun r M R => ma r M fun d M1 => match d with
  | .int i => R (some i) M1
  | _ => False
theorem mo_none : MO' X W none dNoPart := by
  refine PO.imp po_none ?_
  rintro s H Q ⟨F, al, r, M, R, er, hr, hm, k⟩
  exact k _ _ _ _ _ (Stp.refl hr) hm
theorem mo_some (ha : ME X W a ma) : MO' X W (some a) (dPart ma) := by
  refine PO.imp (po_some ha) ?_
  rintro s H Q ⟨F, al, r, M, R, er, hr, hm, k⟩
  refine ⟨F, al, r, M, _, er, hr, hm, fun x H1 F1 al1 d M1 s1 r1 hm1 => ?_⟩
  cases d <;> try exact hm1.elim
  cases r1
  exact ⟨_, rfl, k _ _ _ _ _ s1 hm1⟩
def cutD {α : Type} (xs : List α) (lo hi : Option Int) : List α := (xs.drop (HT.sIx xs.length 0 lo)).take (HT.sIx xs.length xs.length hi - HT.sIx xs.length 0 lo)
theorem cutD_rel {K : PySem.W.Frag} {F : Hp} {al : List Addr} {ds : List D} {xs : List V} (lo hi : Option Int) (r : RelA K F al ds xs) : RelA K F al (cutD ds lo hi) (cutV xs lo hi) := by
  unfold cutD cutV
  rw [r.length]
  exact RelA.take _ (RelA.drop _ r)
def dSlV (fz : Bool) (lo hi : Option Int) : D → MH → DK → Prop := fun d M R => match d with
  | .tup ds => R (.tup (cutD ds lo hi)) M
  | .kt ds => R (.kt (cutD ds lo hi)) M
  | .str z => z.length ≤ sizeLine ∧ R (.str (cutS z lo hi)) M
  | d => match rdL M d with
    | some ds => nw fz (cutD ds lo hi) M R
    | none => False
def dSl (fz : Bool) (ma : DE) (ml mh : DO') : DE := fun r M R => ma r M fun d M1 => ml r M1 fun l M2 => mh r M2 fun u M3 => dSlV fz l u d M3 R
theorem cut_whole {α : Type} {xs : List α} {lo hi : Option Int} (h : HT.sIx xs.length 0 lo = 0 ∧ HT.sIx xs.length xs.length hi = xs.length) : cutD xs lo hi = xs := by
  unfold cutD
  rw [h.1, h.2, List.drop_zero, Nat.sub_zero, List.take_length]
theorem me_slice {lo hi : Option Expr} {p2 : Pos} {ml mh : DO'} (fz : Bool) (ha : ME X W a ma) (hl : MO' X W lo ml) (hu : MO' X W hi mh) : ME X W (.Subscript a (.Slice lo hi none p2) pos) (dSl fz ma ml mh) := by
  refine PE.imp (pe_slice (SlR.or (SlR.or sl_list sl_tupA) sl_str) ha hl hu) ?_
  rintro s H Q ⟨F, al, r, M, R, er, hr, hm, k⟩
  refine ⟨F, al, r, M, _, er, hr, hm, fun x H1 F1 al1 d M1 s1 r1 hm1 => ?_⟩
  refine ⟨F1, al1, r, M1, _, er.step hr s1, s1.hr, hm1, fun l H2 F2 al2 M2 s2 hm2 => ?_⟩
  have s12 := s1.trans hr s2
  refine ⟨F2, al2, r, M2, _, er.step hr s12, s2.hr, hm2, fun u H3 F3 al3 M3 s3 hm3 => ?_⟩
  have s13 := s12.trans hr s3
  have k' := Out.step hr k s13
  have h := s3.hr
  have rx := (r1.mono s2.ex s2.pre).mono s3.ex s3.pre
  unfold dSlV at hm3
  split at hm3
  · rename_i ds
    obtain ⟨a, xs, rfl, hx, ra⟩ := h.rdT_ rx (show rdT (.tup ds) = some ds from rfl)
    refine .inl (.inr ⟨a, xs, rfl, hx, fun w => ?_, fun _ p hp => Out.newT k' h hp (cutD_rel l u ra) hm3⟩)
    rw [ra.length] at w
    rw [cut_whole w] at hm3
    exact Out.pure k' h rx hm3
  · rename_i ds
    obtain ⟨a, xs, rfl, hx, ra⟩ := h.rdT_ rx (show rdT (.kt ds) = some ds from rfl)
    refine .inl (.inr ⟨a, xs, rfl, hx, fun w => ?_, fun _ p hp => Out.newK k' h hp (cutD_rel l u ra) hm3⟩)
    rw [ra.length] at w
    rw [cut_whole w] at hm3
    exact Out.pure k' h rx hm3
  · cases rx
    exact .inr ⟨_, rfl, hm3.1, Out.pq k' h hm3.2 rfl⟩
  · split at hm3
    · rename_i ds e1
      obtain ⟨a, xs, rfl, hx, ra⟩ := h.rdL_ rx e1
      exact .inl (.inl ⟨a, xs, rfl, hx, fun p hp => Out.new k' h hp (cutD_rel l u ra) hm3⟩)
    · exact hm3.elim
end
end DL

set_option Elab.async false
set_option linter.all false
set_option maxRecDepth 100000
set_option maxHeartbeats 2000000
namespace DL
open PySem PySem.Spec L2
open Evl (Ex)
open PyProof.Rows (b2i)

/-! ### any, all over truth values, ints, None -/
def truS : V → Option Bool
  | .non => some false
  | .bl b => some b
  | .int i => some (i != 0)
  | _ => none
def truD : D → Option Bool
  | .non => some false
  | .bl b => some b
  | .int i => some (i != 0)
  | _ => none
theorem truthy_of {prog : Program} {w : World} {A : Around} {E : Value → Shared → Prop} {s : Shared} {x : V} {u : Value} {b : Bool} {Q : Bool → Shared → Prop} (r : RelV x u) (e : truS x = some b) (q : Q b s) : wpAny (model prog w) A (truthy u) Q E s := by
  cases x with
  | non => cases r; cases e; exact PyProof.Rows.truthy_none q
  | bl c => cases r; cases e; exact wpAny_truthy_bool q
  | int i => obtain ⟨t, rfl⟩ := r; cases e; exact PySem.P.truthy_int q
  | _ => cases e
/-- the answers, one for each -/
def truths : List V → Option (List Bool)
  | [] => some []
  | x :: xs => match truS x, truths xs with
    | some b, some bs => some (b :: bs)
    | _, _ => none
theorem truths_get : ∀ {xs : List V} {bs : List Bool} {us : List Value} {i : Nat} {u : Value}, truths xs = some bs → Vals xs us → us[i]? = some u → ∃ x, RelV x u ∧ truS x = some (bs.getD i false)
  | [], _, _, _, _, _, .nil, h => by simp at h
  | x :: xs, bs, _, i, u, e, .cons r t, h => by
    unfold truths at e
    split at e
    · rename_i b cs e1 e2
      cases e
      cases i with
      | zero => simp at h; subst h; exact ⟨x, r, e1⟩
      | succ i => exact truths_get (i := i) e2 t (by simpa using h)
    · cases e
theorem truths_len : ∀ {xs : List V} {bs : List Bool}, truths xs = some bs → bs.length = xs.length
  | [], _, e => by cases e; rfl
  | x :: xs, bs, e => by
    unfold truths at e
    split at e
    · rename_i b cs e1 e2
      cases e
      simp [truths_len e2]
    · cases e
theorem truth_list {prog : Program} {w : World} {A : Around} {xs : List V} {bs : List Bool} {its : List Value} (e : truths xs = some bs) (r : Vals xs its) :
    TruthOf prog w A (fun i v => its.toArray[i]? = some v) (fun i => bs.getD i false) := fun i v s Q E hv hq => by
  have hv' : its[i]? = some v := by simpa using hv
  obtain ⟨x, rx, ex⟩ := truths_get e r hv'
  exact truthy_of rx ex hq
section
variable {X : Cx}
def rAnyS (K : PySem.W.Frag) (all : Bool) : List V → Hp → VK → Prop := fun vs H Q => ∃ (a : Addr) (xs : List V) (bs : List Bool), vs = [V.ref a] ∧ (SqL K H a xs ∨ SqT K H a xs) ∧ truths xs = some bs ∧ Q (.bl (if all then bs.all id else bs.any id)) H
theorem iter_tup {prog : Program} {w : World} {A : Around} {E : Value → Shared → Prop} {s : Shared} {l : Addr} {items : Array Value} {Q : Value → Shared → Prop} (hl : s.heap.IsTuple l items)
    (h : ∀ s₂ : Shared, s₂ = { s with heap := s.heap.push { cls := .type "tuple_iterator", data := .fields #[.ref l, .int 0 0] } } →
      (s₂.heap.IsTupleIter s.heap.objs.size l 0 ∧ s₂.heap.IsTuple l items) → l ≠ s.heap.objs.size → Q (.ref s.heap.objs.size) s₂) : wpAny (model prog w) A (pyIter (.ref l)) Q E s := by
  have hlt : l < s.heap.objs.size := by obtain ⟨_, e, _⟩ := hl; exact Heap.lt_size e
  exact wpAny_pyIter_tuple hl (h _ rfl ⟨⟨_, Heap.get?_push_size _ rfl, rfl, rfl⟩, hl.at fun o e => Heap.get?_push_of_some _ e⟩ (Nat.ne_of_lt hlt))
theorem cr_anyS (hc : X.calm = true) : CallR X (.builtin "any") (rAnyS X.K false) := by
  intro pins s σ H vs us Q I r h
  obtain ⟨a, xs, bs, rfl, hs, hb, q⟩ := h
  rw [Vals.ref1 r]
  have fin : ∀ (s' : Shared) (n : Nat), n = bs.length → (∃ h' tk, s' = { s with heap := h', toks := tk } ∧ ∀ b o, s.heap.get? b = some o → h'.get? b = some o) → EP X pins σ Q (.bool ((List.range n).any fun i => bs.getD i false)) s' := by
    rintro s' n rfl ⟨h', tk, rfl, hk⟩
    exact ⟨.bl _, H, I.kept hk, (by show Value.bool _ = Value.bool _; rw [any_range]; rfl), q⟩
  rcases hs with hs | hs
  · obtain ⟨its, rv, hl, _⟩ := I.list hs
    refine call_any_walk (iter_any hl.isList fun s₂ e2 st hne => ?_)
    subst e2
    refine ⟨_, _, _, _, _, _, _, rfl, Walks.list (A := X.A.in1) (I.ok.hd hc) _ a hne its.toArray, st, truth_list hb rv, fun h' tk hk => ?_⟩
    refine fin _ _ (by rw [List.size_toArray, ← rv.length, truths_len hb]) ⟨h', tk, rfl, fun b o eo => hk b o (fun hmem => ?_) (Heap.get?_push_of_some _ eo)⟩
    rcases List.mem_cons.mp hmem with e1 | hmem
    · exact absurd (e1 ▸ Heap.lt_size eo) (Nat.lt_irrefl _)
    · cases hmem
  · obtain ⟨its, rv, ht, _⟩ := I.tuple hs
    refine call_any_walk (iter_tup ht fun s₂ e2 st hne => ?_)
    subst e2
    refine ⟨_, _, _, _, _, _, _, rfl, Walks.tuple (A := X.A.in1) (I.ok.hd hc) _ a hne its.toArray, st, truth_list hb rv, fun h' tk hk => ?_⟩
    refine fin _ _ (by rw [List.size_toArray, ← rv.length, truths_len hb]) ⟨h', tk, rfl, fun b o eo => hk b o (fun hmem => ?_) (Heap.get?_push_of_some _ eo)⟩
    rcases List.mem_cons.mp hmem with e1 | hmem
    · exact absurd (e1 ▸ Heap.lt_size eo) (Nat.lt_irrefl _)
    · cases hmem
theorem cr_allS (hc : X.calm = true) : CallR X (.builtin "all") (rAnyS X.K true) := by
  intro pins s σ H vs us Q I r h
  obtain ⟨a, xs, bs, rfl, hs, hb, q⟩ := h
  rw [Vals.ref1 r]
  have fin : ∀ (s' : Shared) (n : Nat), n = bs.length → (∃ h' tk, s' = { s with heap := h', toks := tk } ∧ ∀ b o, s.heap.get? b = some o → h'.get? b = some o) → EP X pins σ Q (.bool ((List.range n).all fun i => bs.getD i false)) s' := by
    rintro s' n rfl ⟨h', tk, rfl, hk⟩
    exact ⟨.bl _, H, I.kept hk, (by show Value.bool _ = Value.bool _; rw [all_range]; rfl), q⟩
  rcases hs with hs | hs
  · obtain ⟨its, rv, hl, _⟩ := I.list hs
    refine call_all_walk (iter_any hl.isList fun s₂ e2 st hne => ?_)
    subst e2
    refine ⟨_, _, _, _, _, _, _, rfl, Walks.list (A := X.A.in1) (I.ok.hd hc) _ a hne its.toArray, st, truth_list hb rv, fun h' tk hk => ?_⟩
    refine fin _ _ (by rw [List.size_toArray, ← rv.length, truths_len hb]) ⟨h', tk, rfl, fun b o eo => hk b o (fun hmem => ?_) (Heap.get?_push_of_some _ eo)⟩
    rcases List.mem_cons.mp hmem with e1 | hmem
    · exact absurd (e1 ▸ Heap.lt_size eo) (Nat.lt_irrefl _)
    · cases hmem
  · obtain ⟨its, rv, ht, _⟩ := I.tuple hs
    refine call_all_walk (iter_tup ht fun s₂ e2 st hne => ?_)
    subst e2
    refine ⟨_, _, _, _, _, _, _, rfl, Walks.tuple (A := X.A.in1) (I.ok.hd hc) _ a hne its.toArray, st, truth_list hb rv, fun h' tk hk => ?_⟩
    refine fin _ _ (by rw [List.size_toArray, ← rv.length, truths_len hb]) ⟨h', tk, rfl, fun b o eo => hk b o (fun hmem => ?_) (Heap.get?_push_of_some _ eo)⟩
    rcases List.mem_cons.mp hmem with e1 | hmem
    · exact absurd (e1 ▸ Heap.lt_size eo) (Nat.lt_irrefl _)
    · cases hmem

/-! ### repr -/
mutual
theorem dp_noDict {K : PySem.W.Frag} {H : Hp} : ∀ (d : PyData) (x : V), Dp K H x d → d.hasDict = false
  | .none, _, _ => rfl
  | .bool _, _, _ => rfl
  | .int _, _, _ => rfl
  | .str _, _, _ => rfl
  | .list ds, _, .lst _ h => dp_noDictA ds _ h
  | .tuple ds, _, .tup _ h => dp_noDictA ds _ h
theorem dp_noDictA {K : PySem.W.Frag} {H : Hp} : ∀ (ds : List PyData) (xs : List V), DpAll K H xs ds → PyData.hasDictAll ds = false
  | [], _, _ => rfl
  | d :: ds, _, .cons h1 h2 => by
    show (d.hasDict || PyData.hasDictAll ds) = false
    rw [dp_noDict d _ h1, dp_noDictA ds _ h2]; rfl
end
theorem call_repr_D (hg : X.A.guards = some []) (hu : X.A.units + 66 < cLine) : CallR X (.builtin "repr") (fun xs H Q => ∃ x d, xs = [x] ∧ Dp X.K H x d ∧ d.showable = true ∧ SeqAt.shaped d = true ∧ d.shown.length ≤ sizeLine ∧ Q (.str d.shown) H) := by
  intro pins s σ H xs us Q I r h
  obtain ⟨x, d, rfl, hd, hs, hp, hz, q⟩ := h
  cases r with
  | cons rx rt =>
    cases rt
    rename_i u
    have hdep := SeqAt.depth_of_shaped hp
    have leaf : ∀ s' : Shared, (∃ tk, s' = { s with toks := tk }) → ∀ z : Str, ∀ t, z = d.shown → EP X pins σ Q (.str z t) s' := by
      rintro s' ⟨tk, rfl⟩ z t rfl
      exact ⟨.str _, H, I.tok _, ⟨t, rfl⟩, q⟩
    have nest : ∀ a, u = .ref a → d.hasDict = false → wpAny (model X.prog X.w) X.A (call (.builtin "repr") [u]) (EP X pins σ Q) X.xe s := by
      rintro a rfl hn
      obtain ⟨as, r1⟩ := Dp.reads I d x _ hd rx
      exact repr_of_reads' r1 hs (fun z => by rw [hn] at z; cases z) hg (by omega) (fun _ _ e => e) (fun h' t tk hk => ⟨.str _, H, I.kept hk, ⟨t, rfl⟩, q⟩) hz
    have nod : ∀ (d : PyData) (x : V), Dp X.K H x d → d.hasDict = false := fun d x h => dp_noDict d x h
    cases hd with
    | non => cases rx; exact PySem.P.repr_of_none (leaf _ ⟨_, rfl⟩ _ _ rfl)
    | bl b => cases rx; exact PySem.P.repr_of_bool (leaf _ ⟨_, rfl⟩ _ _ (by cases b <;> rfl))
    | int i => obtain ⟨t, rfl⟩ := rx; exact PySem.P.repr_of_int (of_decide_eq_true hs) (leaf _ ⟨_, rfl⟩ _ _ rfl)
    | str y => obtain ⟨t, rfl⟩ := rx; exact PySem.P.repr_of_str (leaf _ ⟨_, rfl⟩ _ _ rfl) hz
    | lst h1 h2 => cases rx; exact nest _ rfl (nod _ _ (.lst h1 h2))
    | tup h1 h2 => cases rx; exact nest _ rfl (nod _ _ (.tup h1 h2))
end
end DL

set_option Elab.async false
set_option linter.all false
set_option maxRecDepth 100000
set_option maxHeartbeats 2000000
namespace DL
open PySem PySem.Spec L2
open Evl (Ex)
open PyProof.Rows (b2i)

/-! ### built-in functions and classes, called by name -/
def BltD (X : Cx) (x : Str) (mc : List D → MH → DK → Prop) : Prop :=
  ∃ r, SimC X.K r mc ∧ ((∃ id, bootBuiltins x = some (.builtin id) ∧ CallR X (.builtin id) r) ∨ (∃ T, bootBuiltins x = some (.type T) ∧ CallR X (.type T) r))
def dCB (mc : List D → MH → DK → Prop) (mas : DA) : DE := fun r M R => mas r M fun ds M1 => mc ds M1 R
section
variable {X : Cx} {W : WX} {a b c e : Expr} {es : List Expr} {ma mb me : DE} {mas : DA} {pos p : Pos} {x : Str}
theorem sim_CB {K : PySem.W.Frag} {r : List V → Hp → VK → Prop} {mc : List D → MH → DK → Prop} (hs : SimC K r mc) : ∀ s H Q, lE K W (dCB mc mas) s H Q → tCB r (lA K W mas) s H Q := by
  rintro s H Q ⟨F, al, rr, M, R, er, hr, hm, k⟩
  refine ⟨F, al, rr, M, _, er, hr, hm, fun xs H1 F1 al1 ds M1 s1 r1 hm1 => ?_⟩
  exact hs F1 al1 H1 M1 xs ds R Q s1.hr r1 hm1 (Out.step hr k s1)
theorem me_blt {mc : List D → MH → DK → Prop} (h : BltD X x mc) (hg : Gl X x) (hm : X.mg x = none) (ha : MA X W (e :: es) mas) (hn : x ≠ "__name__" := by decide) (hdb : (x == ("__debug__" : Str)) = false := by decide)
    (he : starEach (e :: es) X.env = (false, eval e X.env) :: starEach es X.env := by rfl) (hpl : (backTo pos (starEach es X.env)).any (·.1) = false := by rfl) : ME X W (.Call (.Name x p) (e :: es) [] pos) (dCB mc mas) := by
  obtain ⟨r, hs, ⟨id, hv, hc⟩ | ⟨T, hv, hc⟩⟩ := h
  · exact PE.imp (pe_callB hc hg hm hv ha hn hdb he hpl) (sim_CB hs)
  · exact PE.imp (pe_callTy hc hg hm hv ha hn hdb he hpl) (sim_CB hs)

/-- abs -/
def dAbs : List D → MH → DK → Prop
  | [.int i], M, R => R (.int (if i < 0 then -i else i)) M
  | _, _, _ => False
theorem bl_abs : BltD X "abs" dAbs := by
  refine ⟨_, ?_, .inl ⟨_, by decide +kernel, call_abs⟩⟩
  intro F al H M xs ds R Q h rx hm k
  unfold dAbs at hm
  split at hm
  · obtain ⟨y, ys, rfl, ry, rfl⟩ := rx
    cases ry
    exact ⟨_, rfl, Out.pq k h hm rfl⟩
  · exact hm.elim
/-- len -/
def dLen : List D → MH → DK → Prop
  | [.str z], M, R => z.length ≤ sizeLine ∧ R (.int z.length) M
  | [d], M, R => match rdS M d with
    | some ds => R (.int ds.length) M
    | none => False
  | _, _, _ => False
theorem bl_len : BltD X "len" dLen := by
  refine ⟨_, ?_, .inl ⟨_, by decide +kernel, CallR.or call_len_seq call_len_str⟩⟩
  intro F al H M xs ds R Q h rx hm k
  unfold dLen at hm
  split at hm
  · obtain ⟨y, ys, rfl, ry, rfl⟩ := rx
    cases ry
    exact .inr ⟨_, rfl, hm.1, Out.pq k h hm.2 rfl⟩
  · obtain ⟨y, ys, rfl, ry, rfl⟩ := rx
    split at hm
    · rename_i ds e1
      obtain ⟨a, us, rfl, hx, ra⟩ := h.rdS_ ry e1
      exact .inl ⟨a, us, rfl, hx, Out.pq k h hm (by show V.int _ = V.int _; rw [ra.length])⟩
    · exact hm.elim
  · exact hm.elim
/-- int of an int, of a truth value -/
def dInt : List D → MH → DK → Prop
  | [.int i], M, R => R (.int i) M
  | [.bl b], M, R => R (.int (if b then 1 else 0)) M
  | _, _, _ => False
theorem bl_int : BltD X "int" dInt := by
  refine ⟨_, ?_, .inr ⟨_, by decide +kernel, call_int1⟩⟩
  intro F al H M xs ds R Q h rx hm k
  unfold dInt at hm
  split at hm
  · obtain ⟨y, ys, rfl, ry, rfl⟩ := rx
    cases ry
    exact .inl ⟨_, rfl, Out.pq k h hm rfl⟩
  · obtain ⟨y, ys, rfl, ry, rfl⟩ := rx
    cases ry
    exact .inr ⟨_, rfl, Out.pq k h hm rfl⟩
  · exact hm.elim
/-- list, tuple of a list or a tuple -/
def dList (fz : Bool) : List D → MH → DK → Prop
  | [d], M, R => match rdS M d with
    | some ds => nw fz ds M R
    | none => False
  | _, _, _ => False
theorem bl_list (fz : Bool) : BltD X "list" (dList fz) := by
  refine ⟨_, ?_, .inr ⟨_, by decide +kernel, call_list_of⟩⟩
  intro F al H M xs ds R Q h rx hm k
  unfold dList at hm
  split at hm
  · obtain ⟨y, ys, rfl, ry, rfl⟩ := rx
    split at hm
    · rename_i ds e1
      obtain ⟨a, us, rfl, hx, ra⟩ := h.rdS_ ry e1
      exact ⟨a, us, rfl, hx, fun l hl => Out.new k h hl ra hm⟩
    · exact hm.elim
  · exact hm.elim
def dTuple : List D → MH → DK → Prop
  | [d], M, R => match rdS M d with
    | some ds => R (.tup ds) M
    | none => False
  | _, _, _ => False
theorem bl_tuple : BltD X "tuple" dTuple := by
  refine ⟨_, ?_, .inr ⟨_, by decide +kernel, call_tuple_of⟩⟩
  intro F al H M xs ds R Q h rx hm k
  unfold dTuple at hm
  split at hm
  · obtain ⟨y, ys, rfl, ry, rfl⟩ := rx
    rename_i d
    have lists : ∀ es, rdL M d = some es → R (.tup es) M → ∃ p zs, [y] = [V.ref p] ∧ ((SqL X.K H p zs ∧ ∀ l, H l = none → Q (.ref l) (upd H l (.tup zs))) ∨ (SqT X.K H p zs ∧ Q (.ref p) H)) := by
      intro es e1 hm
      obtain ⟨a, us, rfl, hx, ra⟩ := h.rdL_ ry e1
      exact ⟨a, us, rfl, .inl ⟨hx, fun l hl => Out.newT k h hl ra hm⟩⟩
    split at hm
    · rename_i es e1
      cases d with
      | tup fs =>
        obtain ⟨a, us, rfl, hx, ra⟩ := h.rdT_ ry (show rdT (.tup fs) = some fs from rfl)
        cases e1
        exact ⟨a, us, rfl, .inr ⟨hx, Out.pq k h hm ry⟩⟩
      | kt fs =>
        obtain ⟨a, us, rfl, hx, ra⟩ := h.rdT_ ry (show rdT (.kt fs) = some fs from rfl)
        cases e1
        exact ⟨a, us, rfl, .inr ⟨hx, Out.pure (d := .tup es) k h (show Rel X.K F al (.tup es) (.ref a) from (let ⟨b, xs, q1, q2, q3⟩ := ry; ⟨b, xs, q1, Evl.st_of q2, q3⟩)) hm⟩⟩
      | lst fs => exact lists es e1 hm
      | scr fs => exact lists es e1 hm
      | loc j => exact lists es e1 hm
      | _ => cases e1
    · exact hm.elim
  · exact hm.elim
/-- isinstance with one built-in class -/
def tyD (M : MH) : D → Option String
  | .non => some "NoneType"
  | .bl _ => some "bool"
  | .int _ => some "int"
  | .str _ => some "str"
  | .tup _ => some "tuple"
  | .kt _ => some "tuple"
  | .lst _ => some "list"
  | .scr _ => some "list"
  | .loc k => match M[k]? with
    | some (.lst _) => some "list"
    | some (.frz _) => some "list"
    | _ => none
  | _ => none
def isiB (t n : String) : Bool := t == n || (t == "bool" && n == "int")
def tyNames : List String := ["NoneType", "bool", "int", "str", "tuple", "list", "dict"]
def isiL : List String := ["bool", "int", "str", "tuple", "list", "dict"]
theorem kitB_ok : ∀ t ∈ tyNames, ∀ n ∈ isiL, ∀ K : PySem.W.Frag, PySem.W.kitOne K (.type t) (.type n) = some (isiB t n) := by
  intro t ht n hn K
  have key : (tyNames.all fun t => isiL.all fun n => kitB t n == some (isiB t n)) = true := by decide +kernel
  rw [List.all_eq_true] at key
  have k1 := key t ht
  rw [List.all_eq_true] at k1
  exact kit_ty (beq_iff_eq.mp (k1 n hn))
theorem tyX_l {K : PySem.W.Frag} {H : Hp} {a : Addr} {xs : List V} (h : SqL K H a xs) : TyX K H (.ref a) (.type "list") := by
  rcases h with (h | ⟨o, h⟩) | ⟨o, its, n, h, hc, _⟩
  · exact .base (.lst h)
  · exact .base (.frz h)
  · exact .kList h hc
theorem tyX_t {K : PySem.W.Frag} {H : Hp} {a : Addr} {xs : List V} (h : SqT K H a xs) : TyX K H (.ref a) (.type "tuple") := by
  rcases h with (h | ⟨o, h⟩) | ⟨o, its, n, h, hc, _⟩
  · exact .base (.tup h)
  · exact .fTuple h
  · exact .kTuple h hc
theorem HR.ty {K : PySem.W.Frag} {F : Hp} {al : List Addr} {H : Hp} {M : MH} {d : D} {v : V} {t : String} (h : HR K F al H M) (r : Rel K F al d v) (e : tyD M d = some t) : TyX K H v (.type t) ∧ t ∈ tyNames := by
  have seq : ∀ ds, rdL M d = some ds → TyX K H v (.type "list") := by
    intro ds e
    obtain ⟨a, xs, rfl, hx, _⟩ := h.rdL_ r e
    exact tyX_l hx
  cases d with
  | non => cases r; cases e; exact ⟨.base .non, by decide⟩
  | bl b => cases r; cases e; exact ⟨.base (.bl _), by decide⟩
  | int i => cases r; cases e; exact ⟨.base (.int _), by decide⟩
  | str x => cases r; cases e; exact ⟨.base (.str _), by decide⟩
  | tup ds =>
    obtain ⟨a, xs, rfl, hx, _⟩ := h.rdT_ r (show rdT (.tup ds) = some ds from rfl)
    cases e; exact ⟨tyX_t hx, by decide⟩
  | kt ds =>
    obtain ⟨a, xs, rfl, hx, _⟩ := h.rdT_ r (show rdT (.kt ds) = some ds from rfl)
    cases e; exact ⟨tyX_t hx, by decide⟩
  | lst ds => cases e; exact ⟨seq ds rfl, by decide⟩
  | scr ds => cases e; exact ⟨seq ds rfl, by decide⟩
  | loc k =>
    simp only [tyD] at e
    split at e
    · rename_i ds hk
      cases e; exact ⟨seq ds (by simp [rdL, hk]), by decide⟩
    · rename_i ds hk
      cases e; exact ⟨seq ds (by simp [rdL, hk]), by decide⟩
    · cases e
  | _ => cases e
def dIsi : List D → MH → DK → Prop
  | [d, .ty n], M, R => match tyD M d with
    | some t => n ∈ isiL ∧ R (.bl (isiB t n)) M
    | none => False
  | _, _, _ => False
theorem bl_isi : BltD X "isinstance" dIsi := by
  refine ⟨_, ?_, .inl ⟨_, by decide +kernel, call_isi⟩⟩
  intro F al H M xs ds R Q h rx hm k
  unfold dIsi at hm
  split at hm
  · obtain ⟨y, ys, rfl, ry, z, zs, rfl, rz, rfl⟩ := rx
    cases rz
    split at hm
    · rename_i t e1
      obtain ⟨h1, h2⟩ := h.ty ry e1
      exact ⟨y, _, _, _, _, rfl, .ty _, h1, kitB_ok t h2 _ hm.1 _, Out.pq k h hm.2 rfl⟩
    · exact hm.elim
  · exact hm.elim
/-- any, all -/
def truA : List D → Option (List Bool)
  | [] => some []
  | d :: ds => match truD d, truA ds with
    | some b, some bs => some (b :: bs)
    | _, _ => none
theorem truA_rel {K : PySem.W.Frag} {F : Hp} {al : List Addr} : ∀ {ds : List D} {xs : List V} {bs : List Bool}, RelA K F al ds xs → truA ds = some bs → truths xs = some bs
  | [], _, _, h, e => by cases h; exact e
  | d :: ds, _, bs, ⟨y, ys, h1, h2, h3⟩, e => by
    subst h1
    unfold truA at e
    split at e
    · rename_i b cs e1 e2
      cases e
      have q : truS y = some b := by
        cases d with
        | non => cases h2; exact e1
        | bl c => cases h2; exact e1
        | int i => cases h2; exact e1
        | _ => cases e1
      unfold truths
      rw [q, truA_rel h3 e2]
    · cases e
def dAny (all : Bool) : List D → MH → DK → Prop
  | [d], M, R => match rdS M d with
    | some ds => (match truA ds with
      | some bs => R (.bl (if all then bs.all id else bs.any id)) M
      | none => False)
    | none => False
  | _, _, _ => False
theorem sim_any {K : PySem.W.Frag} {all : Bool} : SimC K (rAnyS K all) (dAny all) := by
  intro F al H M xs ds R Q h rx hm k
  unfold dAny at hm
  split at hm
  · obtain ⟨y, ys, rfl, ry, rfl⟩ := rx
    split at hm
    · rename_i ds e1
      split at hm
      · rename_i bs e2
        obtain ⟨a, us, rfl, hx, ra⟩ := h.rdS_ ry e1
        exact ⟨a, us, bs, rfl, hx, truA_rel ra e2, Out.pq k h hm rfl⟩
      · exact hm.elim
    · exact hm.elim
  · exact hm.elim
theorem bl_any (hc : X.calm = true) : BltD X "any" (dAny false) := ⟨_, sim_any, .inl ⟨_, by decide +kernel, cr_anyS hc⟩⟩
theorem bl_all (hc : X.calm = true) : BltD X "all" (dAny true) := ⟨_, sim_any, .inl ⟨_, by decide +kernel, cr_allS hc⟩⟩
/-- of a list of ints -/
def intA : List D → Option (List Int)
  | [] => some []
  | .int i :: ds => match intA ds with
    | some is => some (i :: is)
    | none => none
  | _ :: _ => none
theorem intA_rel {K : PySem.W.Frag} {F : Hp} {al : List Addr} : ∀ {ds : List D} {xs : List V} {ns : List Int}, RelA K F al ds xs → intA ds = some ns → xs = ns.map V.int
  | [], _, _, h, e => by cases h; cases e; rfl
  | d :: ds, _, ns, ⟨y, ys, h1, h2, h3⟩, e => by
    subst h1
    cases d with
    | int i =>
      unfold intA at e
      split at e
      · rename_i is e2
        cases e; cases h2
        rw [intA_rel h3 e2]; rfl
      · cases e
    | _ => simp [intA] at e
theorem relA_int {K : PySem.W.Frag} {F : Hp} {al : List Addr} : ∀ ns : List Int, RelA K F al (ns.map D.int) (ns.map V.int)
  | [] => rfl
  | n :: ns => ⟨_, _, rfl, rfl, relA_int ns⟩
def dSum : List D → MH → DK → Prop
  | [d], M, R => match rdL M d with
    | some ds => (match intA ds with
      | some ns => R (.int ns.sum) M
      | none => False)
    | none => False
  | _, _, _ => False
theorem bl_sum (hc : X.calm = true) : BltD X "sum" dSum := by
  refine ⟨_, ?_, .inl ⟨_, by decide +kernel, cr_sum hc⟩⟩
  intro F al H M xs ds R Q h rx hm k
  unfold dSum at hm
  split at hm
  · obtain ⟨y, ys, rfl, ry, rfl⟩ := rx
    split at hm
    · rename_i ds e1
      split at hm
      · rename_i ns e2
        obtain ⟨a, us, rfl, hx, ra⟩ := h.rdL_ ry e1
        rw [intA_rel ra e2] at hx
        exact ⟨a, ns, rfl, hx, Out.pq k h hm rfl⟩
      · exact hm.elim
    · exact hm.elim
  · exact hm.elim
/-- max, min of a list of ints, of two ints -/
def dMax (mx : Bool) : List D → MH → DK → Prop
  | [.int i, .int j], M, R => R (.int (if mx then (if j > i then j else i) else (if j < i then j else i))) M
  | [d], M, R => match rdL M d with
    | some ds => (match intA ds with
      | some ns => 0 < ns.length ∧ ∀ m, m ∈ ns → (∀ y, y ∈ ns → if mx then y ≤ m else m ≤ y) → R (.int m) M
      | none => False)
    | none => False
  | _, _, _ => False
theorem bl_max (hc : X.calm = true) : BltD X "max" (dMax true) := by
  refine ⟨_, ?_, .inl ⟨_, by decide +kernel, CallR.or (call_max2 hc) (cr_max hc)⟩⟩
  intro F al H M xs ds R Q h rx hm k
  unfold dMax at hm
  split at hm
  · obtain ⟨y, ys, rfl, ry, z, zs, rfl, rz, rfl⟩ := rx
    cases ry; cases rz
    exact .inl ⟨_, _, rfl, Out.pq k h hm rfl⟩
  · obtain ⟨y, ys, rfl, ry, rfl⟩ := rx
    split at hm
    · rename_i ds e1
      split at hm
      · rename_i ns e2
        obtain ⟨a, us, rfl, hx, ra⟩ := h.rdL_ ry e1
        rw [intA_rel ra e2] at hx
        exact .inr ⟨a, ns, rfl, hx, hm.1, fun m h1 h2 => Out.pq k h (hm.2 m h1 fun y hy => h2 y hy) rfl⟩
      · exact hm.elim
    · exact hm.elim
  · exact hm.elim
theorem bl_min (hc : X.calm = true) : BltD X "min" (dMax false) := by
  refine ⟨_, ?_, .inl ⟨_, by decide +kernel, CallR.or (call_min2 hc) (cr_min hc)⟩⟩
  intro F al H M xs ds R Q h rx hm k
  unfold dMax at hm
  split at hm
  · obtain ⟨y, ys, rfl, ry, z, zs, rfl, rz, rfl⟩ := rx
    cases ry; cases rz
    exact .inl ⟨_, _, rfl, Out.pq k h hm rfl⟩
  · obtain ⟨y, ys, rfl, ry, rfl⟩ := rx
    split at hm
    · rename_i ds e1
      split at hm
      · rename_i ns e2
        obtain ⟨a, us, rfl, hx, ra⟩ := h.rdL_ ry e1
        rw [intA_rel ra e2] at hx
        exact .inr ⟨a, ns, rfl, hx, hm.1, fun m h1 h2 => Out.pq k h (hm.2 m h1 fun y hy => h2 y hy) rfl⟩
      · exact hm.elim
    · exact hm.elim
  · exact hm.elim
/-- repr -/
def dRepr : List D → MH → DK → Prop
  | [d], M, R => match pyM M d with
    | some p => (p.showable = true ∧ SeqAt.shaped p = true ∧ p.shown.length ≤ sizeLine) ∧ R (.str p.shown) M
    | none => False
  | _, _, _ => False
theorem bl_repr (hg : X.A.guards = some []) (hu : X.A.units + 66 < cLine) : BltD X "repr" dRepr := by
  refine ⟨_, ?_, .inl ⟨_, by decide +kernel, call_repr_D hg hu⟩⟩
  intro F al H M xs ds R Q h rx hm k
  unfold dRepr at hm
  split at hm
  · obtain ⟨y, ys, rfl, ry, rfl⟩ := rx
    split at hm
    · rename_i p e1
      exact ⟨y, p, rfl, h.pyM_ ry e1, hm.1.1, hm.1.2.1, hm.1.2.2, Out.pq k h hm.2 rfl⟩
    · exact hm.elim
  · exact hm.elim
end
end DL

set_option Elab.async false
set_option linter.all false
set_option maxRecDepth 100000
set_option maxHeartbeats 2000000
namespace DL
open PySem PySem.Spec L2
open Evl (Ex)
open PyProof.Rows (envOfC)

/-! ### calls of the program's own defs, where no repr runs around -/
structure RoomG (k : Nat) (A : Around) : Prop where
  r : Room k A
  g : A.guards = some []
theorem RoomG.mono {j k : Nat} {A : Around} (h : RoomG k A) (l : j ≤ k) : RoomG j A := ⟨h.r.mono l, h.g⟩
theorem RoomG.deeper {k : Nat} {A : Around} (h : RoomG (k + 1) A) (env : Env) : RoomG k (A.deeper env) := ⟨h.r.deeper env, h.g⟩
theorem RoomG.u64 {k : Nat} {A : Around} (h : RoomG k A) : A.units + 64 < cLine := by have := h.r.un; omega
theorem RoomG.u65 {k : Nat} {A : Around} (h : RoomG k A) : A.units + 65 < cLine := by have := h.r.un; omega
theorem RoomG.u66 {k : Nat} {A : Around} (h : RoomG k A) : A.units + 66 < cLine := by have := h.r.un; omega

/-- a def keeps its promise -/
structure FnG (P : Program) (w : World) (K : PySem.W.Frag) (mg : Str → Option Value) (base : Heap) (k : Nat) (f : Addr) (fd : FuncData) (ps : List Str) (sp : Sp) : Prop where
  ar : ∀ vs H Q E, sp vs H Q E → vs.length = ps.length
  go : ∀ (A : Around) (outer : List Env) (s : Shared) (H : Hp) (args : Args) (us : List Value) (vs : List V) (Q : VK) (E : XK), RoomG k A → Env0 P w K mg base A outer s H →
    BindsTo s fd args (ps.zip us) → Vals vs us → sp vs H Q E → codeAny (model P w) A (.call (.ref f) args) (CR (L2.CX P w) outer P w H s Q E) s

/-- a def by its body -/
theorem fnG_of {P : Program} {w : World} {K : PySem.W.Frag} {mg : Str → Option Value} {base : Heap} {k : Nat} {f : Addr} {fd : FuncData} {x q : Str} {pa : Arguments} {bd : List Stmt} {sc : Scope} {dvs : List V} {kws : List (Str × V)} {N ps : List Str} {sp : Sp}
    (D : FunD K x q pa bd sc dvs kws f fd) (S : FnScope N ps sc) (ar : ∀ vs H Q E, sp vs H Q E → vs.length = ps.length)
    (hb : ∀ (cdv : Value) (A : Around) (outer : List Env) (s : Shared) (H : Hp) (vs : List V) (Q : VK) (E : XK), RoomG k (A.deeper (envOfC q sc s.heap.objs.size f cdv)) → sp vs H Q E →
      ∃ t, PSs (cxOf (L2.CX P w) P w K mg base N q sc f cdv A outer s H E) bd t ∧ t { nx := fun _ H' => Q .non H', rt := Q } (start N vs) H) : FnG P w K mg base (k + 1) f fd ps sp := by
  obtain ⟨oc, od, dV, kV, doc, pm, an, cdv, ct, osl, rfl, hl, hcode, _, _⟩ := D.ex
  constructor
  · exact ar
  intro A outer s H args us vs Q E room e0 bnd rel hsp
  have n := ar _ _ _ _ hsp
  have KI : K.In s.heap := e0.mod.kin.keeps fun b o z => (e0.bs b o z).1
  have nl : s.heap.NoLimit := e0.mod.nolimit.keeps fun b o z => (e0.bs b o z).1
  have kinds : ∀ y ∈ ps.zip us, sc.names.lookup y.1 = some .local ∨ (sc.names.lookup y.1 = some .cell ∧ ((cellsFrom (s.heap.objs.size + 1) sc.names []).lookup y.1).isSome = true) := by
    rintro ⟨nm, u⟩ hy
    cases S.par nm (List.of_mem_zip hy).1 with
    | inl z => exact Or.inl z
    | inr z => exact Or.inr ⟨z, PySem.W.cellsFrom_some _ _ _ (Or.inl z)⟩
  apply codeAny_call_function room.r.depth (KI _ _ hl) rfl S.co S.gen rfl (PySem.W.codeRec_of KI hcode)
  apply bnd
  apply wpAny_newFunctionEnv_cells S.kind kinds
  intro env he s1 ic
  subst he
  constructor
  · exact nl.keeps ic.toInCall.keep
  apply codeAny_func
  obtain ⟨t, ht, hq⟩ := hb cdv A outer s H vs Q E (room.deeper _) hsp
  have J : L2.Inv (cxOf (L2.CX P w) P w K mg base N q sc f cdv A outer s H E) [] (start N vs) H s1 := inv_start S room.r.hd e0 n rel ic
  apply wpAny_mono (ht.run [] s1 (start N vs) H _ J hq)
  · intro fl s' hs
    cases fl with
    | ret u =>
      obtain ⟨v, σ', H', J', rv, q'⟩ := hs
      exact ⟨v, H', J'.os, J'.bare, J'.base, J'.hok, rv, q'⟩
    | next =>
      obtain ⟨σ', H', J', q'⟩ := hs
      exact ⟨V.non, H', J'.os, J'.bare, J'.base, J'.hok, rfl, q'⟩
    | brk => obtain ⟨_, _, _, z⟩ := hs; exact False.elim z
    | cont => obtain ⟨_, _, _, z⟩ := hs; exact False.elim z
  · exact fun _ _ z => z

section
variable {X : Cx} {k : Nat} {f : Addr} {fd : FuncData} {ps : List Str} {sp : Sp} {dvs : List V} {ds : List Value} {E : L2.St → XK} {x : Str} {p pos : Pos} {e : Expr} {es : List Expr} {t : TA}
theorem run_fnG {pins : List (Addr × Obj)} {σ : L2.St} {H : Hp} {s : Shared} {Q : VK} {us : List Value} {vs : List V} (F : FnG X.prog X.w X.K X.mg X.base k f fd ps sp) (hr : RoomG k X.A) (hb : Binds X.K fd ps ds) (hd : Vals dvs ds)
    (hx : PassesAt (L2.CX X.prog X.w) X σ (E σ)) (I : L2.Inv X pins σ H s) (r : Vals vs us) (h : sp (vs ++ dvs) H Q (E σ)) : wpAny (model X.prog X.w) X.A (call (.ref f) us) (EP X pins σ Q) X.xe s := by
  have r2 : Vals (vs ++ dvs) (us ++ ds) := r.append hd
  have hl : (us ++ ds).length = ps.length := r2.length.symm.trans (F.ar _ _ _ _ h)
  apply wpAny_call
  refine codeAny_mono (F.go X.A X.stack s H ⟨us, []⟩ (us ++ ds) (vs ++ dvs) Q (E σ) hr I.env0 (hb s us I.kIn hl) r2 h) ?_
  intro res s' hq
  cases res with
  | error err => exact hx pins H s err s' I hq
  | ok fl =>
    cases fl with
    | ret u => exact I.after hq
    | next => exact False.elim hq
    | brk => exact False.elim hq
    | cont => exact False.elim hq
def tCallG (sp : Sp) (dvs : List V) (E : L2.St → XK) (t : TA) : TE := fun σ H Q => t σ H fun vs H1 => sp (vs ++ dvs) H1 Q (E σ)
theorem pe_callGG (F : FnG X.prog X.w X.K X.mg X.base k f fd ps sp) (hr : RoomG k X.A) (hg : Gl X x) (hm : X.mg x = some (.ref f)) (hk : PySem.W.keepIn X.K (.ref f) = true) (hb : Binds X.K fd ps ds) (hd : Vals dvs ds)
    (hx : ∀ σ, PassesAt (L2.CX X.prog X.w) X σ (E σ)) (ha : PA X (e :: es) t) (hdb : (x == ("__debug__" : Str)) = false := by decide) (he : starEach (e :: es) X.env = (false, eval e X.env) :: starEach es X.env := by rfl)
    (hpl : (backTo pos (starEach es X.env)).any (·.1) = false := by rfl) : PE X (.Call (.Name x p) (e :: es) [] pos) (tCallG sp dvs E t) := by
  constructor
  intro pins s σ H Q I h
  apply wpAny_Call_Name_kw
  apply ld_glob I hg hm ?_ hdb
  refine PySem.W.callWith_K (h₀ := X.base) I.ok.mod.kin hk (thn (ha.run pos pins s σ H _ I h) ?_) he hpl
  rintro us s1 ⟨vs, H1, I1, r, q⟩
  exact ⟨I1.kIn, run_fnG F hr hb hd (hx σ) I1 r q⟩
theorem pe_callG0 (F : FnG X.prog X.w X.K X.mg X.base k f fd ps sp) (hr : RoomG k X.A) (hg : Gl X x) (hm : X.mg x = some (.ref f)) (hk : PySem.W.keepIn X.K (.ref f) = true) (hb : Binds X.K fd ps ds) (hd : Vals dvs ds)
    (hx : ∀ σ, PassesAt (L2.CX X.prog X.w) X σ (E σ)) (hdb : (x == ("__debug__" : Str)) = false := by decide) : PE X (.Call (.Name x p) [] [] pos) (tCallG sp dvs E tNil) := by
  constructor
  intro pins s σ H Q I h
  apply wpAny_Call_Name_kw
  apply ld_glob I hg hm ?_ hdb
  exact PySem.W.callWith_K0 I.kIn hk (run_fnG (us := []) F hr hb hd (hx σ) I .nil h)
end

/-! ### promises over data -/
def wF : WX := fun _ _ _ _ => False
theorem takesF {X : Cx} : Takes X wF := takes_none5
/-- what a def hands back: data; or a new list -/
abbrev PF := List D → (D → Prop) → (Addr → D → Str → Prop) → Prop
structure StpP (F H F' H' : Hp) : Prop where
  ex : Ex F F'
  le : Ex F' H'
  fr : Ex H H'
  fz : ∀ a, F a = none → F' a = none ∨ H a = none
def ResP (K : PySem.W.Frag) : Bool → Hp → Hp → Hp → D → V → Prop
  | false, _, F', _, d, v => Rel K F' [] d v
  | true, H, F', H', d, v => ∃ p xs ds, d = .lst ds ∧ v = .ref p ∧ H p = none ∧ F' p = none ∧ H' p = some (.lst xs) ∧ RelA K F' [] ds xs
def spP (K : PySem.W.Frag) (n : Nat) (fr : Bool) (pf : PF) : Sp := fun vs H Q E => ∃ F ds, ∃ R : D → Prop, ∃ RE : Addr → D → Str → Prop, ds.length = n ∧ Ex F H ∧ RelA K F [] ds vs ∧ pf ds R RE ∧
  (∀ d v F' H', StpP F H F' H' → ResP K fr H F' H' d v → R d → Q v H') ∧ (∀ C dx p w F' H', StpP F H F' H' → XD K F' [] H' dx p w → RE C p w → E (.ref C) dx H')
/-- .. whose first argument is a list that it changes -/
abbrev IF := List D → List D → (D → List D → Prop) → Prop
def spI (K : PySem.W.Frag) (n : Nat) (fr : Bool) (pf : IF) : Sp := fun vs H Q _ => ∃ F ds dk a xs us, ∃ R : D → List D → Prop, ds.length + 1 = n ∧ Ex F H ∧ vs = .ref a :: us ∧ F a = none ∧ H a = some (.lst xs) ∧ RelA K F [] dk xs ∧ RelA K F [] ds us ∧ pf dk ds R ∧
  (∀ d dk' v xs' F' H', Ex F F' → Ex F' H' → (∀ b o, b ≠ a → H b = some o → H' b = some o) → (∀ b, F b = none → F' b = none ∨ H b = none) → F' a = none → H' a = some (.lst xs') → RelA K F' [] dk' xs' → ResP K fr H F' H' d v → R d dk' → Q v H')

section
variable {K : PySem.W.Frag} {F F' H H' : Hp} {al : List Addr} {M : MH}
theorem StpP.stp (a : StpP F H F' H') (h : HR K F al H M) : Stp K F al H M F' al H' M := by
  refine ⟨a.ex, Pre.refl _, ⟨a.le, h.len, fun k x e z => ?_, h.inj, fun k x o e1 e2 => ?_⟩, fun b o e _ => a.fr b o e, fun _ _ l => l, (Stp.refl h).new, Nat.le_refl _, fun x e => ?_⟩
  · cases q : H x with
    | none => exact h.trk k x e q
    | some o => rw [a.fr x o q] at z; cases z
  · refine (h.mem k x o e1 e2).mono a.ex (Pre.refl _) (fun u _ q => a.fr x u q) fun q => ?_
    rcases a.fz x q with z | z
    · exact z
    · exact absurd z (h.trk k x e1)
  · rcases a.fz x e with z | z
    · exact .inl z
    · exact .inr (.inl z)
theorem Stp.toP {al' : List Addr} {M' : MH} (a : Stp K F [] H [] F' al' H' M') : StpP F H F' H' :=
  ⟨a.ex, a.hr.ext, fun b o e => a.fr b o e fun k z => by simp at z, fun x e => by
    rcases a.fzn x e with z | z | ⟨k, z, _⟩
    · exact .inl z
    · exact .inr z
    · simp at z⟩
/-- no list within -/
def NoL (F G : Hp) : Prop := ∀ a o, F a = some o → (∀ xs, o ≠ .lst xs) → G a = some o
mutual
def D.scal : D → Bool
  | .non => true
  | .bl _ => true
  | .int _ => true
  | .str _ => true
  | .ty _ => true
  | .cls _ => true
  | .tup ds => scalA ds
  | .kt ds => scalA ds
  | .ins _ _ ds => scalA ds
  | .err _ _ ds => scalA ds
  | .dct _ ds => scalA ds
  | .lst _ => false
  | .scr _ => false
  | .loc _ => false
def scalA : List D → Bool
  | [] => true
  | d :: ds => D.scal d && scalA ds
end
section
variable {G : Hp} {al' : List Addr}
theorem exo_lst {e C : Addr} {d : Option Addr} {xs : List V} : exo e C d ≠ .lst xs := fun z => by
  have z' : HO.ext _ = HO.lst xs := z
  cases z'
theorem exd_lst {e : Addr} {fs : List (Str × V)} {xs : List V} : exd e fs ≠ .lst xs := fun z => by
  have z' : HO.ext _ = HO.lst xs := z
  cases z'
theorem NoL.sqt {a : Addr} {xs : List V} (n : NoL F G) (h : SqT K F a xs) : SqT K G a xs := by
  rcases h with (h | ⟨o, h⟩) | h
  · exact .inl (.inl (n a _ h fun xs e => by cases e))
  · exact .inl (.inr ⟨o, n a _ h fun xs e => by cases e⟩)
  · exact .inr h
mutual
theorem Rel.scal (n : NoL F G) : ∀ {d : D} {v : V}, D.scal d = true → Rel K F al d v → Rel K G al' d v
  | .non, _, _, r => r
  | .bl _, _, _, r => r
  | .int _, _, _, r => r
  | .str _, _, _, r => r
  | .ty _, _, _, r => r
  | .cls _, _, _, r => r
  | .tup _, _, h, ⟨a, xs, h1, h2, h3⟩ => ⟨a, xs, h1, n.sqt h2, RelA.scal n h h3⟩
  | .kt _, _, h, ⟨a, xs, h1, h2, h3⟩ => ⟨a, xs, h1, n a _ h2 (fun xs e => by cases e), RelA.scal n h h3⟩
  | .ins _ _ _, _, h, ⟨a, dx, xs, h1, h2, h3⟩ => ⟨a, dx, xs, h1, n a _ h2 (fun xs e => by cases e), RelA.scal n h h3⟩
  | .err _ _ _, _, h, ⟨a, dx, xs, h1, h2, h4, h3⟩ => ⟨a, dx, xs, h1, n a _ h2 (fun xs => exo_lst), n dx _ h4 (fun xs => exd_lst), RelA.scal n h h3⟩
  | .dct _ _, _, h, ⟨a, xs, h1, h2, h3⟩ => ⟨a, xs, h1, n a _ h2 (fun xs e => by cases e), RelA.scal n h h3⟩
  | .lst _, _, h, _ => by cases h
  | .scr _, _, h, _ => by cases h
  | .loc _, _, h, _ => by cases h
theorem RelA.scal (n : NoL F G) : ∀ {ds : List D} {xs : List V}, scalA ds = true → RelA K F al ds xs → RelA K G al' ds xs
  | [], _, _, r => r
  | _ :: _, _, h, ⟨y, ys, h1, h2, h3⟩ => by
    have h' := Bool.and_eq_true_iff.mp h
    exact ⟨y, ys, h1, Rel.scal n h'.1 h2, RelA.scal n h'.2 h3⟩
end
end
def resScal : Bool → D → Bool
  | true, .lst ds => scalA ds
  | _, d => D.scal d
mutual
theorem Rel.nolocs : ∀ {d : D} {v : V}, Rel K F [] d v → D.plain d = true
  | .non, _, _ => rfl
  | .bl _, _, _ => rfl
  | .int _, _, _ => rfl
  | .str _, _, _ => rfl
  | .tup _, _, ⟨_, _, _, _, h⟩ => RelA.nolocs h
  | .lst _, _, ⟨_, _, _, _, h⟩ => RelA.nolocs h
  | .scr _, _, ⟨_, _, _, _, h⟩ => RelA.nolocs h
  | .loc _, _, ⟨_, h, _⟩ => by simp at h
  | .ty _, _, _ => rfl
  | .cls _, _, _ => rfl
  | .kt _, _, ⟨_, _, _, _, h⟩ => RelA.nolocs h
  | .ins _ _ _, _, ⟨_, _, _, _, _, h⟩ => RelA.nolocs h
  | .err _ _ _, _, ⟨_, _, _, _, _, _, h⟩ => RelA.nolocs h
  | .dct _ _, _, ⟨_, _, _, _, h⟩ => RelA.nolocs h
theorem RelA.nolocs : ∀ {ds : List D} {xs : List V}, RelA K F [] ds xs → plainA ds = true
  | [], _, _ => rfl
  | _ :: _, _, ⟨_, _, _, h2, h3⟩ => by
    show (D.plain _ && plainA _) = true
    rw [Rel.nolocs h2, RelA.nolocs h3]; rfl
end
end

/-! ### handing over -/
/-- arguments as data; whether a thing of the store is lent -/
def prep1 (M : MH) : D → Option (D × Bool)
  | .loc k => match M[k]? with
    | some (.lst ds) => if plainA ds then some (.lst ds, true) else none
    | some (.frz ds) => if plainA ds then some (.lst ds, true) else none
    | _ => none
  | d => if D.plain d then some (d, false) else none
def prepA (M : MH) : List D → Option (List D × Bool)
  | [] => some ([], false)
  | d :: ds => match prep1 M d, prepA M ds with
    | some (x, b), some (xs, c) => some (x :: xs, b || c)
    | _, _ => none
def isLs : Option MO → Prop
  | some (.lst _) => True
  | _ => False
open Classical in
/-- all lists that live counted as known -/
noncomputable def lent (F H : Hp) (al : List Addr) (M : MH) : Hp := fun b => if ∃ k : Nat, al[k]? = some b ∧ isLs M[k]? then H b else F b
section
variable {K : PySem.W.Frag} {F F' H H' : Hp} {al : List Addr} {M : MH}
theorem lent_ex (h : HR K F al H M) : Ex F (lent F H al M) := fun a o e => by
  unfold lent
  split
  · exact h.ext a o e
  · exact e
theorem lent_le (h : HR K F al H M) : Ex (lent F H al M) H := fun a o e => by
  unfold lent at e
  split at e
  · exact e
  · exact h.ext a o e
theorem lent_at {a : Addr} {k : Nat} (e : al[k]? = some a) (l : isLs M[k]?) : lent F H al M a = H a := by
  unfold lent
  rw [if_pos ⟨k, e, l⟩]
theorem prep1_rel (h : HR K F al H M) {d d' : D} {v : V} {b : Bool} (r : Rel K F al d v) (e : prep1 M d = some (d', b)) : Rel K (lent F H al M) [] d' v ∧ (b = false → Rel K F [] d' v) := by
  have key : ∀ d : D, (if D.plain d then some (d, false) else none) = some (d', b) → Rel K F al d v → Rel K (lent F H al M) [] d' v ∧ (b = false → Rel K F [] d' v) := fun d e r => by
    split at e
    · rename_i hp
      cases e
      have z := Rel.plain (al' := []) hp r
      exact ⟨z.mono (lent_ex h) (Pre.refl _), fun _ => z⟩
    · cases e
  cases d with
  | loc k =>
    simp only [prep1] at e
    obtain ⟨a, r1, r2⟩ := r
    subst r2
    split at e
    · rename_i ds hm
      split at e
      · rename_i hp
        cases e
        obtain ⟨_, xs, e1, r3⟩ := h.mem k a _ r1 hm
        refine ⟨⟨a, xs, rfl, ?_, (RelA.plain hp r3).mono (lent_ex h) (Pre.refl _)⟩, fun z => by cases z⟩
        rw [lent_at r1 (by rw [hm]; trivial)]
        exact e1
      · cases e
    · rename_i ds hm
      split at e
      · rename_i hp
        cases e
        obtain ⟨xs, e1, r3⟩ := h.mem k a _ r1 hm
        exact ⟨⟨a, xs, rfl, lent_ex h _ _ e1, (RelA.plain hp r3).mono (lent_ex h) (Pre.refl _)⟩, fun z => by cases z⟩
      · cases e
    · cases e
  | non => exact key .non e r
  | bl c => exact key (.bl c) e r
  | int i => exact key (.int i) e r
  | str x => exact key (.str x) e r
  | tup ds => exact key (.tup ds) e r
  | lst ds => exact key (.lst ds) e r
  | scr ds => exact key (.scr ds) e r
  | ty n => exact key (.ty n) e r
  | cls n => exact key (.cls n) e r
  | kt ds => exact key (.kt ds) e r
  | ins C ns ds => exact key (.ins C ns ds) e r
  | err C ns ds => exact key (.err C ns ds) e r
  | dct ks ds => exact key (.dct ks ds) e r
theorem prepA_rel (h : HR K F al H M) : ∀ {ds ds' : List D} {vs : List V} {b : Bool}, RelA K F al ds vs → prepA M ds = some (ds', b) → RelA K (lent F H al M) [] ds' vs ∧ (b = false → RelA K F [] ds' vs)
  | [], _, _, _, r, e => by cases e; exact ⟨r, fun _ => r⟩
  | d :: ds, ds', _, b, ⟨y, ys, h1, h2, h3⟩, e => by
    unfold prepA at e
    split at e
    · rename_i x b1 xs c e1 e2
      cases e
      obtain ⟨p1, p2⟩ := prep1_rel h h2 e1
      obtain ⟨q1, q2⟩ := prepA_rel h h3 e2
      refine ⟨⟨y, ys, h1, p1, q1⟩, fun z => ?_⟩
      rw [Bool.or_eq_false_iff] at z
      exact ⟨y, ys, h1, p2 z.1, q2 z.2⟩
    · cases e
theorem prepA_len : ∀ {ds ds' : List D} {b : Bool}, prepA M ds = some (ds', b) → ds'.length = ds.length
  | [], _, _, e => by cases e; rfl
  | d :: ds, ds', b, e => by
    unfold prepA at e
    split at e
    · rename_i x b1 xs c e1 e2
      cases e
      simp [prepA_len e2]
    · cases e
/-- behind a call to which things were lent: what was lent is ours again -/
theorem unlend (h : HR K F al H M) (a : StpP (lent F H al M) H F' H') : ∃ F2, StpP F H F2 H' ∧ (∀ p, H p = none → F2 p = F' p) ∧ NoL F' F2 := by
  classical
  refine ⟨fun b => if F b = none ∧ H b ≠ none then none else F' b, ⟨fun b o e => ?_, fun b o e => ?_, a.fr, fun b e => ?_⟩, fun p hp => ?_, fun b o e nl => ?_⟩
  · show (if F b = none ∧ H b ≠ none then none else F' b) = some o
    rw [if_neg (by rw [e]; simp)]
    exact a.ex b o (lent_ex h b o e)
  · have e' : (if F b = none ∧ H b ≠ none then none else F' b) = some o := e
    split at e'
    · cases e'
    · exact a.le b o e'
  · show (if F b = none ∧ H b ≠ none then none else F' b) = none ∨ H b = none
    by_cases q : H b = none
    · exact .inr q
    · exact .inl (if_pos ⟨e, q⟩)
  · show (if F p = none ∧ H p ≠ none then none else F' p) = F' p
    rw [if_neg (by rw [hp]; simp)]
  · show (if F b = none ∧ H b ≠ none then none else F' b) = some o
    split
    · rename_i q
      exfalso
      by_cases l : ∃ k : Nat, al[k]? = some b ∧ isLs M[k]?
      · obtain ⟨k, e1, l⟩ := l
        have lt := lent_at (F := F) (H := H) e1 l
        cases hm : M[k]? with
        | none => rw [hm] at l; exact l
        | some m =>
          rw [hm] at l
          cases m with
          | lst ds =>
            obtain ⟨_, xs, hx, _⟩ := h.mem k b _ e1 hm
            rw [hx] at lt
            have := a.ex b _ lt
            rw [e] at this
            exact nl xs (Option.some.inj this)
          | _ => exact l
      · have lf : lent F H al M b = none := by
          unfold lent
          rw [if_neg l]
          exact q.1
        rcases a.fz b lf with z | z
        · rw [e] at z; cases z
        · exact q.2 z
    · exact e
end
/-- what is done with what comes back -/
def resK (fr fz : Bool) (d : D) (M : MH) (R : DK) : Prop := match fr, d with
  | true, .lst xs => nw fz xs M R
  | true, _ => False
  | false, d => R d M
/-- the call of a def that keeps spP -/
def dCallP (n : Nat) (pf : PF) (fr fz : Bool) (dds : List D) (mas : DA) : DE := fun r M R => mas r M fun ds M1 => match prepA M1 ds with
  | some (args, bor) => (args ++ dds).length = n ∧ pf (args ++ dds) (fun d => (bor = true → resScal fr d = true) ∧ resK fr fz d M1 R) (fun C p w => (bor = true → D.scal p = true) ∧ r.ex r.sl C p w M1)
  | none => False
section
variable {K : PySem.W.Frag} {W : WX} {F F' H H' : Hp} {al : List Addr} {M : MH} {R : DK} {Q : VK}
theorem resP_out {fr fz : Bool} {d : D} {v : V} {M2 : MH} (h : HR K F al H M) (st : Stp K F al H M F' al H' M2) (r : ResP K fr H F' H' d v) (q : resK fr fz d M2 R) (k : Out K F al H M R Q) : Q v H' := by
  cases fr with
  | false => exact k _ _ _ _ d _ st ((show Rel K F' [] d v from r).mono (fun _ _ e => e) fun k x e => by simp at e) q
  | true =>
    obtain ⟨p, xs, ds, rfl, rfl, hp, fp, e, ra⟩ := r
    have q' : nw fz ds M2 R := q
    have ra' : RelA K F' al ds xs := ra.mono (fun _ _ e => e) fun k x e => by simp at e
    have ne : ∀ (k : Nat) (b : Addr), al[k]? = some b → b ≠ p := fun k b e z => h.trk k b e (by rw [z]; exact hp)
    cases fz with
    | true =>
      have a2 : Stp K F al H M (upd F' p (.lst xs)) al H' M2 := by
        refine ⟨fun b o z => ?_, Pre.refl _, ⟨fun b o z => ?_, st.hr.len, st.hr.trk, st.hr.inj, fun j b o z1 z2 => ?_⟩, st.fr, st.old, st.new, st.le, fun b z => ?_⟩
        · have hb : b ≠ p := fun q => by have := st.ex b o z; rw [q, fp] at this; cases this
          rw [upd_ne hb]; exact st.ex b o z
        · by_cases hb : b = p
          · subst hb; rw [upd_same] at z; cases z; exact e
          · rw [upd_ne hb] at z; exact st.hr.ext b o z
        · exact (st.hr.mem j b o z1 z2).mono (Evl.Ex.new fp) (Pre.refl _) (fun _ _ q => q) fun q => by rw [upd_ne (ne j b z1)]; exact q
        · by_cases hb : b = p
          · subst hb; exact .inr (.inl hp)
          · rw [upd_ne hb]; exact st.fzn b z
      exact k _ _ _ _ (.lst ds) M2 a2 ⟨p, xs, rfl, upd_same, ra'.mono (Evl.Ex.new fp) (Pre.refl _)⟩ q'
    | false =>
      have lm : ∀ k, k < M2.length → (M2 ++ [MO.lst ds])[k]? = M2[k]? := fun k hk => List.getElem?_append_left hk
      have hl := st.hr.len
      have hl0 := h.len
      have hle := st.le
      refine k _ _ F' (al ++ [p]) (.loc M2.length) (M2 ++ [MO.lst ds]) ⟨st.ex, Pre.app _ _, ⟨st.hr.ext, by simp [hl], fun k b z => ?_, fun k j b z1 z2 l => ?_, fun k b o z1 z2 => ?_⟩, st.fr, fun k hk l => by rw [lm k (by omega)] at l; exact st.old k hk l, fun k b z l => ?_, by simp; omega, st.fzn⟩ ⟨p, ?_, rfl⟩ (show R (.loc M2.length) (M2 ++ [MO.lst ds]) from q)
      · rcases app_get z with ⟨z, _⟩ | ⟨_, z⟩
        · exact st.hr.trk k b z
        · subst z; rw [e]; simp
      · rcases app_get z1 with ⟨z1, k1⟩ | ⟨k1, z1⟩
        · rcases app_get z2 with ⟨z2, k2⟩ | ⟨k2, z2⟩
          · rw [lm k (by omega)] at l
            exact st.hr.inj k j b z1 z2 l
          · subst z2; exact absurd rfl (ne k _ z1)
        · rcases app_get z2 with ⟨z2, k2⟩ | ⟨k2, z2⟩
          · subst z1; exact absurd rfl (ne j _ z2)
          · omega
      · rcases app_get z1 with ⟨z1, k1⟩ | ⟨k1, z1⟩
        · rw [lm k (by omega)] at z2
          exact (st.hr.mem k b o z1 z2).mono (fun _ _ e => e) (Pre.app _ _) (fun w _ q => q) fun q => q
        · subst z1
          rcases app_get z2 with ⟨z2, k2⟩ | ⟨k2, z2⟩
          · omega
          · subst z2
            exact ⟨fp, xs, e, ra'.mono (fun _ _ e => e) (Pre.app _ _)⟩
      · rcases app_get z with ⟨z, k1⟩ | ⟨k1, z⟩
        · omega
        · subst z; exact hp
      · have z : M2.length = al.length := hl.symm
        rw [z, List.getElem?_append_right (Nat.le_refl _)]
        simp
theorem resP_scal {fr : Bool} {d : D} {v : V} {G : Hp} (z : resScal fr d = true) (r : ResP K fr H F' H' d v) (hp : ∀ p, H p = none → G p = F' p) (nl : NoL F' G) : ResP K fr H G H' d v := by
  cases fr with
  | false =>
    exact Rel.scal nl (show D.scal d = true from z) r
  | true =>
    obtain ⟨p, xs, ds, rfl, rfl, h0, fp, e, ra⟩ := r
    exact ⟨p, xs, ds, rfl, rfl, h0, by rw [hp p h0]; exact fp, e, RelA.scal nl z ra⟩
end

theorem XD.mono {K : PySem.W.Frag} {F F' : Hp} {al al' : List Addr} {H : Hp} {dx : Option Addr} {p : D} {w : Str} (x : XD K F al H dx p w) (e : Ex F F') (q : Pre al al') : XD K F' al' H dx p w :=
  let ⟨d, fs, v, h1, h2, h3, h4, h5⟩ := x
  ⟨d, fs, v, h1, h2, h3, h4.mono e q, h5⟩
theorem preNil (al : List Addr) : Pre [] al := fun k x e => by simp at e
section
variable {X : Cx} {W : WX} {k n : Nat} {f : Addr} {fd : FuncData} {ps : List Str} {pf : PF} {fr : Bool} {dvs : List V} {ds : List Value} {dds : List D} {x : Str} {p pos : Pos} {e : Expr} {es : List Expr} {mas : DA}
theorem sim_callP {fz : Bool} (hdd : ∀ G, RelA X.K G [] dds dvs) : ∀ s H Q, lE X.K W (dCallP n pf fr fz dds mas) s H Q → tCallG (spP X.K n fr pf) dvs (WE W) (lA X.K W mas) s H Q := by
  rintro s H Q ⟨F0, al, r, M, R, er, hr0, hm0, k⟩
  refine ⟨F0, al, r, M, _, er, hr0, hm0, fun vs H1 F1 al1 ds M1 s1 r1 hm1 => ?_⟩
  split at hm1
  · rename_i args bor e1
    obtain ⟨hn, hp⟩ := hm1
    have h1 := s1.hr
    have er1 := er.step hr0 s1
    have k1 := Out.step hr0 k s1
    obtain ⟨q1, q2⟩ := prepA_rel h1 r1 e1
    cases bor with
    | false =>
      refine ⟨F1, args ++ dds, _, _, hn, h1.ext, (q2 rfl).app (hdd F1), hp, fun d v F' H' a res q => resP_out h1 (a.stp h1) res q.2 k1, fun C dx p w F' H' a xd q => ?_⟩
      exact er1.xe C dx p w s r.sl H' F' al1 M1 (a.stp h1) (er1.es.mono a.ex (Pre.refl _)) (xd.mono (fun _ _ e => e) (preNil _)) q.2
    | true =>
      refine ⟨lent F1 H1 al1 M1, args ++ dds, _, _, hn, lent_le h1, q1.app (hdd _), hp, fun d v F' H' a res q => ?_, fun C dx p w F' H' a xd q => ?_⟩
      · obtain ⟨F2, a2, hF2, nl⟩ := unlend h1 a
        exact resP_out h1 (a2.stp h1) (resP_scal (q.1 rfl) res hF2 nl) q.2 k1
      · obtain ⟨F2, a2, hF2, nl⟩ := unlend h1 a
        obtain ⟨d, fs, v, z1, z2, z3, z4, z5⟩ := xd
        exact er1.xe C dx p w s r.sl H' F2 al1 M1 (a2.stp h1) (er1.es.mono a2.ex (Pre.refl _)) ⟨d, fs, v, z1, z2, z3, Rel.scal nl (q.1 rfl) z4, z5⟩ q.2
  · exact hm1.elim
theorem me_callP (fz : Bool) (F : FnG X.prog X.w X.K X.mg X.base k f fd ps (spP X.K n fr pf)) (hr : RoomG k X.A) (hm : X.mg x = some (.ref f)) (hk : PySem.W.keepIn X.K (.ref f) = true) (hb : Binds X.K fd ps ds) (hd : Vals dvs ds) (hdd : ∀ G, RelA X.K G [] dds dvs) (tk : Takes X W)
    (ha : MA X W (e :: es) mas) (hg : Gl X x := by rfl) (hdb : (x == ("__debug__" : Str)) = false := by decide) (he : starEach (e :: es) X.env = (false, eval e X.env) :: starEach es X.env := by rfl)
    (hpl : (backTo pos (starEach es X.env)).any (·.1) = false := by rfl) : ME X W (.Call (.Name x p) (e :: es) [] pos) (dCallP n pf fr fz dds mas) :=
  PE.imp (pe_callGG F hr hg hm hk hb hd (fun σ => passAt tk σ) ha hdb he hpl) (sim_callP hdd)
theorem me_callP0 (fz : Bool) (F : FnG X.prog X.w X.K X.mg X.base k f fd ps (spP X.K n fr pf)) (hr : RoomG k X.A) (hm : X.mg x = some (.ref f)) (hk : PySem.W.keepIn X.K (.ref f) = true) (hb : Binds X.K fd ps ds) (hd : Vals dvs ds) (hdd : ∀ G, RelA X.K G [] dds dvs) (tk : Takes X W)
    (hg : Gl X x := by rfl) (hdb : (x == ("__debug__" : Str)) = false := by decide) : ME X W (.Call (.Name x p) [] [] pos) (dCallP n pf fr fz dds dNil) :=
  PE.imp (pe_callG0 F hr hg hm hk hb hd (fun σ => passAt tk σ) hdb) fun s H Q h => by
    have z := sim_callP (fz := fz) (mas := dNil) hdd s H Q h
    obtain ⟨F0, al, r, M, R, er, hr0, hm0, k⟩ := z
    exact k [] _ _ _ [] _ (Stp.refl hr0) rfl hm0
/-- the call of a def that changes its first argument, a list -/
def callIK (n : Nat) (pf : IF) (fr fz : Bool) (R : DK) (d0 : D) (ds : List D) (M1 : MH) : Prop := match d0 with
  | .loc k => (match M1[k]? with
    | some (.lst dk) => (ds.length + 1 = n ∧ plainA dk = true ∧ plainA ds = true) ∧ pf dk ds fun d dk' => plainA dk' = true ∧ resK fr fz d (M1.set k (.lst dk')) R
    | _ => False)
  | _ => False
def dCallI (n : Nat) (pf : IF) (fr fz : Bool) (ma : DE) (mas : DA) : DE := fun r M R => ma r M fun d0 M0 => mas r M0 fun ds M1 => callIK n pf fr fz R d0 ds M1
theorem stp_set {K : PySem.W.Frag} {F F' H H' : Hp} {al : List Addr} {M : MH} {k : Nat} {a : Addr} {ds ds' : List D} {xs' : List V} (h : HR K F al H M) (ea : al[k]? = some a) (ek : M[k]? = some (.lst ds)) (ex : Ex F F') (le : Ex F' H') (fr : ∀ b o, b ≠ a → H b = some o → H' b = some o)
    (fz : ∀ b, F b = none → F' b = none ∨ H b = none) (fa : F' a = none) (e : H' a = some (.lst xs')) (ra : RelA K F' al ds' xs') : Stp K F al H M F' al H' (M.set k (.lst ds')) := by
  have hl := h.len
  have hk : k < M.length := (List.getElem?_eq_some_iff.mp ek).1
  have lk : live M[k]? := by rw [ek]; trivial
  have get : ∀ j, (M.set k (MO.lst ds'))[j]? = if k = j then some (MO.lst ds') else M[j]? := fun j => by
    rw [List.getElem?_set]
    split
    · first
        | rfl
        | rw [if_pos hk]
    · rfl
  have lv : ∀ j, live (M.set k (MO.lst ds'))[j]? → live M[j]? := fun j l => by
    rw [get] at l
    split at l
    · rename_i z; subst z; exact lk
    · exact l
  refine ⟨ex, Pre.refl _, ⟨le, by simp [hl], fun j b z => ?_, fun j i b z1 z2 l => h.inj j i b z1 z2 (lv j l), fun j b o z1 z2 => ?_⟩, fun b o z n => fr b o (fun q => n k (by rw [q]; exact ea) lk) z, fun j _ l => lv j l, (Stp.refl h).new, by simp, fun b z => ?_⟩
  · by_cases q : b = a
    · rw [q, e]; simp
    · have t := h.trk j b z
      cases w : H b with
      | none => exact absurd w t
      | some o => rw [fr b o q w]; simp
  · rw [get] at z2
    split at z2
    · rename_i q
      subst q
      cases z2
      rw [ea] at z1; cases z1
      exact ⟨fa, xs', e, ra⟩
    · rename_i q
      have nb : b ≠ a := fun w => q (h.inj k j a ea (by rw [← w]; exact z1) lk)
      refine (h.mem j b o z1 z2).mono ex (Pre.refl _) (fun u _ w => fr b u nb w) fun w => ?_
      rcases fz b w with y | y
      · exact y
      · exact absurd y (h.trk j b z1)
  · rcases fz b z with y | y
    · exact .inl y
    · exact .inr (.inl y)
theorem me_callI {pf : IF} {a : Expr} {ma : DE} (fz : Bool) (F : FnG X.prog X.w X.K X.mg X.base k f fd ps (spI X.K n fr pf)) (hr : RoomG k X.A) (hm : X.mg x = some (.ref f)) (hk : PySem.W.keepIn X.K (.ref f) = true) (hb : Binds X.K fd ps []) (tk : Takes X W)
    (ha : ME X W a ma) (has : MA X W es mas) (hg : Gl X x := by rfl) (hdb : (x == ("__debug__" : Str)) = false := by decide) (he : starEach (a :: es) X.env = (false, eval a X.env) :: starEach es X.env := by rfl)
    (hpl : (backTo pos (starEach es X.env)).any (·.1) = false := by rfl) : ME X W (.Call (.Name x p) (a :: es) [] pos) (dCallI n pf fr fz ma mas) := by
  refine PE.imp (pe_callGG F hr hg hm hk hb .nil (fun σ => passAt tk σ) (ma_cons ha has he) hdb he hpl) ?_
  rintro s H Q ⟨F0, al, r, M, R, er, hr0, hm0, kk⟩
  refine ⟨F0, al, r, M, fun dds M1 => ∃ d0 ds, dds = d0 :: ds ∧ callIK n pf fr fz R d0 ds M1, er, hr0, ?_, fun vs H1 F1 al1 dds M1 s1 r1 hm1 => ?_⟩
  · show ma r M fun d M0 => mas r M0 fun ds M1 => ∃ d0 ds', d :: ds = d0 :: ds' ∧ callIK n pf fr fz R d0 ds' M1
    have e : (fun d M0 => mas r M0 fun ds M1 => ∃ d0 ds', d :: ds = d0 :: ds' ∧ callIK n pf fr fz R d0 ds' M1) = fun d0 M0 => mas r M0 fun ds M1 => callIK n pf fr fz R d0 ds M1 := by
      funext d M0
      congr 1
      funext ds M1
      apply propext
      constructor
      · rintro ⟨_, _, z, w⟩; cases z; exact w
      · exact fun w => ⟨_, _, rfl, w⟩
    rw [e]
    exact hm0
  · obtain ⟨d0, ds, rfl, hc⟩ := hm1
    have h1 := s1.hr
    have k1 := Out.step hr0 kk s1
    unfold callIK at hc
    split at hc
    · rename_i j
      split at hc
      · rename_i dk ek
        obtain ⟨⟨c1, c2, c3⟩, hp⟩ := hc
        obtain ⟨y, ys, rfl, ⟨a, ea, rfl⟩, r3⟩ := r1
        obtain ⟨fa, xs, e1, ra⟩ := h1.mem j a _ ea ek
        refine ⟨F1, ds, dk, a, xs, ys, _, c1, h1.ext, by rw [List.append_nil], fa, e1, RelA.plain c2 ra, RelA.plain c3 r3, hp, fun d dk' v xs' F' H' ex le fr fz fa' e2 rk rd q => ?_⟩
        exact resP_out h1 (stp_set h1 ea ek ex le fr fz fa' e2 (rk.mono (fun _ _ e => e) (preNil _))) rd q.2 k1
      · exact hc.elim
    · exact hc.elim
end
end DL

set_option Elab.async false
set_option linter.all false
set_option maxRecDepth 100000
set_option maxHeartbeats 2000000
namespace DL
open PySem PySem.Spec L2
open Evl (Ex)
open PyProof.Rows (b2i)

/-! ### targets -/
inductive Pat where
  | nm (i : Nat) | tp (ps : List Pat)
mutual
def bindP : Pat → D → SL → Option SL
  | .nm i, d, r => some (r.set i (some d))
  | .tp ps, .tup ds, r => bindPs ps ds r
  | .tp ps, .kt ds, r => bindPs ps ds r
  | .tp _, _, _ => none
def bindPs : List Pat → List D → SL → Option SL
  | [], [], r => some r
  | p :: ps, d :: ds, r => match bindP p d r with
    | some r' => bindPs ps ds r'
    | none => none
  | _, _, _ => none
end
theorem ES.set {K : PySem.W.Frag} {F : Hp} {al : List Addr} {s : L2.St} {r : SL} {d : D} {v : V} {i : Nat} (h : ES K F al s r) (q : Rel K F al d v) : ES K F al (s.set i (some v)) (r.set i (some d)) := by
  refine ⟨by simp [h.1], fun j e z => ?_⟩
  have hl := h.1
  rw [List.getElem?_set] at z ⊢
  by_cases hij : i = j
  · subst hij
    rw [if_pos rfl] at z ⊢
    by_cases hi : i < r.length
    · rw [if_pos hi] at z
      rw [if_pos (by omega)]
      cases z
      exact ⟨v, rfl, q⟩
    · rw [if_neg hi] at z; cases z
  · rw [if_neg hij] at z ⊢
    exact h.2 j e z
mutual
def ixP : Pat → List Nat
  | .nm i => [i]
  | .tp ps => ixPs ps
def ixPs : List Pat → List Nat
  | [] => []
  | p :: ps => ixP p ++ ixPs ps
end
/-- the same but for these slots -/
def Same (l : List Nat) (s s' : L2.St) : Prop := s'.length = s.length ∧ ∀ j : Nat, j ∉ l → s'[j]? = s[j]?
theorem Same.set {s : L2.St} {i : Nat} {v : Option V} : Same [i] s (s.set i v) := ⟨by simp, fun j hj => by rw [List.getElem?_set_ne (fun e => hj (by simp [e]))]⟩
theorem Same.app {l m : List Nat} {s s' s2 : L2.St} (a : Same l s s') (b : Same m s' s2) : Same (l ++ m) s s2 := ⟨b.1.trans a.1, fun j hj => by
  rw [List.mem_append, not_or] at hj
  exact (b.2 j hj.2).trans (a.2 j hj.1)⟩
def lG (K : PySem.W.Frag) (pt : Pat) : TG := fun v s H Q => ∃ F al M d sl sl', ES K F al s sl ∧ HR K F al H M ∧ Rel K F al d v ∧ bindP pt d sl = some sl' ∧ ∀ s', ES K F al s' sl' → Same (ixP pt) s s' → Q s' H
def lGs (K : PySem.W.Frag) (ps : List Pat) : TGs := fun vs s H Q => ∃ F al M ds sl sl', ES K F al s sl ∧ HR K F al H M ∧ RelA K F al ds vs ∧ bindPs ps ds sl = some sl' ∧ ∀ s', ES K F al s' sl' → Same (ixPs ps) s s' → Q s' H
def MG (X : Cx) (tg : Expr) (pt : Pat) : Prop := PG X tg (lG X.K pt)
def MGs (X : Cx) (ts : List Expr) (ps : List Pat) : Prop := PGs X ts (lGs X.K ps)
section
variable {X : Cx} {e : Expr} {es : List Expr} {pos : Pos}
theorem PG.imp {t t' : TG} (h : PG X e t) (i : ∀ v s H Q, t' v s H Q → t v s H Q) : PG X e t' := ⟨fun pins s σ H v u Q I r q => h.run pins s σ H v u Q I r (i _ _ _ _ q)⟩
theorem PGs.imp {t t' : TGs} (h : PGs X es t) (i : ∀ v s H Q, t' v s H Q → t v s H Q) : PGs X es t' := ⟨fun pins s σ H v u Q I r q => h.run pins s σ H v u Q I r (i _ _ _ _ q)⟩
theorem mg_name {i : Nat} {x : Str} (hN : X.N.Nodup) (hi : X.N[i]? = some x) (hx : Loc X.env.scope x) (hf : X.fn x = true ∨ X.env.scope.names.lookup x = some .local := by first | exact .inl rfl | exact .inr rfl | assumption) : MG X (.Name x pos) (.nm i) := by
  refine PG.imp (pg_name hN hi hx hf) ?_
  rintro v s H Q ⟨F, al, M, d, sl, sl', es, hr, r, e, k⟩
  cases e
  exact k _ (es.set r) Same.set
theorem mgs_nil : MGs X [] [] := by
  refine PGs.imp pgs_nil ?_
  rintro vs s H Q ⟨F, al, M, ds, sl, sl', es, hr, r, e, k⟩
  cases ds with
  | nil => cases r; cases e; exact ⟨rfl, k _ es ⟨rfl, fun _ _ => rfl⟩⟩
  | cons d ds => cases e
theorem mgs_cons {pt : Pat} {ps : List Pat} (h1 : MG X e pt) (h2 : MGs X es ps) (hs : (assignEach (e :: es) X.env).map (·.2) = assign e X.env :: (assignEach es X.env).map (·.2) := by rfl) : MGs X (e :: es) (pt :: ps) := by
  refine PGs.imp (pgs_cons h1 h2 hs) ?_
  rintro vs s H Q ⟨F, al, M, ds, sl, sl', es, hr, r, e, k⟩
  cases ds with
  | nil => cases e
  | cons d ds =>
    obtain ⟨y, ys, rfl, r1, r2⟩ := r
    unfold bindPs at e
    split at e
    · rename_i r' e1
      exact ⟨y, ys, rfl, F, al, M, d, sl, r', es, hr, r1, e1, fun s' es' sm => ⟨F, al, M, ds, r', sl', es', hr, r2, e, fun s2 es2 sm2 => k s2 es2 (sm.app sm2)⟩⟩
    · cases e
theorem bindPs_len : ∀ {ps : List Pat} {ds : List D} {r r' : SL}, bindPs ps ds r = some r' → ds.length = ps.length
  | [], [], _, _, _ => rfl
  | [], _ :: _, _, _, e => by cases e
  | _ :: _, [], _, _, e => by cases e
  | p :: ps, d :: ds, r, r', e => by
    unfold bindPs at e
    split at e
    · simp [bindPs_len e]
    · cases e
theorem mg_tup {k : Nat} {ps : List Pat} (hc : X.calm = true) (h : MGs X es ps) (hn : (assignEach es X.env).length = ps.length := by rfl) (hst : (assignEach es X.env).findIdx? (·.1) = none := by rfl) : MG X (.Tuple es k pos) (.tp ps) := by
  refine PG.imp (pg_tup hc h hn hst) ?_
  rintro v s H Q ⟨F, al, M, d, sl, sl', es, hr, r, e, k⟩
  cases d with
  | tup ds =>
    obtain ⟨a, xs, rfl, hx, ra⟩ := hr.rdT_ r (show rdT (.tup ds) = some ds from rfl)
    exact ⟨a, xs, rfl, hx, by rw [ra.length, bindPs_len e], F, al, M, ds, sl, sl', es, hr, ra, e, k⟩
  | kt ds =>
    obtain ⟨a, xs, rfl, hx, ra⟩ := hr.rdT_ r (show rdT (.kt ds) = some ds from rfl)
    exact ⟨a, xs, rfl, hx, by rw [ra.length, bindPs_len e], F, al, M, ds, sl, sl', es, hr, ra, e, k⟩
  | _ => cases e
end

/-! ### statements -/
def RH.put (r : RH) (i : Nat) (d : D) : RH := { r with sl := r.sl.set i (some d) }
section
variable {X : Cx} {W : WX} {a b c e : Expr} {es : List Expr} {ma mb me : DE} {mas : DA} {pos p : Pos} {x : Str} {st : Stmt} {sts ss : List Stmt} {m u v : DS} {tc : DT}
theorem ER.put {K : PySem.W.Frag} {W : WX} {F : Hp} {al : List Addr} {H : Hp} {M : MH} {s : L2.St} {r : RH} {i : Nat} {d : D} {v : V} (h : ER K W F al H M s r) (q : Rel K F al d v) : ER K W F al H M (s.set i (some v)) (r.put i d) := ⟨h.es.set q, h.xe, h.xd⟩
theorem ER.sl' {K : PySem.W.Frag} {W : WX} {F : Hp} {al : List Addr} {H : Hp} {M : MH} {s s' : L2.St} {r : RH} {sl : SL} (h : ER K W F al H M s r) (q : ES K F al s' sl) : ER K W F al H M s' { r with sl := sl } := ⟨q, h.xe, h.xd⟩
def mNext : DS := fun E r M => E.nx r M
def mSeq (m u : DS) : DS := fun E r M => m { E with nx := u E } r M
theorem mss_nil : MSs X W [] mNext := by
  refine PSs.imp pss_nil ?_
  rintro D s H ⟨F, al, r, M, E, er, hr, hm, a1, a2, a3, a4⟩
  exact a1 s H F al r M (Stp.refl hr) er hm
theorem lS_seq {K : PySem.W.Frag} : ∀ D s H, lS K W (mSeq m u) D s H → tSeq (lS K W m) (lS K W u) D s H := by
  rintro D s H ⟨F, al, r, M, E, er, hr, hm, a1, a2, a3, a4⟩
  refine ⟨F, al, r, M, { E with nx := u E }, er, hr, hm, ?_, a2, a3, a4⟩
  intro s' H' F' al' r' M' st er' hm'
  exact ⟨F', al', r', M', E, er', st.hr, hm', Aft.trans hr st a1, Aft.trans hr st a2, Aft.trans hr st a3, fun v H2 F2 al2 d M2 b q1 q2 => a4 v H2 F2 al2 d M2 (st.trans hr b) q1 q2⟩
theorem mss_cons (h1 : MS X W st m) (h2 : MSs X W sts u) : MSs X W (st :: sts) (mSeq m u) := PSs.imp (pss_cons h1 h2) lS_seq
theorem mss_one (h1 : MS X W st m) : MSs X W [st] m := pss_one h1
/-- a ghost's turn: a list of ours is data from here on -/
def mFrz (i : Nat) (m : DS) : DS := fun E r M => match r.sl[i]? with
  | some (some (.loc k)) => (match M[k]? with
    | some (.lst ds) => m E (r.put i (.lst ds)) (M.set k (.frz ds))
    | _ => False)
  | _ => False
theorem stp_frz {K : PySem.W.Frag} {F H : Hp} {al : List Addr} {M : MH} {k : Nat} {a : Addr} {ds : List D} {xs : List V} (h : HR K F al H M) (ea : al[k]? = some a) (ek : M[k]? = some (.lst ds)) (fa : F a = none) (e : H a = some (.lst xs)) (ra : RelA K F al ds xs) :
    Stp K F al H M (upd F a (.lst xs)) al H (M.set k (.frz ds)) := by
  have hk : k < M.length := (List.getElem?_eq_some_iff.mp ek).1
  have lk : live M[k]? := by rw [ek]; trivial
  have get : ∀ j, (M.set k (MO.frz ds))[j]? = if k = j then some (MO.frz ds) else M[j]? := fun j => by
    rw [List.getElem?_set]
    split
    · first
        | rfl
        | rw [if_pos hk]
    · rfl
  have lv : ∀ j, live (M.set k (MO.frz ds))[j]? → live M[j]? ∧ k ≠ j := fun j l => by
    rw [get] at l
    split at l
    · exact l.elim
    · rename_i z; exact ⟨l, z⟩
  have ex : Ex F (upd F a (.lst xs)) := Evl.Ex.new fa
  refine ⟨ex, Pre.refl _, ⟨fun b o z => ?_, by simp [h.len], h.trk, fun j i b z1 z2 l => h.inj j i b z1 z2 (lv j l).1, fun j b o z1 z2 => ?_⟩, fun _ _ z _ => z, fun j _ l => (lv j l).1, (Stp.refl h).new, by simp, fun b z => ?_⟩
  · by_cases q : b = a
    · subst q; rw [upd_same] at z; cases z; exact e
    · rw [upd_ne q] at z; exact h.ext b o z
  · rw [get] at z2
    split at z2
    · rename_i q
      subst q
      cases z2
      rw [ea] at z1; cases z1
      exact ⟨xs, upd_same, ra.mono ex (Pre.refl _)⟩
    · rename_i q
      by_cases nb : b = a
      · cases o with
        | dead => trivial
        | lst es =>
          have := h.inj j k a (by rw [← nb]; exact z1) ea (by rw [z2]; trivial)
          exact absurd this.symm q
        | dt ks es =>
          have := h.inj j k a (by rw [← nb]; exact z1) ea (by rw [z2]; trivial)
          exact absurd this.symm q
        | ins C ns es =>
          have := h.inj j k a (by rw [← nb]; exact z1) ea (by rw [z2]; trivial)
          exact absurd this.symm q
        | frz es =>
          obtain ⟨ys, w, _⟩ := h.mem j b _ z1 z2
          rw [nb, fa] at w; cases w
      · exact (h.mem j b o z1 z2).mono ex (Pre.refl _) (fun _ _ w => w) fun w => by rw [upd_ne nb]; exact w
  · by_cases q : b = a
    · subst q; exact .inr (.inr ⟨k, ea, lk⟩)
    · rw [upd_ne q]; exact .inl z
theorem mss_frz (i : Nat) (h : MSs X W sts m) : MSs X W sts (mFrz i m) := by
  refine PSs.imp h ?_
  rintro D s H ⟨F, al, r, M, E, er, hr, hm, a1, a2, a3, a4⟩
  unfold mFrz at hm
  split at hm
  · rename_i k e1
    split at hm
    · rename_i ds e2
      obtain ⟨v, e3, a, ea, rfl⟩ := er.es.2 i _ e1
      obtain ⟨fa, xs, ha, ra⟩ := hr.mem k a _ ea e2
      have st := stp_frz hr ea e2 fa ha ra
      have er' := er.step hr st
      refine ⟨_, al, r.put i (.lst ds), _, E, ⟨?_, er'.xe, er'.xd⟩, st.hr, hm, Aft.trans hr st a1, Aft.trans hr st a2, Aft.trans hr st a3, fun v H2 F2 al2 d M2 b q1 q2 => a4 v H2 F2 al2 d M2 (st.trans hr b) q1 q2⟩
      have z := er'.es.set (i := i) (d := .lst ds) (v := .ref a) ⟨a, xs, rfl, upd_same, ra.mono st.ex (Pre.refl _)⟩
      have e4 : s.set i (some (V.ref a)) = s := by
        apply List.ext_getElem?
        intro j
        rw [List.getElem?_set]
        split
        · rename_i q
          subst q
          have hi : i < s.length := (List.getElem?_eq_some_iff.mp e3).1
          first
            | rw [if_pos hi, e3]
            | rw [e3]
        · rfl
      rw [e4] at z
      exact z
    · exact hm.elim
  · exact hm.elim
def mPass : DS := fun E r M => E.nx r M
theorem ms_pass : MS X W (.Pass pos) mPass := by
  refine PS.imp ps_pass ?_
  rintro D s H ⟨F, al, r, M, E, er, hr, hm, a1, a2, a3, a4⟩
  exact a1 s H F al r M (Stp.refl hr) er hm
def mBreak : DS := fun E r M => E.bk r M
theorem ms_break : MS X W (.Break pos) mBreak := by
  refine PS.imp ps_break ?_
  rintro D s H ⟨F, al, r, M, E, er, hr, hm, a1, a2, a3, a4⟩
  exact a2 s H F al r M (Stp.refl hr) er hm
def mCont : DS := fun E r M => E.ct r M
theorem ms_continue : MS X W (.Continue pos) mCont := by
  refine PS.imp ps_continue ?_
  rintro D s H ⟨F, al, r, M, E, er, hr, hm, a1, a2, a3, a4⟩
  exact a3 s H F al r M (Stp.refl hr) er hm
def mNever : DS := fun _ _ _ => False
theorem ms_never : MS X W st mNever := by
  refine PS.imp ps_never ?_
  rintro D s H ⟨F, al, r, M, E, er, hr, hm, _⟩
  exact hm.elim
theorem mss_never : MSs X W sts mNever := by
  refine PSs.imp pss_never ?_
  rintro D s H ⟨F, al, r, M, E, er, hr, hm, _⟩
  exact hm.elim
/-- name = e -/
def mSet (i : Nat) (me : DE) : DS := fun E r M => me r M fun d M1 => E.nx (r.put i d) M1
theorem ms_set {i : Nat} {x : Str} {pos' : Pos} (hN : X.N.Nodup) (hi : X.N[i]? = some x) (hx : Loc X.env.scope x) (he : ME X W e me) (hs : swapsWith e (some (.Name x pos')) pos.line X.env = pure false := by rfl)
    (hf : X.fn x = true ∨ X.env.scope.names.lookup x = some .local := by first | exact .inl rfl | exact .inr rfl | assumption) : MS X W (.Assign [.Name x pos'] e pos) (mSet i me) := by
  refine PS.imp (ps_set hN hi hx he hs hf) ?_
  rintro D s H ⟨F, al, r, M, E, er, hr, hm, a1, a2, a3, a4⟩
  refine ⟨F, al, r, M, _, er, hr, hm, fun v H1 F1 al1 d M1 s1 r1 hm1 => ?_⟩
  exact a1 _ _ _ _ _ _ s1 ((er.step hr s1).put r1) hm1
/-- target = e, the target a tuple of names -/
def mAsg (pt : Pat) (me : DE) : DS := fun E r M => me r M fun d M1 => match bindP pt d r.sl with
  | some sl => E.nx { r with sl := sl } M1
  | none => False
theorem ms_asg {tg : Expr} {pt : Pat} (he : ME X W e me) (hg : MG X tg pt) (hs : swapsWithSole [tg] e pos.line X.env = pure false := by rfl) (hw : swappedStores [tg] e X.env = pure none := by rfl)
    (h1 : (assignEach [tg] X.env).map (·.2) = [assign tg X.env] := by rfl) : MS X W (.Assign [tg] e pos) (mAsg pt me) := by
  refine PS.imp (ps_asg he hg hs hw h1) ?_
  rintro D s H ⟨F, al, r, M, E, er, hr, hm, a1, a2, a3, a4⟩
  refine ⟨F, al, r, M, _, er, hr, hm, fun v H1 F1 al1 d M1 s1 r1 hm1 => ?_⟩
  split at hm1
  · rename_i sl e1
    have er1 := er.step hr s1
    exact ⟨F1, al1, M1, d, r.sl, sl, er1.es, s1.hr, r1, e1, fun s' es' _ => a1 _ _ _ _ _ _ s1 (er1.sl' es') hm1⟩
  · exact hm1.elim
/-- a, b = e1, e2 -/
def mPar (i j : Nat) (mas : DA) : DS := fun E r M => mas r M fun ds M1 => match ds with
  | [d, e] => E.nx ((r.put i d).put j e) M1
  | _ => False
theorem ms_par {i j : Nat} {x y : Str} {px py pt : Pos} {kt k2 pt2} (hc : X.calm = true) (hN : X.N.Nodup) (hi : X.N[i]? = some x) (hj : X.N[j]? = some y) (hij : i ≠ j) (hx : X.env.scope.names.lookup x = some .local) (hy : X.env.scope.names.lookup y = some .local) (ha : MA X W [a, b] mas)
    (hw : swappedStores [.Tuple [.Name x px, .Name y py] kt pt] (.Tuple [a, b] k2 pt2) X.env = pure (some [x, y])) (hs : swapsWithSole [.Tuple [.Name x px, .Name y py] kt pt] (.Tuple [a, b] k2 pt2) pos.line X.env = pure false := by rfl) :
    MS X W (.Assign [.Tuple [.Name x px, .Name y py] kt pt] (.Tuple [a, b] k2 pt2) pos) (mPar i j mas) := by
  refine PS.imp (ps_par hc hN hi hj hij hx hy ha hw hs) ?_
  rintro D s H ⟨F, al, r, M, E, er, hr, hm, a1, a2, a3, a4⟩
  refine ⟨F, al, r, M, _, er, hr, hm, fun vs H1 F1 al1 ds M1 s1 r1 hm1 => ?_⟩
  split at hm1
  · obtain ⟨y, ys, rfl, ry, z, zs, rfl, rz, rfl⟩ := r1
    exact ⟨y, z, rfl, a1 _ _ _ _ _ _ s1 (((er.step hr s1).put ry).put rz) hm1⟩
  · exact hm1.elim
/-- an expression whose value is dropped -/
def mDrop (me : DE) : DS := fun E r M => me r M fun _ M1 => E.nx r M1
theorem ms_expr (he : ME X W e me) (hs : swapsWith e none pos.line X.env = pure false := by rfl) : MS X W (.Expr e pos) (mDrop me) := by
  refine PS.imp (ps_expr he hs) ?_
  rintro D s H ⟨F, al, r, M, E, er, hr, hm, a1, a2, a3, a4⟩
  refine ⟨F, al, r, M, _, er, hr, hm, fun v H1 F1 al1 d M1 s1 r1 hm1 => ?_⟩
  exact a1 _ _ _ _ _ _ s1 (er.step hr s1) hm1
def mRet (me : DE) : DS := fun E r M => me r M E.rt
theorem ms_ret (he : ME X W e me) : MS X W (.Return (some e) pos) (mRet me) := by
  refine PS.imp (ps_ret he) ?_
  rintro D s H ⟨F, al, r, M, E, er, hr, hm, a1, a2, a3, a4⟩
  exact ⟨F, al, r, M, _, er, hr, hm, a4⟩
def mRetN : DS := fun E _ M => E.rt .non M
theorem ms_retN : MS X W (.Return none pos) mRetN := by
  refine PS.imp ps_retN ?_
  rintro D s H ⟨F, al, r, M, E, er, hr, hm, a1, a2, a3, a4⟩
  exact a4 _ _ _ _ .non _ (Stp.refl hr) rfl hm
def mIf (tc : DT) (m u : DS) : DS := fun E r M => tc r M fun b M1 => if b = true then m E r M1 else u E r M1
theorem ms_if {t f : List Stmt} (hc : MT X W c tc) (ha : MSs X W t m) (hb : MSs X W f u) : MS X W (.If c t f pos) (mIf tc m u) := by
  refine PS.imp (ps_if hc ha hb) ?_
  rintro D s H ⟨F, al, r, M, E, er, hr, hm, a1, a2, a3, a4⟩
  refine ⟨F, al, r, M, _, er, hr, hm, fun b H1 F1 al1 M1 s1 hm1 => ?_⟩
  have er1 := er.step hr s1
  have b4 : ∀ v H2 F2 al2 d M2, Stp X.K F1 al1 H1 M1 F2 al2 H2 M2 → Rel X.K F2 al2 d v → E.rt d M2 → D.rt v H2 := fun v H2 F2 al2 d M2 b q1 q2 => a4 v H2 F2 al2 d M2 (s1.trans hr b) q1 q2
  cases b with
  | true => exact ⟨F1, al1, r, M1, E, er1, s1.hr, hm1, Aft.trans hr s1 a1, Aft.trans hr s1 a2, Aft.trans hr s1 a3, b4⟩
  | false => exact ⟨F1, al1, r, M1, E, er1, s1.hr, hm1, Aft.trans hr s1 a1, Aft.trans hr s1 a2, Aft.trans hr s1 a3, b4⟩
/-- while, by a word and a measure -/
def mWhile (tc : DT) (m : DS) : DS := fun E r M => ∃ Wd : Nat → RH → MH → Prop, (∃ n, Wd n r M) ∧ ∀ n r M, Wd n r M → tc r M fun b M1 => if b = true then
  ∃ N : RH → MH → Prop, (∀ r' M', N r' M' → ∃ n', n' < n ∧ Wd n' r' M') ∧ m { nx := N, ct := N, bk := E.nx, rt := E.rt } r M1 else E.nx r M1
theorem ms_while {body : List Stmt} (hp : PassesOwn (model X.prog X.w) X.A X.env X.xe) (hc : MT X W c tc) (hb : MSs X W body m) : MS X W (.While c body [] pos) (mWhile tc m) := by
  refine PS.imp (ps_while hp hc hb) ?_
  rintro D s H0 ⟨F0, al0, r0, M0, E, er0, hr0, ⟨Wd, ⟨n0, w0⟩, turn⟩, a1, a2, a3, a4⟩
  refine ⟨fun n s H => ∃ F al r M, ER X.K W F al H M s r ∧ Stp X.K F0 al0 H0 M0 F al H M ∧ Wd n r M, ⟨n0, F0, al0, r0, M0, er0, Stp.refl hr0, w0⟩, ?_⟩
  rintro n s H ⟨F, al, r, M, er, st, w⟩
  have hr := st.hr
  refine ⟨F, al, r, M, _, er, hr, turn n r M w, fun b H1 F1 al1 M1 s1 hm1 => ?_⟩
  have st1 := st.trans hr0 s1
  have er1 := er.step hr s1
  cases b with
  | true =>
    obtain ⟨N, hN, hb⟩ := hm1
    refine ⟨fun s' H' => ∃ F al r M, ER X.K W F al H' M s' r ∧ Stp X.K F0 al0 H0 M0 F al H' M ∧ N r M, ?_, F1, al1, r, M1, _, er1, s1.hr, hb, ?_, ?_, ?_, ?_⟩
    · rintro s' H' ⟨F, al, r, M, er, st, n⟩
      obtain ⟨n', l, w'⟩ := hN r M n
      exact ⟨n', l, F, al, r, M, er, st, w'⟩
    · exact fun s' H2 F2 al2 r2 M2 b er2 q => ⟨F2, al2, r2, M2, er2, st1.trans hr0 b, q⟩
    · exact fun s' H2 F2 al2 r2 M2 b er2 q => a1 s' H2 F2 al2 r2 M2 (st1.trans hr0 b) er2 q
    · exact fun s' H2 F2 al2 r2 M2 b er2 q => ⟨F2, al2, r2, M2, er2, st1.trans hr0 b, q⟩
    · exact fun v H2 F2 al2 d M2 b q1 q2 => a4 v H2 F2 al2 d M2 (st1.trans hr0 b) q1 q2
  | false => exact a1 _ _ _ _ _ _ st1 er1 hm1
end
end DL

set_option Elab.async false
set_option linter.all false
set_option maxRecDepth 100000
set_option maxHeartbeats 2000000
/-! # An own exception class over Exception, its __init__ calling super().__init__(place), two classes deep -/
namespace EX
open PySem PySem.Spec PySem.W PySem.Calls PyProof.Rows
open Builtin Builtin.ObjectAttr

section
variable {prog : Program} {w : World} {A : Around} {E : Value → Shared → Prop} {R : Result → Shared → Prop} {hp : Heap} {g : Array GenState} {d : Drawn} {t : Nat} {os : OsState}
/-- a store into an exception's own dict: what stands ahead of it -/
theorem osa_pre {K : Frag} {name : Str} {tk : Tok} {v : Value} {x C : Addr} {ox : Obj} {od : Option Obj} {cd : ClassData}
    (X : K.In hp) (I : InstAt hp x ox C od) (hcd : clsIn K C = some cd) (hm : excTail ESX.exTail cd.mro = true) (ha : findIn K (.ref C) name = some none)
    (hq : wpAny (model prog w) A.in1 (storeInOwnDict (.ref x) (.ref C) (.str name tk) name v false)
      (fun fin s' => match fin with | .done f => R (.ok f) s' | .again c' => c'.quiet = true ∧ codeAny (model prog w) A c' R s') (fun e s' => R (.error e) s') ⟨hp, g, d, t, os⟩) :
    codeAny (model prog w) A (.call (.builtin "object.__setattr__") ⟨[.ref x, .str name tk, v], []⟩) R ⟨hp, g, d, t, os⟩ := by
  have SF := F.store_object
  have hob : cd.mro.contains (.type "object") = true := (excTail_contains "object" _ hm).trans (by decide +kernel)
  have ne : cd.mro.isEmpty = false := by
    cases z : cd.mro with
    | nil => rw [z] at hob; cases hob
    | cons _ _ => rfl
  have sub : Looks (model prog w) hp (isInstance (.ref x) (.type "object")) true := I.type.andThen (looks_mroIn X (by unfold mroIn; rw [hcd, Option.bind_some, if_neg (by rw [ne]; decide), hob]))
  refine codeAny_call_builtin SF.slot.plain SF.entry (@check_slot (model prog w) _ _ ⟨hp, g, d, t, os⟩ "object.__setattr__" "object" "__setattr__" (.ref x) [.str name tk, v] [] _ SF.kind SF.split sub (SF.args (.ref x) (.str name tk) v) ?_)
  have hmr : Looks (model prog w) hp (mroOf (.ref C)) cd.mro := (looks_clsIn X hcd).andThen .now
  have L3 : Looks (model prog w) hp (storeTaker? none) none := .now
  rw [osa_eq, refuse_eq]
  refine wpAny_bind (wpAny_bind (I.type.at (wpAny_bind (hmr.at ?_))))
  rw [excTail_pass _ (F.store_Exception.passes _) _ hm]
  exact wpAny_pure (wpAny_bind (I.type.at (wpAny_bind ((looks_findIn X ha).at (wpAny_bind (L3.at hq))))))
theorem osa_first {K : Frag} {name : Str} {tk : Tok} {v : Value} {x C : Addr} {fv : Array Value} {cd : ClassData}
    (X : K.In hp) (hx : hp.get? x = some { cls := .ref C, data := .fields fv }) (hcd : clsIn K C = some cd) (hm : excTail ESX.exTail cd.mro = true) (hh : cd.hasDict = true) (ha : findIn K (.ref C) name = some none)
    (hq : ∀ h' tk' dx, (∀ b o, b ≠ x → hp.get? b = some o → h'.get? b = some o) → hp.objs.size ≤ dx → dx ≠ x → h'.get? x = some { cls := .ref C, dict := some dx, data := .fields fv } →
      h'.Ns1 dx (fun y => if y = name then some v else none) → R (.ok (.ret .none)) ⟨h', g, d, tk', os⟩) :
    codeAny (model prog w) A (.call (.builtin "object.__setattr__") ⟨[.ref x, .str name tk, v], []⟩) R ⟨hp, g, d, t, os⟩ := by
  have I : InstAt hp x { cls := .ref C, data := .fields fv } C none := ⟨hx, rfl, rfl, trivial⟩
  have hxs : x ≠ hp.objs.size := Nat.ne_of_lt (Heap.lt_size hx)
  refine osa_pre X I hcd hm ha ?_
  have hcls : Looks (model prog w) hp (classData C) cd := looks_clsIn X hcd
  obtain ⟨nm, bs, mro, ns, qn, hd, sn, sb, ab, col, del⟩ := cd
  dsimp only at hh
  subst hh
  unfold storeInOwnDict ownDictForStores
  repeat (first | with_reducible refine HandSPX.store_in_new ?_ ?_ | with_reducible refine wpAny_loadPart_at hx ?_ | with_reducible refine hcls.at ?_ | wp_step)
  · exact ⟨_, #[], _, (Heap.get?_update_ne _ _ _ _ hxs.symm).trans (Heap.get?_push_at rfl rfl), rfl, fun e he => absurd he (by simp), fun _ => rfl⟩
  · intro h' tk' hn' hs
    have hx₁ : (hp.push { cls := .type "dict", data := .dict #[] }).get? x = some { cls := .ref C, data := .fields fv } := Heap.get?_push_of_some _ hx
    refine hq h' tk' hp.objs.size (fun b o hb ho => ?_) (Nat.le_refl _) hxs.symm ?_ hn'
    · exact (hs.2 b (Nat.ne_of_lt (Heap.lt_size ho))).trans ((Heap.get?_update_ne _ _ _ _ hb).trans (Heap.get?_push_of_some _ ho))
    · exact (hs.2 x hxs).trans (Heap.get?_update_self _ hx₁ rfl)
theorem osa_next {K : Frag} {name : Str} {tk : Tok} {v : Value} {x C dx : Addr} {fv : Array Value} {cd : ClassData} {m0 : Str → Option Value} {nl : List Str}
    (X : K.In hp) (hx : hp.get? x = some { cls := .ref C, dict := some dx, data := .fields fv }) (hns : hp.Ns1 dx m0) (hw : Within m0 nl) (hz : nl.length ≤ 1000) (hcd : clsIn K C = some cd) (hm : excTail ESX.exTail cd.mro = true) (hh : cd.hasDict = true)
    (ha : findIn K (.ref C) name = some none)
    (hq : ∀ h' tk', (∀ b o, b ≠ dx → hp.get? b = some o → h'.get? b = some o) → h'.Ns1 dx (fun y => if y = name then some v else m0 y) → R (.ok (.ret .none)) ⟨h', g, d, tk', os⟩) :
    codeAny (model prog w) A (.call (.builtin "object.__setattr__") ⟨[.ref x, .str name tk, v], []⟩) R ⟨hp, g, d, t, os⟩ := by
  obtain ⟨oD, esD, epD, hoD, hdD, _⟩ := hns.count hw
  have I : InstAt hp x { cls := .ref C, dict := some dx, data := .fields fv } C (some oD) := ⟨hx, rfl, rfl, hoD⟩
  refine osa_pre X I hcd hm ha ?_
  have hcls : Looks (model prog w) hp (classData C) cd := looks_clsIn X hcd
  obtain ⟨nm, bs, mro, ns, qn, hd, sn, sb, ab, col, del⟩ := cd
  dsimp only at hh
  subst hh
  unfold storeInOwnDict ownDictForStores
  repeat (first | with_reducible refine ESX.store_in_old hns hw hz ?_ | with_reducible refine wpAny_loadPart_at hx ?_ | with_reducible refine hcls.at ?_ | wp_step)
  intro h' tk' hn' hs
  exact hq h' tk' (fun b o hb ho => (hs.2 b hb).trans ho) hn'
end

/-! ### the classes -/
/-- what the written part says of an exception class -/
structure OX (K : Frag) (C : Addr) : Prop where
  cls : ∃ nm q N bs bm sn sub ab col dd k0 k1 k2 k3 k5, K.lookup C = some (excClassObj nm q C N bs bm true sn sub ab col dd k0 k1 k2 k3 k5 "Exception.__new__") ∧ excTail ESX.exTail bm = true
  sa : findIn K (.ref C) "__setattr__" = some (some (.builtin "object.__setattr__"))
  exC : subIn K (.ref C) (.type "BaseException") = some true
  exE : subIn K (.ref C) (.type "Exception") = some true
  tyC : typeIn K (.ref C) = some (.type "type")
  kC : keepIn K (.ref C) = true
  opq : nsIn K cStatics "thirdparty.any" = some none
  np : findIn K (.ref C) "place" = some none
  nw : findIn K (.ref C) "word" = some none
theorem OX.cd {K : Frag} {C : Addr} (o : OX K C) : ∃ cd : ClassData, clsIn K C = some cd ∧ excTail ESX.exTail cd.mro = true ∧ cd.hasDict = true := by
  obtain ⟨nm, q, N, bs, bm, sn, sub, ab, col, dd, k0, k1, k2, k3, k5, h, ht⟩ := o.cls
  refine ⟨{ name := nm, bases := bs, mro := .ref C :: bm, ns := N, qualname := q, hasDict := true, slotNames := sn, subclasses := sub, abstract := ab, collection := col, hasDel := false }, ?_, ht, rfl⟩
  unfold clsIn
  rw [h] <;> rfl
/-- an __init__ that closes over its class -/
structure SupFn (P : Program) (K : Frag) (D f : Addr) (q : Str) (pa : Arguments) (bd : List Stmt) (sc : Scope) (fd : FuncData) : Prop where
  ex : ∃ (nm : Str) (od : Option Addr) (dV kV doc pm : Value) (an : Option Addr) (cda : Addr) (ct : Value) (osl : Array (Option Value)) (cc : Addr) (ccl : Value) (cdd : Option Addr) (vs : Array Value) (ccs : Array (Option Value)) (file : Str) (tf : Tok) (cl : Value) (cld : Option Addr) (csl : Array (Option Value)),
    fd = ksFn nm q pa bd sc dV kV doc pm an (.ref cda) ct cc ∧ K.lookup f = some ⟨.type "function", od, .func fd, osl⟩ ∧ codeIn K (.ref cda) q = true ∧ K.lookup cda = some ⟨ccl, cdd, .fields vs, ccs⟩ ∧ vs[2]? = some (.str file tf) ∧ ((P.main.file : Str) == file) = true ∧
    K.lookup cc = some ⟨cl, cld, .cell (some (.ref D)), csl⟩
  D_ : (clsIn K D).isSome = true
/-- its scope -/
structure SupSc (pa : Arguments) (sc : Scope) : Prop where
  hp : ∃ ar, (pa.posonlyargs ++ pa.args).head? = some ar ∧ ar.arg = "self"
  sup : sc.names.lookup ("super" : Str) = some .globalImplicit
  cl : sc.names.lookup ("__class__" : Str) = some .free
  self : sc.names.lookup ("self" : Str) = some .local
  place : sc.names.lookup ("place" : Str) = some .local
  kind : sc.kind = .function
  nocell : ∀ x ∈ sc.names, x.2 ≠ .cell
  co : sc.isCoroutine = false
  gen : sc.isGenerator = false

section
variable {P : Program} {w : World} {A : Around} {E : Value → Shared → Prop} {K : Frag} {mg : Str → Option Value} {base : Heap} {D C f x : Addr} {q : Str} {pa : Arguments} {bd : List Stmt} {sc : Scope} {fd : FuncData}
/-- super() in such an __init__ -/
theorem node {s : Shared} {nm : Str} {od : Option Addr} {dV kV doc pm : Value} {an : Option Addr} {cda cc L : Addr} {ct : Value} {osl : Array (Option Value)} {ccl : Value} {cdd : Option Addr} {vs : Array Value} {ccs : Array (Option Value)} {file : Str} {tf : Tok} {cl : Value} {cld : Option Addr} {csl : Array (Option Value)}
    {body : List Stmt} {p0 p1 : Pos} {attr : Str} {whole : Sem Value} {m : Str → Option Value} {ox : Obj} {odx : Option Obj} {Q : Value → Shared → Prop}
    (Mo : L2.Mod K mg base) (bk : ∀ b o, base.get? b = some o → s.heap.get? b = some o) (hsg : mg "super" = none) (S : SupSc pa sc)
    (hf : K.lookup f = some ⟨.type "function", od, .func (ksFn nm q pa bd sc dV kV doc pm an (.ref cda) ct cc), osl⟩) (hcode : K.lookup cda = some ⟨ccl, cdd, .fields vs, ccs⟩) (hvs : vs[2]? = some (.str file tf)) (hfile : ((P.main.file : Str) == file) = true)
    (hcell : K.lookup cc = some ⟨cl, cld, .cell (some (.ref D)), csl⟩) (hD : (clsIn K D).isSome = true) (hsub : mroIn K C (.ref D) = some true) (hat : (attr == ("__class__" : Str)) = false) (htop : (P.main.scope.names.lookup ("super" : Str)).isSome = false)
    (hns : s.heap.Ns L m) (hv : m "self" = some (.ref x)) (I : InstAt s.heap x ox C odx)
    (h : ∀ h', (∀ b o, s.heap.get? b = some o → h'.get? b = some o) → h'.get? s.heap.objs.size = some (ks_superObj D x C) → Q (.ref s.heap.objs.size) { s with heap := h' }) :
    _root_.PySem.wpAt (model P w) A (.func body (ksEnv q sc L f (.ref cda) cc)) (attributeBase (.Call (.Name "super" p0) [] [] p1) attr (ksEnv q sc L f (.ref cda) cc) whole) Q E s := by
  have X : K.In s.heap := Mo.kin.keeps bk
  obtain ⟨ar, hp, har⟩ := S.hp
  obtain ⟨mb, b1, b2⟩ := Mo.blt
  obtain ⟨cdD, hD⟩ := Option.isSome_iff_exists.mp hD
  have hks : (ksEnv q sc L f (.ref cda) cc).kindOf "super" = some .globalImplicit := S.sup
  have hkc : (ksEnv q sc L f (.ref cda) cc).kindOf "__class__" = some .free := S.cl
  have hkx : (ksEnv q sc L f (.ref cda) cc).kindOf ar.arg = some .local := by rw [har]; exact S.self
  obtain ⟨hh, g, d, t, os⟩ := s
  obtain ⟨oD, hD1, hD2⟩ : ∃ oD, hh.get? D = some oD ∧ oD.data = .cls cdD := by
    unfold clsIn at hD
    split at hD
    · rename_i c d cd' sl ho
      cases hD
      exact ⟨_, X _ _ ho, rfl⟩
    · cases hD
  refine ks_wpAt_super_base (env := ksEnv q sc L f (.ref cda) cc) hks hkc hat rfl (X _ _ hf) rfl hp rfl (X _ _ hcode) rfl hvs hfile htop ?_
  refine ks_loadName_global S.kind hks (loadGlobal_builtin (env := ksEnv q sc L f (.ref cda) cc) (Mo.glob.keeps bk) hsg (b1.keeps bk) ((b2 "super" (by decide)).trans (by first | boot_by_name | rfl | kernel_rfl)) ⟨rfl, ?_⟩)
  refine wpAny_loadName_free S.kind hkc rfl ⟨_, X _ _ hcell, rfl⟩ ?_
  refine wpAny_loadName_local S.kind hkx hns (by rw [har]; exact hv) ?_
  refine ks_wpAny_isType_cls hD1 hD2 ⟨rfl, ?_⟩
  refine ks_wpAny_call_super hD1 hD2 I.at_ I.cls (fun c e => ?_) (looks_mroIn X hsub) (fun h' e k => ?_)
  · have := I.no
    unfold notCls at this
    rw [e] at this
    exact Bool.noConfusion this
  · exact h h' k e
end

/-! ### the statements -/
abbrev stS (p0 p1 p2 p3 p4 p5 : Pos) : Stmt := .Expr (.Call (.Attribute (.Call (.Name "super" p0) [] [] p1) "__init__" p2) [.Name "place" p3] [] p4) p5
abbrev stP (p0 p1 p2 p3 : Pos) : Stmt := .Assign [.Attribute (.Name "self" p0) "place" p1] (.Name "place" p2) p3
abbrev stW (wd : Str) (j : Nat) (p0 p1 p2 p3 : Pos) : Stmt := .Assign [.Attribute (.Name "self" p0) "word" p1] (.Constant (.str wd) j p2) p3
/-- an object of such a class, being made -/
abbrev eo (C t0 : Addr) (dx : Option Addr) : Obj := { cls := .ref C, dict := dx, data := .fields #[.ref t0, .none, .none, .none, .bool false, .none] }
/-- its own dict: place, word -/
def dm (p : Value) (wd : Str) (tk : Tok) (y : Str) : Option Value := if y = "word" then some (.str wd tk) else if y = "place" then some p else none
/-- behind __init__ -/
def Made (C x : Addr) (p : Value) (wd : Str) (R : Result → Shared → Prop) (s : Shared) : Prop :=
  ∀ h' dx t1 tk tk', (∀ b o, b ≠ x → s.heap.get? b = some o → h'.get? b = some o) → s.heap.get? dx = none → dx ≠ x → h'.get? x = some (eo C t1 (some dx)) → h'.Ns1 dx (dm p wd tk) → R (.ok (.ret .none)) { s with heap := h', toks := tk' }

section
variable {P : Program} {w : World} {A : Around} {E : Value → Shared → Prop} {R : Result → Shared → Prop} {K : Frag} {mg : Str → Option Value} {base : Heap} {D C f x : Addr} {q : Str} {pa : Arguments} {bd : List Stmt} {sc : Scope} {fd : FuncData}
theorem binds_ns {f x : Addr} {a b : Value} : (fun y => ([("self", a), ("place", b)] : List (Str × Value)).reverse.lookup y) ("self" : Str) = some a ∧ (fun y => ([("self", a), ("place", b)] : List (Str × Value)).reverse.lookup y) ("place" : Str) = some b := ⟨rfl, rfl⟩
theorem locs2 (S : SupSc pa sc) {a b : Value} : ∀ y ∈ ([("self", a), ("place", b)] : List (Str × Value)), sc.names.lookup y.1 = some .local := fun y hy => by
  rcases List.mem_cons.mp hy with rfl | hy
  · exact S.self
  · rcases List.mem_cons.mp hy with rfl | hy
    · exact S.place
    · cases hy
/-- super().__init__(place), as it is evaluated -/
def CallS (pl : Env → Sem Bool) (p0 p1 p2 p3 p4 : Pos) : Prop := ∀ env : Env, eval (.Call (.Attribute (.Call (.Name "super" p0) [] [] p1) "__init__" p2) [.Name "place" p3] [] p4) env = (do
      let ov ← attributeBase (.Call (.Name "super" p0) [] [] p1) "__init__" env (eval (.Call (.Name "super" p0) [] [] p1) env)
      standAt p2.atName
      let (f, first) ← holding [ov] (getMethod ov "__init__" (pl env))
      callWith p4 f first (backTo p4 (starEach [.Name "place" p3] env)) [])
theorem noInter {env : Env} (h : env.scope.kind = .function) : interactive env = false := by
  unfold interactive
  rw [h]
  rfl
/-- CutError.__init__: Exception.__init__, then place and word -/
theorem init_low {s : Shared} {p : Value} {t0 : Addr} {wd : Str} {j : Nat} {a0 a1 a2 a3 a4 a5 b0 b1 b2 b3 c0 c1 c2 c3 : Pos} (Mo : L2.Mod K mg base) (bk : ∀ b o, base.get? b = some o → s.heap.get? b = some o) (hsg : mg "super" = none) (S : SupSc pa sc)
    (F : SupFn P K D f q pa [stS a0 a1 a2 a3 a4 a5, stP b0 b1 b2 b3, stW wd j c0 c1 c2 c3] sc fd) (O : OX K C) (hinit : ks_superIn K C D "__init__" = some (some (.builtin "Exception.__init__"))) (hsub : mroIn K C (.ref D) = some true)
    (htop : (P.main.scope.names.lookup ("super" : Str)).isSome = false) (hroom : A.depth < recursionLimit) {args : Args} (hb : BindsTo s fd args [("self", .ref x), ("place", p)]) (hx : s.heap.get? x = some (eo C t0 none)) (xb : base.get? x = none)
    {pl : Env → Sem Bool} (he : CallS pl a0 a1 a2 a3 a4)
    (hq : Made C x p wd R s) : codeAny (model P w) A (.call (.ref f) args) R s := by
  obtain ⟨nm, od, dV, kV, doc, pm, an, cda, ct, osl, cc, ccl, cdd, vs, ccs, file, tf, cl, cld, csl, rfl, hf, hcd, hcode, hvs, hfile, hcell⟩ := F.ex
  obtain ⟨hh, g, d, t, os⟩ := s
  dsimp only at bk hx hb
  have X : K.In hh := Mo.kin.keeps bk
  obtain ⟨cd, hcl, hmr, hhd⟩ := O.cd
  have nl : hh.NoLimit := Mo.nolimit.keeps bk
  refine ks_codeAny_call_defAt (fd := ksFn nm q pa _ sc dV kV doc pm an (.ref cda) ct cc) (binds := [("self", .ref x), ("place", p)]) hroom (X _ _ hf) rfl nl (codeRec_of X hcd) rfl hb S.nocell (locs2 S) (fun h0 hns k0 => ?_) S.co S.gen S.kind
  have hns' : h0.Ns hh.objs.size (fun y => ([("self", .ref x), ("place", p)] : List (Str × Value)).reverse.lookup y) := hns
  have x0 := k0 _ _ hx
  have xlt : x < hh.objs.size := Heap.lt_size hx
  show _root_.PySem.wpAt (model P w) (A.deeper (ksEnv q sc hh.objs.size f (.ref cda) cc)) (.func _ (ksEnv q sc hh.objs.size f (.ref cda) cc)) (execs [stS a0 a1 a2 a3 a4 a5, stP b0 b1 b2 b3, stW wd j c0 c1 c2 c3] (ksEnv q sc hh.objs.size f (.ref cda) cc)) _ _ _
  refine ks_wpAt_execs_cons (ks_wpAt_Expr_any (hi := noInter S.kind) (ks_wpAt_MethodCall (he := he _) (node (ox := eo C t0 none) (odx := none) Mo (fun b o e => k0 b o (bk b o e)) hsg S hf hcode hvs hfile hcell F.D_ hsub rfl htop hns' rfl ⟨x0, rfl, rfl, trivial⟩ (fun h1 k1 e1 => ?_))))
  have X1 : K.In h1 := X.keeps fun b o e => k1 b o (k0 b o e)
  have x1 := k1 _ _ x0
  have hxC : x ≠ C := ks_ne X1 (ox := eo C t0 none) (odx := none) ⟨x1, rfl, rfl, trivial⟩ hcl
  have hl : alongIn K "__init__" ((cd.mro.dropWhile (· != .ref D)).drop 1) = some (some (.builtin "Exception.__init__")) := by
    unfold ks_superIn at hinit
    rw [hcl] at hinit
    exact hinit
  have I1 : InstAt h1 x (eo C t0 none) C none := ⟨x1, rfl, rfl, trivial⟩
  refine ESX.getMethod_super e1 (looks_opaque X1 O.opq) (l₀ := cd.mro) (fun A Q E s k q => wpAny_bind ((looks_clsIn X1 hcl) A _ E s k (wpAny_pure q))) rfl X1 hl hxC rfl (I1.type.andThen (looks_subIn X1 O.exE)) ?_
  have hkp : (ksEnv q sc hh.objs.size f (.ref cda) cc).kindOf "place" = some .local := S.place
  have hks : (ksEnv q sc hh.objs.size f (.ref cda) cc).kindOf "self" = some .local := S.self
  refine ESX.callWith_bound (x := x) (Calls.spliced_cons (ESX.ldL (hns'.at fun o z => Heap.get?_push_of_some _ (k1 _ _ z)) rfl (Calls.spliced_nil ⟨Heap.get?_push_at rfl rfl, ?_⟩) S.kind hkp)) rfl rfl
  obtain ⟨nmC, qC, N, bs, bm, sn, sub, ab, col, dd, kk0, kk1, kk2, kk3, kk5, hC, _⟩ := O.cls
  have X2 : K.In (h1.push (ESX.bw x)) := X1.keeps fun b o e => Heap.get?_push_of_some _ e
  refine ESX.call_bw (X2 _ _ hC) (Heap.get?_push_of_some _ x1) (Heap.get?_push_at rfl rfl) (by simp [sizeLine_eq]) (fun h3 t1 k3 e3 => ?_)
  dsimp only
  -- self.place = place
  have up : ∀ b o, b ≠ x → hh.get? b = some o → h3.get? b = some o := fun b o hb z => k3 b o hb (Heap.get?_push_of_some _ (k1 _ _ (k0 b o z)))
  have nb : ∀ b o, base.get? b = some o → b ≠ x := fun b o z e => by rw [e, xb] at z; cases z
  have X3 : K.In h3 := Mo.kin.keeps fun b o z => up b o (nb b o z) (bk b o z)
  have lx : hh.objs.size ≠ x := (Nat.ne_of_lt xlt).symm
  have hns3 : h3.Ns hh.objs.size (fun y => ([("self", .ref x), ("place", p)] : List (Str × Value)).reverse.lookup y) := by
    obtain ⟨o, es, ep, hL, r⟩ := hns'
    exact ⟨o, es, ep, k3 _ _ lx (Heap.get?_push_of_some _ (k1 _ _ hL)), r⟩
  refine ks_wpAt_execs_cons (ks_wpAt_Assign_Attr (wpAt_of_wpAny (ESX.ldL hns3 rfl (ESX.ldL hns3 rfl ?_ S.kind hks) S.kind hkp)))
  refine set_plain X3 (ox := eo C t1 none) (od := none) ⟨e3, rfl, rfl, trivial⟩ O.sa ?_
  refine osa_first X3 e3 hcl hmr hhd O.np (fun h4 tk4 dx k4 hdx ndx e4 n4 => ?_)
  dsimp only
  -- self.word = ..
  have X4 : K.In h4 := Mo.kin.keeps fun b o z => k4 b o (nb b o z) (up b o (nb b o z) (bk b o z))
  have hns4 : h4.Ns hh.objs.size (fun y => ([("self", .ref x), ("place", p)] : List (Str × Value)).reverse.lookup y) := by
    obtain ⟨o, es, ep, hL, r⟩ := hns3
    exact ⟨o, es, ep, k4 _ _ lx hL, r⟩
  refine ks_wpAt_execs_cons (ks_wpAt_Assign_Attr (wpAt_of_wpAny (Calls.Constant_str (ESX.ldL hns4 rfl ?_ S.kind hks))))
  have hw4 : Within (fun y : Str => if y = "place" then some p else none) ["place"] := Within.cons _ _ Within.nil
  obtain ⟨oD, esD, epD, hoD, hdD, _⟩ := n4.count hw4
  refine set_plain X4 (ox := eo C t1 (some dx)) (od := some oD) ⟨e4, rfl, rfl, hoD⟩ O.sa ?_
  refine osa_next X4 e4 n4 hw4 (by decide) hcl hmr hhd O.nw (fun h5 tk5 k5 n5 => ?_)
  dsimp only
  refine wpAt_of_wpAny (wpAny_execs_nil ?_)
  have dn : hh.get? dx = none := by
    cases z : hh.get? dx with
    | none => rfl
    | some o => exact absurd (Heap.lt_size (up dx o ndx z)) (Nat.not_lt.mpr hdx)
  refine hq h5 dx t1 _ _ (fun b o hb z => k5 b o (fun z2 => ?_) (k4 b o hb (up b o hb z))) dn ndx (k5 _ _ ndx.symm e4) n5
  rw [z2, dn] at z
  cases z
theorem dm_put {p : Value} {w1 w2 : Str} {t1 t2 : Tok} : (fun y : Str => if y = "word" then some (.str w2 t2) else dm p w1 t1 y) = dm p w2 t2 := by
  funext y
  unfold dm
  by_cases h : y = "word"
  · rw [if_pos h, if_pos h]
  · rw [if_neg h, if_neg h, if_neg h]
theorem dm_within {p : Value} {wd : Str} {tk : Tok} : Within (dm p wd tk) ["place", "word"] := fun y hy => by
  unfold dm at hy
  by_cases h : y = "word"
  · subst h; simp
  · rw [if_neg h] at hy
    by_cases h2 : y = "place"
    · subst h2; simp
    · rw [if_neg h2] at hy; exact absurd rfl hy
/-- an __init__ one class deeper: that of the class above, then word -/
theorem init_high {s : Shared} {p : Value} {t0 : Addr} {wd : Str} {j : Nat} {a0 a1 a2 a3 a4 a5 c0 c1 c2 c3 : Pos} {f2 : Addr} {of2 : Option Addr} {fd2 : FuncData} {osl2 : Array (Option Value)} (Mo : L2.Mod K mg base) (bk : ∀ b o, base.get? b = some o → s.heap.get? b = some o) (hsg : mg "super" = none) (S : SupSc pa sc)
    (F : SupFn P K D f q pa [stS a0 a1 a2 a3 a4 a5, stW wd j c0 c1 c2 c3] sc fd) (O : OX K C) (hinit : ks_superIn K C D "__init__" = some (some (.ref f2))) (hf2 : K.lookup f2 = some ⟨.type "function", of2, .func fd2, osl2⟩) (hsub : mroIn K C (.ref D) = some true) (hk2 : fnIn K f2 = true)
    (htop : (P.main.scope.names.lookup ("super" : Str)).isSome = false) (hroom : A.depth < recursionLimit) {args : Args} (hb : BindsTo s fd args [("self", .ref x), ("place", p)]) (hx : s.heap.get? x = some (eo C t0 none)) (xb : base.get? x = none)
    {pl : Env → Sem Bool} (he : CallS pl a0 a1 a2 a3 a4)
    (low : ∀ (env : Env) (s1 : Shared) (R1 : Result → Shared → Prop), (∀ b o, base.get? b = some o → s1.heap.get? b = some o) → s1.heap.get? x = some (eo C t0 none) → (∀ w1, Made C x p w1 R1 s1) → codeAny (model P w) (A.deeper env) (.call (.ref f2) ⟨[.ref x, p], []⟩) R1 s1)
    (hq : Made C x p wd R s) : codeAny (model P w) A (.call (.ref f) args) R s := by
  obtain ⟨hh, g, d, t, os⟩ := s
  dsimp only at bk hx hb
  obtain ⟨nm, od, dV, kV, doc, pm, an, cda, ct, osl, cc, ccl, cdd, vs, ccs, file, tf, cl, cld, csl, rfl, hf, hcd, hcode, hvs, hfile, hcell⟩ := F.ex
  have X : K.In hh := Mo.kin.keeps bk
  obtain ⟨cd, hcl, hmr, hhd⟩ := O.cd
  have nl : hh.NoLimit := Mo.nolimit.keeps bk
  refine ks_codeAny_call_defAt (fd := ksFn nm q pa _ sc dV kV doc pm an (.ref cda) ct cc) (binds := [("self", .ref x), ("place", p)]) hroom (X _ _ hf) rfl nl (codeRec_of X hcd) rfl hb S.nocell (locs2 S) (fun h0 hns k0 => ?_) S.co S.gen S.kind
  have hns' : h0.Ns hh.objs.size (fun y => ([("self", .ref x), ("place", p)] : List (Str × Value)).reverse.lookup y) := hns
  have x0 := k0 _ _ hx
  have xlt : x < hh.objs.size := Heap.lt_size hx
  have nb : ∀ b o, base.get? b = some o → b ≠ x := fun b o z e => by rw [e, xb] at z; cases z
  have lx : hh.objs.size ≠ x := (Nat.ne_of_lt xlt).symm
  show _root_.PySem.wpAt (model P w) (A.deeper (ksEnv q sc hh.objs.size f (.ref cda) cc)) (.func _ (ksEnv q sc hh.objs.size f (.ref cda) cc)) (execs [stS a0 a1 a2 a3 a4 a5, stW wd j c0 c1 c2 c3] (ksEnv q sc hh.objs.size f (.ref cda) cc)) _ _ _
  refine ks_wpAt_execs_cons (ks_wpAt_Expr_any (hi := noInter S.kind) (ks_wpAt_MethodCall (he := he _) (node (ox := eo C t0 none) (odx := none) Mo (fun b o e => k0 b o (bk b o e)) hsg S hf hcode hvs hfile hcell F.D_ hsub rfl htop hns' rfl ⟨x0, rfl, rfl, trivial⟩ (fun h1 k1 e1 => ?_))))
  dsimp only
  have X1 : K.In h1 := X.keeps fun b o e => k1 b o (k0 b o e)
  have x1 := k1 _ _ x0
  have hxC : x ≠ C := ks_ne X1 (ox := eo C t0 none) (odx := none) ⟨x1, rfl, rfl, trivial⟩ hcl
  have hl : alongIn K "__init__" ((cd.mro.dropWhile (· != .ref D)).drop 1) = some (some (.ref f2)) := by
    unfold ks_superIn at hinit
    rw [hcl] at hinit
    exact hinit
  have I1 : InstAt h1 x (eo C t0 none) C none := ⟨x1, rfl, rfl, trivial⟩
  refine ks_wpAny_getMethod_super e1 (looks_opaque X1 O.opq) (l₀ := cd.mro) (fun A Q E s k q => wpAny_bind ((looks_clsIn X1 hcl) A _ E s k (wpAny_pure q))) rfl X1 hl (X1 _ _ hf2) rfl hxC rfl ?_
  dsimp only
  have hkp : (ksEnv q sc hh.objs.size f (.ref cda) cc).kindOf "place" = some .local := S.place
  have hks : (ksEnv q sc hh.objs.size f (.ref cda) cc).kindOf "self" = some .local := S.self
  have X2 : K.In (h1.push (methodObj (.ref f2) (.ref x))) := X1.keeps fun b o e => Heap.get?_push_of_some _ e
  refine callWith_of (P := MethP K h1.objs.size f2 (.ref x)) rfl (keeps_M hk2) (evalArgs_plain (Calls.spliced_cons (ESX.ldL (hns'.at fun o z => Heap.get?_push_of_some _ (k1 _ _ z)) rfl ?_ S.kind hkp)))
  refine Calls.spliced_nil ⟨⟨Heap.get?_push_at rfl rfl, X2⟩, ?_⟩
  refine wpAny_call (method_call (Heap.get?_push_at rfl rfl) (low _ _ _ (fun b o z => Heap.get?_push_of_some _ (k1 _ _ (k0 _ _ (bk b o z)))) (Heap.get?_push_of_some _ x1) (fun w1 h3 dx t1 tk3 tk3' k3 dn3 ndx e3 n3 => ?_)))
  have up : ∀ b o, b ≠ x → hh.get? b = some o → h3.get? b = some o := fun b o hb z => k3 b o hb (Heap.get?_push_of_some _ (k1 _ _ (k0 b o z)))
  have X3 : K.In h3 := Mo.kin.keeps fun b o z => up b o (nb b o z) (bk b o z)
  have hns3 : h3.Ns hh.objs.size (fun y => ([("self", .ref x), ("place", p)] : List (Str × Value)).reverse.lookup y) := by
    obtain ⟨o, es, ep, hL, r⟩ := hns'
    exact ⟨o, es, ep, k3 _ _ lx (Heap.get?_push_of_some _ (k1 _ _ hL)), r⟩
  refine ks_wpAt_execs_cons (ks_wpAt_Assign_Attr (wpAt_of_wpAny (Calls.Constant_str (ESX.ldL hns3 rfl ?_ S.kind hks))))
  obtain ⟨oD, esD, epD, hoD, hdD, _⟩ := n3.count dm_within
  refine set_plain X3 (ox := eo C t1 (some dx)) (od := some oD) ⟨e3, rfl, rfl, hoD⟩ O.sa ?_
  refine osa_next X3 e3 n3 dm_within (by decide) hcl hmr hhd O.nw (fun h5 tk5 k5 n5 => ?_)
  dsimp only
  refine wpAt_of_wpAny (wpAny_execs_nil ?_)
  have dn : hh.get? dx = none := by
    cases z : hh.get? dx with
    | none => rfl
    | some o =>
      have := Heap.get?_push_of_some (methodObj (.ref f2) (.ref x)) (k1 _ _ (k0 dx o z))
      rw [dn3] at this; cases this
  refine hq h5 dx t1 _ _ (fun b o hb z => k5 b o (fun z2 => ?_) (up b o hb z)) dn ndx (k5 _ _ ndx.symm e3) (by rw [dm_put] at n5; exact n5)
  rw [z2, dn] at z
  cases z
end
end EX

set_option Elab.async false
set_option linter.all false
set_option maxRecDepth 100000
set_option maxHeartbeats 2000000
namespace DL
open PySem PySem.Spec L2
open Evl (Ex)

/-- a class that is made by its place, the word its name -/
structure MkC (P : Program) (w : World) (K : PySem.W.Frag) (mg : Str → Option Value) (base : Heap) (C : Addr) (wd : Str) : Prop where
  ox : EX.OX K C
  ex : ∃ fI : Addr, PySem.W.findIn K (.ref C) "__init__" = some (some (.ref fI)) ∧ PySem.W.typeIn K (.ref fI) = some (.type "function") ∧
    ∀ (A : Around) (s : Shared) (x t0 : Addr) (p : Value) (args : Args) (R : Result → Shared → Prop), L2.Mod K mg base → A.depth + 2 < recursionLimit → (∀ b o, base.get? b = some o → s.heap.get? b = some o) → base.get? x = none →
      s.heap.get? x = some (EX.eo C t0 none) → (args = ⟨[.ref x, p], []⟩ ∨ (args = ⟨[.ref x], []⟩ ∧ p = .none) ∨ args = ⟨[.ref x], [("place", p)]⟩) → EX.Made C x p wd R s → codeAny (model P w) A (.call (.ref fI) args) R s

theorem un_exc (L : List Addr) {X : Cx} {pins : List (Addr × Obj)} {σ : L2.St} {H : Hp} {s : Shared} {h' : Heap} {tk' : Nat} {a dx C t1 : Addr} {fs : List (Str × V)} {mA : Str → Option Value} (I : Inv X pins σ H s) (e : H a = some (exo a C none)) (hnd : H dx = none) (dne : dx ≠ a) (dn : s.heap.get? dx = none)
    (k : ∀ b o, b ≠ a → s.heap.get? b = some o → h'.get? b = some o) (hx : h'.get? a = some (EX.eo C t1 (some dx))) (hn : h'.Ns1 dx mA) (rel : ∀ f, RelO (fs.lookup f) (mA f)) :
    Un L [] H (upd (upd H dx (exd dx fs)) a (exo a C (some dx))) s.heap h' ∧ HOk X.prog X.w (upd (upd H dx (exd dx fs)) a (exo a C (some dx))) h' := by
  have nd : ∀ {b : Addr} {o : Obj}, s.heap.get? b = some o → b ≠ dx := fun {b o} q z => by rw [z, dn] at q; cases q
  have na : ∀ {b : Addr}, H b = none → b ≠ a := fun {b} n z => by
    rw [z, e] at n
    cases n
  refine ⟨{
    keep := fun b o q n _ _ => k b o (na n) q
    slot := fun b o q n _ _ => ⟨o.slots, k b o (na n) q⟩
    free := fun b o q n _ => by rw [upd_ne (na n), upd_ne (nd q)]; exact n
    there := fun b o q _ => by
      by_cases hb : b = a
      · exact ⟨_, by rw [hb]; exact hx⟩
      · exact ⟨o, k b o hb q⟩
    tups := fun b xs q => by rw [upd_ne (at_ne e q exo_tup), upd_ne (ne_of_none q hnd)]; exact q
    frzs := fun b o v q => by rw [upd_ne (at_ne e q exo_frz), upd_ne (ne_of_none q hnd)]; exact q
    tbls := fun b ps q => ⟨#[], by rw [upd_ne (at_ne e q exo_tbl), upd_ne (ne_of_none q hnd), q]; simp⟩ }, fun b o q => ?_⟩
  by_cases hb : b = a
  · subst hb
    rw [upd_same] at q
    cases q
    exact exo_ok hx
  · rw [upd_ne hb] at q
    by_cases hd : b = dx
    · subst hd
      rw [upd_same] at q
      cases q
      exact exd_ok hn rel
    · rw [upd_ne hd] at q
      exact (I.hok b o q).stay (fun c v hc z => k c v (by
          rcases hc with hc | hc
          · rw [hc]
            exact hb
          · exact at_ne e hc exo_own) z)
        (fun c hc => by rw [upd_ne (at_ne e hc exo_own), upd_ne (ne_of_none hc hnd)]; exact hc) (fun c xs hc => by rw [upd_ne (at_ne e hc exo_tup), upd_ne (ne_of_none hc hnd)]; exact hc)

/-- C() or C(e) -/
def tMkX (C : Addr) (wd : Str) (ta : TA) : L2.St → Hp → XK → Prop := fun σ H Q => ta σ H fun vs H1 => ∃ p : V, (vs = [p] ∨ (vs = [] ∧ p = .non)) ∧ ∀ d, H1 d = none → Q (.ref C) (some d) (upd H1 d (.xd [("word", .str wd), ("place", p)]))
theorem relO_dm {p : V} {u : Value} {wd : Str} {tk : Tok} (r : RelV p u) (f : Str) : RelO (([("word", V.str wd), ("place", p)] : List (Str × V)).lookup f) (EX.dm u wd tk f) := by
  unfold EX.dm
  rw [lookup_put, lookup_put]
  by_cases h : f = "word"
  · rw [if_pos h, if_pos h]
    exact ⟨tk, rfl⟩
  · rw [if_neg h, if_neg h]
    by_cases h2 : f = "place"
    · rw [if_pos h2, if_pos h2]
      exact r
    · rw [if_neg h2, if_neg h2]
      exact True.intro
section
variable {X : Cx} {C : Addr} {wd x : Str} {e : Expr} {es : List Expr} {ta : TA} {p pos : Pos}
theorem mkx_run {pins : List (Addr × Obj)} {σ : L2.St} {H1 : Hp} {s1 : Shared} {Q : XK} {us : List Value} {vs : List V} {pv : V} (M : MkC X.prog X.w X.K X.mg X.base C wd) (hr : X.A.depth + 3 < recursionLimit) (I1 : Inv X pins σ H1 s1) (r1 : Vals vs us) (hp : vs = [pv] ∨ (vs = [] ∧ pv = .non))
    (q : ∀ d, H1 d = none → Q (.ref C) (some d) (upd H1 d (.xd [("word", .str wd), ("place", pv)]))) : wpAny (model X.prog X.w) X.A (call (.ref C) us) (MkP X pins σ Q) X.xe s1 := by
  obtain ⟨fI, iC, tI, go⟩ := M.ex
  obtain ⟨nm, qn, N, bs, bm, sn, sub, ab, col, dd, k0, k1, k2, k3, k5, hC, hbm⟩ := M.ox.cls
  obtain ⟨hp', g, dr, tk, os⟩ := s1
  have hsz : hp'.objs.size ≤ hp'.objs.size + 1 := Nat.le_succ _
  have hn : H1 (hp'.objs.size + 1) = none := I1.hok.fresh hsz
  have kk : ∀ b o, hp'.get? b = some o → ((hp'.push (PySem.W.kdv_tup us)).push (PySem.HandSPX.excO C hp'.objs.size)).get? b = some o := fun b o e => Heap.get?_push_of_some _ (Heap.get?_push_of_some _ e)
  have hget : ((hp'.push (PySem.W.kdv_tup us)).push (PySem.HandSPX.excO C hp'.objs.size)).get? (hp'.objs.size + 1) = some (PySem.HandSPX.excO C hp'.objs.size) := by heap_get
  have I2 : Inv X pins σ (upd H1 (hp'.objs.size + 1) (exo (hp'.objs.size + 1) C none)) ⟨(hp'.push (PySem.W.kdv_tup us)).push (PySem.HandSPX.excO C hp'.objs.size), g, dr, tk, os⟩ :=
    I1.laid (t' := tk) (a := hp'.objs.size + 1) (o := exo (hp'.objs.size + 1) C none) (h' := (hp'.push (PySem.W.kdv_tup us)).push (PySem.HandSPX.excO C hp'.objs.size)) kk hsz (exo_ok hget)
  have bn : X.base.get? (hp'.objs.size + 1) = none := by
    cases z : X.base.get? (hp'.objs.size + 1) with
    | none => rfl
    | some o =>
      have := Heap.lt_size (I1.bk _ _ z)
      exact absurd this (Nat.not_lt.mpr hsz)
  have hus : us.length ≤ sizeLine := by
    rw [← Paired.length r1, sizeLine_eq]
    rcases hp with rfl | ⟨rfl, _⟩ <;> simp
  obtain ⟨pu, rp, hargs⟩ : ∃ pu, RelV pv pu ∧ ((⟨.ref (hp'.objs.size + 1) :: us, []⟩ : Args) = ⟨[.ref (hp'.objs.size + 1), pu], []⟩ ∨ ((⟨.ref (hp'.objs.size + 1) :: us, []⟩ : Args) = ⟨[.ref (hp'.objs.size + 1)], []⟩ ∧ pu = .none)) := by
    rcases hp with rfl | ⟨rfl, rfl⟩
    · cases r1 with
      | cons a b => cases b; exact ⟨_, a, .inl rfl⟩
    · cases r1
      exact ⟨.none, rfl, .inr ⟨rfl, rfl⟩⟩
  refine wpAny_call (PySem.HandSPX.call_own F.excBase_Exception (fun Y => PySem.W.excTail_contains Y bm hbm) (I1.kIn _ _ hC) (PySem.W.looks_findIn I1.kIn iC) (fun self => PySem.W.bind_fn I1.kIn self tI) hus ?_)
  refine go _ _ _ _ pu _ _ I1.ok.mod (by show X.A.depth + 1 + 2 < recursionLimit; omega) (fun b o z => kk _ _ (I1.bk _ _ z)) bn hget (by rcases hargs with z | z; exact .inl z; exact .inr (.inl z)) ?_
  intro h2 dx t1 tk2 tk2' k2' dn dne e2 n2
  have hd1 : upd H1 (hp'.objs.size + 1) (exo (hp'.objs.size + 1) C none) dx = none := I2.hok.gone dn
  have hd0 : H1 dx = none := by rw [upd_ne dne] at hd1; exact hd1
  obtain ⟨un, hok⟩ := un_exc (frs X.stack) (tk' := tk2) (fs := [("word", .str wd), ("place", pv)]) I2 upd_same hd1 dne dn k2' e2 n2 (relO_dm rp)
  refine ⟨rfl, ?_⟩
  have q2 := q dx hd0
  have eu : upd (del (upd (upd (upd H1 (hp'.objs.size + 1) (exo (hp'.objs.size + 1) C none)) dx (exd dx [("word", .str wd), ("place", pv)])) (hp'.objs.size + 1) (exo (hp'.objs.size + 1) C (some dx))) (hp'.objs.size + 1)) dx (.xd [("word", .str wd), ("place", pv)]) = upd H1 dx (.xd [("word", .str wd), ("place", pv)]) := by
    funext b
    by_cases h1 : b = dx
    · rw [h1, upd_same, upd_same]
    · rw [upd_ne h1, upd_ne h1]
      by_cases h2 : b = hp'.objs.size + 1
      · rw [h2, del_same, hn]
      · rw [del_ne h2, upd_ne h2, upd_ne h1, upd_ne h2]
  refine mk_end (raises_own M.ox.exC M.ox.tyC) I1 hsz kk un hok rfl I2.bare upd_same (by rw [upd_ne dne, upd_same]) hd0 (by rw [eu]; exact q2)
end
end DL

set_option Elab.async false
set_option linter.all false
set_option maxRecDepth 100000
set_option maxHeartbeats 2000000
namespace DL
open PySem PySem.Spec L2
open Evl (Ex)
open PyProof.Rows (envOfC)

/-! ### raise C(place) -/
theorem HR.newX {K : PySem.W.Frag} {F : Hp} {al : List Addr} {H : Hp} {M : MH} {p : Addr} {o : HO} (h : HR K F al H M) (hp : H p = none) : Stp K F al H M F al (upd H p o) M := by
  have ne : ∀ (k : Nat) (a : Addr), al[k]? = some a → a ≠ p := fun k a e z => h.trk k a e (by rw [z]; exact hp)
  refine ⟨fun _ _ e => e, Pre.refl _, ⟨fun a u e => ?_, h.len, fun k a e => ?_, h.inj, fun k a u e1 e2 => ?_⟩, fun b u e _ => by rw [upd_ne (ne_of_none e hp)]; exact e, fun _ _ l => l, fun k a e l => ?_, Nat.le_refl _, fun a e => .inl e⟩
  · have := h.ext a u e
    rw [upd_ne (ne_of_none this hp)]; exact this
  · rw [upd_ne (ne k a e)]; exact h.trk k a e
  · exact (h.mem k a u e1 e2).mono (fun _ _ e => e) (Pre.refl _) (fun w _ q => by rw [upd_ne (ne k a e1)]; exact q) (fun q => q)
  · have := (List.getElem?_eq_some_iff.mp e).1
    have := h.len
    omega
def mRaise (C : Addr) (wd : Str) (mas : DA) : DS := fun _ r M => mas r M fun ds M1 => ∃ p, (ds = [p] ∨ (ds = [] ∧ p = .non)) ∧ r.ex r.sl C p wd M1
section
variable {X : Cx} {W : WX} {C : Addr} {wd x : Str} {e : Expr} {es : List Expr} {ta : TA} {mas : DA} {p p' pos : Pos}
theorem pmkx (M : MkC X.prog X.w X.K X.mg X.base C wd) (hr : X.A.depth + 3 < recursionLimit) (hm : X.mg x = some (.ref C)) (ha : PA X (e :: es) ta) (hg : Gl X x := by rfl)
    (hdb : (x == ("__debug__" : Str)) = false := by decide) (he : starEach (e :: es) X.env = (false, eval e X.env) :: starEach es X.env := by rfl) (hpl : (backTo pos (starEach es X.env)).any (·.1) = false := by rfl) :
    PMk X (.Call (.Name x p) (e :: es) [] pos) (tMkX C wd ta) := by
  intro pins s σ H Q I h
  refine wpAny_Call_Name_kw (ld_glob I hg hm ?_ hdb)
  refine PySem.W.callWith_K (h₀ := X.base) I.ok.mod.kin M.ox.kC (thn (ha.run pos pins s σ H _ I h) fun us s1 ⟨vs, H1, I1, r1, pv, hp, q1⟩ => ⟨I1.kIn, ?_⟩) he hpl
  exact mkx_run M hr I1 r1 hp q1
theorem pmkx0 (M : MkC X.prog X.w X.K X.mg X.base C wd) (hr : X.A.depth + 3 < recursionLimit) (hm : X.mg x = some (.ref C)) (hg : Gl X x := by rfl)
    (hdb : (x == ("__debug__" : Str)) = false := by decide) : PMk X (.Call (.Name x p) [] [] pos) (tMkX C wd tNil) := by
  intro pins s σ H Q I h
  refine wpAny_Call_Name_kw (ld_glob I hg hm ?_ hdb)
  obtain ⟨pv, hp, q1⟩ := h
  exact PySem.W.callWith_K0 I.kIn M.ox.kC (mkx_run (us := []) M hr I .nil hp q1)
theorem sim_raise : ∀ D s H, lS X.K W (mRaise C wd mas) D s H → tMkX C wd (lA X.K W mas) s H fun cls d H' => W cls d s H' := by
  rintro D s H ⟨F, al, r, M, E, er, hr, hm, _⟩
  refine ⟨F, al, r, M, _, er, hr, hm, fun vs H1 F1 al1 ds M1 s1 r1 hm1 => ?_⟩
  obtain ⟨pd, hp, q⟩ := hm1
  obtain ⟨pv, hpv, rp⟩ : ∃ pv, (vs = [pv] ∨ (vs = [] ∧ pv = .non)) ∧ Rel X.K F1 al1 pd pv := by
    rcases hp with rfl | ⟨rfl, rfl⟩
    · obtain ⟨y, ys, rfl, r2, rfl⟩ := r1
      exact ⟨y, .inl rfl, r2⟩
    · cases r1
      exact ⟨.non, .inr ⟨rfl, rfl⟩, rfl⟩
  refine ⟨pv, hpv, fun d hd => ?_⟩
  have st2 := s1.hr.newX (o := .xd [("word", .str wd), ("place", pv)]) hd
  refine er.xe C (some d) pd wd s r.sl _ F1 al1 M1 (s1.trans hr st2) (er.es.mono s1.ex s1.pre) ⟨d, _, pv, rfl, upd_same, ?_, rp, ?_⟩ q
  · rw [lookup_put, if_neg (by decide), lookup_put, if_pos rfl]
  · rw [lookup_put, if_pos rfl]
theorem ms_raise (hc : X.calm = true) (tk : Takes X W) (M : MkC X.prog X.w X.K X.mg X.base C wd) (hr : X.A.depth + 3 < recursionLimit) (hm : X.mg x = some (.ref C)) (ha : MA X W (e :: es) mas) (hg : Gl X x := by rfl)
    (hdb : (x == ("__debug__" : Str)) = false := by decide) (he : starEach (e :: es) X.env = (false, eval e X.env) :: starEach es X.env := by rfl) (hpl : (backTo pos (starEach es X.env)).any (·.1) = false := by rfl) :
    MS X W (.Raise (some (.Call (.Name x p) (e :: es) [] pos)) none p') (mRaise C wd mas) := PS.imp (ps_raise hc tk (pmkx M hr hm ha hg hdb he hpl)) sim_raise
theorem ms_raise0 (hc : X.calm = true) (tk : Takes X W) (M : MkC X.prog X.w X.K X.mg X.base C wd) (hr : X.A.depth + 3 < recursionLimit) (hm : X.mg x = some (.ref C)) (hg : Gl X x := by rfl)
    (hdb : (x == ("__debug__" : Str)) = false := by decide) :
    MS X W (.Raise (some (.Call (.Name x p) [] [] pos)) none p') (mRaise C wd dNil) := PS.imp (ps_raise hc tk (pmkx0 M hr hm hg hdb)) fun D s H h => by
  obtain ⟨F0, al, r, M, R, er, hr0, hm0, k⟩ := sim_raise D s H h
  exact k [] _ _ _ [] _ (Stp.refl hr0) rfl hm0
end

/-! ### try: body, except c as n: suite -/
theorem ES.unset {K : PySem.W.Frag} {F : Hp} {al : List Addr} {s : L2.St} {r : SL} {i : Nat} (h : ES K F al s r) : ES K F al (s.set i none) (r.set i none) := by
  refine ⟨by simp [h.1], fun j e z => ?_⟩
  rw [List.getElem?_set] at z ⊢
  by_cases hij : i = j
  · subst hij
    rw [if_pos rfl] at z
    split at z <;> cases z
  · rw [if_neg hij] at z ⊢
    exact h.2 j e z
/-- a class whose instances' place and word may be read -/
structure XP (K : PySem.W.Frag) (C : Addr) : Prop where
  xf : XfC K C
  np : PySem.W.findIn K (.ref C) "place" = some none
  nw : PySem.W.findIn K (.ref C) "word" = some none
def mTry (K : PySem.W.Frag) (c : Value) (i : Nat) (mb : DS) (ms : Addr → Addr → Option Addr → DS) : DS := fun E r M =>
  mb { nx := fun r2 M2 => E.nx { r with sl := r2.sl } M2, bk := fun r2 M2 => E.bk { r with sl := r2.sl } M2, ct := fun r2 M2 => E.ct { r with sl := r2.sl } M2, rt := E.rt }
    { r with ex := fun sl C p w M' => ∃ b, PySem.W.exmOne K (.ref C) c = some b ∧
      (b = true → XP K C ∧ ∀ a dd : Addr, ms a C (some dd) { nx := fun r2 M2 => E.nx { r with sl := r2.sl.set i none } M2, bk := fun r2 M2 => E.bk { r with sl := r2.sl.set i none } M2, ct := fun r2 M2 => E.ct { r with sl := r2.sl.set i none } M2, rt := E.rt }
        { sl := sl.set i (some (.cls a)), ex := fun _ _ _ _ _ => False, xd := some (dd, p, w) } M') ∧ (b = false → r.ex sl C p w M') } M
section
variable {X : Cx} {W : WX} {x n : Str} {c : Value} {i : Nat} {body suite : List Stmt} {b₀ : Stmt} {np pos pos' : Pos} {mb : DS} {ms : Addr → Addr → Option Addr → DS}
theorem ER.out {K : PySem.W.Frag} {W : WX} {F F' : Hp} {al al' : List Addr} {H H' : Hp} {M M' : MH} {s s' : L2.St} {r : RH} {sl : SL} (er : ER K W F al H M s r) (hr : HR K F al H M) (a : Stp K F al H M F' al' H' M') (es : ES K F' al' s' sl) : ER K W F' al' H' M' s' { r with sl := sl } :=
  let er1 := er.step hr a
  ⟨es, er1.xe, er1.xd⟩
theorem ms_try (hs : X.stack = X.env :: X.outer) (hf : X.env.frame = some X.env.locals) (hN : X.N.Nodup) (hi : X.N[i]? = some n) (hln : X.env.kindOf n = some .local) (hc : Names X x c) (tk : Takes X W)
    (hb : ∀ (W' : WX) (pn : List (Addr × Obj)) (xe : Value → Shared → Prop), Takes (X.tr pn xe) W' → PassesOwn (model X.prog X.w) X.A X.env xe → MSs (X.tr pn xe) W' body mb)
    (hsu : ∀ (a : Addr) (oe : Obj) (C : Addr) (d : Option Addr) (pn : List (Addr × Obj)), XP X.K C → Zc (.ref C) d oe → (∃ vs, oe.data = .fields vs) → MSs (X.suite a ((a, oe) :: pn)) wF (b₀ :: suite) (ms a C d)) :
    MS X W (.Try body [.ExceptHandler (some (.Name x np)) (some n) (b₀ :: suite) pos'] [] [] pos) (mTry X.K c i mb ms) := by
  refine PS.imp (ps_try_as (Wout := W) (tb := fun W' => lS X.K W' mb) (ts := fun a cls d D s H => ∃ C, cls = .ref C ∧ XP X.K C ∧ lS X.K wF (ms a C d) D s H) (c := c) hs hf hN hi hln hc tk (fun W' pn xe tk' ps => hb W' pn xe tk' ps) (fun a oe cls d pn hz hf => ?_)) ?_
  · constructor
    intro pins s σ H D I q
    obtain ⟨C, rfl, pc, q⟩ := q
    exact (hsu a oe C d pn pc hz hf).run pins s σ H D I q
  · rintro D s H ⟨F, al, r, M, E, er, hr, hm, a1, a2, a3, a4⟩
    have back : ∀ {P : RH → MH → Prop} {Q : L2.St → Hp → Prop}, Aft X.K W F al H M P Q → ∀ {W'}, Aft X.K W' F al H M (fun r2 M2 => P { r with sl := r2.sl } M2) Q :=
      fun {P Q} h {W'} s' H' F' al' r' M' st er' hp => h s' H' F' al' _ M' st (er.out hr st er'.es) hp
    unfold mTry at hm
    refine ⟨F, al, _, M, _, ?_, hr, hm, back a1, back a2, back a3, a4⟩
    refine ⟨er.es, fun C dx p w s' sl H' F' al' M' st es' xd hx => ?_, er.xd⟩
    obtain ⟨b, e1, h1, h2⟩ := hx
    refine ⟨b, e1, fun hb a ha => ?_, fun hb => er.xe C dx p w s' sl H' F' al' M' st es' xd (h2 hb)⟩
    obtain ⟨dd, _, _, rfl, _⟩ := id xd
    have fin : ∀ {P : RH → MH → Prop} {Q : L2.St → Hp → Prop}, Aft X.K W F al H M P Q → Aft X.K wF F' al' H' M' (fun r2 M2 => P { r with sl := r2.sl.set i none } M2) (fun σ' H' => Q (σ'.set i none) H') :=
      fun {P Q} h s2 H2 F2 al2 r2 M2 st2 er2 hp => h _ H2 F2 al2 _ M2 (st.trans hr st2) (er.out hr (st.trans hr st2) er2.es.unset) hp
    refine ⟨C, rfl, (h1 hb).1, F', al', { sl := sl.set i (some (.cls a)), ex := fun _ _ _ _ _ => False, xd := some (dd, p, w) }, M', _, ⟨es'.set (i := i) (d := .cls a) rfl, fun _ _ _ _ _ _ _ _ _ _ _ _ _ z => False.elim z, fun d p' w' z => ?_⟩, st.hr, (h1 hb).2 a dd, fin a1, fin a2, fin a3, fun v H2 F2 al2 d M2 st2 rv q => a4 v H2 F2 al2 d M2 (st.trans hr st2) rv q⟩
    cases z
    exact xd
end
/-- e.place, e.word of the one that was caught -/
def dXf (f : Str) (a : Addr) (C : Addr) (d : Option Addr) (me : DE) : DE := fun r M R => me r M fun v M1 => v = .cls a ∧ ∃ dd p w, d = some dd ∧ r.xd = some (dd, p, w) ∧ ((f = "place" ∧ R p M1) ∨ (f = "word" ∧ R (.str w) M1))
theorem me_xf {X : Cx} {a C : Addr} {oe : Obj} {d : Option Addr} {pn : List (Addr × Obj)} {e : Expr} {me : DE} {pos : Pos} {n : Str} (T : XfC X.K C) (hno : PySem.W.findIn X.K (.ref C) n = some none)
    (hz : Zc (.ref C) d oe) (hf : ∃ vs, oe.data = .fields vs) (he : ME (X.suite a ((a, oe) :: pn)) wF e me) (hb : attributeBase e n X.env (eval e X.env) = eval e X.env := by rfl) :
    ME (X.suite a ((a, oe) :: pn)) wF (.Attribute e n pos) (dXf n a C d me) := by
  refine PE.imp (pe_xf T hno hz hf he hb) ?_
  rintro s H Q ⟨F, al, r, M, R, er, hr, hm, k⟩
  refine ⟨F, al, r, M, _, er, hr, hm, fun v H1 F1 al1 dv M1 s1 r1 hm1 => ?_⟩
  obtain ⟨rfl, dd, p, w, rfl, e1, q⟩ := hm1
  obtain ⟨d2, fs, u, z1, z2, z3, z4, z5⟩ := (er.step hr s1).xd _ _ _ e1
  cases z1
  refine ⟨r1, rfl, dd, fs, ?_⟩
  rcases q with ⟨rfl, q⟩ | ⟨rfl, q⟩
  · exact ⟨u, rfl, z2, z3, k u H1 F1 al1 p M1 s1 z4 q⟩
  · exact ⟨.str w, rfl, z2, z5, k (.str w) H1 F1 al1 (.str w) M1 s1 rfl q⟩

/-! ### a def by its body -/
def endP (fr : Bool) (R : D → Prop) : DK := fun d M => match fr, d with
  | true, .loc k => (match M[k]? with
    | some (.lst ds) => plainA ds = true ∧ R (.lst ds)
    | _ => False)
  | true, _ => False
  | false, .loc k => (match M[k]? with
    | some (.lst ds) => plainA ds = true ∧ R (.lst ds)
    | some (.frz ds) => plainA ds = true ∧ R (.lst ds)
    | _ => False)
  | false, d => D.plain d = true ∧ R d
theorem endP_pl {R : D → Prop} {d : D} {M : MH} (h : ∀ k, d ≠ .loc k) (e : endP false R d M) : D.plain d = true ∧ R d := by
  cases d <;> first
    | exact e
    | exact absurd rfl (h _)
def slP (n N : Nat) (ds : List D) : SL := ds.map some ++ List.replicate (N - n) none
/-- the body's wish -/
def specP (n N : Nat) (fr : Bool) (m : DS) (pf : PF) : Prop := ∀ ds R RE, ds.length = n → pf ds R RE → m { nx := fun _ M => endP fr R .non M, rt := endP fr R, bk := fun _ _ => False, ct := fun _ _ => False } { sl := slP n N ds, ex := fun _ C p w _ => D.plain p = true ∧ RE C p w } []
section
variable {P : Program} {w : World} {K : PySem.W.Frag} {mg : Str → Option Value} {base : Heap} {k : Nat} {f : Addr} {fd : FuncData} {x q : Str} {pa : Arguments} {bd : List Stmt} {sc : Scope} {dvs : List V} {kws : List (Str × V)} {N ps : List Str} {pf : PF} {fr : Bool} {m : DS}
theorem es_start {F : Hp} {ds : List D} {vs : List V} (r : RelA K F [] ds vs) : ES K F [] (start N vs) (slP ds.length N.length ds) := by
  refine ⟨by simp [L2.start, slP, r.length], fun i d z => ?_⟩
  unfold slP at z
  by_cases hi : i < ds.length
  · rw [List.getElem?_append_left (by simpa using hi), List.getElem?_map] at z
    cases e : ds[i]? with
    | none => rw [e] at z; cases z
    | some d' =>
      rw [e] at z
      cases z
      obtain ⟨v, e2, rv⟩ := r.get e
      refine ⟨v, ?_, rv⟩
      unfold L2.start
      rw [List.getElem?_append_left (by rw [List.length_map, r.length]; exact hi), List.getElem?_map, e2]
      rfl
  · rw [List.getElem?_append_right (by simpa using Nat.le_of_not_lt hi), List.getElem?_replicate] at z
    split at z <;> cases z
theorem end_go {F0 F' H0 H' : Hp} {al' : List Addr} {M' : MH} {d : D} {v : V} {R : D → Prop} {Q : VK} (h0 : HR K F0 [] H0 []) (st : Stp K F0 [] H0 [] F' al' H' M') (r : Rel K F' al' d v) (e : endP fr R d M')
    (out : ∀ d v F' H', StpP F0 H0 F' H' → ResP K fr H0 F' H' d v → R d → Q v H') : Q v H' := by
  have key : ∀ d, D.plain d = true → R d → Rel K F' al' d v → fr = false → Q v H' := fun d p q r e => by
    subst e
    exact out d v F' H' st.toP (Rel.plain p r) q
  cases d with
  | loc k =>
    obtain ⟨a, ea, rfl⟩ := r
    have hfresh : H0 a = none := st.new k a ea (Nat.zero_le _)
    cases fr with
    | true =>
      unfold endP at e
      dsimp only at e
      split at e
      · rename_i ds em
        obtain ⟨fa, xs, ha, ra⟩ := st.hr.mem k a _ ea em
        exact out (.lst ds) (.ref a) F' H' st.toP ⟨a, xs, ds, rfl, rfl, hfresh, fa, ha, RelA.plain e.1 ra⟩ e.2
      · exact e.elim
    | false =>
      unfold endP at e
      dsimp only at e
      split at e
      · rename_i ds em
        obtain ⟨fa, xs, ha, ra⟩ := st.hr.mem k a _ ea em
        have st2 := st.trans h0 (stp_frz st.hr ea em fa ha ra)
        exact out (.lst ds) (.ref a) _ H' st2.toP ⟨a, xs, rfl, upd_same, RelA.mono (Evl.Ex.new fa) (Pre.refl _) (RelA.plain e.1 ra)⟩ e.2
      · rename_i ds em
        obtain ⟨xs, ha, ra⟩ := st.hr.mem k a _ ea em
        exact out (.lst ds) (.ref a) F' H' st.toP ⟨a, xs, rfl, ha, RelA.plain e.1 ra⟩ e.2
      · exact e.elim
  | _ =>
    cases fr with
    | true => exact e.elim
    | false => exact key _ e.1 e.2 r rfl
theorem fnP_of (Dd : FunD K x q pa bd sc dvs kws f fd) (S : FnScope N ps sc) (n : Nat) (hn : ps.length = n) (pf : PF) (fr : Bool)
    (hb : ∀ (cdv : Value) (A : Around) (outer : List Env) (s : Shared) (H : Hp) (E : XK), RoomG k (A.deeper (envOfC q sc s.heap.objs.size f cdv)) → MSs (cxOf (L2.CX P w) P w K mg base N q sc f cdv A outer s H E) (fun cls d _ H => E cls d H) bd m)
    (hm : specP n N.length fr m pf) : FnG P w K mg base (k + 1) f fd ps (spP K n fr pf) := by
  refine fnG_of Dd S (fun vs H Q E h => ?_) (fun cdv A outer s H vs Q E room h => ?_)
  · obtain ⟨F, ds, R, RE, hl, _, r, _⟩ := h
    rw [r.length, hl, hn]
  · refine ⟨_, hb cdv A outer s H E room, ?_⟩
    obtain ⟨F, ds, R, RE, hl, ex, r, hp, out, outx⟩ := h
    have h0 : HR K F [] H [] := ⟨ex, rfl, fun k a e => by simp at e, fun k j a e => by simp at e, fun k a o e => by simp at e⟩
    refine ⟨F, [], _, [], _, ?_, h0, hm ds R RE hl hp, ?_, ?_, ?_, ?_⟩
    · refine ⟨by rw [← hl]; exact es_start r, fun C dx p w s' sl H' F' al' M' st _ xd z => ?_, fun d p w z => by cases z⟩
      obtain ⟨d, fs, v, z1, z2, z3, z4, z5⟩ := xd
      exact outx C dx p w F' H' st.toP ⟨d, fs, v, z1, z2, z3, Rel.plain z.1 z4, z5⟩ z.2
    · exact fun s' H' F' al' r' M' st er z => end_go (d := .non) h0 st rfl z out
    · exact fun _ _ _ _ _ _ _ _ z => z.elim
    · exact fun _ _ _ _ _ _ _ _ z => z.elim
    · exact fun v H' F' al' d M' st rv z => end_go h0 st rv z out
end
end DL

set_option Elab.async false
set_option linter.all false
set_option maxRecDepth 100000
set_option maxHeartbeats 2000000
namespace DL
open PySem PySem.Spec L2
open Evl (Ex)
open PyProof.Rows (envOfC)

/-! ### a def that changes its first argument, by its body -/
def endI (R : D → List D → Prop) : DK := fun d (M : List MO) => match M[(0 : Nat)]? with
  | some (.lst dk) => D.plain d = true ∧ plainA dk = true ∧ R d dk
  | _ => False
def specI (n N : Nat) (m : DS) (pf : IF) : Prop := ∀ dk ds R, ds.length + 1 = n → plainA dk = true → pf dk ds R → m { nx := fun _ M => endI R .non M, rt := endI R, bk := fun _ _ => False, ct := fun _ _ => False } { sl := slP n N (.loc 0 :: ds), ex := fun _ _ _ _ _ => False } [.lst dk]
section
variable {P : Program} {w : World} {K : PySem.W.Frag} {mg : Str → Option Value} {base : Heap} {k : Nat} {f : Addr} {fd : FuncData} {x q : Str} {pa : Arguments} {bd : List Stmt} {sc : Scope} {dvs : List V} {kws : List (Str × V)} {N ps : List Str} {pf : IF} {m : DS}
theorem es_startA {F : Hp} {al : List Addr} {ds : List D} {vs : List V} (r : RelA K F al ds vs) : ES K F al (L2.start N vs) (slP ds.length N.length ds) := by
  refine ⟨by simp [L2.start, slP, r.length], fun i d z => ?_⟩
  unfold slP at z
  by_cases hi : i < ds.length
  · rw [List.getElem?_append_left (by simpa using hi), List.getElem?_map] at z
    cases e : ds[i]? with
    | none => rw [e] at z; cases z
    | some d' =>
      rw [e] at z
      cases z
      obtain ⟨v, e2, rv⟩ := r.get e
      refine ⟨v, ?_, rv⟩
      unfold L2.start
      rw [List.getElem?_append_left (by rw [List.length_map, r.length]; exact hi), List.getElem?_map, e2]
      rfl
  · rw [List.getElem?_append_right (by simpa using Nat.le_of_not_lt hi), List.getElem?_replicate] at z
    split at z <;> cases z
theorem endI_go {F0 F' H0 H' : Hp} {al' : List Addr} {M' : MH} {d : D} {v : V} {R : D → List D → Prop} {Q : VK} {a : Addr} {dk : List D} (st : Stp K F0 [a] H0 [.lst dk] F' al' H' M') (r : Rel K F' al' d v) (e : endI R d M')
    (out : ∀ d dk' v xs' F' H', Ex F0 F' → Ex F' H' → (∀ b o, b ≠ a → H0 b = some o → H' b = some o) → (∀ b, F0 b = none → F' b = none ∨ H0 b = none) → F' a = none → H' a = some (.lst xs') → RelA K F' [] dk' xs' → ResP K false H0 F' H' d v → R d dk' → Q v H') : Q v H' := by
  unfold endI at e
  split at e
  · rename_i dk' em
    have ea : al'[0]? = some a := st.pre 0 a rfl
    obtain ⟨fa, xs, ha, ra⟩ := st.hr.mem 0 a _ ea em
    refine out d dk' v xs F' H' st.ex st.hr.ext (fun b o hb z => st.fr b o z fun k z2 _ => ?_) (fun b z => ?_) fa ha (RelA.plain e.2.1 ra) (show Rel K F' [] d v from Rel.plain e.1 r) e.2.2
    · cases k with
      | zero => exact hb (Option.some.inj z2).symm
      | succ k => cases z2
    · rcases st.fzn b z with y | y | ⟨k, z2, _⟩
      · exact .inl y
      · exact .inr y
      · cases k with
        | zero =>
          have : a = b := Option.some.inj z2
          exact .inl (this ▸ fa)
        | succ k => cases z2
  · exact e.elim
theorem fnI_of (Dd : FunD K x q pa bd sc dvs kws f fd) (S : FnScope N ps sc) (n : Nat) (hn : ps.length = n) (pf : IF)
    (hb : ∀ (cdv : Value) (A : Around) (outer : List Env) (s : Shared) (H : Hp) (E : XK), RoomG k (A.deeper (envOfC q sc s.heap.objs.size f cdv)) → MSs (cxOf (L2.CX P w) P w K mg base N q sc f cdv A outer s H E) wF bd m)
    (hm : specI n N.length m pf) : FnG P w K mg base (k + 1) f fd ps (spI K n false pf) := by
  refine fnG_of Dd S (fun vs H Q E h => ?_) (fun cdv A outer s H vs Q E room h => ?_)
  · obtain ⟨F, ds, dk, a, xs, us, R, hl, _, rfl, _, _, _, r, _⟩ := h
    rw [List.length_cons, r.length, hl, hn]
  · refine ⟨_, hb cdv A outer s H E room, ?_⟩
    obtain ⟨F, ds, dk, a, xs, us, R, hl, ex, rfl, fa, ha, rk, r, hp, out⟩ := h
    have sub : ∀ {k : Nat} {b : Addr}, [a][k]? = some b → k = 0 ∧ b = a := fun {k b} e => by
      cases k with
      | zero => exact ⟨rfl, (Option.some.inj e).symm⟩
      | succ k => cases e
    have h0 : HR K F [a] H [.lst dk] := by
      refine ⟨ex, rfl, fun k b e => ?_, fun k j b e1 e2 _ => ?_, fun k b o e1 e2 => ?_⟩
      · rw [(sub e).2, ha]; simp
      · rw [(sub e1).1, (sub e2).1]
      · obtain ⟨rfl, rfl⟩ := sub e1
        cases e2
        exact ⟨fa, xs, ha, rk.mono (fun _ _ z => z) fun k x e => by simp at e⟩
    have pl : plainA dk = true := RelA.nolocs rk
    have ra : RelA K F [a] (.loc 0 :: ds) (.ref a :: us) := ⟨.ref a, us, rfl, ⟨a, rfl, rfl⟩, r.mono (fun _ _ z => z) fun k x e => by simp at e⟩
    refine ⟨F, [a], _, [.lst dk], _, ?_, h0, hm dk ds R hl pl hp, ?_, ?_, ?_, ?_⟩
    · refine ⟨by rw [← hl]; exact es_startA ra, fun C dx p w s' sl H' F' al' M' st _ xd z => z.elim, fun d p w z => by cases z⟩
    · exact fun s' H' F' al' r' M' st er z => endI_go (d := .non) st rfl z out
    · exact fun _ _ _ _ _ _ _ _ z => z.elim
    · exact fun _ _ _ _ _ _ _ _ z => z.elim
    · exact fun v H' F' al' d M' st rv z => endI_go st rv z out
end
end DL

set_option Elab.async false
set_option linter.all false
set_option maxRecDepth 100000
set_option maxHeartbeats 2000000
namespace DL
open PySem PySem.Spec L2
open Evl (Ex)

/-! ### what is walked -/
abbrev DI := RH → MH → (List D → List Nat → MH → Prop) → Prop
/-- the places of the store that are walked stand as they stood -/
def SrcOk (src : List Nat) (M M2 : MH) : Prop := ∀ k ∈ src, M2[k]? = M[k]?
/-- a step, weakly: what stood in F stands, the state is whole -/
structure Stw (K : PySem.W.Frag) (F : Hp) (al : List Addr) (H : Hp) (M : MH) (F' : Hp) (al' : List Addr) (H' : Hp) (M' : MH) : Prop where
  ex : Ex F F'
  pre : Pre al al'
  hr : HR K F' al' H' M'
theorem Stp.w {K : PySem.W.Frag} {F F' : Hp} {al al' : List Addr} {H H' : Hp} {M M' : MH} (h : Stp K F al H M F' al' H' M') : Stw K F al H M F' al' H' M' := ⟨h.ex, h.pre, h.hr⟩
structure OkIt (K : PySem.W.Frag) (F : Hp) (al : List Addr) (H : Hp) (M : MH) (J : It) (items : List D) (src : List Nat) : Prop where
  go : ∀ i F2 al2 H2 M2, Stw K F al H M F2 al2 H2 M2 → SrcOk src M M2 → i < items.length → J.go i H2
  stop : ∀ F2 al2 H2 M2, Stw K F al H M F2 al2 H2 M2 → SrcOk src M M2 → J.stop items.length H2
  yld : ∀ i d F2 al2 H2 M2 x H3, Stw K F al H M F2 al2 H2 M2 → SrcOk src M M2 → items[i]? = some d → J.yld i H2 x H3 → ∃ F3, Stp K F2 al2 H2 M2 F3 al2 H3 M2 ∧ Rel K F3 al2 d x
def lI (K : PySem.W.Frag) (W : WX) (mi : DI) : TI := fun s H R => ∃ F al r M, ∃ RI : List D → List Nat → MH → Prop, ER K W F al H M s r ∧ HR K F al H M ∧ mi r M RI ∧
  ∀ J H' F' al' items src M', Stp K F al H M F' al' H' M' → OkIt K F' al' H' M' J items src → RI items src M' → R J H'
def MI (X : Cx) (W : WX) (tg iter : Expr) (mi : DI) : Prop := PI X tg iter (lI X.K W mi)
theorem PI.imp {X : Cx} {tg iter : Expr} {t t' : TI} (h : PI X tg iter t) (i : ∀ s H R, t' s H R → t s H R) : PI X tg iter t' := ⟨fun pins s σ H R I q => h.run pins s σ H R I (i _ _ _ q)⟩

/-- a list or a tuple -/
def iSeq (K : PySem.W.Frag) (tl : TE) : TI := fun σ H R => tl σ H fun x H1 => ∃ a, x = .ref a ∧ (((∃ xs, SqL K H1 a xs) ∧ R (Itl K a) H1) ∨ ((∃ xs, SqT K H1 a xs) ∧ R (Itt K a) H1))
section
variable {X : Cx} {W : WX} {tg e : Expr}
theorem iter_l {pins : List (Addr × Obj)} {σ : L2.St} {H1 : Hp} {s1 : Shared} {R : It → Hp → Prop} {a : Addr} {u : Value} (I1 : Inv X pins σ H1 s1) (r1 : RelV (.ref a) u) (hq : ∃ xs, SqL X.K H1 a xs) (q : R (Itl X.K a) H1) :
    wpAny (model X.prog X.w) X.A (pyIter u) (PIE X pins σ tg R) X.xe s1 := by
  obtain ⟨xs, hq⟩ := hq
  obtain ⟨its, _, p, _⟩ := I1.list hq
  cases r1
  have J := I1.kept (t' := s1.toks) (h' := s1.heap.push { cls := .type "list_iterator", data := .fields #[.ref a, .int 0 0] }) fun b o e => Heap.get?_push_of_some _ e
  refine wpAny_pyIter_list p.isList ⟨s1.heap.objs.size, [s1.heap.objs.size], _, _, H1, rfl, J, turn_list a _, ⟨_, Heap.get?_push_size _ rfl, rfl, rfl⟩, fun b hb => ?_, q⟩
  rw [List.mem_singleton.mp hb]
  exact I1.fpOk (Nat.le_refl _) (I1.hok.fresh (Nat.le_refl _))
theorem iter_t {pins : List (Addr × Obj)} {σ : L2.St} {H1 : Hp} {s1 : Shared} {R : It → Hp → Prop} {a : Addr} {u : Value} (I1 : Inv X pins σ H1 s1) (r1 : RelV (.ref a) u) (hq : ∃ xs, SqT X.K H1 a xs) (q : R (Itt X.K a) H1) :
    wpAny (model X.prog X.w) X.A (pyIter u) (PIE X pins σ tg R) X.xe s1 := by
  obtain ⟨xs, hq⟩ := hq
  obtain ⟨its, _, p, _⟩ := I1.tuple hq
  cases r1
  have J := I1.kept (t' := s1.toks) (h' := s1.heap.push { cls := .type "tuple_iterator", data := .fields #[.ref a, .int 0 0] }) fun b o e => Heap.get?_push_of_some _ e
  refine wpAny_pyIter_tuple (show s1.heap.IsTuple a its.toArray from p) ⟨s1.heap.objs.size, [s1.heap.objs.size], _, _, H1, rfl, J, turn_tuple a _, ⟨_, Heap.get?_push_size _ rfl, rfl, rfl⟩, fun b hb => ?_, q⟩
  rw [List.mem_singleton.mp hb]
  exact I1.fpOk (Nat.le_refl _) (I1.hok.fresh (Nat.le_refl _))
theorem pi_both {l : Expr} {tl : TE} (hl : PE X l tl) : PI X tg l (iSeq X.K tl) := by
  constructor
  intro pins s σ H R I h
  apply thn (hl.run pins s σ H _ I h)
  rintro v s1 ⟨x, H1, I1, r1, a, rfl, hq | hq⟩
  · exact iter_l I1 r1 hq.1 hq.2
  · exact iter_t I1 r1 hq.1 hq.2
end

/-! ### walks over data -/
def dSeq (me : DE) : DI := fun r M R => me r M fun d M1 => match d with
  | .tup ds => R ds [] M1
  | .kt ds => R ds [] M1
  | .lst ds => R ds [] M1
  | .scr ds => R ds [] M1
  | .loc k => (match M1[k]? with
    | some (.lst ds) => R ds [k] M1
    | some (.frz ds) => R ds [] M1
    | _ => False)
  | _ => False
theorem okit_l {K : PySem.W.Frag} {F : Hp} {al : List Addr} {H : Hp} {M : MH} {a : Addr} {ds : List D} {src : List Nat} (h : ∀ F2 al2 H2 M2, Stw K F al H M F2 al2 H2 M2 → SrcOk src M M2 → ∃ xs, SqL K H2 a xs ∧ RelA K F2 al2 ds xs) : OkIt K F al H M (Itl K a) ds src := by
  refine ⟨fun i F2 al2 H2 M2 st so hi => ?_, fun F2 al2 H2 M2 st so => ?_, fun i d F2 al2 H2 M2 x H3 st so hd y => ?_⟩
  · obtain ⟨xs, q, r⟩ := h F2 al2 H2 M2 st so
    have hl := r.length
    exact ⟨xs, xs[i], q, by simp [hl, hi]⟩
  · obtain ⟨xs, q, r⟩ := h F2 al2 H2 M2 st so
    exact ⟨xs, q, Nat.le_of_eq r.length⟩
  · obtain ⟨xs, q, r⟩ := h F2 al2 H2 M2 st so
    obtain ⟨rfl, y⟩ := y
    obtain ⟨v, e, rv⟩ := r.get hd
    have e2 := y xs q
    rw [e] at e2
    cases e2
    exact ⟨F2, Stp.refl st.hr, rv⟩
theorem okit_t {K : PySem.W.Frag} {F : Hp} {al : List Addr} {H : Hp} {M : MH} {a : Addr} {ds : List D} {xs : List V} (q0 : SqT K F a xs) (r0 : RelA K F al ds xs) : OkIt K F al H M (Itt K a) ds [] := by
  have h : ∀ F2 al2 H2 M2, Stw K F al H M F2 al2 H2 M2 → SqT K H2 a xs ∧ RelA K F2 al2 ds xs := fun F2 al2 H2 M2 st => ⟨Evl.ex_t (st.ex.trans st.hr.ext) q0, r0.mono st.ex st.pre⟩
  refine ⟨fun i F2 al2 H2 M2 st so hi => ?_, fun F2 al2 H2 M2 st so => ?_, fun i d F2 al2 H2 M2 x H3 st so hd y => ?_⟩
  · obtain ⟨q, r⟩ := h F2 al2 H2 M2 st
    have hl := r.length
    exact ⟨xs, xs[i], q, by simp [hl, hi]⟩
  · obtain ⟨q, r⟩ := h F2 al2 H2 M2 st
    exact ⟨xs, q, Nat.le_of_eq r.length⟩
  · obtain ⟨q, r⟩ := h F2 al2 H2 M2 st
    obtain ⟨rfl, y⟩ := y
    obtain ⟨v, e, rv⟩ := r.get hd
    have e2 := y xs q
    rw [e] at e2
    cases e2
    exact ⟨F2, Stp.refl st.hr, rv⟩
section
variable {X : Cx} {W : WX} {tg e : Expr} {es : List Expr} {me : DE} {mas : DA}
theorem mi_seq (he : ME X W e me) : MI X W tg e (dSeq me) := by
  refine PI.imp (pi_both he) ?_
  rintro s H R ⟨F, al, r, M, RI, er, hr, hm, k⟩
  refine ⟨F, al, r, M, _, er, hr, hm, fun v H1 F1 al1 d M1 s1 r1 hm1 => ?_⟩
  have key : ∀ {ds : List D} {a : Addr} {xs : List V}, SqL X.K F1 a xs → RelA X.K F1 al1 ds xs → RI ds [] M1 → (∃ xs, SqL X.K H1 a xs) ∧ R (Itl X.K a) H1 := fun {ds a xs} q ra hR =>
    ⟨⟨xs, Evl.ex_l s1.hr.ext q⟩, k _ H1 F1 al1 ds [] M1 s1 (okit_l fun F2 al2 H2 M2 st _ => ⟨xs, Evl.ex_l (st.ex.trans st.hr.ext) q, ra.mono st.ex st.pre⟩) hR⟩
  cases d with
  | tup ds =>
    obtain ⟨a, xs, rfl, q, ra⟩ := r1
    exact ⟨a, rfl, .inr ⟨⟨xs, Evl.ex_t s1.hr.ext q⟩, k _ H1 F1 al1 ds [] M1 s1 (okit_t q ra) hm1⟩⟩
  | kt ds =>
    obtain ⟨a, xs, rfl, q, ra⟩ := r1
    exact ⟨a, rfl, .inr ⟨⟨xs, Evl.ex_t s1.hr.ext (Evl.st_of q)⟩, k _ H1 F1 al1 ds [] M1 s1 (okit_t (Evl.st_of q) ra) hm1⟩⟩
  | lst ds =>
    obtain ⟨a, xs, rfl, q, ra⟩ := r1
    exact ⟨a, rfl, .inl (key (.of q) ra hm1)⟩
  | scr ds =>
    obtain ⟨a, xs, rfl, q, ra⟩ := r1
    exact ⟨a, rfl, .inl (key q ra hm1)⟩
  | loc j =>
    obtain ⟨a, ea, rfl⟩ := r1
    dsimp only at hm1
    split at hm1
    · rename_i ds em
      obtain ⟨fa, xs, ha, ra⟩ := s1.hr.mem j a _ ea em
      refine ⟨a, rfl, .inl ⟨⟨xs, .of ha⟩, k _ H1 F1 al1 ds [j] M1 s1 (okit_l fun F2 al2 H2 M2 st so => ?_) hm1⟩⟩
      have em2 := (so j (List.mem_singleton.mpr rfl)).trans em
      obtain ⟨_, xs2, ha2, ra2⟩ := st.hr.mem j a _ (st.pre j a ea) em2
      exact ⟨xs2, .of ha2, ra2⟩
    · rename_i ds em
      obtain ⟨xs, ha, ra⟩ := s1.hr.mem j a _ ea em
      exact ⟨a, rfl, .inl (key (.of ha) ra hm1)⟩
    · exact hm1.elim
  | _ => exact hm1.elim
/-- lo, lo + 1, .. (n of them) -/
def rng (lo : Int) (n : Nat) : List D := (List.range n).map fun (i : Nat) => .int (lo + (i : Int))
theorem rng_len {lo : Int} {n : Nat} : (rng lo n).length = n := by simp [rng]
theorem okit_r {K : PySem.W.Frag} {F : Hp} {al : List Addr} {H : Hp} {M : MH} {lo : Int} {n : Nat} : OkIt K F al H M (Itr lo n) (rng lo n) [] := by
  refine ⟨fun i F2 al2 H2 M2 st so hi => by rw [rng_len] at hi; exact hi, fun F2 al2 H2 M2 st so => by rw [rng_len]; exact Nat.le_refl _, fun i d F2 al2 H2 M2 x H3 st so hd y => ?_⟩
  obtain ⟨rfl, rfl⟩ := y
  refine ⟨F2, Stp.refl st.hr, ?_⟩
  unfold rng at hd
  rw [List.getElem?_map] at hd
  obtain ⟨j, hj, rfl⟩ := Option.map_eq_some_iff.mp hd
  have := List.getElem?_eq_some_iff.mp hj
  obtain ⟨h1, h2⟩ := this
  rw [List.getElem_range] at h2
  subst h2
  rfl
def dRng1 (mas : DA) : DI := fun r M R => mas r M fun ds M1 => match ds with
  | [.int j] => (-(2 ^ 62) ≤ j ∧ j < 2 ^ 62) ∧ R (rng 0 j.toNat) [] M1
  | _ => False
def dRng2 (mas : DA) : DI := fun r M R => mas r M fun ds M1 => match ds with
  | [.int i, .int j] => (-(2 ^ 62) ≤ i ∧ i < 2 ^ 62 ∧ -(2 ^ 62) ≤ j ∧ j < 2 ^ 62) ∧ R (rng i (j - i).toNat) [] M1
  | _ => False
theorem mi_rng1 {a : Expr} {p pos : Pos} (hm : X.mg "range" = none) (ha : MA X W [a] mas) (hg : Gl X "range" := by rfl) (hs : starEach [a] X.env = [(false, eval a X.env)] := by rfl) : MI X W tg (.Call (.Name "range" p) [a] [] pos) (dRng1 mas) := by
  refine PI.imp (pi_range1 hg hm ha hs) ?_
  rintro s H R ⟨F, al, r, M, RI, er, hr, hm, k⟩
  refine ⟨F, al, r, M, _, er, hr, hm, fun vs H1 F1 al1 ds M1 s1 r1 hm1 => ?_⟩
  split at hm1
  · rename_i j
    obtain ⟨y, ys, rfl, rfl, rfl⟩ := r1
    exact ⟨j, rfl, hm1.1.1, hm1.1.2, k _ H1 F1 al1 _ [] M1 s1 okit_r hm1.2⟩
  · exact hm1.elim
theorem mi_rng2 {a b : Expr} {p pos : Pos} (hm : X.mg "range" = none) (ha : MA X W [a, b] mas) (hg : Gl X "range" := by rfl) (hs : starEach [a, b] X.env = [(false, eval a X.env), (false, eval b X.env)] := by rfl) (hs2 : starEach [b] X.env = [(false, eval b X.env)] := by rfl) : MI X W tg (.Call (.Name "range" p) [a, b] [] pos) (dRng2 mas) := by
  refine PI.imp (pi_range2 hg hm ha hs hs2) ?_
  rintro s H R ⟨F, al, r, M, RI, er, hr, hm, k⟩
  refine ⟨F, al, r, M, _, er, hr, hm, fun vs H1 F1 al1 ds M1 s1 r1 hm1 => ?_⟩
  split at hm1
  · rename_i i j
    obtain ⟨y, ys, rfl, rfl, z, zs, rfl, rfl, rfl⟩ := r1
    exact ⟨i, j, rfl, hm1.1, k _ H1 F1 al1 _ [] M1 s1 okit_r hm1.2⟩
  · exact hm1.elim
end
end DL

set_option Elab.async false
set_option linter.all false
set_option maxRecDepth 100000
set_option maxHeartbeats 2000000
namespace DL
open PySem PySem.Spec L2
open Evl (Ex)

/-! ### enumerate, zip -/
def enumD : Nat → List D → List D
  | _, [] => []
  | i, d :: ds => .tup [.int i, d] :: enumD (i + 1) ds
theorem enumD_len : ∀ {i : Nat} {ds : List D}, (enumD i ds).length = ds.length
  | _, [] => rfl
  | i, _ :: ds => by simp [enumD, enumD_len (i := i + 1) (ds := ds)]
theorem enumD_get : ∀ {ds : List D} {k i : Nat} {d : D}, (enumD k ds)[i]? = some d → ∃ e, ds[i]? = some e ∧ d = .tup [.int (k + i : Nat), e]
  | e :: _, k, 0, d, h => ⟨e, rfl, by simp [enumD] at h; simp [h]⟩
  | _ :: ds, k, i + 1, d, h => by
    obtain ⟨e, h1, h2⟩ := enumD_get (ds := ds) (k := k + 1) (i := i) (by simpa [enumD] using h)
    exact ⟨e, by simpa using h1, by rw [h2, Nat.add_assoc, Nat.add_comm 1 i]⟩
  | [], _, _, _, h => by simp [enumD] at h
def zipD (ds es : List D) : List D := List.zipWith (fun a b => .tup [a, b]) ds es
theorem zipD_get {ds es : List D} {i : Nat} {d : D} (h : (zipD ds es)[i]? = some d) : ∃ a b, ds[i]? = some a ∧ es[i]? = some b ∧ d = .tup [a, b] := by
  unfold zipD at h
  rw [List.getElem?_zipWith] at h
  split at h
  · rename_i a b e1 e2
    cases h
    exact ⟨a, b, e1, e2, rfl⟩
  · cases h
/-- a walked list: its items as they stand, and where it lives -/
def rdI (M : MH) : D → Option (List D × List Nat)
  | .lst ds => some (ds, [])
  | .scr ds => some (ds, [])
  | .loc k => match M[k]? with
    | some (.lst ds) => some (ds, [k])
    | some (.frz ds) => some (ds, [])
    | _ => none
  | _ => none
theorem HR.rdI_ {K : PySem.W.Frag} {F : Hp} {al : List Addr} {H : Hp} {M : MH} {d : D} {v : V} {ds : List D} {src : List Nat} (h : HR K F al H M) (r : Rel K F al d v) (e : rdI M d = some (ds, src)) :
    ∃ a, v = .ref a ∧ ∀ F2 al2 H2 M2, Stw K F al H M F2 al2 H2 M2 → SrcOk src M M2 → ∃ xs, SqL K H2 a xs ∧ RelA K F2 al2 ds xs := by
  have key : ∀ {a : Addr} {xs : List V}, SqL K F a xs → RelA K F al ds xs → ∀ F2 al2 H2 M2, Stw K F al H M F2 al2 H2 M2 → SrcOk src M M2 → ∃ xs, SqL K H2 a xs ∧ RelA K F2 al2 ds xs :=
    fun {a xs} q ra F2 al2 H2 M2 st _ => ⟨xs, Evl.ex_l (st.ex.trans st.hr.ext) q, ra.mono st.ex st.pre⟩
  cases d with
  | lst es =>
    cases e
    obtain ⟨a, xs, rfl, q, ra⟩ := r
    exact ⟨a, rfl, key (.of q) ra⟩
  | scr es =>
    cases e
    obtain ⟨a, xs, rfl, q, ra⟩ := r
    exact ⟨a, rfl, key q ra⟩
  | loc j =>
    obtain ⟨a, ea, rfl⟩ := r
    unfold rdI at e
    dsimp only at e
    split at e
    · rename_i es em
      cases e
      refine ⟨a, rfl, fun F2 al2 H2 M2 st so => ?_⟩
      have em2 := (so j (List.mem_singleton.mpr rfl)).trans em
      obtain ⟨_, xs2, ha2, ra2⟩ := st.hr.mem j a _ (st.pre j a ea) em2
      exact ⟨xs2, .of ha2, ra2⟩
    · rename_i es em
      cases e
      obtain ⟨xs, ha, ra⟩ := h.mem j a _ ea em
      exact ⟨a, rfl, key (.of ha) ra⟩
    · cases e
  | _ => cases e
theorem srcR {src : List Nat} {M : MH} : SrcOk src M M := fun _ _ => rfl
/-- a new pair -/
theorem pair_new {K : PySem.W.Frag} {F : Hp} {al : List Addr} {H : Hp} {M : MH} {T : Addr} {x y : V} {d e : D} (h : HR K F al H M) (hT : H T = none) (rx : Rel K F al d x) (ry : Rel K F al e y) :
    Stp K F al H M (upd F T (.tup [x, y])) al (upd H T (.tup [x, y])) M ∧ Rel K (upd F T (.tup [x, y])) al (.tup [d, e]) (.ref T) := by
  have fT := Evl.fresh_back h.ext hT
  have ex : Ex F (upd F T (.tup [x, y])) := Evl.Ex.new fT
  exact ⟨h.newF hT, T, [x, y], rfl, Evl.st_of upd_same, x, [y], rfl, rx.mono ex (Pre.refl _), y, [], rfl, ry.mono ex (Pre.refl _), rfl⟩
section
variable {X : Cx} {W : WX} {tg e : Expr} {es : List Expr} {me : DE} {mas : DA}
def dEnum (mas : DA) : DI := fun r M R => mas r M fun ds M1 => match ds with
  | [d] => (match rdI M1 d with
    | some (ds, src) => R (enumD 0 ds) src M1
    | none => False)
  | _ => False
theorem okit_e {K : PySem.W.Frag} {F : Hp} {al : List Addr} {H : Hp} {M : MH} {a : Addr} {ds : List D} {src : List Nat} (h : ∀ F2 al2 H2 M2, Stw K F al H M F2 al2 H2 M2 → SrcOk src M M2 → ∃ xs, SqL K H2 a xs ∧ RelA K F2 al2 ds xs) : OkIt K F al H M (Ite K a) (enumD 0 ds) src := by
  refine ⟨fun i F2 al2 H2 M2 st so hi => ?_, fun F2 al2 H2 M2 st so => ?_, fun i d F2 al2 H2 M2 x H3 st so hd y => ?_⟩
  · obtain ⟨xs, q, r⟩ := h F2 al2 H2 M2 st so
    have hl := r.length
    rw [enumD_len] at hi
    exact ⟨xs, xs[i], q, by simp [hl, hi]⟩
  · obtain ⟨xs, q, r⟩ := h F2 al2 H2 M2 st so
    exact ⟨xs, q, by rw [enumD_len]; exact Nat.le_of_eq r.length⟩
  · obtain ⟨xs, q, r⟩ := h F2 al2 H2 M2 st so
    obtain ⟨T, z, rfl, hT, rfl, y⟩ := y
    obtain ⟨e, e1, rfl⟩ := enumD_get hd
    obtain ⟨v, e2, rv⟩ := r.get e1
    have e3 := y xs q
    rw [e2] at e3
    cases e3
    obtain ⟨s1, r1⟩ := pair_new (d := .int i) (x := .int i) st.hr hT rfl rv
    rw [Nat.zero_add]
    exact ⟨_, s1, r1⟩
theorem mi_enum {p pos tpos : Pos} {elts : List Expr} {kk : Nat} (hm : X.mg "enumerate" = none) (ha : MA X W [e] mas) (hg : Gl X "enumerate" := by rfl) (hs : starEach [e] X.env = [(false, eval e X.env)] := by rfl) :
    MI X W (.Tuple elts kk tpos) (.Call (.Name "enumerate" p) [e] [] pos) (dEnum mas) := by
  refine PI.imp (pi_enum hg hm ha hs) ?_
  rintro s H R ⟨F, al, r, M, RI, er, hr, hm, k⟩
  refine ⟨F, al, r, M, _, er, hr, hm, fun vs H1 F1 al1 ds M1 s1 r1 hm1 => ?_⟩
  split at hm1
  · rename_i d
    split at hm1
    · rename_i ds src er
      obtain ⟨y, ys, rfl, ry, rfl⟩ := r1
      obtain ⟨a, rfl, hz⟩ := s1.hr.rdI_ ry er
      obtain ⟨xs, q, ra⟩ := hz F1 al1 H1 M1 (Stp.refl s1.hr).w srcR
      exact ⟨a, xs, rfl, q, k _ H1 F1 al1 _ src M1 s1 (okit_e hz) hm1⟩
    · exact hm1.elim
  · exact hm1.elim
def dZip (mas : DA) : DI := fun r M R => mas r M fun ds M1 => match ds with
  | [d, e] => (match rdI M1 d, rdI M1 e with
    | some (ds, s1), some (es, s2) => R (zipD ds es) (s1 ++ s2) M1
    | _, _ => (match d, e with
      | .tup ds, .tup es => R (zipD ds es) [] M1
      | _, _ => False))
  | _ => False
theorem zipD_len {ds es : List D} : (zipD ds es).length = min ds.length es.length := by simp [zipD]
theorem okit_z {K : PySem.W.Frag} {F : Hp} {al : List Addr} {H : Hp} {M : MH} {a b : Addr} {ds es : List D} {src : List Nat} (h : ∀ F2 al2 H2 M2, Stw K F al H M F2 al2 H2 M2 → SrcOk src M M2 → ∃ xs, SqL K H2 a xs ∧ RelA K F2 al2 ds xs)
    (g : ∀ F2 al2 H2 M2, Stw K F al H M F2 al2 H2 M2 → SrcOk src M M2 → ∃ xs, SqL K H2 b xs ∧ RelA K F2 al2 es xs) : OkIt K F al H M (Itz K a b) (zipD ds es) src := by
  refine ⟨fun i F2 al2 H2 M2 st so hi => ?_, fun F2 al2 H2 M2 st so => ?_, fun i d F2 al2 H2 M2 x H3 st so hd y => ?_⟩
  · obtain ⟨xs, q, r⟩ := h F2 al2 H2 M2 st so
    obtain ⟨ys, q2, r2⟩ := g F2 al2 H2 M2 st so
    have hl := r.length
    have hl2 := r2.length
    rw [zipD_len] at hi
    exact ⟨xs, ys, xs[i], ys[i], q, q2, by rw [List.getElem?_eq_getElem], by rw [List.getElem?_eq_getElem]⟩
  · obtain ⟨xs, q, r⟩ := h F2 al2 H2 M2 st so
    obtain ⟨ys, q2, r2⟩ := g F2 al2 H2 M2 st so
    have hl := r.length
    have hl2 := r2.length
    refine ⟨xs, ys, q, q2, ?_⟩
    rw [zipD_len]
    omega
  · obtain ⟨xs, q, r⟩ := h F2 al2 H2 M2 st so
    obtain ⟨ys, q2, r2⟩ := g F2 al2 H2 M2 st so
    obtain ⟨T, z, z2, rfl, hT, rfl, y, y2⟩ := y
    obtain ⟨d1, d2, e1, e2, rfl⟩ := zipD_get hd
    obtain ⟨v, e3, rv⟩ := r.get e1
    obtain ⟨v2, e4, rv2⟩ := r2.get e2
    have e5 := y xs q
    rw [e3] at e5; cases e5
    have e6 := y2 ys q2
    rw [e4] at e6; cases e6
    obtain ⟨s1, r1⟩ := pair_new st.hr hT rv rv2
    exact ⟨_, s1, r1⟩
theorem okit_zt {K : PySem.W.Frag} {F : Hp} {al : List Addr} {H : Hp} {M : MH} {a b : Addr} {ds es : List D} {xs ys : List V} (q0 : SqT K F a xs) (r0 : RelA K F al ds xs) (q1 : SqT K F b ys) (r1 : RelA K F al es ys) : OkIt K F al H M (RZ.ItzT K a b) (zipD ds es) [] := by
  have hl := r0.length
  have hl2 := r1.length
  have h : ∀ {F2 al2 H2 M2}, Stw K F al H M F2 al2 H2 M2 → SqT K H2 a xs ∧ SqT K H2 b ys ∧ RelA K F2 al2 ds xs ∧ RelA K F2 al2 es ys := fun {F2 al2 H2 M2} st => ⟨Evl.ex_t (st.ex.trans st.hr.ext) q0, Evl.ex_t (st.ex.trans st.hr.ext) q1, r0.mono st.ex st.pre, r1.mono st.ex st.pre⟩
  refine ⟨fun i F2 al2 H2 M2 st so hi => ?_, fun F2 al2 H2 M2 st so => ?_, fun i d F2 al2 H2 M2 x H3 st so hd y => ?_⟩
  · rw [zipD_len] at hi
    exact ⟨xs, ys, xs[i], ys[i], (h st).1, (h st).2.1, by rw [List.getElem?_eq_getElem], by rw [List.getElem?_eq_getElem]⟩
  · refine ⟨xs, ys, (h st).1, (h st).2.1, ?_⟩
    rw [zipD_len]
    omega
  · obtain ⟨T, z, z2, rfl, hT, rfl, y, y2⟩ := y
    obtain ⟨d1, d2, e1, e2, rfl⟩ := zipD_get hd
    obtain ⟨v, e3, rv⟩ := (h st).2.2.1.get e1
    obtain ⟨v2, e4, rv2⟩ := (h st).2.2.2.get e2
    have e5 := y xs (h st).1
    rw [e3] at e5; cases e5
    have e6 := y2 ys (h st).2.1
    rw [e4] at e6; cases e6
    obtain ⟨s1, r1⟩ := pair_new st.hr hT rv rv2
    exact ⟨_, s1, r1⟩
theorem SrcOk.l {s1 s2 : List Nat} {M M2 : MH} (h : SrcOk (s1 ++ s2) M M2) : SrcOk s1 M M2 := fun k hk => h k (List.mem_append_left _ hk)
theorem SrcOk.r {s1 s2 : List Nat} {M M2 : MH} (h : SrcOk (s1 ++ s2) M M2) : SrcOk s2 M M2 := fun k hk => h k (List.mem_append_right _ hk)
theorem mi_zip {e2 : Expr} {p pos tpos : Pos} {elts : List Expr} {kk : Nat} (hm : X.mg "zip" = none) (ha : MA X W [e, e2] mas) (hg : Gl X "zip" := by rfl) (hs : starEach [e, e2] X.env = (false, eval e X.env) :: starEach [e2] X.env := by rfl) (hpl : (backTo pos (starEach [e2] X.env)).any (·.1) = false := by rfl) :
    MI X W (.Tuple elts kk tpos) (.Call (.Name "zip" p) [e, e2] [] pos) (dZip mas) := by
  refine PI.imp (RZ.pi_zipA hg hm ha hs hpl) ?_
  rintro s H R ⟨F, al, r, M, RI, er, hr, hm, k⟩
  refine ⟨F, al, r, M, _, er, hr, hm, fun vs H1 F1 al1 ds M1 s1 r1 hm1 => ?_⟩
  split at hm1
  · rename_i d e
    obtain ⟨y, ys, rfl, ry, z, zs, rfl, rz, rfl⟩ := r1
    split at hm1
    · rename_i ds q1 es q2 e1 e2
      obtain ⟨a, rfl, hz⟩ := s1.hr.rdI_ ry e1
      obtain ⟨b, rfl, hz2⟩ := s1.hr.rdI_ rz e2
      obtain ⟨xs, sq, ra⟩ := hz F1 al1 H1 M1 (Stp.refl s1.hr).w srcR
      obtain ⟨ys, sq2, ra2⟩ := hz2 F1 al1 H1 M1 (Stp.refl s1.hr).w srcR
      exact ⟨a, b, xs, ys, rfl, .inl ⟨sq, sq2, k _ H1 F1 al1 _ _ M1 s1 (okit_z (fun F2 al2 H2 M2 st so => hz F2 al2 H2 M2 st so.l) (fun F2 al2 H2 M2 st so => hz2 F2 al2 H2 M2 st so.r)) hm1⟩⟩
    · split at hm1
      · obtain ⟨a, xs, rfl, q1, ra⟩ := ry
        obtain ⟨b, ys, rfl, q2, rb⟩ := rz
        exact ⟨a, b, xs, ys, rfl, .inr ⟨Evl.ex_t s1.hr.ext q1, Evl.ex_t s1.hr.ext q2, k _ H1 F1 al1 _ _ M1 s1 (okit_zt q1 ra q2 rb) hm1⟩⟩
      · exact hm1.elim
  · exact hm1.elim
end

/-! ### for -/
def forD (pt : Pat) (mb : DS) (E : DEnds) (src : List Nat) (M0 : MH) : List D → RH → MH → Prop
  | [], r, M => E.nx r M
  | d :: ds, r, M => match bindP pt d r.sl with
    | some sl => mb { E with nx := fun r' M' => SrcOk src M0 M' ∧ forD pt mb E src M0 ds r' M', ct := fun r' M' => SrcOk src M0 M' ∧ forD pt mb E src M0 ds r' M', bk := E.nx } { r with sl := sl } M
    | none => False
def mFor (mi : DI) (pt : Pat) (mb : DS) : DS := fun E r M => mi r M fun items src M1 => forD pt mb E src M1 items r M1
section
variable {X : Cx} {W : WX} {tg iter : Expr} {mi : DI} {pt : Pat} {body : List Stmt} {mb : DS} {pos : Pos}
theorem ms_for (hp : PassesOwn (model X.prog X.w) X.A X.env X.xe) (hc : X.calm = true) (hi : MI X W tg iter mi) (hg : MG X tg pt) (hb : MSs X W body mb) (hs : ∀ x, foldedSetIterable iter X.env x = pure x := by intro _; rfl) :
    MS X W (.For tg iter body [] pos) (mFor mi pt mb) := by
  refine PS.imp (ps_for hp hc hi hg hb hs) ?_
  rintro D s H0 ⟨F, al, r, M, E, er, hr, hm, a1, a2, a3, a4⟩
  refine ⟨F, al, r, M, _, er, hr, hm, fun J H1 F1 al1 items src M1 s1 ok hm1 => ?_⟩
  -- by the turn
  have w : Walk J items.length (fun H => ∃ F2 al2 M2, Stp X.K F1 al1 H1 M1 F2 al2 H M2 ∧ SrcOk src M1 M2) (fun i H x H' => J.yld i H x H') :=
    ⟨fun i H hi ⟨F2, al2, M2, st, so⟩ => ok.go i F2 al2 H M2 st.w so hi, fun H ⟨F2, al2, M2, st, so⟩ => ok.stop F2 al2 H M2 st.w so, fun _ _ _ _ _ _ y => y⟩
  refine for_it w (fun i σ H => ∃ F2 al2 r2 M2, ER X.K W F2 al2 H M2 σ r2 ∧ Stp X.K F1 al1 H1 M1 F2 al2 H M2 ∧ SrcOk src M1 M2 ∧ forD pt mb E src M1 (items.drop i) r2 M2) ⟨F1, al1, r, M1, er.step hr s1, Stp.refl s1.hr, srcR, by rw [List.drop_zero]; exact hm1⟩
    (fun i σ H _ ⟨F2, al2, r2, M2, _, st, so, _⟩ => ⟨F2, al2, M2, st, so⟩) ?_ ?_
  · rintro i x σ H H' hi ⟨F2, al2, r2, M2, er2, st, so, hf⟩ y
    have hd : items[i]? = some items[i] := List.getElem?_eq_getElem hi
    obtain ⟨F3, st3, rx⟩ := ok.yld i _ F2 al2 H M2 x H' st.w so hd y
    rw [List.drop_eq_getElem_cons hi] at hf
    unfold forD at hf
    split at hf
    · rename_i sl e1
      have er3 := er2.step st.hr st3
      refine ⟨F3, al2, M2, _, r2.sl, sl, er3.es, st3.hr, rx, e1, fun s' es' _ => ?_⟩
      have st4 := st.trans s1.hr st3
      have nxt : Aft X.K W F3 al2 H' M2 (fun r' M' => SrcOk src M1 M' ∧ forD pt mb E src M1 (items.drop (i + 1)) r' M') (fun σ H => ∃ F2 al2 r2 M2, ER X.K W F2 al2 H M2 σ r2 ∧ Stp X.K F1 al1 H1 M1 F2 al2 H M2 ∧ SrcOk src M1 M2 ∧ forD pt mb E src M1 (items.drop (i + 1)) r2 M2) :=
        fun s2 H5 F5 al5 r5 M5 st5 er5 hp => ⟨F5, al5, r5, M5, er5, st4.trans s1.hr st5, hp.1, hp.2⟩
      have st6 := s1.trans hr st4
      exact ⟨F3, al2, _, M2, _, er3.sl' es', st3.hr, hf, nxt, Aft.trans hr st6 a1, nxt, fun v H5 F5 al5 d M5 st5 rv q => a4 v H5 F5 al5 d M5 (st6.trans hr st5) rv q⟩
    · exact hf.elim
  · rintro σ H ⟨F2, al2, r2, M2, er2, st, so, hf⟩
    rw [List.drop_length] at hf
    exact a1 σ H F2 al2 r2 M2 (s1.trans hr st) er2 hf
end
end DL

set_option Elab.async false
set_option linter.all false
set_option maxRecDepth 100000
set_option maxHeartbeats 2000000
namespace DL
open PySem PySem.Spec L2
open Evl (Ex)

/-! ### a list that is being made beside the store -/
structure Apart (F : Hp) (al : List Addr) (H : Hp) (D : Addr) (xs : List V) : Prop where
  at_ : H D = some (.lst xs)
  out : ∀ k : Nat, al[k]? ≠ some D
  un : F D = none
section
variable {K : PySem.W.Frag} {F F2 F3 : Hp} {al al2 al3 : List Addr} {H H2 H3 : Hp} {M M2 M3 : MH} {p : Addr} {xs : List V} {ds : List D} {o : HO}
theorem Apart.step (a : Apart F al H p xs) (h : HR K F al H M) (st : Stp K F al H M F2 al2 H2 M2) : Apart F2 al2 H2 p xs := by
  refine ⟨st.fr p _ a.at_ fun k e => absurd e (a.out k), fun k e => ?_, ?_⟩
  · by_cases hk : k < M.length
    · have hk' : k < al.length := by rw [h.len]; exact hk
      have e1 : al[k]? = some al[k] := by simp [hk']
      have e2 := st.pre k _ e1
      rw [e] at e2
      exact a.out k (e1.trans e2.symm)
    · have := st.new k p e (by omega)
      rw [a.at_] at this
      cases this
  · rcases st.fzn p a.un with z | z | ⟨k, z, _⟩
    · exact z
    · rw [a.at_] at z; cases z
    · exact absurd z (a.out k)
theorem Stp.writeX (st : Stp K F al H M F2 al2 H2 M2) (hp : H p = none) (hout : ∀ k : Nat, al2[k]? ≠ some p) (un : F2 p = none) : Stp K F al H M F2 al2 (upd H2 p o) M2 := by
  have ne : ∀ {k : Nat} {b : Addr}, al2[k]? = some b → b ≠ p := fun {k b} e z => hout k (by rw [e, z])
  refine ⟨st.ex, st.pre, ⟨fun b u e => ?_, st.hr.len, fun k b e => ?_, st.hr.inj, fun k b u e1 e2 => ?_⟩, fun b u e n => ?_, st.old, st.new, st.le, st.fzn⟩
  · have hb : b ≠ p := fun z => by rw [z, un] at e; cases e
    rw [upd_ne hb]; exact st.hr.ext b u e
  · rw [upd_ne (ne e)]; exact st.hr.trk k b e
  · exact (st.hr.mem k b u e1 e2).mono (fun _ _ e => e) (Pre.refl _) (fun w _ q => by rw [upd_ne (ne e1)]; exact q) fun q => q
  · rw [upd_ne (ne_of_none e hp)]; exact st.fr b u e n
theorem Out.adopt {fz : Bool} {R : DK} {Q : VK} (k : Out K F al H M R Q) (h : HR K F al H M) (st : Stp K F al H M F2 al2 H2 M2) (hp : H p = none) (a : Apart F2 al2 H2 p xs) (ra : RelA K F2 al2 ds xs) (q : nw fz ds M2 R) : Q (.ref p) H2 := by
  have ne : ∀ (k : Nat) (b : Addr), al2[k]? = some b → b ≠ p := fun k b e z => a.out k (by rw [e, z])
  cases fz with
  | true =>
    have a2 : Stp K F al H M (upd F2 p (.lst xs)) al2 H2 M2 := by
      refine ⟨fun b o z => ?_, st.pre, ⟨fun b o z => ?_, st.hr.len, st.hr.trk, st.hr.inj, fun j b o z1 z2 => ?_⟩, st.fr, st.old, st.new, st.le, fun b z => ?_⟩
      · have hb : b ≠ p := fun w => by have := st.ex b o z; rw [w, a.un] at this; cases this
        rw [upd_ne hb]; exact st.ex b o z
      · by_cases hb : b = p
        · subst hb; rw [upd_same] at z; cases z; exact a.at_
        · rw [upd_ne hb] at z; exact st.hr.ext b o z
      · exact (st.hr.mem j b o z1 z2).mono (Evl.Ex.new a.un) (Pre.refl _) (fun _ _ q => q) fun q => by rw [upd_ne (ne j b z1)]; exact q
      · by_cases hb : b = p
        · subst hb; exact .inr (.inl hp)
        · rw [upd_ne hb]; exact st.fzn b z
    exact k _ _ _ _ (.lst ds) M2 a2 ⟨p, xs, rfl, upd_same, ra.mono (Evl.Ex.new a.un) (Pre.refl _)⟩ q
  | false =>
    have lm : ∀ k, k < M2.length → (M2 ++ [MO.lst ds])[k]? = M2[k]? := fun k hk => List.getElem?_append_left hk
    have hl := st.hr.len
    have hl0 := h.len
    have hle := st.le
    refine k _ _ F2 (al2 ++ [p]) (.loc M2.length) (M2 ++ [MO.lst ds]) ⟨st.ex, st.pre.trans (Pre.app _ _), ⟨st.hr.ext, by simp [hl], fun k b z => ?_, fun k j b z1 z2 l => ?_, fun k b o z1 z2 => ?_⟩, st.fr, fun k hk l => by rw [lm k (by omega)] at l; exact st.old k hk l, fun k b z l => ?_, by simp; omega, st.fzn⟩ ⟨p, ?_, rfl⟩ (show R (.loc M2.length) (M2 ++ [MO.lst ds]) from q)
    · rcases app_get z with ⟨z, _⟩ | ⟨_, z⟩
      · exact st.hr.trk k b z
      · subst z; rw [a.at_]; simp
    · rcases app_get z1 with ⟨z1, k1⟩ | ⟨k1, z1⟩
      · rcases app_get z2 with ⟨z2, k2⟩ | ⟨k2, z2⟩
        · rw [lm k (by omega)] at l
          exact st.hr.inj k j b z1 z2 l
        · subst z2; exact absurd rfl (ne k _ z1)
      · rcases app_get z2 with ⟨z2, k2⟩ | ⟨k2, z2⟩
        · subst z1; exact absurd rfl (ne j _ z2)
        · omega
    · rcases app_get z1 with ⟨z1, k1⟩ | ⟨k1, z1⟩
      · rw [lm k (by omega)] at z2
        exact (st.hr.mem k b o z1 z2).mono (fun _ _ e => e) (Pre.app _ _) (fun w _ q => q) fun q => q
      · subst z1
        rcases app_get z2 with ⟨z2, k2⟩ | ⟨k2, z2⟩
        · omega
        · subst z2
          exact ⟨a.un, xs, a.at_, ra.mono (fun _ _ e => e) (Pre.app _ _)⟩
    · rcases app_get z with ⟨z, k1⟩ | ⟨k1, z⟩
      · exact st.new k b z l
      · subst z; exact hp
    · have z : M2.length = al2.length := hl.symm
      rw [z, List.getElem?_append_right (Nat.le_refl _)]
      simp
end

/-! ### comprehensions -/
def wipeD (r : SL) : List Nat → SL
  | [] => r
  | v :: vs => (wipeD r vs).set v none
theorem ES.wipe {K : PySem.W.Frag} {F : Hp} {al : List Addr} {s : L2.St} {r : SL} (h : ES K F al s r) : ∀ vs : List Nat, ES K F al (wipe s vs) (wipeD r vs)
  | [] => h
  | v :: vs => (ES.wipe h vs).unset
theorem wipe_in : ∀ {vs : List Nat} {s : L2.St} {i : Nat}, i ∈ vs → i < s.length → (wipe s vs)[i]? = some none
  | v :: vs, s, i, hi, hl => by
    unfold wipe
    by_cases e : v = i
    · subst e
      rw [List.getElem?_set_self (by rw [wipe_length]; exact hl)]
    · rw [List.getElem?_set_ne e]
      exact wipe_in (by rcases List.mem_cons.mp hi with z | z; exact absurd z.symm e; exact z) hl
theorem Same.wipe {l vs : List Nat} {s s' : L2.St} (h : Same l (wipe s vs) s') (hl : ∀ i ∈ l, i ∈ vs) : wipe s' vs = wipe s vs := by
  have hlen : s'.length = s.length := by rw [h.1, wipe_length]
  apply List.ext_getElem?
  intro i
  by_cases hi : i ∈ vs
  · by_cases hb : i < s.length
    · rw [wipe_in hi hb, wipe_in hi (by rw [hlen]; exact hb)]
    · rw [List.getElem?_eq_none (by rw [wipe_length, hlen]; omega), List.getElem?_eq_none (by rw [wipe_length]; omega)]
  · rw [wipe_out hi, h.2 i (fun z => hi (hl i z))]
def rB (sl : SL) : RH := { sl := sl, ex := fun _ _ _ _ _ => False, xd := none }
def lcD (pt : Pat) (mt : DT) (me : DE) (sl0 : SL) (src : List Nat) (M0 : MH) : List D → List D → MH → (List D → MH → Prop) → Prop
  | [], acc, M, R => R acc M
  | d :: ds, acc, M, R => match bindP pt d sl0 with
    | some sl => mt (rB sl) M fun b M1 => if b = true then me (rB sl) M1 fun y M2 => SrcOk src M0 M2 ∧ lcD pt mt me sl0 src M0 ds (acc ++ [y]) M2 R else SrcOk src M0 M1 ∧ lcD pt mt me sl0 src M0 ds acc M1 R
    | none => False
def dLc (fz : Bool) (mi : DI) (pt : Pat) (mt : DT) (me : DE) (vs : List Nat) : DE := fun r M R => mi r M fun items src M1 => items.length ≤ sizeLine ∧ lcD pt mt me (wipeD r.sl vs) src M1 items [] M1 fun acc M2 => nw fz acc M2 R
def MTs (X : Cx) (W : WX) (ifs : List Expr) (m : DT) : Prop := PTs X ifs (lT X.K W m)
def tYesD : DT := fun _ M R => R true M
theorem mts_nil {X : Cx} {W : WX} : MTs X W [] tYesD := ⟨fun pins s σ H Q I q => by
  obtain ⟨F, al, r, M, R, er, hr, hm, k⟩ := q
  exact pts_nil.run pins s σ H Q I (k true H F al M (Stp.refl hr) hm)⟩
theorem mts_one {X : Cx} {W : WX} {c : Expr} {m : DT} (h : MT X W c m) : MTs X W [c] m := pts_one h
section
variable {X : Cx} {W : WX} {elt tg iter : Expr} {ifs : List Expr} {scope : Scope} {own : List (Str × Nat)} {pos : Pos} {mi : DI} {pt : Pat} {mt : DT} {me : DE}
theorem sim_lc (fz : Bool) (hv : ∀ i ∈ ixP pt, i ∈ own.map (·.2)) : ∀ s H Q, lE X.K W (dLc fz mi pt mt me (own.map (·.2))) s H Q → tLc (lI X.K W mi) (lG X.K pt) (lT X.K wF mt) (lE X.K wF me) (own.map (·.2)) s H Q := by
  rintro s H Q ⟨F, al, r, M, R, er, hr, hm, k⟩
  refine ⟨F, al, r, M, _, er, hr, hm, fun J H1 F1 al1 items src M1 s1 ok hm1 p hp => ?_⟩
  obtain ⟨hz, hm1⟩ := hm1
  have k1 := Out.step hr k s1
  have er1 := er.step hr s1
  have w : Walk J items.length (fun H => ∃ F2 al2 M2, Stp X.K F1 al1 H1 M1 F2 al2 H M2 ∧ SrcOk src M1 M2) (fun i H x H' => J.yld i H x H') :=
    ⟨fun i H hi ⟨F2, al2, M2, st, so⟩ => ok.go i F2 al2 H M2 st.w so hi, fun H ⟨F2, al2, M2, st, so⟩ => ok.stop F2 al2 H M2 st.w so, fun _ _ _ _ _ _ y => y⟩
  have un1 : F1 p = none := Evl.fresh_back s1.hr.ext hp
  have out1 : ∀ k : Nat, al1[k]? ≠ some p := fun k e => s1.hr.trk k p e hp
  refine lc_it w (fun i H => ∃ F2 al2 M2 xs ds, Stp X.K F1 al1 H1 M1 F2 al2 H M2 ∧ SrcOk src M1 M2 ∧ Apart F2 al2 H p xs ∧ RelA X.K F2 al2 ds xs ∧ xs.length ≤ i ∧ lcD pt mt me (wipeD r.sl (own.map (·.2))) src M1 (items.drop i) ds M2 fun acc M2 => nw fz acc M2 R)
    ⟨F1, al1, M1, [], [], (Stp.refl s1.hr).writeX hp out1 un1, srcR, ⟨upd_same, out1, un1⟩, rfl, Nat.le_refl _, by rw [List.drop_zero]; exact hm1⟩
    (fun i H _ ⟨F2, al2, M2, _, _, st, so, _⟩ => ⟨F2, al2, M2, st, so⟩) ?_ ?_
  · rintro i x H H' hi ⟨F2, al2, M2, xs, ds, st, so, ap, ra, hl, hf⟩ y
    have hd : items[i]? = some items[i] := List.getElem?_eq_getElem hi
    obtain ⟨F3, st3, rx⟩ := ok.yld i _ F2 al2 H M2 x H' st.w so hd y
    rw [List.drop_eq_getElem_cons hi] at hf
    unfold lcD at hf
    split at hf
    · rename_i sl e1
      have st4 := st.trans s1.hr st3
      have ap3 := ap.step st.hr st3
      have es4 := (er1.es.mono st4.ex st4.pre).wipe (own.map (·.2))
      refine ⟨F3, al2, M2, _, _, sl, es4, st3.hr, rx, e1, fun s' es' sm => ⟨sm.wipe hv, ?_⟩⟩
      have erB : ∀ {F al H M s sl}, ES X.K F al s sl → ER X.K wF F al H M s (rB sl) := fun {F al H M s sl} es => ⟨es, fun _ _ _ _ _ _ _ _ _ _ _ _ _ z => False.elim z, fun d p w z => by cases z⟩
      refine ⟨F3, al2, rB sl, M2, _, erB es', st3.hr, hf, fun b H5 F5 al5 M5 st5 hb => ?_⟩
      have ap5 := ap3.step st3.hr st5
      have st6 := st4.trans s1.hr st5
      have ra5 := (ra.mono st3.ex st3.pre).mono st5.ex st5.pre
      cases b with
      | true =>
        dsimp only
        rw [if_pos rfl] at hb ⊢
        refine ⟨F5, al5, rB sl, M5, _, erB (es'.mono st5.ex st5.pre), st5.hr, hb, fun v H7 F7 al7 d M7 st7 rv hq => ?_⟩
        have ap7 := ap5.step st5.hr st7
        have st8 := st6.trans s1.hr st7
        refine ⟨xs, ap7.at_, by omega, F7, al7, M7, xs ++ [v], ds ++ [d], st8.writeX hp ap7.out ap7.un, hq.1, ⟨upd_same, ap7.out, ap7.un⟩, (ra5.mono st7.ex st7.pre).app (RelA.one rv), by simp; omega, hq.2⟩
      | false =>
        dsimp only
        rw [if_neg Bool.false_ne_true] at hb ⊢
        exact ⟨F5, al5, M5, xs, ds, st6, hb.1, ap5, ra5, by omega, hb.2⟩
    · exact hf.elim
  · rintro H ⟨F2, al2, M2, xs, ds, st, so, ap, ra, hl, hf⟩
    rw [List.drop_length] at hf
    exact Out.adopt k1 s1.hr st hp ap ra hf
theorem me_lc (fz : Bool) (hc : X.calm = true) (hN : X.N.Nodup) (hi : MI X W tg iter mi) (ok : BlkOk X.N X.env.scope scope own)
    (hg : ∀ (s : Shared) (H : Hp) (C : Addr) (cl : List (Str × Addr)) (fp : List Addr), MG (X.blk s H scope (compEnvC scope cl C X.env) fp) tg pt) (ht : ∀ (s : Shared) (H : Hp) (C : Addr) (cl : List (Str × Addr)) (fp : List Addr), MTs (X.blk s H scope (compEnvC scope cl C X.env) fp) wF ifs mt)
    (he : ∀ (s : Shared) (H : Hp) (C : Addr) (cl : List (Str × Addr)) (fp : List Addr), ME (X.blk s H scope (compEnvC scope cl C X.env) fp) wF elt me) (hv : ∀ i ∈ ixP pt, i ∈ own.map (·.2) := by decide) (hs : ∀ x, foldedSetIterable iter X.env x = pure x := by intro _; rfl) :
    ME X W (.ListComp elt [⟨tg, iter, ifs, 0⟩] scope pos) (dLc fz mi pt mt me (own.map (·.2))) := PE.imp (pe_lc (g := lG X.K pt) (tt := lT X.K wF mt) (te := lE X.K wF me) hc hN hi ok hg ht he hs) (sim_lc fz hv)
theorem ms_setLc (fz : Bool) {i : Nat} {y : Str} {py spos : Pos} (hc : X.calm = true) (hN : X.N.Nodup) (hy : X.N[i]? = some y) (hyl : X.env.scope.names.lookup y = some .local)
    (hsw : swapsWith (.ListComp elt [⟨tg, iter, ifs, 0⟩] scope pos) (some (.Name y py)) spos.line X.env = pure true) (hi : MI X W tg iter mi) (ok : BlkOk X.N X.env.scope scope own)
    (hg : ∀ (s : Shared) (H : Hp) (C : Addr) (cl : List (Str × Addr)) (fp : List Addr), MG (X.blk s H scope (compEnvC scope cl C X.env) fp) tg pt) (ht : ∀ (s : Shared) (H : Hp) (C : Addr) (cl : List (Str × Addr)) (fp : List Addr), MTs (X.blk s H scope (compEnvC scope cl C X.env) fp) wF ifs mt)
    (he : ∀ (s : Shared) (H : Hp) (C : Addr) (cl : List (Str × Addr)) (fp : List Addr), ME (X.blk s H scope (compEnvC scope cl C X.env) fp) wF elt me) (hv : ∀ i ∈ ixP pt, i ∈ own.map (·.2) := by decide) (hs : ∀ x, foldedSetIterable iter X.env x = pure x := by intro _; rfl) :
    MS X W (.Assign [.Name y py] (.ListComp elt [⟨tg, iter, ifs, 0⟩] scope pos) spos) (mSet i (dLc fz mi pt mt me (own.map (·.2)))) := by
  refine PS.imp (ps_setLc (g := lG X.K pt) (tt := lT X.K wF mt) (te := lE X.K wF me) hc hN hy hyl hsw hi ok hg ht he hs) ?_
  rintro D s H ⟨F, al, r, M, E, er, hr, hm, a1, a2, a3, a4⟩
  refine sim_lc fz hv s H _ ⟨F, al, r, M, _, er, hr, hm, fun v H1 F1 al1 d M1 s1 r1 hm1 => ?_⟩
  exact a1 _ _ _ _ _ _ s1 ((er.step hr s1).put r1) hm1
end
end DL

set_option Elab.async false
set_option linter.all false
set_option maxRecDepth 100000
set_option maxHeartbeats 2000000
namespace DL
open PySem PySem.Spec L2
open Evl (Ex)

/-! ### o[i] = e, o a list of ours -/
def putK (k : Nat) (i : Int) (dv : D) (M : MH) (nx : MH → Prop) : Prop := match M[k]? with
  | some (.lst ds) => (match ixN ds.length i with
    | some j => nx (M.set k (.lst (ds.set j dv)))
    | none => False)
  | _ => False
def mPut (mo mi me : DE) : DS := fun E r M => me r M fun dv M1 => mo r M1 fun d0 M2 => mi r M2 fun di M3 => match d0, di with
  | .loc k, .int i => putK k i dv M3 fun M4 => E.nx r M4
  | _, _ => False
theorem put_ok {K : PySem.W.Frag} {F : Hp} {al : List Addr} {H : Hp} {M : MH} {k : Nat} {a : Addr} {i : Int} {dv : D} {v : V} {nx : MH → Prop} (h : HR K F al H M) (ea : al[k]? = some a) (rv : Rel K F al dv v) (q : putK k i dv M nx) :
    ∃ xs j M', H a = some (.lst xs) ∧ ixN xs.length i = some j ∧ Stp K F al H M F al (upd H a (.lst (xs.set j v))) M' ∧ nx M' := by
  unfold putK at q
  split at q
  · rename_i ds em
    split at q
    · rename_i j ej
      obtain ⟨fa, xs, ha, ra⟩ := h.mem k a _ ea em
      refine ⟨xs, j, _, ha, by rw [ra.length]; exact ej, ?_, q⟩
      refine stp_set h ea em (fun _ _ z => z) (fun b o z => ?_) (fun b o hb z => by rw [upd_ne hb]; exact z) (fun b z => .inl z) fa upd_same (ra.set rv j)
      have hb : b ≠ a := fun w => by rw [w, fa] at z; cases z
      rw [upd_ne hb]
      exact h.ext b o z
    · exact q.elim
  · exact q.elim
section
variable {X : Cx} {W : WX} {o i e : Expr} {mo mi me : DE} {pos p : Pos}
theorem ms_put (ho : ME X W o mo) (hi : ME X W i mi) (he : ME X W e me)
    (ha : ∀ v, assign (.Subscript o i p) X.env v = (do
      let ov ← holding [v] (eval o X.env)
      let iv ← holding [v, ov] (eval i X.env)
      standAt p
      holding [v, ov, iv] (setItem ov iv v)
      release [v, ov, iv] []) := by intro _; rfl)
    (hs : swapsWithSole [.Subscript o i p] e pos.line X.env = pure false := by rfl) (hw : swappedStores [.Subscript o i p] e X.env = pure none := by rfl)
    (h1 : (assignEach [.Subscript o i p] X.env).map (·.2) = [assign (.Subscript o i p) X.env] := by rfl) : MS X W (.Assign [.Subscript o i p] e pos) (mPut mo mi me) := by
  refine PS.imp (ps_asg he (pg_sub ho hi set_list ha) hs hw h1) ?_
  rintro D s H ⟨F, al, r, M, E, er, hr, hm, a1, a2, a3, a4⟩
  refine ⟨F, al, r, M, _, er, hr, hm, fun v H1 F1 al1 dv M1 s1 rv hm1 => ?_⟩
  have er1 := er.step hr s1
  refine ⟨F1, al1, r, M1, _, er1, s1.hr, hm1, fun v0 H2 F2 al2 d0 M2 s2 r0 hm2 => ?_⟩
  have er2 := er1.step s1.hr s2
  refine ⟨F2, al2, r, M2, _, er2, s2.hr, hm2, fun vi H3 F3 al3 di M3 s3 ri hm3 => ?_⟩
  split at hm3
  · rename_i k j
    obtain ⟨a, ea, rfl⟩ := r0
    cases ri
    obtain ⟨xs, jj, M4, ha4, hj, st, q⟩ := put_ok s3.hr (s3.pre k a ea) ((rv.mono s2.ex s2.pre).mono s3.ex s3.pre) hm3
    have st4 := ((s1.trans hr s2).trans hr s3).trans hr st
    exact ⟨a, xs, _, jj, rfl, rfl, ha4, hj, a1 _ _ _ _ _ _ st4 (er.step hr st4) q⟩
  · exact hm3.elim
/-- name op= e, ints -/
def mAugI (f : Int → Int → Int) (i : Nat) (me : DE) : DS := fun E r M => match r.sl[i]? with
  | some (some (.int a)) => me r M fun d M1 => (match d with
    | .int b => E.nx (r.put i (.int (f a b))) M1
    | _ => False)
  | _ => False
theorem ms_augI {op : Operator} {f : Int → Int → Int} {j : Nat} {x : Str} (hp : PIp X op (ipI f)) (hN : X.N.Nodup) (hi : X.N[j]? = some x) (hx : Loc X.env.scope x) (he : ME X W e me) (hf : X.fn x = true ∨ X.env.scope.names.lookup x = some .local := by first | exact .inl rfl | exact .inr rfl | assumption) :
    MS X W (.AugAssign (.Name x p) op e pos) (mAugI f j me) := by
  refine PS.imp (ps_aug hN hi hx he hp hf) ?_
  rintro D s H ⟨F, al, r, M, E, er, hr, hm, a1, a2, a3, a4⟩
  unfold mAugI at hm
  split at hm
  · rename_i a ea
    obtain ⟨v, hv, rv⟩ := er.es.2 j _ ea
    refine ⟨v, hv, F, al, r, M, _, er, hr, hm, fun w H1 F1 al1 d M1 s1 rw1 hm1 => ?_⟩
    split at hm1
    · rename_i b
      cases rv
      cases rw1
      exact ⟨a, b, rfl, rfl, a1 _ _ _ _ _ _ s1 ((er.step hr s1).put (d := .int (f a b)) rfl) hm1⟩
    · exact hm1.elim
  · exact hm.elim
/-! ### xs[::s], s = 1 or -1 -/
def tStepL (K : PySem.W.Frag) (te ts : TE) : TE := fun σ H Q => te σ H fun x H1 => ts σ H1 fun y H2 => ∃ a xs, x = .ref a ∧ SqL K H2 a xs ∧ ((y = .int 1 ∧ ∀ p, H2 p = none → Q (.ref p) (upd H2 p (.lst xs))) ∨ (y = .int (-1) ∧ ∀ p, H2 p = none → Q (.ref p) (upd H2 p (.lst xs.reverse))))
theorem pick_one (its : Array Value) : slicePick its none none (some 1) = its := slicePick_all its
theorem pe_stepL {te ts : TE} {st : Expr} {p3 : Pos} (he : PE X e te) (hst : PE X st ts) : PE X (.Subscript e (.Slice none none (some st) p3) pos) (tStepL X.K te ts) := by
  constructor
  intro pins s σ H Q I h
  apply PyProof.Rows.Subscript_
  refine thn (he.run pins s σ H _ I h) fun v s1 hv => ?_
  obtain ⟨x, H1, I1, r1, q1⟩ := hv
  have none_ : ∀ {s : Shared} {H : Hp} {R : Value → Shared → Prop}, R .none s → wpAny (model X.prog X.w) X.A (evalPart none X.env) R X.xe s := fun {s H R} q => by
    rw [evalPart_none]; exact wpAny_pure q
  refine wpAny_Slice (none_ (H := H1) (none_ (H := H1) ?_))
  rw [evalPart_some]
  refine thn (hst.run pins s1 σ H1 _ I1 q1) fun vs s4 hv4 => ?_
  obtain ⟨y, H4, I4, ry, a, xs, rfl, hx, q⟩ := hv4
  cases r1
  have I5 : Inv X pins σ H4 { s4 with heap := s4.heap.push { cls := .type "slice", data := .fields #[.none, .none, vs] } } := I4.kept (t' := s4.toks) fun b ob z => Heap.get?_push_of_some _ z
  obtain ⟨its, r, ht, hz⟩ := I5.list hx
  have hlen := r.length
  have sz : its.toArray.size ≤ sizeLine := by rw [List.size_toArray]; omega
  refine PyProof.Rows.tail_any (ops := [.ref a, .ref s4.heap.objs.size]) ht.isList.typeIs PySem.slot_list_getitem.lookup ?_ (by with_unfolding_all rfl)
  rcases q with ⟨rfl, q⟩ | ⟨rfl, q⟩
  · obtain ⟨t, rfl⟩ := ry
    refine wpAny_getItem_list_slice ht.isList (Heap.IsSliceOf.new _ .none .none _) .none .none (.int 1 t) (by decide) ?_ sz
    rw [pick_one]
    exact ⟨.ref _, _, I5.laid (t' := s4.toks) (o := .lst xs) (fun b ob z => Heap.get?_push_of_some _ z) (Nat.le_refl _) ⟨hz, _, 0, r, Heap.get?_push_size _ rfl⟩, rfl, q _ (I5.hok.fresh (Nat.le_refl _))⟩
  · obtain ⟨t, rfl⟩ := ry
    refine wpAny_getItem_list_slice ht.isList (Heap.IsSliceOf.new _ .none .none _) .none .none (.int (-1) t) (by decide) ?_ sz
    rw [PySem.W.krv_pick]
    exact ⟨.ref _, _, I5.laid (t' := s4.toks) (o := .lst xs.reverse) (fun b ob z => Heap.get?_push_of_some _ z) (Nat.le_refl _) ⟨by rw [List.length_reverse]; exact hz, _, 0, r.reverse, Heap.get?_push_size _ rfl⟩, rfl, q _ (I5.hok.fresh (Nat.le_refl _))⟩
def dStep (fz : Bool) (me mst : DE) : DE := fun r M R => me r M fun d M1 => mst r M1 fun y M2 => match rdL M2 d, y with
  | some ds, .int i => (i = 1 ∧ nw fz ds M2 R) ∨ (i = -1 ∧ nw fz ds.reverse M2 R)
  | _, _ => False
theorem me_step (fz : Bool) {st : Expr} {mst : DE} {p3 : Pos} (he : ME X W e me) (hst : ME X W st mst) : ME X W (.Subscript e (.Slice none none (some st) p3) pos) (dStep fz me mst) := by
  refine PE.imp (pe_stepL he hst) ?_
  rintro s H Q ⟨F, al, r, M, R, er, hr, hm, k⟩
  refine ⟨F, al, r, M, _, er, hr, hm, fun v H1 F1 al1 d M1 s1 rv hm1 => ?_⟩
  have er1 := er.step hr s1
  refine ⟨F1, al1, r, M1, _, er1, s1.hr, hm1, fun y H2 F2 al2 dy M2 s2 ry hm2 => ?_⟩
  have k2 := Out.step hr k (s1.trans hr s2)
  split at hm2
  · rename_i ds i e1
    obtain ⟨a, xs, rfl, hx, ra⟩ := s2.hr.rdL_ (rv.mono s2.ex s2.pre) e1
    cases ry
    refine ⟨a, xs, rfl, hx, ?_⟩
    rcases hm2 with ⟨rfl, q⟩ | ⟨rfl, q⟩
    · exact .inl ⟨rfl, fun p hp => Out.new k2 s2.hr hp ra q⟩
    · exact .inr ⟨rfl, fun p hp => Out.new k2 s2.hr hp ra.rev q⟩
  · exact hm2.elim
end
end DL

set_option Elab.async false
set_option linter.all false
set_option maxRecDepth 100000
set_option maxHeartbeats 2000000
namespace DL
open PySem PySem.Spec L2 PyProof.Rows
open Evl (Ex)

/-! ### the end: the law's promise at the heap behind the top -/
/-- the law says True at each script -/
def okLaw (m : PF) (n : Nat) : Prop := ∀ ns : List Int, ns.length ≤ n → (∀ z ∈ ns, Builtin.Int.intBits z ≤ 1048576) → m [.scr (ns.map D.int)] (fun d => d = .bl true) (fun _ _ _ => False)
theorem roomCaller : RoomG 60 callerA := ⟨by first | exact ⟨by decide, by decide, by decide, by decide⟩ | decide | exact room_caller | constructor <;> decide, rfl⟩
theorem RoomG.d3 {k : Nat} {A : Around} (h : RoomG k A) : A.depth + 3 < recursionLimit := by have := h.r.dp; omega
theorem relA_ints {K : PySem.W.Frag} {F : Hp} {al : List Addr} : ∀ ns : List Int, RelA K F al (ns.map D.int) (ns.map V.int)
  | [] => rfl
  | n :: ns => ⟨.int n, _, rfl, rfl, relA_ints ns⟩
section
variable {P : Program} {w : World} {K : PySem.W.Frag} {mg mb : Str → Option Value} {k : Nat} {fa a : Addr} {fd : FuncData} {x : Str} {sp : Sp} {s1 : Shared} {vs : List Value} {ns : List Int}
/-- what is asked of the law's end -/
abbrev LawEnd (s1 : Shared) (r : Result) (s' : Shared) : Prop := r = .ok (.ret (.bool true)) ∧ OldK s1.heap s'.heap ∧ s'.os = s1.os ∧ AllBare s'.gens
/-- from a heap H in which at most the script stands -/
theorem law_from {H : Hp} (KX : K.In s1.heap) (gN : s1.heap.Ns mainGlobals mg) (bN : s1.heap.Ns builtinsNs mb) (bB : ∀ x : Str, x ≠ "__name__" → mb x = bootBuiltins x) (lim : s1.heap.NoLimit) (hg : s1.gens = #[]) (hr : RoomG k callerA)
    (obj : ∀ b u, H b = some u → ∃ xs n, s1.heap.get? b = some ({ cls := .type "list", data := .seq xs n } : Obj)) (notK : ∀ b, H b ≠ none → K.lookup b = none) (only : Only H) (hok : HOk P w H s1.heap)
    (F : ∀ base : Heap, K.In base → base.Ns mainGlobals mg → FnG P w K mg base k fa fd [x] sp) (bind : ∀ (s : Shared) (u : Value), BindsTo s fd ⟨[u], []⟩ [(x, u)]) (hsp : sp [.ref a] H (fun v _ => v = .bl true) fun _ _ _ => False) :
    codeAny (model P w) callerA (.call (.ref fa) ⟨[.ref a], []⟩) (LawEnd s1) s1 := by
  have free : ∀ {b : Addr} {o : Obj} {es : Array DictEntry} {ep : Nat}, s1.heap.get? b = some o → o.data = .dict es ep → H b = none := fun {b o es ep} e d => by
    rcases hb : H b with _ | u
    · rfl
    · obtain ⟨xs, n, z⟩ := obj b u hb
      rw [e] at z; cases z; cases d
  have below : ∀ {b : Addr} {m : Str → Option Value}, s1.heap.Ns b m → (hidT s1.heap H).Ns b m := by
    rintro b m ⟨o, es, ep, e, d, r⟩
    exact ⟨o, es, ep, hidT_get e (free e d), d, r⟩
  have inB : K.In (hidT s1.heap H) := by
    intro b o e
    refine hidT_get (KX b o e) ?_
    rcases hb : H b with _ | u
    · rfl
    · rw [notK b (by rw [hb]; simp)] at e; cases e
  have lim2 : (hidT s1.heap H).NoLimit := by
    obtain ⟨mc, l1, l2⟩ := lim
    exact ⟨mc, below l1, l2⟩
  have e0 : Env0 P w K mg (hidT s1.heap H) callerA [] s1 H := by
    refine ⟨rfl, ⟨inB, below gN, ⟨mb, below bN, bB⟩, lim2⟩, fun b o e => of_hidT e, Nat.le_of_eq (hidT_size _ _), trivial, ?_, hok, .of_eq hg⟩
    intro b hb
    cases hb
  have run := (F _ inB (below gN)).go callerA [] s1 H ⟨[.ref a], []⟩ [.ref a] [.ref a] _ _ hr e0 (bind s1 (.ref a)) (.cons rfl .nil) hsp
  refine codeAny_mono run ?_
  rintro (er | fl) s' h
  · obtain ⟨_, _, _, _, _, _, _, _, _, _, _, _, z⟩ := h
    exact z.elim
  · cases fl with
    | ret u =>
      obtain ⟨v, H', os, bare, un, hok', r', rfl⟩ := h
      cases r'
      refine ⟨rfl, OldK.of_keep ?_, os, bare⟩
      intro b o e
      rcases hb : H b with _ | u
      · exact un.keep b o e hb (by intro z; cases z) (by simp)
      · rcases only b with z | ⟨ob, xs, z⟩
        · rw [hb] at z; cases z
        · have z2 := (hok' b _ (un.frzs b ob _ z)).1
          have z1 := (hok b _ z).1
          rw [e] at z1
          cases z1
          exact z2
    | _ => exact False.elim h
theorem law_callG (KX : K.In s1.heap) (gN : s1.heap.Ns mainGlobals mg) (bN : s1.heap.Ns builtinsNs mb) (bB : ∀ x : Str, x ≠ "__name__" → mb x = bootBuiltins x) (lim : s1.heap.NoLimit) (hg : s1.gens = #[]) (hr : RoomG k callerA)
    (ha : s1.heap.get? a = some { cls := .type "list", data := .seq vs.toArray }) (hi : IntsAre vs ns) (hl : ns.length ≤ sizeLine)
    (F : ∀ base : Heap, K.In base → base.Ns mainGlobals mg → FnG P w K mg base k fa fd [x] sp) (bind : ∀ (s : Shared) (u : Value), BindsTo s fd ⟨[u], []⟩ [(x, u)])
    (hsp : ∀ H : Hp, Only H → SqL K H a (ns.map V.int) → sp [.ref a] H (fun v _ => v = .bl true) fun _ _ _ => False) :
    codeAny (model P w) callerA (.call (.ref fa) ⟨[.ref a], []⟩) (LawEnd s1) s1 := by
  have rv := vals_ints hi
  have lv := hi.length
  by_cases hk : K.lookup a = none
  · let H : Hp := fun b => if b = a then some (.frz { cls := .type "list", data := .seq vs.toArray } (.lst (ns.map V.int))) else none
    have at_ : H a = some (.frz { cls := .type "list", data := .seq vs.toArray } (.lst (ns.map V.int))) := if_pos rfl
    have off : ∀ {b}, b ≠ a → H b = none := fun h => if_neg h
    have eqa : ∀ {b u}, H b = some u → b = a := fun {b u} z => by
      by_cases hb : b = a
      · exact hb
      · rw [off hb] at z; cases z
    have only : Only H := fun b => by
      by_cases hb : b = a
      · subst hb; exact .inr ⟨_, _, at_⟩
      · exact .inl (off hb)
    refine law_from (H := H) KX gN bN bB lim hg hr (fun b u z => ?_) (fun b z => ?_) only (fun b u z => ?_) F bind (hsp H only (.inl (.inr ⟨_, at_⟩)))
    · obtain rfl := eqa z
      exact ⟨_, _, ha⟩
    · rcases hb : H b with _ | u
      · exact absurd hb z
      · obtain rfl := eqa hb
        exact hk
    · obtain rfl := eqa z
      rw [at_] at z
      cases z
      exact ⟨ha, by rw [List.length_map]; exact hl, vs, _, rv, ha⟩
  · obtain ⟨o, ho⟩ := Option.ne_none_iff_exists'.mp hk
    have e := KX a o ho
    rw [ha] at e
    cases e
    have only : Only (fun _ => none) := fun _ => .inl rfl
    refine law_from (H := fun _ => none) KX gN bN bB lim hg hr (fun b u z => by cases z) (fun b z => absurd rfl z) only (fun b u z => by cases z) F bind (hsp _ only (.inr ⟨_, vs.toArray, _, ho, rfl, rfl, rfl, ?_, by simpa using rv⟩))
    rw [List.size_toArray, lv]
    exact hl
end
/-- the law's promise gives the row -/
theorem walk_ofG {l : PySem.W.OpenLaw} {n k : Nat} {q : Program} {loose : List Str} {XP : (Str → Option Value) → Heap → Prop} {YP : World → Heap → Prop} {d : DefRec} {x : Str} {m : PF}
    (hn : l.most = some n) (hn2 : n ≤ sizeLine) (hdf : d.params.defaults = []) (hr : RoomG k callerA)
    (F : ∀ (w : World) (mg : Str → Option Value) (fa : Addr) (h : Heap), YP w h → h.Ns mainGlobals mg → mg d.name = some (.ref fa) →
      ∃ (K : PySem.W.Frag) (fd : FuncData), K.In h ∧ (∀ (s : Shared) (u : Value), BindsTo s fd ⟨[u], []⟩ [(x, u)]) ∧ ∀ base : Heap, K.In base → base.Ns mainGlobals mg → FnG l.prog w K mg base k fa fd [x] (spP K 1 false m))
    (hm : okLaw m n) : PySem.W.WalkO q loose XP YP l.row.toRowW d [] (fun f vs => PySem.call f vs) := by
  refine Att.attach_callB hn hdf ?_
  intro w s0 s1 mg mb fa o pm cd doc a vs ns G Y ho hd hcd hmg hobj hints hlen hbits hg
  obtain ⟨K, fd, KX, hb, hF⟩ := F w mg fa _ Y G.T.g hmg
  refine law_callG KX G.T.g G.T.b G.T.builtins G.T.nolimit hg hr hobj hints (Nat.le_trans hlen hn2) hF hb ?_
  intro H hO hS
  refine ⟨H, [.scr (ns.map D.int)], _, _, rfl, fun _ _ z => z, ⟨.ref a, [], rfl, ⟨a, _, rfl, hS, relA_ints ns⟩, rfl⟩, hm ns hlen hbits, ?_, fun _ _ _ _ _ _ _ _ z => z.elim⟩
  intro d v F' H' _ r e
  subst e
  exact r
end DL

set_option Elab.async false
set_option linter.all false
set_option maxRecDepth 100000
set_option maxHeartbeats 2000000
namespace DL
open PySem PySem.Spec L2 PyProof.Rows
open Evl (Ex)

/-! ### the head's facts of exception classes -/
/-- an __init__ that closes over its class, as the text has it -/
structure SupD where
  cls : Str
  qual : Str
  params : Arguments
  body : List Stmt
  scope : Scope
abbrev SpW : Type := Option (Str × Arguments × FuncBody × Scope × Addr × Addr)
def spAd (K : PySem.W.Frag) (x : Str) : Addr := He.ma K (He.ga K x) "__init__"
def spW (K : PySem.W.Frag) (x : Str) : SpW := match K.lookup (spAd K x) with
  | some ⟨_, _, .func fd, _⟩ => some (fd.qualname, fd.params, fd.body, fd.scope, fd.globals, fd.builtins)
  | _ => none
def SupD.val (d : SupD) : SpW := some (d.qual, d.params, .stmts d.body, d.scope, mainGlobals, builtinsNs)
def cellB (K : PySem.W.Frag) (cc D : Addr) : Bool := match K.lookup cc with
  | some ⟨_, _, .cell (some (.ref E)), _⟩ => decide (E = D)
  | _ => false
def fileB (file : Str) (K : PySem.W.Frag) (cda : Addr) : Bool := match K.lookup cda with
  | some ⟨_, _, .fields vs, _⟩ => (match (vs : Array Value)[(2 : Nat)]? with
    | some (.str fl _) => file == fl
    | _ => false)
  | _ => false
def dfl1 (K : PySem.W.Frag) (dV : Value) : Bool := match dV with
  | .ref T => (match K.lookup T with
    | some ⟨_, _, .seq its _, _⟩ => decide (its.toList = [Value.none])
    | _ => false)
  | _ => false
def spOk (file : Str) (K : PySem.W.Frag) (d : SupD) : Bool := match K.lookup (spAd K d.cls) with
  | some ⟨.type t, _, .func fd, _⟩ => decide (t = "function") && (match fd.closure, fd.code with
    | [(n, cc)], .ref cda => decide (n = "__class__") && (PySem.W.codeIn K (.ref cda) d.qual && (fileB file K cda && (cellB K cc (He.ga K d.cls) && ((PySem.W.clsIn K (He.ga K d.cls)).isSome && dfl1 K fd.defaults))))
    | _, _ => false)
  | _ => false
/-- all that a class's making rests on -/
def oxB (K : PySem.W.Frag) (C : Addr) : Bool := match K.lookup C with
  | some ⟨.type t, _, .cls cd, sl⟩ => (match cd.mro, sl.toList with
    | .ref C' :: bm, [_, _, _, _, some (.builtin n), _] => decide (t = "type") && (decide (C' = C) && (decide (n = "Exception.__new__") && (!cd.hasDel && (cd.hasDict && PySem.W.excTail ESX.exTail bm))))
    | _, _ => false)
  | _ => false
def oxA (K : PySem.W.Frag) (C : Addr) : Bool := oxB K C && (decide (PySem.W.findIn K (.ref C) "__setattr__" = some (some (.builtin "object.__setattr__"))) && (decide (PySem.W.subIn K (.ref C) (.type "BaseException") = some true) && (decide (PySem.W.subIn K (.ref C) (.type "Exception") = some true) &&
  (decide (PySem.W.typeIn K (.ref C) = some (.type "type")) && (PySem.W.keepIn K (.ref C) && (decide (PySem.W.nsIn K cStatics "thirdparty.any" = some none) && (decide (PySem.W.findIn K (.ref C) "place" = some none) && decide (PySem.W.findIn K (.ref C) "word" = some none))))))))
theorem oxA_ok {K : PySem.W.Frag} {C : Addr} (h : oxA K C = true) : EX.OX K C := by
  unfold oxA at h
  simp only [Bool.and_eq_true, decide_eq_true_eq] at h
  obtain ⟨h1, h2, h3, h4, h5, h6, h7, h8, h9⟩ := h
  refine ⟨?_, h2, h3, h4, h5, h6, h7, h8, h9⟩
  unfold oxB at h1
  split at h1
  · rename_i t dd cd sl ho
    split at h1
    · rename_i C' bm k0 k1 k2 k3 n k5 hm hs
      simp only [Bool.and_eq_true, decide_eq_true_eq, Bool.not_eq_true'] at h1
      obtain ⟨rfl, rfl, rfl, hdel, hdi, ht⟩ := h1
      obtain ⟨nm, bs, mro, ns, qn, hd, sn, sub, ab, col, del⟩ := cd
      dsimp only at hm hdel hdi
      subst hm hdel hdi
      obtain ⟨l⟩ := sl
      simp only at hs
      subst hs
      exact ⟨nm, qn, ns, bs, bm, sn, sub, ab, col, dd, k0, k1, k2, k3, k5, ho, ht⟩
    · cases h1
  · cases h1
/-- x: the class; y: the class above, or itself where Exception stands above -/
structure ExcF where
  cls : Str
  base : Str
def excB (K : PySem.W.Frag) (e : ExcF) : Bool :=
  oxA K (He.ga K e.cls) && (decide (PySem.W.nsIn K mainGlobals e.cls = some (some (.ref (He.ga K e.cls)))) && (decide (PySem.W.findIn K (.ref (He.ga K e.cls)) "__init__" = some (some (.ref (spAd K e.cls)))) && (decide (PySem.W.typeIn K (.ref (spAd K e.cls)) = some (.type "function")) &&
    (decide (PySem.W.ks_superIn K (He.ga K e.cls) (He.ga K e.base) "__init__" = some (some (.builtin "Exception.__init__"))) && (decide (PySem.W.mroIn K (He.ga K e.cls) (.ref (He.ga K e.base)) = some true) && (decide (PySem.W.mroIn K (He.ga K e.cls) (.ref (He.ga K e.cls)) = some true) &&
      ((decide (e.cls = e.base) || decide (PySem.W.ks_superIn K (He.ga K e.cls) (He.ga K e.cls) "__init__" = some (some (.ref (spAd K e.base))))) && xfB K (He.ga K e.cls))))))))
structure ExcG (K : PySem.W.Frag) (C D fC fD : Addr) : Prop where
  ox : EX.OX K C
  ini : PySem.W.findIn K (.ref C) "__init__" = some (some (.ref fC))
  tyf : PySem.W.typeIn K (.ref fC) = some (.type "function")
  low : PySem.W.ks_superIn K C D "__init__" = some (some (.builtin "Exception.__init__"))
  md : PySem.W.mroIn K C (.ref D) = some true
  mc : PySem.W.mroIn K C (.ref C) = some true
  xf : XfC K C
theorem excB_ok {K : PySem.W.Frag} {e : ExcF} (h : excB K e = true) : ExcG K (He.ga K e.cls) (He.ga K e.base) (spAd K e.cls) (spAd K e.base) ∧ PySem.W.nsIn K mainGlobals e.cls = some (some (.ref (He.ga K e.cls))) ∧ (e.cls = e.base ∨ PySem.W.ks_superIn K (He.ga K e.cls) (He.ga K e.cls) "__init__" = some (some (.ref (spAd K e.base)))) := by
  unfold excB at h
  simp only [Bool.and_eq_true, Bool.or_eq_true, decide_eq_true_eq] at h
  obtain ⟨h1, h2, h3, h4, h5, h6, h7, h8, h9⟩ := h
  exact ⟨⟨oxA_ok h1, h3, h4, h5, h6, h7, xfB_ok h9⟩, h2, h8⟩
/-- the function object of an __init__ -/
structure SupG (P : Program) (K : PySem.W.Frag) (D f : Addr) (d : SupD) (fd : FuncData) : Prop where
  sf : EX.SupFn P K D f d.qual d.params d.body d.scope fd
  df : ∃ T oT its m, fd.defaults = .ref T ∧ K.lookup T = some oT ∧ oT.data = .seq its m ∧ its.toList = [Value.none]
theorem spOk_ok {P : Program} {K : PySem.W.Frag} {d : SupD} (h : spOk P.main.file K d = true) (e : spW K d.cls = d.val) : ∃ fd, SupG P K (He.ga K d.cls) (spAd K d.cls) d fd := by
  unfold spOk at h
  unfold spW at e
  split at h
  · rename_i t od fd osl hf
    rw [hf] at e
    simp only [Bool.and_eq_true, decide_eq_true_eq] at h
    obtain ⟨rfl, h⟩ := h
    obtain ⟨n1, n2, n3, n4, n5, n6, n7, n8, n9, n10, n11, n12, n13, n14, n15⟩ := fd
    simp only [SupD.val, Option.some.injEq, Prod.mk.injEq] at e
    obtain ⟨rfl, rfl, rfl, rfl, rfl, rfl⟩ := e
    dsimp only at h
    split at h
    · rename_i n cc cda
      simp only [Bool.and_eq_true, decide_eq_true_eq] at h
      obtain ⟨rfl, hcd, hfile, hcell, hD, hdf⟩ := h
      unfold fileB at hfile
      split at hfile
      · rename_i ccl cdd vs ccs hcode
        split at hfile
        · rename_i fl tf hvs
          unfold cellB at hcell
          split at hcell
          · rename_i cl cld E csl hcl
            simp only [decide_eq_true_eq] at hcell
            subst hcell
            unfold dfl1 at hdf
            split at hdf
            · rename_i T
              split at hdf
              · rename_i oc2 od2 its m sl2 hT
                simp only [decide_eq_true_eq] at hdf
                exact ⟨_, ⟨⟨n1, od, .ref T, n9, n10, n11, n12, cda, n14, osl, cc, ccl, cdd, vs, ccs, fl, tf, cl, cld, csl, rfl, hf, hcd, hcode, hvs, hfile, hcl⟩, hD⟩, T, _, its, m, rfl, hT, rfl, hdf⟩
              · cases hdf
            · cases hdf
          · cases hcell
        · cases hfile
      · cases hfile
    · cases h
  · cases h

abbrev sb (a b : Value) : List (Str × Value) := [("self", a), ("place", b)]
/-- the arguments of such an __init__ are bound -/
structure BindS (d : SupD) : Prop where
  two : ∀ (T cda cc : Addr) (nm : Str) (kV doc pm : Value) (an : Option Addr) (ct a b : Value), ∃ k, bindArgs (PySem.W.ksFn nm d.qual d.params d.body d.scope (.ref T) kV doc pm an (.ref cda) ct cc) ⟨[a, b], []⟩ = seqItems? (.ref T) >>= k ∧ k (some #[.none]) = pure (sb a b)
  one : ∀ (T cda cc : Addr) (nm : Str) (kV doc pm : Value) (an : Option Addr) (ct a : Value), ∃ k, bindArgs (PySem.W.ksFn nm d.qual d.params d.body d.scope (.ref T) kV doc pm an (.ref cda) ct cc) ⟨[a], []⟩ = seqItems? (.ref T) >>= k ∧ k (some #[.none]) = pure (sb a .none)
  kw : ∀ (T cda cc : Addr) (nm : Str) (kV doc pm : Value) (an : Option Addr) (ct a b : Value), ∃ k, bindArgs (PySem.W.ksFn nm d.qual d.params d.body d.scope (.ref T) kV doc pm an (.ref cda) ct cc) ⟨[a], [("place", b)]⟩ = seqItems? (.ref T) >>= k ∧ k (some #[.none]) = pure (sb a b)
theorem bindS_go {P : Program} {K : PySem.W.Frag} {D f : Addr} {d : SupD} {fd : FuncData} (G : SupG P K D f d fd) (B : BindS d) {s : Shared} (X : K.In s.heap) {a p : Value} {args : Args} (ha : args = ⟨[a, p], []⟩ ∨ (args = ⟨[a], []⟩ ∧ p = .none) ∨ args = ⟨[a], [("place", p)]⟩) :
    BindsTo s fd args (sb a p) := by
  obtain ⟨nm, od, dV, kV, doc, pm, an, cda, ct, osl, cc, ccl, cdd, vs, ccs, file, tf, cl, cld, csl, rfl, hf, hcd, hcode, hvs, hfile, hcell⟩ := G.sf.ex
  obtain ⟨T, oT, its, m, e1, lT, hd, hi⟩ := G.df
  have e2 : dV = .ref T := e1
  subst e2
  have hi2 : its = #[.none] := by
    obtain ⟨l⟩ := its
    simp only at hi
    rw [hi]
  subst hi2
  have fin : ∀ {k : Option (Array Value) → Sem (List (Str × Value))}, bindArgs (PySem.W.ksFn nm d.qual d.params d.body d.scope (.ref T) kV doc pm an (.ref cda) ct cc) args = seqItems? (.ref T) >>= k ∧ k (some #[.none]) = pure (sb a p) →
      BindsTo s (PySem.W.ksFn nm d.qual d.params d.body d.scope (.ref T) kV doc pm an (.ref cda) ct cc) args (sb a p) := fun {k} h => BindsTo.of_defaults rfl (X _ _ lT) hd h.1 h.2
  rcases ha with rfl | ⟨rfl, rfl⟩ | rfl
  · obtain ⟨k, h⟩ := B.two T cda cc nm kV doc pm an ct a p
    exact fin h
  · obtain ⟨k, h⟩ := B.one T cda cc nm kV doc pm an ct a
    exact fin h
  · obtain ⟨k, h⟩ := B.kw T cda cc nm kV doc pm an ct a p
    exact fin h
section
variable {P : Program} {w : World} {K : PySem.W.Frag} {mg : Str → Option Value} {base : Heap} {C D fC fD : Addr} {wd wD q qD : Str} {pa paD : Arguments} {sc scD : Scope} {x y : Str} {fd fdD : FuncData} {pl plD : Env → Sem Bool}
variable {j jD : Nat} {a0 a1 a2 a3 a4 a5 c0 c1 c2 c3 A0 A1 A2 A3 A4 A5 B0 B1 B2 B3 C0 C1 C2 C3 : Pos}
/-- the class straight over Exception -/
theorem mkC_low (G : SupG P K D fD ⟨y, qD, paD, [EX.stS A0 A1 A2 A3 A4 A5, EX.stP B0 B1 B2 B3, EX.stW wD jD C0 C1 C2 C3], scD⟩ fdD) (E : ExcG K D D fD fD) (B : BindS ⟨y, qD, paD, [EX.stS A0 A1 A2 A3 A4 A5, EX.stP B0 B1 B2 B3, EX.stW wD jD C0 C1 C2 C3], scD⟩) (hsg : mg "super" = none) (S : EX.SupSc paD scD) (he : EX.CallS plD A0 A1 A2 A3 A4)
    (htop : (P.main.scope.names.lookup ("super" : Str)).isSome = false) : MkC P w K mg base D wD := by
  refine ⟨E.ox, fD, E.ini, E.tyf, ?_⟩
  intro A s x t0 p args R Mo hd bk xb hx ha hq
  exact EX.init_low Mo bk hsg S G.sf E.ox E.low E.md htop (by omega) (bindS_go G B (Mo.kin.keeps bk) ha) hx xb he hq
/-- a class over such a class -/
theorem mkC_high (G : SupG P K C fC ⟨x, q, pa, [EX.stS a0 a1 a2 a3 a4 a5, EX.stW wd j c0 c1 c2 c3], sc⟩ fd) (E : ExcG K C D fC fD) (B : BindS ⟨x, q, pa, [EX.stS a0 a1 a2 a3 a4 a5, EX.stW wd j c0 c1 c2 c3], sc⟩) (hup : PySem.W.ks_superIn K C C "__init__" = some (some (.ref fD)))
    (GD : SupG P K D fD ⟨y, qD, paD, [EX.stS A0 A1 A2 A3 A4 A5, EX.stP B0 B1 B2 B3, EX.stW wD jD C0 C1 C2 C3], scD⟩ fdD) (BD : BindS ⟨y, qD, paD, [EX.stS A0 A1 A2 A3 A4 A5, EX.stP B0 B1 B2 B3, EX.stW wD jD C0 C1 C2 C3], scD⟩)
    (hsg : mg "super" = none) (S : EX.SupSc pa sc) (he : EX.CallS pl a0 a1 a2 a3 a4) (SD : EX.SupSc paD scD) (heD : EX.CallS plD A0 A1 A2 A3 A4)
    (htop : (P.main.scope.names.lookup ("super" : Str)).isSome = false) : MkC P w K mg base C wd := by
  refine ⟨E.ox, fC, E.ini, E.tyf, ?_⟩
  intro A s x t0 p args R Mo hd bk xb hx ha hq
  obtain ⟨nm, od, dV, kV, doc, pm, an, cda, ct, osl, cc, ccl, cdd, vs, ccs, file, tf, cl, cld, csl, efd, hf, _⟩ := GD.sf.ex
  have hfn : PySem.W.fnIn K fD = true := by
    unfold PySem.W.fnIn
    rw [hf]
  refine EX.init_high Mo bk hsg S G.sf E.ox hup hf E.mc hfn htop (by omega) (bindS_go G B (Mo.kin.keeps bk) ha) hx xb he ?_ hq
  intro env s1 R1 bk1 hx1 hq1
  exact EX.init_low Mo bk1 hsg SD GD.sf E.ox E.low E.md htop (by show A.depth + 1 < recursionLimit; omega) (bindS_go GD BD (Mo.kin.keeps bk1) (.inl rfl)) hx1 xb heD (hq1 wD)
end

/-! ### the head's facts of a property -/
/-- the property's object, its getter -/
def prA (K : PySem.W.Frag) (x f : Str) : Addr := match PySem.W.findIn K (.ref (He.ga K x)) f with
  | some (some (.ref p)) => p
  | _ => 0
def geA (K : PySem.W.Frag) (x f : Str) : Addr := match PySem.W.recIn K (prA K x f) "property" with
  | some (.ref g :: _) => g
  | _ => 0
structure PropD where
  cls : Str
  fld : Str
  qual : Str
  params : Arguments
  body : List Stmt
  scope : Scope
def PropD.val (d : PropD) : He.FnW := some (d.fld, d.qual, d.params, .stmts d.body, d.scope, mainGlobals, [], builtinsNs)
def geW (K : PySem.W.Frag) (d : PropD) : He.FnW := match K.lookup (geA K d.cls d.fld) with
  | some ⟨_, _, .func fd, _⟩ => some (fd.name, fd.qualname, fd.params, fd.body, fd.scope, fd.globals, fd.closure, fd.builtins)
  | _ => none
def prB (K : PySem.W.Frag) (d : PropD) : Bool := decide (PySem.W.findIn K (.ref (He.ga K d.cls)) d.fld = some (some (.ref (prA K d.cls d.fld)))) && (decide (PySem.W.specialIn K (.ref (prA K d.cls d.fld)) "__get__" = some (some (.builtin "property.__get__"))) &&
  (decide (PySem.W.takesIn K (.ref (prA K d.cls d.fld)) = some true) && ((match PySem.W.recIn K (prA K d.cls d.fld) "property" with
    | some (.ref g :: _) => decide (g = geA K d.cls d.fld)
    | _ => false) && (PySem.W.keepIn K (.ref (geA K d.cls d.fld)) && (match K.lookup (geA K d.cls d.fld) with
    | some ⟨_, _, .func fd, _⟩ => PySem.W.codeIn K fd.code d.qual && (He.dflB K fd.defaults [] && He.kwdB K fd.kwdefaults [])
    | _ => false)))))
theorem prB_ok {K : PySem.W.Frag} {d : PropD} (c : prB K d = true) (e : geW K d = d.val) : PropOf K (He.ga K d.cls) d.fld (prA K d.cls d.fld) (geA K d.cls d.fld) ∧ ∃ fd, FunD K d.fld d.qual d.params d.body d.scope [] [] (geA K d.cls d.fld) fd := by
  obtain ⟨c1, c⟩ := He.ba c
  obtain ⟨c2, c⟩ := He.ba c
  obtain ⟨c3, c⟩ := He.ba c
  obtain ⟨c4, c⟩ := He.ba c
  obtain ⟨c5, c6⟩ := He.ba c
  constructor
  · refine ⟨of_decide_eq_true c1, of_decide_eq_true c2, of_decide_eq_true c3, ?_⟩
    split at c4
    · rename_i g rest hr
      have := of_decide_eq_true c4
      subst this
      exact ⟨rest, hr⟩
    · cases c4
  · unfold geW at e
    cases q : K.lookup (geA K d.cls d.fld) with
    | none =>
      rw [q] at c6
      cases c6
    | some o =>
      obtain ⟨oc, od, dt, osl⟩ := o
      rw [q] at c6 e
      cases dt with
      | func fd =>
        obtain ⟨n1, n2, n3, n4, n5, n6, n7, n8, n9, n10, n11, n12, n13, n14, n15⟩ := fd
        have e2 : (some (n1, n2, n3, n4, n5, n6, n7, n15) : He.FnW) = some (d.fld, d.qual, d.params, .stmts d.body, d.scope, mainGlobals, [], builtinsNs) := e
        simp only [Option.some.injEq, Prod.mk.injEq] at e2
        obtain ⟨h1, h2, h3, h4, h5, h6, h7, h8⟩ := e2
        subst h1 h2 h3 h4 h5 h6 h7 h8
        have c7 : (PySem.W.codeIn K n13 d.qual && (He.dflB K n8 [] && He.kwdB K n9 [])) = true := c6
        obtain ⟨k1, k2⟩ := He.ba c7
        obtain ⟨k3, k4⟩ := He.ba k2
        exact ⟨_, ⟨oc, od, n8, n9, n10, n11, n12, n13, n14, osl, rfl, q, k1, He.dflB_ok k3, He.kwdB_ok k4⟩, c5⟩
      | _ => cases c6
/-! ### the Hook -/
def asX (g : Addr → Option Obj) : Nat → List Addr
  | 0 => [mainGlobals, cStatics]
  | n + 1 => He.growD g (asX g n)
structure HkX where
  file : Str
  fa : List He.Fa
  fn : List He.DefD
  sx : List SupD
  ex : List ExcF
  mm : List (Str × Str × Bool)
  ts : List (Str × List Int) := []
  pr : List PropD := []
  ki : List (Str × Str × Bool) := []
  kb : List (Str × String × Bool) := []
  ec : List Str := []
abbrev AlX : Type := He.AlD × Bool × List SpW × List He.FnW
def ecB (K : PySem.W.Frag) (C : Addr) : Bool := decide (PySem.W.findIn K (.ref C) "__getattribute__" = some (some (.builtin "BaseException.__getattribute__"))) && (decide (PySem.W.findIn K (.ref C) "__getattr__" = some none) && (decide (PySem.W.subIn K (.ref C) (.type "BaseException") = some true) && (PySem.W.hasDictIn K C &&
  (decide (PySem.W.findIn K (.ref C) "__class__" = some (some (.builtin "object.__class__"))) && (decide (PySem.W.specialIn K (.builtin "object.__class__") "__get__" = some (some (.builtin "getset_descriptor.__get__"))) && (decide (PySem.W.takesIn K (.builtin "object.__class__") = some true) && decide (PySem.W.mroIn K C (.type "object") = some true)))))))
theorem ecB_ok {K : PySem.W.Frag} {C : Addr} (h : ecB K C = true) : ExcC K C := by
  unfold ecB at h
  simp only [Bool.and_eq_true, decide_eq_true_eq] at h
  obtain ⟨h1, h2, h3, h4, h5, h6, h7, h8⟩ := h
  exact ⟨h1, h2, h3, h4, h5, h6, h7, h8⟩
def ekB (h : HkX) (K : PySem.W.Frag) : Bool := (h.ki.all fun p => decide (PySem.W.kitOne K (.ref (He.ga K p.1)) (.ref (He.ga K p.2.1)) = some p.2.2)) && ((h.kb.all fun p => decide (PySem.W.kitOne K (.ref (He.ga K p.1)) (.type p.2.1) = some p.2.2)) && h.ec.all fun x => ecB K (He.ga K x))
def obsX (h : HkX) (K : PySem.W.Frag) : AlX := (He.obsD h.fa h.fn K, ((h.sx.all fun d => spOk h.file K d) && (h.ex.all (fun e => excB K e) && ((h.mm.all fun p => decide (PySem.W.exmOne K (.ref (He.ga K p.1)) (.ref (He.ga K p.2.1)) = some p.2.2)) && (h.ts.all (fun p => He.tupB K p.1 (p.2.map He.Dv.int)) && h.pr.all fun d => prB K d))) && ekB h K), h.sx.map (fun d => spW K d.cls), h.pr.map fun d => geW K d)
def valX (h : HkX) : AlX := (He.valD h.fn, true, h.sx.map SupD.val, h.pr.map PropD.val)
def SaysX (h : HkX) (K : PySem.W.Frag) : Prop := obsX h K = valX h
def obsXG (n : Nat) (h : HkX) (g : Addr → Option Obj) : AlX := obsX h (He.frG g (asX g n))
def hookX (n : Nat) (h : HkX) : PySem.W.Hook where
  α := AlX
  obs := fun s => obsXG n h s.heap.get?
  val := fun _ => valX h
  says := fun _ hp => ∃ K : PySem.W.Frag, K.In hp ∧ SaysX h K
  of := fun _ _ e => ⟨_, He.frG_in, e⟩
  keeps := fun _ _ _ ⟨K, hK, c⟩ k => ⟨K, PySem.W.Frag.In.keeps hK k, c⟩
theorem obsXG_eq {n : Nat} {h : HkX} {g : Addr → Option Obj} {s : Shared} (e : ∀ a, g a = s.heap.get? a) : obsXG n h g = (hookX n h).obs s := by
  have e2 : g = s.heap.get? := funext e
  rw [e2] <;> rfl
section
variable {h : HkX} {K : PySem.W.Frag}
theorem SaysX.d (c : SaysX h K) : He.SaysD h.fa h.fn K := congrArg (fun z : AlX => z.1) c
theorem SaysX.b0 (c : SaysX h K) : (((h.sx.all fun d => spOk h.file K d) && (h.ex.all (fun e => excB K e) && ((h.mm.all fun p => decide (PySem.W.exmOne K (.ref (He.ga K p.1)) (.ref (He.ga K p.2.1)) = some p.2.2)) && (h.ts.all (fun p => He.tupB K p.1 (p.2.map He.Dv.int)) && h.pr.all fun d => prB K d)))) && ekB h K) = true := congrArg (fun z : AlX => z.2.1) c
theorem SaysX.b (c : SaysX h K) : ((h.sx.all fun d => spOk h.file K d) && (h.ex.all (fun e => excB K e) && ((h.mm.all fun p => decide (PySem.W.exmOne K (.ref (He.ga K p.1)) (.ref (He.ga K p.2.1)) = some p.2.2)) && (h.ts.all (fun p => He.tupB K p.1 (p.2.map He.Dv.int)) && h.pr.all fun d => prB K d)))) = true := (Bool.and_eq_true_iff.mp c.b0).1
theorem SaysX.sup (c : SaysX h K) {P : Program} (hP : P.main.file = h.file) (i : Nat) {d : SupD} (e : h.sx[i]? = some d := by rfl) : ∃ fd, SupG P K (He.ga K d.cls) (spAd K d.cls) d fd := by
  have b := (Bool.and_eq_true_iff.mp c.b).1
  have m : h.sx.map (fun d => spW K d.cls) = h.sx.map SupD.val := congrArg (fun z : AlX => z.2.2.1) c
  have m2 : (h.sx.map fun d => spW K d.cls)[i]? = (h.sx.map SupD.val)[i]? := by rw [m]
  rw [List.getElem?_map, List.getElem?_map, e] at m2
  refine spOk_ok ?_ (Option.some.inj m2)
  rw [hP]
  exact List.all_eq_true.mp b d (List.mem_of_getElem? e)
theorem SaysX.exc (c : SaysX h K) (i : Nat) {e : ExcF} (q : h.ex[i]? = some e := by rfl) : ExcG K (He.ga K e.cls) (He.ga K e.base) (spAd K e.cls) (spAd K e.base) ∧ PySem.W.nsIn K mainGlobals e.cls = some (some (.ref (He.ga K e.cls))) ∧ (e.cls = e.base ∨ PySem.W.ks_superIn K (He.ga K e.cls) (He.ga K e.cls) "__init__" = some (some (.ref (spAd K e.base)))) :=
  excB_ok (List.all_eq_true.mp (Bool.and_eq_true_iff.mp (Bool.and_eq_true_iff.mp c.b).2).1 e (List.mem_of_getElem? q))
theorem SaysX.exm (c : SaysX h K) (i : Nat) {p : Str × Str × Bool} (q : h.mm[i]? = some p := by rfl) : PySem.W.exmOne K (.ref (He.ga K p.1)) (.ref (He.ga K p.2.1)) = some p.2.2 :=
  of_decide_eq_true (List.all_eq_true.mp (Bool.and_eq_true_iff.mp (Bool.and_eq_true_iff.mp (Bool.and_eq_true_iff.mp c.b).2).2).1 p (List.mem_of_getElem? q))
theorem SaysX.tup (c : SaysX h K) (i : Nat) {p : Str × List Int} (q : h.ts[i]? = some p := by rfl) : He.tupB K p.1 (p.2.map He.Dv.int) = true :=
  List.all_eq_true.mp (Bool.and_eq_true_iff.mp (Bool.and_eq_true_iff.mp (Bool.and_eq_true_iff.mp (Bool.and_eq_true_iff.mp c.b).2).2).2).1 p (List.mem_of_getElem? q)
theorem SaysX.prop (c : SaysX h K) (i : Nat) {d : PropD} (q : h.pr[i]? = some d := by rfl) : PropOf K (He.ga K d.cls) d.fld (prA K d.cls d.fld) (geA K d.cls d.fld) ∧ ∃ fd, FunD K d.fld d.qual d.params d.body d.scope [] [] (geA K d.cls d.fld) fd := by
  have m : h.pr.map (fun d => geW K d) = h.pr.map PropD.val := congrArg (fun z : AlX => z.2.2.2) c
  have m2 : (h.pr.map fun d => geW K d)[i]? = (h.pr.map PropD.val)[i]? := by rw [m]
  rw [List.getElem?_map, List.getElem?_map, q] at m2
  exact prB_ok (List.all_eq_true.mp (Bool.and_eq_true_iff.mp (Bool.and_eq_true_iff.mp (Bool.and_eq_true_iff.mp (Bool.and_eq_true_iff.mp c.b).2).2).2).2 d (List.mem_of_getElem? q)) (Option.some.inj m2)
theorem SaysX.ek (c : SaysX h K) : ekB h K = true := (Bool.and_eq_true_iff.mp c.b0).2
theorem SaysX.kit (c : SaysX h K) {p : Str × Str × Bool} (q : p ∈ h.ki) : PySem.W.kitOne K (.ref (He.ga K p.1)) (.ref (He.ga K p.2.1)) = some p.2.2 :=
  of_decide_eq_true (List.all_eq_true.mp (Bool.and_eq_true_iff.mp c.ek).1 p q)
theorem SaysX.kitB (c : SaysX h K) {p : Str × String × Bool} (q : p ∈ h.kb) : PySem.W.kitOne K (.ref (He.ga K p.1)) (.type p.2.1) = some p.2.2 :=
  of_decide_eq_true (List.all_eq_true.mp (Bool.and_eq_true_iff.mp (Bool.and_eq_true_iff.mp c.ek).2).1 p q)
theorem SaysX.excC (c : SaysX h K) {x : Str} (q : x ∈ h.ec) : ExcC K (He.ga K x) :=
  ecB_ok (List.all_eq_true.mp (Bool.and_eq_true_iff.mp (Bool.and_eq_true_iff.mp c.ek).2).2 x q)
end
end DL

set_option Elab.async false
set_option linter.all false
set_option maxRecDepth 100000
set_option maxHeartbeats 2000000
namespace DL
open PySem PySem.Spec L2 PyProof.Rows
open Evl (Ex)

/-! ### the rules as the printer writes them -/
/-- what is known of a def that is called -/
structure Cal (P : Program) (w : World) (K : PySem.W.Frag) (mg : Str → Option Value) (base : Heap) (k : Nat) (x : Str) (ps : List Str) (sp : Sp) (dvs : List V) : Prop where
  ex : ∃ (f : Addr) (fd : FuncData) (ds : List Value), FnG P w K mg base k f fd ps sp ∧ mg x = some (.ref f) ∧ PySem.W.keepIn K (.ref f) = true ∧ Vals dvs ds ∧ Binds K fd ps ds
section
variable {X : Cx} {W : WX} {a b c e : Expr} {es : List Expr} {ma mb mc me : DE} {mas : DA} {p p' pos : Pos} {x : Str} {N : List Str}
theorem me_v (i : Nat) (hi : X.N[i]? = some x := by rfl) (hv : Vis X.env.scope x := by first | exact .inl rfl | exact .inr (.inl rfl) | exact .inr (.inr rfl)) (h1 : (x == ("__debug__" : Str)) = false := by decide +kernel) (h2 : (x == ("__classdict__" : Str)) = false := by decide +kernel) : ME X W (.Name x pos) (dVar i) := me_var hi hv h1 h2
theorem me_c {op : CmpOp} {m2 : D → D → MH → DK → Prop} (h : CmpD X op m2) (ha : ME X W a ma) (hb : ME X W b mb) (hm : behindInMarks op b = false := by with_unfolding_all rfl) : ME X W (.Compare a [op] [b] pos) (dOp m2 ma mb) := me_cmp h ha hb hm
theorem mt_c {op : CmpOp} {m2 : D → D → MH → DK → Prop} (h : CmpD X op m2) (ha : ME X W a ma) (hb : ME X W b mb) (hm : behindInMarks op b = false := by with_unfolding_all rfl) : MT X W (.Compare a [op] [b] pos) (dTestB (dOp m2 ma mb)) := mt_cmp h ha hb hm
theorem me_bt {mc : List D → MH → DK → Prop} (h : BltD X x mc) (hm : X.mg x = none) (ha : MA X W (e :: es) mas) (hg : Gl X x := by rfl) (hn : x ≠ "__name__" := by decide +kernel) (hdb : (x == ("__debug__" : Str)) = false := by decide +kernel)
    (he : starEach (e :: es) X.env = (false, eval e X.env) :: starEach es X.env := by rfl) (hpl : (backTo pos (starEach es X.env)).any (·.1) = false := by rfl) : ME X W (.Call (.Name x p) (e :: es) [] pos) (dCB mc mas) := me_blt h hg hm ha hn hdb he hpl
theorem boot_tys : ∀ n ∈ ["int", "bool", "tuple", "list", "str", "dict"], bootBuiltins n = some (.type n) := by
  have h : (["int", "bool", "tuple", "list", "str", "dict"].all fun n => decide (bootBuiltins n = some (.type n))) = true := by decide +kernel
  exact fun n hn => of_decide_eq_true (List.all_eq_true.mp h n hn)
theorem me_t (n : String) (hm : X.mg n = none) (hn : n ∈ ["int", "bool", "tuple", "list", "str", "dict"] := by decide) (hg : Gl X n := by rfl) (h1 : (PySem.Str.ofString n) ≠ "__name__" := by decide +kernel) (h2 : ((PySem.Str.ofString n) == ("__debug__" : Str)) = false := by decide +kernel) : ME X W (.Name n pos) (dC (.ty n)) := me_ty hg hm (boot_tys n hn) h1 h2
theorem me_cP {n k : Nat} {pf : PF} {fr : Bool} {ps : List Str} {dvs : List V} {dds : List D} (fz : Bool) (hC : Cal X.prog X.w X.K X.mg X.base k x ps (spP X.K n fr pf) dvs) (hr : RoomG k X.A) (tk : Takes X W) (ha : MA X W (e :: es) mas) (hdd : ∀ G, RelA X.K G [] dds dvs := by intro _; first | rfl | exact ⟨_, _, rfl, rfl, rfl⟩) (hg : Gl X x := by rfl)
    (hdb : (x == ("__debug__" : Str)) = false := by decide +kernel) (he : starEach (e :: es) X.env = (false, eval e X.env) :: starEach es X.env := by rfl) (hpl : (backTo pos (starEach es X.env)).any (·.1) = false := by rfl) : ME X W (.Call (.Name x p) (e :: es) [] pos) (dCallP n pf fr fz dds mas) := by
  obtain ⟨f, fd, ds, F, hm, hk, hd, hb⟩ := hC.ex
  exact me_callP fz F hr hm hk hb hd hdd tk ha hg hdb he hpl
theorem me_cP0 {n k : Nat} {pf : PF} {fr : Bool} {ps : List Str} {dvs : List V} {dds : List D} (fz : Bool) (hC : Cal X.prog X.w X.K X.mg X.base k x ps (spP X.K n fr pf) dvs) (hr : RoomG k X.A) (tk : Takes X W) (hdd : ∀ G, RelA X.K G [] dds dvs := by intro _; first | rfl | exact ⟨_, _, rfl, rfl, rfl⟩) (hg : Gl X x := by rfl)
    (hdb : (x == ("__debug__" : Str)) = false := by decide +kernel) : ME X W (.Call (.Name x p) [] [] pos) (dCallP n pf fr fz dds dNil) := by
  obtain ⟨f, fd, ds, F, hm, hk, hd, hb⟩ := hC.ex
  exact me_callP0 fz F hr hm hk hb hd hdd tk hg hdb
theorem me_cI {n k : Nat} {pf : IF} {fr : Bool} {ps : List Str} (fz : Bool) (hC : Cal X.prog X.w X.K X.mg X.base k x ps (spI X.K n fr pf) []) (hr : RoomG k X.A) (tk : Takes X W) (ha : ME X W a ma) (has : MA X W es mas) (hg : Gl X x := by rfl)
    (hdb : (x == ("__debug__" : Str)) = false := by decide +kernel) (he : starEach (a :: es) X.env = (false, eval a X.env) :: starEach es X.env := by rfl) (hpl : (backTo pos (starEach es X.env)).any (·.1) = false := by rfl) : ME X W (.Call (.Name x p) (a :: es) [] pos) (dCallI n pf fr fz ma mas) := by
  obtain ⟨f, fd, ds, F, hm, hk, hd, hb⟩ := hC.ex
  cases hd
  exact me_callI fz F hr hm hk hb tk ha has hg hdb he hpl
theorem ms_s (i : Nat) (hN : X.N.Nodup) (he : ME X W e me) (hi : X.N[i]? = some x := by rfl) (hx : Loc X.env.scope x := by first | exact .inl rfl | exact .inr rfl) (hs : swapsWith e (some (.Name x p)) pos.line X.env = pure false := by rfl)
    (hf : X.fn x = true ∨ X.env.scope.names.lookup x = some .local := by first | exact .inl rfl | exact .inr rfl) : MS X W (.Assign [.Name x p] e pos) (mSet i me) := ms_set hN hi hx he hs hf
theorem mg_n (i : Nat) (hN : X.N.Nodup) (hi : X.N[i]? = some x := by rfl) (hx : Loc X.env.scope x := by first | exact .inl rfl | exact .inr rfl) (hf : X.fn x = true ∨ X.env.scope.names.lookup x = some .local := by first | exact .inl rfl | exact .inr rfl) : MG X (.Name x pos) (.nm i) := mg_name hN hi hx hf
theorem ms_p {y : Str} {px py pt pt2 : Pos} {kt k2 : Nat} (i j : Nat) (hN : X.N.Nodup) (ha : MA X W [a, b] mas) (hc : X.calm = true := by rfl) (hi : X.N[i]? = some x := by rfl) (hj : X.N[j]? = some y := by rfl) (hij : i ≠ j := by decide) (hx : X.env.scope.names.lookup x = some .local := by rfl) (hy : X.env.scope.names.lookup y = some .local := by rfl)
    (hw : swappedStores [.Tuple [.Name x px, .Name y py] kt pt] (.Tuple [a, b] k2 pt2) X.env = pure (some [x, y]) := by rfl) (hs : swapsWithSole [.Tuple [.Name x px, .Name y py] kt pt] (.Tuple [a, b] k2 pt2) pos.line X.env = pure false := by rfl) :
    MS X W (.Assign [.Tuple [.Name x px, .Name y py] kt pt] (.Tuple [a, b] k2 pt2) pos) (mPar i j mas) := ms_par hc hN hi hj hij hx hy ha hw hs
theorem ms_lc {elt tg iter : Expr} {ifs : List Expr} {scope : Scope} {mi : DI} {pt : Pat} {mt : DT} {py spos : Pos} (fz : Bool) (i : Nat) (own : List (Str × Nat)) (hN : X.N.Nodup) (hi : MI X W tg iter mi)
    (hg : ∀ (s : Shared) (H : Hp) (C : Addr) (cl : List (Str × Addr)) (fp : List Addr), MG (X.blk s H scope (compEnvC scope cl C X.env) fp) tg pt) (ht : ∀ (s : Shared) (H : Hp) (C : Addr) (cl : List (Str × Addr)) (fp : List Addr), MTs (X.blk s H scope (compEnvC scope cl C X.env) fp) wF ifs mt)
    (he : ∀ (s : Shared) (H : Hp) (C : Addr) (cl : List (Str × Addr)) (fp : List Addr), ME (X.blk s H scope (compEnvC scope cl C X.env) fp) wF elt me) (hc : X.calm = true := by rfl) (ok : BlkOk X.N X.env.scope scope own := by exact blkOk_by (by kernel_rfl))
    (hy : X.N[i]? = some x := by rfl) (hyl : X.env.scope.names.lookup x = some .local := by rfl) (hsw : swapsWith (.ListComp elt [⟨tg, iter, ifs, 0⟩] scope pos) (some (.Name x py)) spos.line X.env = pure true := by exact sw_true rfl rfl rfl (by decide +kernel))
    (hv : ∀ i ∈ ixP pt, i ∈ own.map (·.2) := by decide) (hs : ∀ x, foldedSetIterable iter X.env x = pure x := by intro _; rfl) :
    MS X W (.Assign [.Name x py] (.ListComp elt [⟨tg, iter, ifs, 0⟩] scope pos) spos) (mSet i (dLc fz mi pt mt me (own.map (·.2)))) := ms_setLc fz hc hN hy hyl hsw hi ok hg ht he hv hs
theorem me_l {elt tg iter : Expr} {ifs : List Expr} {scope : Scope} {mi : DI} {pt : Pat} {mt : DT} (fz : Bool) (own : List (Str × Nat)) (hN : X.N.Nodup) (hi : MI X W tg iter mi)
    (hg : ∀ (s : Shared) (H : Hp) (C : Addr) (cl : List (Str × Addr)) (fp : List Addr), MG (X.blk s H scope (compEnvC scope cl C X.env) fp) tg pt) (ht : ∀ (s : Shared) (H : Hp) (C : Addr) (cl : List (Str × Addr)) (fp : List Addr), MTs (X.blk s H scope (compEnvC scope cl C X.env) fp) wF ifs mt)
    (he : ∀ (s : Shared) (H : Hp) (C : Addr) (cl : List (Str × Addr)) (fp : List Addr), ME (X.blk s H scope (compEnvC scope cl C X.env) fp) wF elt me) (hc : X.calm = true := by rfl) (ok : BlkOk X.N X.env.scope scope own := by exact blkOk_by (by kernel_rfl))
    (hv : ∀ i ∈ ixP pt, i ∈ own.map (·.2) := by decide) (hs : ∀ x, foldedSetIterable iter X.env x = pure x := by intro _; rfl) : ME X W (.ListComp elt [⟨tg, iter, ifs, 0⟩] scope pos) (dLc fz mi pt mt me (own.map (·.2))) := me_lc fz hc hN hi ok hg ht he hv hs
theorem me_xp {a C : Addr} {oe : Obj} {d : Option Addr} {pn : List (Addr × Obj)} (T : XP X.K C) (hz : Zc (.ref C) d oe) (hf : ∃ vs, oe.data = .fields vs) (he : ME (X.suite a ((a, oe) :: pn)) wF e me) (hb : attributeBase e "place" X.env (eval e X.env) = eval e X.env := by rfl) :
    ME (X.suite a ((a, oe) :: pn)) wF (.Attribute e "place" pos) (dXf "place" a C d me) := me_xf T.xf T.np hz hf he hb
theorem me_xw {a C : Addr} {oe : Obj} {d : Option Addr} {pn : List (Addr × Obj)} (T : XP X.K C) (hz : Zc (.ref C) d oe) (hf : ∃ vs, oe.data = .fields vs) (he : ME (X.suite a ((a, oe) :: pn)) wF e me) (hb : attributeBase e "word" X.env (eval e X.env) = eval e X.env := by rfl) :
    ME (X.suite a ((a, oe) :: pn)) wF (.Attribute e "word" pos) (dXf "word" a C d me) := me_xf T.xf T.nw hz hf he hb
theorem RoomG.at_ {j k : Nat} {A : Around} (h : RoomG k A) (l : j ≤ k := by decide) : RoomG j A := h.mono l
end

abbrev dLt : D → D → MH → DK → Prop := dCmpI fun i j => decide (i < j)
abbrev dLe : D → D → MH → DK → Prop := dCmpI fun i j => decide (i ≤ j)
abbrev dGt : D → D → MH → DK → Prop := dCmpI fun i j => decide (j < i)
abbrev dGe : D → D → MH → DK → Prop := dCmpI fun i j => decide (j ≤ i)
abbrev dFd : D → D → MH → DK → Prop := dI CFd fun i j => .int (i.fdiv j)
abbrev dMd : D → D → MH → DK → Prop := dI (fun _ j => j ≠ 0) fun i j => .int (i.fmod j)
abbrev dPw : D → D → MH → DK → Prop := dI CPow fun i j => .int (i ^ j.toNat)
end DL

set_option Elab.async false
set_option linter.all false
set_option maxRecDepth 100000
set_option maxHeartbeats 4000000
namespace DL
open PySem PySem.Spec L2 PyProof.Rows
open Evl (Ex)
/-! ### zip of two things, each a list or a tuple -/
/-- a tuple (true) or a list -/
def SqB (K : PySem.W.Frag) : Bool → Hp → Addr → List V → Prop
  | true => SqT K
  | false => SqL K
def HpB : Bool → Heap → Addr → Array Value → Prop
  | true => fun h a its => h.IsTuple a its
  | false => fun h a its => h.IsList a its
def ItB : Bool → Heap → Addr → Addr → Nat → Prop
  | true => fun h i a k => h.IsTupleIter i a k
  | false => fun h i a k => h.IsListIter i a k
def obB : Bool → Addr → Obj
  | true => fun a => { cls := .type "tuple_iterator", data := .fields #[.ref a, .int 0 0] }
  | false => fun a => { cls := .type "list_iterator", data := .fields #[.ref a, .int 0 0] }
theorem SqB.of {X : Cx} {pins : List (Addr × Obj)} {σ : L2.St} {H : Hp} {s : Shared} (I : Inv X pins σ H s) : ∀ {t : Bool} {a : Addr} {xs : List V}, SqB X.K t H a xs → ∃ its : List Value, Vals xs its ∧ HpB t s.heap a its.toArray
  | true, _, _, h => let ⟨its, r, p, _⟩ := I.tuple h; ⟨its, r, p⟩
  | false, _, _, h => let ⟨its, r, p, _⟩ := I.list h; ⟨its, r, p.isList⟩
theorem SqB.inj {X : Cx} {pins : List (Addr × Obj)} {σ : L2.St} {H : Hp} {s : Shared} (I : Inv X pins σ H s) : ∀ {t : Bool} {a : Addr} {xs ys : List V}, SqB X.K t H a xs → SqB X.K t H a ys → xs = ys
  | true, _, _, _, h, g => I.tuple_inj h g
  | false, _, _, _, h, g => I.list_inj h g
theorem HpB.lt {h : Heap} : ∀ {t : Bool} {a : Addr} {its : Array Value}, HpB t h a its → a < h.objs.size
  | true, _, _, ⟨_, e, _⟩ => Heap.lt_size e
  | false, _, _, ⟨_, e, _⟩ => Heap.lt_size e
theorem beginsB : ∀ (t : Bool) (a : Addr) (its : Array Value), Begins (.ref a) (obB t a) fun h => HpB t h a its
  | true, a, its => begins_tuple a its
  | false, a, its => begins_list a its
theorem drawsB {prog : Program} {w : World} {A : Around} (hh : A.handled = none) (it a : Addr) (hne : a ≠ it) (its : Array Value) : ∀ t : Bool, Draws prog w A it [it, a] its.size (fun i v => its[i]? = some v) (fun i h => ItB t h it a i ∧ HpB t h a its)
  | true => Draws.tuple hh it a hne its
  | false => Draws.list hh it a hne its
theorem ItB.obj {h : Heap} : ∀ {t : Bool} {i a : Addr} {k : Nat}, ItB t h i a k → ∃ o, h.get? i = some o ∧ ∀ v, o.data ≠ .cell v
  | true, _, _, _, ⟨o, e, _, d⟩ => ⟨o, e, fun v q => by rw [d] at q; cases q⟩
  | false, _, _, _, ⟨o, e, _, d⟩ => ⟨o, e, fun v q => by rw [d] at q; cases q⟩
theorem ItB.at_ {h h' : Heap} : ∀ {t : Bool} {i a : Addr} {k : Nat}, ItB t h i a k → (∀ o, h.get? i = some o → h'.get? i = some o) → ItB t h' i a k
  | true, _, _, _, h, g => Heap.IsTupleIter.at h g
  | false, _, _, _, h, g => Heap.IsListIter.at h g
theorem ItB.new {h : Heap} : ∀ {t : Bool} {i a : Addr}, h.get? i = some (obB t a) → ItB t h i a 0
  | true, _, _, e => ⟨_, e, rfl, rfl⟩
  | false, _, _, e => ⟨_, e, rfl, rfl⟩
def ItzB (K : PySem.W.Frag) (t t2 : Bool) (a b : Addr) : It :=
  ⟨fun i H => ∃ (xs ys : List V) (x y : V), SqB K t H a xs ∧ SqB K t2 H b ys ∧ xs[i]? = some x ∧ ys[i]? = some y,
    fun i H v H' => ∃ T x y, v = .ref T ∧ H T = none ∧ H' = upd H T (.tup [x, y]) ∧ (∀ xs, SqB K t H a xs → xs[i]? = some x) ∧ ∀ ys, SqB K t2 H b ys → ys[i]? = some y,
    fun i H => ∃ xs ys : List V, SqB K t H a xs ∧ SqB K t2 H b ys ∧ i = min xs.length ys.length⟩
def tnB (t t2 : Bool) (N a b : Addr) (i : Nat) (h : Heap) : Prop := IsZip h (N + 4) (N + 2) (N + 3) .none ∧ IsTupOf2 h (N + 2) (.ref N) (.ref (N + 1)) ∧ (∃ x y, IsTupOf2 h (N + 3) x y) ∧ ItB t h N a i ∧ ItB t2 h (N + 1) b i
theorem get_of {xs : List Value} {i : Nat} {v : Value} (h : xs.toArray[i]? = some v) : xs[i]? = some v := by simpa using h
theorem subW {N c : Addr} (h : c ∈ [N + 4, N + 3, N, N + 1]) : c ∈ [N + 4, N + 2, N + 3, N, N + 1] := by
  have e' : c = N + 4 ∨ c = N + 3 ∨ c = N ∨ c = N + 1 := by simpa using h
  rcases e' with q | q | q | q <;> rw [q] <;> simp
theorem goesB {P : Program} {w : World} {A : Around} (hh : A.handled = none) {elts : List Expr} {kk : Nat} {tpos : Pos} {N a b : Addr} (ha : a < N) (hb : b < N) (t t2 : Bool) (its its2 : Array Value) :
    GoesN P w A (.Tuple elts kk tpos) (N + 4) ((N + 4) :: (N + 2) :: (N + 3) :: ([N, a] ++ [N + 1, b])) [N + 4, N + 3, N, N + 1] (min its.size its2.size)
      (fun i h₀ v h => ∃ T x y, v = .ref T ∧ h₀.objs.size ≤ T ∧ its[i]? = some x ∧ its2[i]? = some y ∧ h.IsTuple T #[x, y])
      (fun i h => IsZip h (N + 4) (N + 2) (N + 3) .none ∧ IsTupOf2 h (N + 2) (.ref N) (.ref (N + 1)) ∧ (∃ a1 a2, IsTupOf2 h (N + 3) a1 a2) ∧ (ItB t h N a i ∧ HpB t h a its) ∧ (ItB t2 h (N + 1) b i ∧ HpB t2 h b its2)) :=
  GoesN.zip2 (prog := P) (w := w) (A := A) (elts := elts) (x1 := kk) (pos := tpos) (zip_sep2 (N := N) (fp1 := [a]) (fp2 := [b]) (fun c hc => by rw [List.mem_singleton.mp hc]; exact ha) (fun c hc => by rw [List.mem_singleton.mp hc]; exact hb))
    (drawsB (prog := P) (w := w) (A := A.in1) hh N a (Nat.ne_of_lt ha) its t) (drawsB (prog := P) (w := w) (A := A.in1) hh (N + 1) b (Nat.ne_of_lt (Nat.lt_succ_of_lt hb)) its2 t2)
theorem turn_zipB {P : Program} {w : World} {K : PySem.W.Frag} {elts : List Expr} {kk : Nat} {tpos : Pos} {N a b : Addr} (t t2 : Bool) (ha : a < N) (hb : b < N) :
    Turn P w K (.Tuple elts kk tpos) (ItzB K t t2 a b) [N + 4, N + 2, N + 3, N, N + 1] (N + 4) (tnB t t2 N a b) where
  mem := by simp
  obj := fun i h st c hc => by
    obtain ⟨hz, hTI, ⟨x, y, hTO⟩, h1, h2⟩ := st
    have e' : c = N + 4 ∨ c = N + 2 ∨ c = N + 3 ∨ c = N ∨ c = N + 1 := by simpa using hc
    rcases e' with q | q | q | q | q
    · rw [q]; exact ⟨_, hz, fun v q => nomatch q⟩
    · rw [q]; exact ⟨_, hTI, fun v q => nomatch q⟩
    · rw [q]; exact ⟨_, hTO, fun v q => nomatch q⟩
    · rw [q]; exact h1.obj
    · rw [q]; exact h2.obj
  keep := fun i h h' st k => by
    obtain ⟨hz, hTI, ⟨x, y, hTO⟩, h1, h2⟩ := st
    exact ⟨k _ (by simp) _ hz, k _ (by simp) _ hTI, ⟨x, y, k _ (by simp) _ hTO⟩, h1.at_ fun o q => k N (by simp) o q, h2.at_ fun o q => k (N + 1) (by simp) o q⟩
  item := by
    intro X hP hw hK hc i pins s σ H E I hf st hg
    subst hP hw hK
    obtain ⟨hz, hTI, ⟨x0, y0, hTO⟩, h1, h2⟩ := st
    obtain ⟨xs, ys, x, y, hqx, hqy, hx, hy⟩ := hg
    obtain ⟨its, rv, p⟩ := hqx.of I
    obtain ⟨its2, rv2, p2⟩ := hqy.of I
    obtain ⟨u, hu, ru⟩ := rv.get hx
    obtain ⟨u2, hu2, ru2⟩ := rv2.get hy
    have hl1 := (List.getElem?_eq_some_iff.mp hu).1
    have hl2 := (List.getElem?_eq_some_iff.mp hu2).1
    have G := goesB (P := X.prog) (w := X.w) (A := X.A) (I.ok.hd hc) (elts := elts) (kk := kk) (tpos := tpos) ha hb t t2 its.toArray its2.toArray
    refine G.goes i s _ E (by simp only [List.size_toArray]; omega) ⟨hz, hTI, ⟨x0, y0, hTO⟩, ⟨h1, p⟩, ⟨h2, p2⟩⟩ fun v h' tk Y st' hk htk => ?_
    obtain ⟨T, v1, v2, rfl, hT, e1, e2, hTu⟩ := Y
    obtain ⟨hz', hTI', hTO', ⟨h1', _⟩, ⟨h2', _⟩⟩ := st'
    have e1' := get_of e1
    have e2' := get_of e2
    rw [hu] at e1'; cases e1'
    rw [hu2] at e2'; cases e2'
    have new : ObjOk X.prog X.w (upd H T (.tup [x, y])) h' T (.tup [x, y]) := ⟨by show 2 ≤ sizeLine; decide, [u, u2], .cons ru (.cons ru2 .nil), hTu⟩
    have I1 : Inv X pins σ (upd H T (.tup [x, y])) { s with heap := h', toks := tk } :=
      I.turnedNew (ch := [N + 4, N + 2, N + 3, N, N + 1]) (fun c o hcm q => hk c o (fun z => hcm (subW z)) q) hf hT new
    refine ⟨.ref T, _, I1, rfl, ⟨T, x, y, rfl, I.hok.fresh hT, rfl, fun l hl => by rw [SqB.inj I hl hqx]; exact hx, fun l hl => by rw [SqB.inj I hl hqy]; exact hy⟩, ⟨hz', hTI', hTO', h1', h2'⟩, fun c hcm => ?_⟩
    have hlt : c < s.heap.objs.size := by
      have e' : c = N + 4 ∨ c = N + 2 ∨ c = N + 3 ∨ c = N ∨ c = N + 1 := by simpa using hcm
      rcases e' with q | q | q | q | q
      · rw [q]; exact Heap.lt_size hz
      · rw [q]; exact Heap.lt_size hTI
      · rw [q]; exact Heap.lt_size hTO
      · rw [q]; obtain ⟨_, e, _⟩ := h1.obj; exact Heap.lt_size e
      · rw [q]; obtain ⟨_, e, _⟩ := h2.obj; exact Heap.lt_size e
    rw [upd_ne (Nat.ne_of_lt (Nat.lt_of_lt_of_le hlt hT))]
    exact (hf c hcm).1
  done := by
    intro X hP hw hK hc i pins s σ H E I hf st hg
    subst hP hw hK
    obtain ⟨hz, hTI, ⟨x0, y0, hTO⟩, h1, h2⟩ := st
    obtain ⟨xs, ys, hqx, hqy, rfl⟩ := hg
    obtain ⟨its, rv, p⟩ := hqx.of I
    obtain ⟨its2, rv2, p2⟩ := hqy.of I
    have G := goesB (P := X.prog) (w := X.w) (A := X.A) (I.ok.hd hc) (elts := elts) (kk := kk) (tpos := tpos) ha hb t t2 its.toArray its2.toArray
    have e : min its.toArray.size its2.toArray.size = min xs.length ys.length := by rw [List.size_toArray, List.size_toArray, ← rv.length, ← rv2.length]
    refine G.stops s _ E (by rw [e]; exact ⟨hz, hTI, ⟨x0, y0, hTO⟩, ⟨h1, p⟩, ⟨h2, p2⟩⟩) fun h' tk hk htk => ?_
    exact I.turnedL (ch := [N + 4, N + 2, N + 3, N, N + 1]) (fun c o hcm q => hk c o (fun z => hcm (subW z)) q) hf
  self := fun A i s Q E st h => wpAny_pyIter_zip st.1 h
def iZipB (K : PySem.W.Frag) (ta : TA) : TI := fun σ H R => ta σ H fun vs H1 => ∃ t t2 a b xs ys, vs = [.ref a, .ref b] ∧ SqB K t H1 a xs ∧ SqB K t2 H1 b ys ∧ R (ItzB K t t2 a b) H1
theorem pi_zipB {X : Cx} {e e2 : Expr} {ta : TA} {p pos tpos : Pos} {elts : List Expr} {kk : Nat} (hg : Gl X "zip") (hm : X.mg "zip" = none) (ha : PA X [e, e2] ta)
    (hs : starEach [e, e2] X.env = (false, eval e X.env) :: starEach [e2] X.env := by rfl) (hpl : (backTo pos (starEach [e2] X.env)).any (·.1) = false := by rfl) :
    PI X (.Tuple elts kk tpos) (.Call (.Name "zip" p) [e, e2] [] pos) (iZipB X.K ta) := by
  refine ⟨fun pins s σ H R I h => ?_⟩
  refine Call_ (ld_blt I hg hm PyProof.Rows.boot_zip (PyProof.Rows.callWith_type1 (thn (ha.run pos pins s σ H _ I h) fun us s1 ⟨vs, H1, I1, r1, q1⟩ => ?_) hs hpl))
  obtain ⟨t, t2, a, b, xs, ys, rfl, hqx, hqy, q⟩ := q1
  obtain ⟨u, u2, rfl, r, r'⟩ := vals2 r1
  cases r
  cases r'
  obtain ⟨its, rv, p1⟩ := hqx.of I1
  obtain ⟨its2, rv2, p2⟩ := hqy.of I1
  refine zip_begins2 (beginsB t a its.toArray) (beginsB t2 b its2.toArray) p1 p2 fun h' hz hTI hTO h1 h2 hsz hk => wpAny_pyIter_zip hz ?_
  have I2 : Inv X pins σ H1 { s1 with heap := h' } := I1.kept (t' := s1.toks) hk
  refine ⟨s1.heap.objs.size + 4, [s1.heap.objs.size + 4, s1.heap.objs.size + 2, s1.heap.objs.size + 3, s1.heap.objs.size, s1.heap.objs.size + 1], _, _, H1, rfl, I2, turn_zipB t t2 p1.lt p2.lt, ⟨hz, hTI, ⟨_, _, hTO⟩, .new h1, .new h2⟩, fun c hcm => ?_, q⟩
  have e' : c = s1.heap.objs.size + 4 ∨ c = s1.heap.objs.size + 2 ∨ c = s1.heap.objs.size + 3 ∨ c = s1.heap.objs.size ∨ c = s1.heap.objs.size + 1 := by simpa using hcm
  have hle : s1.heap.objs.size ≤ c := by
    rcases e' with z | z | z | z | z <;> rw [z]
    · exact Nat.le_add_right _ _
    · exact Nat.le_add_right _ _
    · exact Nat.le_add_right _ _
    · exact Nat.le_refl _
    · exact Nat.le_add_right _ _
  exact I1.fpOk hle (I1.hok.fresh hle)
end DL

set_option Elab.async false
set_option linter.all false
set_option maxRecDepth 100000
set_option maxHeartbeats 4000000
namespace DL
open PySem PySem.Spec L2 PyProof.Rows
open Evl (Ex)
/-! ### zip, any mix -/
def rdB (M : MH) : D → Option (List D × List Nat)
  | .tup ds => some (ds, [])
  | .kt ds => some (ds, [])
  | d => rdI M d
section
variable {X : Cx} {W : WX} {tg e : Expr} {mas : DA}
theorem HR.rdB_ {K : PySem.W.Frag} {F : Hp} {al : List Addr} {H : Hp} {M : MH} {d : D} {v : V} {ds : List D} {src : List Nat} (h : HR K F al H M) (r : Rel K F al d v) (e : rdB M d = some (ds, src)) :
    ∃ t a, v = .ref a ∧ ∀ F2 al2 H2 M2, Stw K F al H M F2 al2 H2 M2 → SrcOk src M M2 → ∃ xs, SqB K t H2 a xs ∧ RelA K F2 al2 ds xs := by
  have key : rdI M d = some (ds, src) → ∃ t a, v = .ref a ∧ ∀ F2 al2 H2 M2, Stw K F al H M F2 al2 H2 M2 → SrcOk src M M2 → ∃ xs, SqB K t H2 a xs ∧ RelA K F2 al2 ds xs := fun e => by
    obtain ⟨a, q, z⟩ := h.rdI_ r e
    exact ⟨false, a, q, z⟩
  cases d with
  | tup es =>
    cases e
    obtain ⟨a, xs, rfl, q, ra⟩ := r
    exact ⟨true, a, rfl, fun F2 al2 H2 M2 st _ => ⟨xs, Evl.ex_t (st.ex.trans st.hr.ext) q, ra.mono st.ex st.pre⟩⟩
  | kt es =>
    cases e
    obtain ⟨a, xs, rfl, q, ra⟩ := r
    exact ⟨true, a, rfl, fun F2 al2 H2 M2 st _ => ⟨xs, Evl.ex_t (st.ex.trans st.hr.ext) (Evl.st_of q), ra.mono st.ex st.pre⟩⟩
  | _ => exact key e
theorem okit_zB {K : PySem.W.Frag} {F : Hp} {al : List Addr} {H : Hp} {M : MH} {t t2 : Bool} {a b : Addr} {ds es : List D} {src : List Nat} (h : ∀ F2 al2 H2 M2, Stw K F al H M F2 al2 H2 M2 → SrcOk src M M2 → ∃ xs, SqB K t H2 a xs ∧ RelA K F2 al2 ds xs)
    (g : ∀ F2 al2 H2 M2, Stw K F al H M F2 al2 H2 M2 → SrcOk src M M2 → ∃ xs, SqB K t2 H2 b xs ∧ RelA K F2 al2 es xs) : OkIt K F al H M (ItzB K t t2 a b) (zipD ds es) src := by
  refine ⟨fun i F2 al2 H2 M2 st so hi => ?_, fun F2 al2 H2 M2 st so => ?_, fun i d F2 al2 H2 M2 x H3 st so hd y => ?_⟩
  · obtain ⟨xs, q, r⟩ := h F2 al2 H2 M2 st so
    obtain ⟨ys, q2, r2⟩ := g F2 al2 H2 M2 st so
    have hl := r.length
    have hl2 := r2.length
    rw [zipD_len] at hi
    exact ⟨xs, ys, xs[i], ys[i], q, q2, by rw [List.getElem?_eq_getElem], by rw [List.getElem?_eq_getElem]⟩
  · obtain ⟨xs, q, r⟩ := h F2 al2 H2 M2 st so
    obtain ⟨ys, q2, r2⟩ := g F2 al2 H2 M2 st so
    have hl := r.length
    have hl2 := r2.length
    refine ⟨xs, ys, q, q2, ?_⟩
    rw [zipD_len]
    omega
  · obtain ⟨xs, q, r⟩ := h F2 al2 H2 M2 st so
    obtain ⟨ys, q2, r2⟩ := g F2 al2 H2 M2 st so
    obtain ⟨T, z, z2, rfl, hT, rfl, y, y2⟩ := y
    obtain ⟨d1, d2, e1, e2, rfl⟩ := zipD_get hd
    obtain ⟨v, e3, rv⟩ := r.get e1
    obtain ⟨v2, e4, rv2⟩ := r2.get e2
    have e5 := y xs q
    rw [e3] at e5; cases e5
    have e6 := y2 ys q2
    rw [e4] at e6; cases e6
    obtain ⟨s1, r1⟩ := pair_new st.hr hT rv rv2
    exact ⟨_, s1, r1⟩
def dZipB (mas : DA) : DI := fun r M R => mas r M fun ds M1 => match ds with
  | [d, e] => (match rdB M1 d, rdB M1 e with
    | some (ds, s1), some (es, s2) => R (zipD ds es) (s1 ++ s2) M1
    | _, _ => False)
  | _ => False
theorem mi_zipB {e2 : Expr} {p pos tpos : Pos} {elts : List Expr} {kk : Nat} (hm : X.mg "zip" = none) (ha : MA X W [e, e2] mas) (hg : Gl X "zip" := by rfl) (hs : starEach [e, e2] X.env = (false, eval e X.env) :: starEach [e2] X.env := by rfl) (hpl : (backTo pos (starEach [e2] X.env)).any (·.1) = false := by rfl) :
    MI X W (.Tuple elts kk tpos) (.Call (.Name "zip" p) [e, e2] [] pos) (dZipB mas) := by
  refine PI.imp (pi_zipB hg hm ha hs hpl) ?_
  rintro s H R ⟨F, al, r, M, RI, er, hr, hm, k⟩
  refine ⟨F, al, r, M, _, er, hr, hm, fun vs H1 F1 al1 ds M1 s1 r1 hm1 => ?_⟩
  split at hm1
  · rename_i d e
    obtain ⟨y, ys, rfl, ry, z, zs, rfl, rz, rfl⟩ := r1
    split at hm1
    · rename_i ds q1 es q2 e1 e2
      obtain ⟨t, a, rfl, hz⟩ := s1.hr.rdB_ ry e1
      obtain ⟨t2, b, rfl, hz2⟩ := s1.hr.rdB_ rz e2
      obtain ⟨xs, sq, ra⟩ := hz F1 al1 H1 M1 (Stp.refl s1.hr).w srcR
      obtain ⟨ys, sq2, ra2⟩ := hz2 F1 al1 H1 M1 (Stp.refl s1.hr).w srcR
      exact ⟨t, t2, a, b, xs, ys, rfl, sq, sq2, k _ H1 F1 al1 _ _ M1 s1 (okit_zB (fun F2 al2 H2 M2 st so => hz F2 al2 H2 M2 st so.l) (fun F2 al2 H2 M2 st so => hz2 F2 al2 H2 M2 st so.r)) hm1⟩
    · exact hm1.elim
  · exact hm1.elim
end

/-! ### tuple * int, by 1 too -/
theorem tuple_mul1 (l : Addr) (items : Array Value) (n : Nat) (dd : Option Addr) (sl : Array (Option Value)) (u : Tok) :
    Meets (Builtin.«tuple.__mul__» ⟨[.ref l, .int 1 u], []⟩) (fun _ R s => s.heap.get? l = some { cls := .type "tuple", dict := dd, data := .seq items n, slots := sl } ∧
      R (.ok (.ret (Value.ref l))) s) :=
  .of_wp fun prog w A R s h => by
    obtain ⟨hp, g, d, tk, os⟩ := s
    obtain ⟨hl, h⟩ := h
    have f1 := AutoSeq1.idx_int
    wp_walk using wpAny_loadPart' hl
    exact ⟨_, rfl, h⟩
def rRepT1 (K : PySem.W.Frag) : R2 := fun x y H Q => ∃ l xs, x = .ref l ∧ y = .int 1 ∧ SqT K H l xs ∧ Q (.ref l) H
theorem op_repT1 {X : Cx} : OpR X (binaryOp .Mult) (rRepT1 X.K) := by
  intro pins s σ H x y v u Q I rx ry h
  obtain ⟨l, xs, rfl, rfl, hT, q⟩ := h
  cases rx
  obtain ⟨t, rfl⟩ := ry
  obtain ⟨its, r, ⟨⟨cls, dd, data, sl⟩, ho, hc, n, hd⟩, hs⟩ := I.tuple hT
  simp only at hc hd
  subst hc hd
  exact wpAny_binaryOp_repeat_ref (T := "tuple") (U := "int") (by decide) ⟨_, ho, rfl⟩ (fun s' => typeIs_int s' 1 t) noFill_tuple_mul F.fills_int_mul F.slot_int_rmul repeat_tuple F.slot_int_index.lookup
    (call_meets F.slot_int_rmul (typeIs_int s 1 t) F.entry_int_rmul (F.args_int_rmul_2 _ _) (int_rmul_tuple 1 t l its.toArray n dd sl)
      ⟨ho, rfl, ⟨_, ho, rfl⟩, call_meets F.slot_tuple_mul ⟨_, ho, rfl⟩ F.entry_tuple_mul (F.args_tuple_mul_2 _ _) (tuple_mul1 l its.toArray n dd sl t) ⟨ho, ⟨.ref l, H, I, rfl, q⟩⟩⟩)
/-- * : ints; a list or a tuple and an int -/
def dMulT (fz : Bool) : D → D → MH → DK → Prop
  | .tup xs, .int k, M, R => (xs ≠ [] ∧ 1 ≤ k ∧ k ≤ 1000 ∧ xs.length ≤ 1000) ∧ R (.tup (List.replicate k.toNat xs).flatten) M
  | d, e, M, R => dMul fz d e M R
theorem me_mulT {X : Cx} {W : WX} {a b : Expr} {ma mb : DE} {pos : Pos} (fz : Bool) (ha : ME X W a ma) (hb : ME X W b mb) : ME X W (.BinOp a .Mult b pos) (dOp (dMulT fz) ma mb) := by
  refine me_op (OpR.or (OpR.or (OpR.or op_mulG op_rep) op_repT) op_repT1) ?_ ha hb
  intro F al H M x y d e R Q h rx ry hm k
  unfold dMulT at hm
  split at hm
  · rename_i ds j
    obtain ⟨⟨h1, h2, h3, h4⟩, hq⟩ := hm
    obtain ⟨l, xs, rfl, q, ra⟩ := rx
    cases ry
    by_cases e1 : j = 1
    · subst e1
      refine .inr ⟨l, xs, rfl, rfl, Evl.ex_t h.ext q, Out.pq k h hq ⟨l, xs, rfl, q, ?_⟩⟩
      simpa using ra
    · refine .inl (.inr ⟨l, j, xs, rfl, rfl, Evl.ex_t h.ext q, fun z => h1 ?_, by omega, h3, by rw [ra.length]; exact h4, fun p hp => Out.newT k h hp (ra.rep _) hq⟩)
      have := ra.length
      rw [z] at this
      exact List.eq_nil_of_length_eq_zero this.symm
  · unfold dMul at hm
    split at hm
    · cases rx; cases ry
      exact .inl (.inl (.inl ⟨_, _, rfl, rfl, hm.1, Out.pq k h hm.2 rfl⟩))
    · split at hm
      · rename_i xs e1
        obtain ⟨a, us, rfl, ha, ra⟩ := h.rdW_ rx e1
        cases ry
        exact .inl (.inl (.inr ⟨a, _, us, rfl, rfl, ha, by omega, by omega, by rw [ra.length]; exact hm.1.2.2, fun p hp => Out.new k h hp (ra.rep _) hm.2⟩))
      · exact hm.elim
    · exact hm.elim

/-! ### constants of a module -/
/-- a value that a name of the module holds for good -/
structure Cst (K : PySem.W.Frag) (mg : Str → Option Value) (x : Str) (d : D) : Prop where
  ex : ∃ v u, mg x = some u ∧ RelV v u ∧ ∀ F al, Rel K F al d v
theorem me_k {X : Cx} {W : WX} {x : Str} {d : D} {pos : Pos} (h : Cst X.K X.mg x d) (hg : Gl X x := by rfl) (hdb : (x == ("__debug__" : Str)) = false := by decide +kernel) : ME X W (.Name x pos) (dC d) := by
  obtain ⟨v, u, hm, r, hd⟩ := h.ex
  exact me_glob hg hm r hd hdb
theorem cst_int {K : PySem.W.Frag} {mg : Str → Option Value} {x : Str} {i : Int} (h : ∃ t, mg x = some (.int i t)) : Cst K mg x (.int i) := by
  obtain ⟨t, h⟩ := h
  exact ⟨.int i, _, h, ⟨t, rfl⟩, fun _ _ => rfl⟩
theorem relI {K : PySem.W.Frag} {F : Hp} {al : List Addr} : ∀ is : List Int, RelA K F al (is.map D.int) ((is.map He.Dv.int).map (He.Dv.v K))
  | [] => rfl
  | i :: is => ⟨.int i, _, rfl, rfl, relI is⟩
theorem cst_tupI {K : PySem.W.Frag} {mg : Str → Option Value} {x : Str} {is : List Int} (hm : mg x = some (.ref (He.ga K x))) (h : He.tupB K x (is.map He.Dv.int) = true) : Cst K mg x (.tup (is.map D.int)) :=
  ⟨.ref (He.ga K x), _, hm, rfl, fun F al => ⟨_, _, rfl, He.tupB_ok h F, relI is⟩⟩
end DL

set_option Elab.async false
set_option linter.all false
set_option maxRecDepth 100000
set_option maxHeartbeats 4000000
namespace DL
open PySem PySem.Spec L2 PyProof.Rows
open Evl (Ex)
/-! ### [.. for .. in .. for .. in ..] -/
theorem it_gen {J : It} {n : Nat} {G : Hp → Prop} {Y : Nat → Hp → V → Hp → Prop} (w : Walk J n G Y) {B : V → Hp → (Hp → Prop) → Prop} {H0 : Hp} {Qd : Hp → Prop} (Pv : Nat → Hp → Prop) (h0 : Pv 0 H0) (hG : ∀ i H, i ≤ n → Pv i H → G H)
    (hs : ∀ i x H H', i < n → Pv i H → Y i H x H' → B x H' (Pv (i + 1))) (hd : ∀ H, Pv n H → Qd H) :
    ∃ W : Nat → Nat → Hp → Prop, (∃ m, W 0 m H0) ∧ ∀ i m H, W i m H →
      (J.stop i H ∧ Qd H) ∨ (J.go i H ∧ ∃ Nx : Hp → Prop, (∀ H', Nx H' → ∃ m', m' < m ∧ W (i + 1) m' H') ∧ ∀ x H', J.yld i H x H' → B x H' Nx) := by
  refine ⟨fun i m H => m = n - i ∧ i ≤ n ∧ Pv i H, ⟨n, by simp, Nat.zero_le _, h0⟩, ?_⟩
  rintro i m H ⟨rfl, hi, p⟩
  have q := hG i H hi p
  by_cases hlt : i < n
  · exact .inr ⟨w.goes i H hlt q, Pv (i + 1), fun H' p' => ⟨n - (i + 1), by omega, rfl, hlt, p'⟩, fun x H' y => hs i x H H' hlt p (w.yields i H x H' hlt q y)⟩
  · have e : i = n := by omega
    subst e
    exact .inl ⟨w.stops H q, hd H p⟩
def lc2D (pt : Pat) (mt : DT) (mi1 : DI) (pt1 : Pat) (mt1 : DT) (me : DE) (vs1 : List Nat) (sl0 : SL) (src : List Nat) (M0 : MH) : List D → List D → MH → (List D → MH → Prop) → Prop
  | [], acc, M, R => R acc M
  | d :: ds, acc, M, R => match bindP pt d sl0 with
    | some sl => mt (rB sl) M fun b M1 => if b = true then mi1 (rB sl) M1 fun items1 src1 M2 => acc.length + items1.length ≤ sizeLine ∧ lcD pt1 mt1 me (wipeD sl vs1) src1 M2 items1 acc M2 fun acc' M3 => SrcOk src M0 M3 ∧ lc2D pt mt mi1 pt1 mt1 me vs1 sl0 src M0 ds acc' M3 R
        else SrcOk src M0 M1 ∧ lc2D pt mt mi1 pt1 mt1 me vs1 sl0 src M0 ds acc M1 R
    | none => False
def dLc2 (fz : Bool) (mi : DI) (pt : Pat) (mt : DT) (mi1 : DI) (pt1 : Pat) (mt1 : DT) (me : DE) (vs vs1 : List Nat) : DE := fun r M R => mi r M fun items src M1 => lc2D pt mt mi1 pt1 mt1 me vs1 (wipeD r.sl vs) src M1 items [] M1 fun acc M2 => nw fz acc M2 R
section
variable {X : Cx} {W : WX} {elt tg iter tg1 iter1 : Expr} {ifs ifs1 : List Expr} {scope : Scope} {own : List (Str × Nat)} {vs1 : List Nat} {pos : Pos} {mi mi1 : DI} {pt pt1 : Pat} {mt mt1 : DT} {me : DE}
theorem erBB {K : PySem.W.Frag} {F : Hp} {al : List Addr} {H : Hp} {M : MH} {s : L2.St} {sl : SL} (es : ES K F al s sl) : ER K wF F al H M s (rB sl) := ⟨es, fun _ _ _ _ _ _ _ _ _ _ _ _ _ z => False.elim z, fun d p w z => by cases z⟩
theorem sim_lc2 (fz : Bool) (hv : ∀ i ∈ ixP pt, i ∈ own.map (·.2)) (hv1 : ∀ i ∈ ixP pt1, i ∈ vs1) : ∀ s H Q, lE X.K W (dLc2 fz mi pt mt mi1 pt1 mt1 me (own.map (·.2)) vs1) s H Q →
    tLc2 (lI X.K W mi) (lG X.K pt) (lT X.K wF mt) (lI X.K wF mi1) (lG X.K pt1) (lT X.K wF mt1) (lE X.K wF me) (own.map (·.2)) vs1 s H Q := by
  rintro s H Q ⟨F, al, r, M, R, er, hr, hm, k⟩
  refine ⟨F, al, r, M, _, er, hr, hm, fun J H1 F1 al1 items src M1 s1 ok hm1 p hp => ?_⟩
  have k1 := Out.step hr k s1
  have er1 := er.step hr s1
  have w : Walk J items.length (fun H => ∃ F2 al2 M2, Stp X.K F1 al1 H1 M1 F2 al2 H M2 ∧ SrcOk src M1 M2) (fun i H x H' => J.yld i H x H') :=
    ⟨fun i H hi ⟨F2, al2, M2, st, so⟩ => ok.go i F2 al2 H M2 st.w so hi, fun H ⟨F2, al2, M2, st, so⟩ => ok.stop F2 al2 H M2 st.w so, fun _ _ _ _ _ _ y => y⟩
  have un1 : F1 p = none := Evl.fresh_back s1.hr.ext hp
  have out1 : ∀ k : Nat, al1[k]? ≠ some p := fun k e => s1.hr.trk k p e hp
  refine it_gen w (fun i H => ∃ F2 al2 M2 xs ds, Stp X.K F1 al1 H1 M1 F2 al2 H M2 ∧ SrcOk src M1 M2 ∧ Apart F2 al2 H p xs ∧ RelA X.K F2 al2 ds xs ∧ lc2D pt mt mi1 pt1 mt1 me vs1 (wipeD r.sl (own.map (·.2))) src M1 (items.drop i) ds M2 fun acc M2 => nw fz acc M2 R)
    ⟨F1, al1, M1, [], [], (Stp.refl s1.hr).writeX hp out1 un1, srcR, ⟨upd_same, out1, un1⟩, rfl, by rw [List.drop_zero]; exact hm1⟩
    (fun i H _ ⟨F2, al2, M2, _, _, st, so, _⟩ => ⟨F2, al2, M2, st, so⟩) ?_ ?_
  · rintro i x H H' hi ⟨F2, al2, M2, xs, ds, st, so, ap, ra, hf⟩ y
    have hd : items[i]? = some items[i] := List.getElem?_eq_getElem hi
    obtain ⟨F3, st3, rx⟩ := ok.yld i _ F2 al2 H M2 x H' st.w so hd y
    rw [List.drop_eq_getElem_cons hi] at hf
    unfold lc2D at hf
    split at hf
    · rename_i sl e1
      have st4 := st.trans s1.hr st3
      have ap3 := ap.step st.hr st3
      have es4 := (er1.es.mono st4.ex st4.pre).wipe (own.map (·.2))
      refine ⟨F3, al2, M2, _, _, sl, es4, st3.hr, rx, e1, fun s' es' sm => ⟨sm.wipe hv, ?_⟩⟩
      refine ⟨F3, al2, rB sl, M2, _, erBB es', st3.hr, hf, fun b H5 F5 al5 M5 st5 hb => ?_⟩
      have ap5 := ap3.step st3.hr st5
      have st6 := st4.trans s1.hr st5
      have ra5 := (ra.mono st3.ex st3.pre).mono st5.ex st5.pre
      cases b with
      | false =>
        dsimp only
        rw [if_neg Bool.false_ne_true] at hb ⊢
        exact ⟨F5, al5, M5, xs, ds, st6, hb.1, ap5, ra5, hb.2⟩
      | true =>
        dsimp only
        rw [if_pos rfl] at hb ⊢
        refine ⟨F5, al5, rB sl, M5, _, erBB (es'.mono st5.ex st5.pre), st5.hr, hb, fun J1 H7 F7 al7 items1 src1 M7 st7 ok1 hm7 => ?_⟩
        obtain ⟨hz, hm7⟩ := hm7
        have ap7 := ap5.step st5.hr st7
        have st8 := st6.trans s1.hr st7
        have ra7 := ra5.mono st7.ex st7.pre
        have es7 := (es'.mono st5.ex st5.pre).mono st7.ex st7.pre
        have w1 : Walk J1 items1.length (fun H => ∃ F2 al2 M2, Stw X.K F7 al7 H7 M7 F2 al2 H M2 ∧ SrcOk src1 M7 M2) (fun i H x H' => J1.yld i H x H') :=
          ⟨fun i H hi ⟨F2, al2, M2, st, so⟩ => ok1.go i F2 al2 H M2 st so hi, fun H ⟨F2, al2, M2, st, so⟩ => ok1.stop F2 al2 H M2 st so, fun _ _ _ _ _ _ y => y⟩
        have hl7 := ra7.length
        refine it_gen w1 (fun j H => ∃ F9 al9 M9 xs9 ds9, Stp X.K F1 al1 H1 M1 F9 al9 H M9 ∧ Stw X.K F7 al7 H7 M7 F9 al9 H M9 ∧ SrcOk src1 M7 M9 ∧ Apart F9 al9 H p xs9 ∧ RelA X.K F9 al9 ds9 xs9 ∧ xs9.length ≤ xs.length + j ∧
            lcD pt1 mt1 me (wipeD sl vs1) src1 M7 (items1.drop j) ds9 M9 fun acc' M3 => SrcOk src M1 M3 ∧ lc2D pt mt mi1 pt1 mt1 me vs1 (wipeD r.sl (own.map (·.2))) src M1 (items.drop (i + 1)) acc' M3 fun acc M2 => nw fz acc M2 R)
          ⟨F7, al7, M7, xs, ds, st8, (Stp.refl st7.hr).w, srcR, ap7, ra7, Nat.le_refl _, by rw [List.drop_zero]; exact hm7⟩
          (fun j H _ ⟨F9, al9, M9, _, _, _, st, so, _⟩ => ⟨F9, al9, M9, st, so⟩) ?_ ?_
        · rintro j x1 Ha Hb hj ⟨F9, al9, M9, xs9, ds9, st9, sw9, so9, ap9, ra9, hl9, hf9⟩ y1
          have hd1 : items1[j]? = some items1[j] := List.getElem?_eq_getElem hj
          obtain ⟨F10, st10, rx10⟩ := ok1.yld j _ F9 al9 Ha M9 x1 Hb sw9 so9 hd1 y1
          rw [List.drop_eq_getElem_cons hj] at hf9
          unfold lcD at hf9
          split at hf9
          · rename_i sl1 e2
            have ap10 := ap9.step st9.hr st10
            have st11 := st9.trans s1.hr st10
            have es10 := ((es7.mono sw9.ex sw9.pre).mono st10.ex st10.pre).wipe vs1
            refine ⟨F10, al9, M9, _, _, sl1, es10, st10.hr, rx10, e2, fun s2 es2 sm2 => ⟨sm2.wipe hv1, ?_⟩⟩
            refine ⟨F10, al9, rB sl1, M9, _, erBB es2, st10.hr, hf9, fun b H12 F12 al12 M12 st12 hb12 => ?_⟩
            have ap12 := ap10.step st10.hr st12
            have st13 := st11.trans s1.hr st12
            have ra12 := (ra9.mono st10.ex st10.pre).mono st12.ex st12.pre
            have sw12 : Ex F7 F12 ∧ Pre al7 al12 := ⟨(sw9.ex.trans st10.ex).trans st12.ex, (sw9.pre.trans st10.pre).trans st12.pre⟩
            cases b with
            | true =>
              dsimp only
              rw [if_pos rfl] at hb12 ⊢
              refine ⟨F12, al12, rB sl1, M12, _, erBB (es2.mono st12.ex st12.pre), st12.hr, hb12, fun v H14 F14 al14 d M14 st14 rv hq => ?_⟩
              have ap14 := ap12.step st12.hr st14
              have st15 := st13.trans s1.hr st14
              have st16 : Stp X.K F1 al1 H1 M1 F14 al14 (upd H14 p (.lst (xs9 ++ [v]))) M14 := st15.writeX hp ap14.out ap14.un
              refine ⟨xs9, ap14.at_, by omega, F14, al14, M14, xs9 ++ [v], ds9 ++ [d], st16, ⟨sw12.1.trans st14.ex, sw12.2.trans st14.pre, st16.hr⟩, hq.1, ⟨upd_same, ap14.out, ap14.un⟩, (ra12.mono st14.ex st14.pre).app (RelA.one rv), by simp; omega, hq.2⟩
            | false =>
              dsimp only
              rw [if_neg Bool.false_ne_true] at hb12 ⊢
              exact ⟨F12, al12, M12, xs9, ds9, st13, ⟨sw12.1, sw12.2, st12.hr⟩, hb12.1, ap12, ra12, by omega, hb12.2⟩
          · exact hf9.elim
        · rintro Ha ⟨F9, al9, M9, xs9, ds9, st9, sw9, so9, ap9, ra9, hl9, hf9⟩
          rw [List.drop_length] at hf9
          exact ⟨F9, al9, M9, xs9, ds9, st9, hf9.1, ap9, ra9, hf9.2⟩
    · exact hf.elim
  · rintro H ⟨F2, al2, M2, xs, ds, st, so, ap, ra, hf⟩
    rw [List.drop_length] at hf
    exact Out.adopt k1 s1.hr st hp ap ra hf
theorem me_lc2 (fz : Bool) (hc : X.calm = true) (hN : X.N.Nodup) (hi : MI X W tg iter mi) (ok : BlkOk X.N X.env.scope scope own)
    (hg : ∀ (s : Shared) (H : Hp) (C : Addr) (cl : List (Str × Addr)) (fp : List Addr), MG (X.blk s H scope (compEnvC scope cl C X.env) fp) tg pt) (ht : ∀ (s : Shared) (H : Hp) (C : Addr) (cl : List (Str × Addr)) (fp : List Addr), MTs (X.blk s H scope (compEnvC scope cl C X.env) fp) wF ifs mt)
    (hi1 : ∀ (s : Shared) (H : Hp) (C : Addr) (cl : List (Str × Addr)) (fp : List Addr), MI (X.blk s H scope (compEnvC scope cl C X.env) fp) wF tg1 iter1 mi1)
    (hg1 : ∀ (s : Shared) (H : Hp) (C : Addr) (cl : List (Str × Addr)) (fp : List Addr), MG (X.blk s H scope (compEnvC scope cl C X.env) fp) tg1 pt1) (ht1 : ∀ (s : Shared) (H : Hp) (C : Addr) (cl : List (Str × Addr)) (fp : List Addr), MTs (X.blk s H scope (compEnvC scope cl C X.env) fp) wF ifs1 mt1)
    (he : ∀ (s : Shared) (H : Hp) (C : Addr) (cl : List (Str × Addr)) (fp : List Addr), ME (X.blk s H scope (compEnvC scope cl C X.env) fp) wF elt me) (hv : ∀ i ∈ ixP pt, i ∈ own.map (·.2) := by decide) (hv1 : ∀ i ∈ ixP pt1, i ∈ vs1 := by decide) (hvo : ∀ i ∈ vs1, i ∈ own.map (·.2) := by decide)
    (hs : ∀ x, foldedSetIterable iter X.env x = pure x := by intro _; rfl) (hs1 : ∀ env x, foldedSetIterable iter1 env x = pure x := by intro _ _; rfl) :
    ME X W (.ListComp elt [⟨tg, iter, ifs, 0⟩, ⟨tg1, iter1, ifs1, 0⟩] scope pos) (dLc2 fz mi pt mt mi1 pt1 mt1 me (own.map (·.2)) vs1) :=
  PE.imp (pe_lc2 (g := lG X.K pt) (tt := lT X.K wF mt) (wi1 := lI X.K wF mi1) (g1 := lG X.K pt1) (tt1 := lT X.K wF mt1) (te := lE X.K wF me) hc hN hi ok hvo hg ht hi1 hg1 ht1 he hs hs1) (sim_lc2 fz hv hv1)
end
end DL

set_option Elab.async false
set_option linter.all false
set_option maxRecDepth 100000
set_option maxHeartbeats 4000000
/-! except (A, B) as n: two own classes -/
namespace EX
open PySem PySem.Spec PyProof.Rows L2
theorem fly_more {B h h' : Heap} {l : List Env} {e : Addr} {Z : Obj → Prop} (k : ∀ b o, h.get? b = some o → h'.get? b = some o) (x : HandSPX.FlyingZ B l e Z h) : HandSPX.FlyingZ B l e Z h' := by
  obtain ⟨f1, f2, f3, oe, vs, T, oT, ts, g1, g2, g3, g4, g5, g6, g7, g8, g9⟩ := x
  exact ⟨fun b o q => k _ _ (f1 b o q), f2, f3.of_keeps fun b o q _ => ⟨o, k b o q, rfl⟩, oe, vs, T, oT, ts, k _ _ g1, g2, g3, g4, g5, g6, k _ _ g7, g8, g9⟩
/-- what the clause wishes of an exception of the body -/
def wAs2 (K : PySem.W.Frag) (c1 c2 : Value) (i : Nat) (ts : Addr → Value → Option Addr → TS) (Wout : WX) (D : Ends) : WX := fun cls d σ H =>
  ∃ b, PySem.W.exmAny K cls [c1, c2] = some b ∧ (b = true → ∀ a, H a = none → ts a cls d { nx := fun σ' H' => D.nx (σ'.set i none) H', rt := D.rt, bk := fun σ' H' => D.bk (σ'.set i none) H', ct := fun σ' H' => D.ct (σ'.set i none) H' } (σ.set i (some (.ref a))) H) ∧
    (b = false → Wout cls d σ H)
section
variable {X : Cx} {x1 x2 n : Str} {c1 c2 : Value} {i : Nat} {body suite : List Stmt} {b₀ : Stmt} {np1 np2 tpos pos pos' : Pos} {kk : Nat} {tb : WX → TS} {ts : Addr → Value → Option Addr → TS} {Wout : WX}
theorem ps_try_as2 (hs : X.stack = X.env :: X.outer) (hf : X.env.frame = some X.env.locals) (hN : X.N.Nodup) (hi : X.N[i]? = some n) (hln : X.env.kindOf n = some .local)
    (hg1 : Gl X x1) (hm1 : X.mg x1 = some c1) (hd1 : (x1 == ("__debug__" : Str)) = false) (hg2 : Gl X x2) (hm2 : X.mg x2 = some c2) (hd2 : (x2 == ("__debug__" : Str)) = false) (tk : Takes X Wout)
    (hb : ∀ (W : WX) (pn : List (Addr × Obj)) (xe : Value → Shared → Prop), Takes (X.tr pn xe) W → PassesOwn (model X.prog X.w) X.A X.env xe → PSs (X.tr pn xe) body (tb W))
    (hsu : ∀ (a : Addr) (oe : Obj) (cls : Value) (d : Option Addr) (pn : List (Addr × Obj)), Zc cls d oe → (∃ vs, oe.data = .fields vs) → PSs (X.suite a ((a, oe) :: pn)) (b₀ :: suite) (ts a cls d)) :
    PS X (.Try body [.ExceptHandler (some (.Tuple [.Name x1 np1, .Name x2 np2] kk tpos)) (some n) (b₀ :: suite) pos'] [] [] pos) (fun D σ H => tb (wAs2 X.K c1 c2 i ts Wout D) D σ H) := by
  refine ⟨fun pins s σ H D I h => ?_⟩
  have ok := I.ok
  have hfr : X.A.frames = some (X.env :: X.outer) := by rw [ok.frames, hs]
  have hloc : Loc X.env.scope n := .inl hln
  refine wpAny_Try_except ?_
  refine wpAny_mono ((hb (wAs2 X.K c1 c2 i ts Wout D) (X.pn ++ pins) (fun e s₁ => wpAny (model X.prog X.w) X.A (noteFrame e X.env) (fun _ s₂ => wpAny (model X.prog X.w) X.A (setFlight e none) (fun _ s₃ =>
    wpAny (model X.prog X.w) X.A (handleBy e X.env [.ExceptHandler (some (.Tuple [.Name x1 np1, .Name x2 np2] kk tpos)) (some n) (b₀ :: suite) pos']) (SP X pins D) X.xe s₃) X.xe s₂) X.xe s₁) (fun u s' xx => ?_) PassesOwn.looking).run [] s σ H D (I.toTry _) h) (fun f s1 hsp => ?_) (fun e s1 he => he)
  · obtain ⟨a, B, sI, pins', σ', H', cls, d, rfl, J', nb, up, sky, na, os, ag, b, hb1, hyes, hno⟩ := xx
    have J : Inv X pins σ' H' sI := J'.ofTry ok
    have sky' : Sky B (X.env :: X.outer) a (Zc cls d) X.env.locals s'.heap := by rw [← hs]; exact sky
    show wpAny (model X.prog X.w) X.A (noteFrame (.ref a) X.env) _ _ _
    refine Sky.land Zc.steady hfr hf sky' fun h3 fl3 up3 => ?_
    have J3 : Inv X pins σ' H' { s' with heap := h3 } := J.landed nb fl3.1 (up.trans up3) os ag
    obtain ⟨oe3, vs3, he3, hz3, hd3⟩ := fl3.there
    have notFr : ∀ {h : Heap} {o : Obj} {vs : Array Value}, h.FunFrames B (X.env :: X.outer) → h.get? a = some o → o.data = .fields vs → a ∉ frs (X.env :: X.outer) := fun {h o vs} ff e dd hm => by
      obtain ⟨_, o', e', hnf⟩ := ff.mem hm
      rw [e] at e'; cases e'
      exact hnf _ dd
    have nfr := notFr fl3.2.2.1 he3 hd3
    have nL : a ≠ X.env.locals := fun z => nfr (List.mem_filterMap.mpr ⟨X.env, List.mem_cons_self, by rw [hf, z]⟩)
    have nF : a ∉ X.fs := fun hm => by
      obtain ⟨e, he, q⟩ := List.mem_filterMap.mp hm
      exact nfr (List.mem_filterMap.mpr ⟨e, List.mem_cons_of_mem _ he, q⟩)
    have S3 := J3.suite he3 hd3 na nL nF
    refine wpAny_handleBy_cons (codeAny_handlers_test ?_) (by intro q; cases q)
    have g1 : ∀ {Q : Value → Shared → Prop} {E : Value → Shared → Prop}, Q c1 { s' with heap := h3 } → wpAny (model X.prog X.w) (X.A.mark (some (.ref a))) (eval (.Name x1 np1) X.env) Q E { s' with heap := h3 } := fun {Q E} q =>
      ld_glob (X := X.suite a ((a, oe3) :: (X.pn ++ pins))) S3 hg1 hm1 q hd1
    have g2 : ∀ {Q : Value → Shared → Prop} {E : Value → Shared → Prop}, Q c2 { s' with heap := h3 } → wpAny (model X.prog X.w) (X.A.mark (some (.ref a))) (eval (.Name x2 np2) X.env) Q E { s' with heap := h3 } := fun {Q E} q =>
      ld_glob (X := X.suite a ((a, oe3) :: (X.pn ++ pins))) S3 hg2 hm2 q hd2
    refine Tuple_ (spliced_more (g1 (spliced_more (g2 (spliced_none ?_)))))
    refine wpAny_newObj_type ?_
    have kp : ∀ b o, h3.get? b = some o → (h3.push { cls := .type "tuple", data := .seq [c1, c2].toArray }).get? b = some o := fun b o q => Heap.get?_push_of_some _ q
    have fl3' := fly_more kp fl3
    have up3' := (up.trans up3).trans (Heap.UpToSlots.of_keeps kp)
    have LT : PySem.W.Looks (model X.prog X.w) (h3.push { cls := .type "tuple", data := .seq [c1, c2].toArray }) (typeOf (.ref a)) cls := fun A Q E s k q => wpAny_typeOf_ref (k _ _ (kp _ _ he3)) (by rw [hz3.1]; exact q)
    have hp := Heap.get?_push_size h3 (o := { cls := .type "tuple", data := .seq [c1, c2].toArray }) rfl
    have LM := PySem.W.exm_tup2 (M := model X.prog X.w) (PySem.W.Frag.In.keeps J3.kIn kp) LT hp hb1
    refine LM.here ?_
    cases b with
    | true =>
      refine codeAny_handlers_suite_as ?_
      refine HandSPX.lands_againZ fl3' fun h4 fl4 up4 => ?_
      have J4 : Inv X pins σ' H' { s' with heap := h4 } := J.landed nb fl4.1 (up3'.trans up4) os ag
      obtain ⟨oe4, vs4, he4, hz4, hd4⟩ := fl4.there
      have S4 := J4.suite he4 hd4 na nL nF
      refine store_ok (X := X.suite a ((a, oe4) :: (X.pn ++ pins))) (v := .ref a) S4 hN hi hloc rfl (fun s5 S5 => ?_) (.inr hln)
      refine wpAny_mono ((hsu a oe4 cls d (X.pn ++ pins) hz4 ⟨_, hd4⟩).run [] s5 _ H' _ S5 (hyes rfl a na)) (fun f s6 hsp => ?_) (fun _ _ z => False.elim z)
      have end_ : ∀ {σ6 : L2.St} {H6 : Hp} {Q : Shared → Prop}, Inv (X.suite a ((a, oe4) :: (X.pn ++ pins))) [] σ6 H6 s6 → (∀ s7, Inv X pins (σ6.set i none) H6 s7 → Q s7) →
          wpAny (model X.prog X.w) X.A (do bindName X.env n .none; unbindBehindTheSuite X.env n pos') (fun _ s7 => Q s7) X.xe s6 := fun {σ6 H6 Q} S6 hq => gone_ok (S6.unsuite ok) hN hi hln hq
      cases f with
      | next => obtain ⟨σ6, H6, S6, q6⟩ := hsp; exact end_ S6 fun s7 J7 => ⟨_, _, J7, q6⟩
      | brk => obtain ⟨σ6, H6, S6, q6⟩ := hsp; exact end_ S6 fun s7 J7 => ⟨_, _, J7, q6⟩
      | cont => obtain ⟨σ6, H6, S6, q6⟩ := hsp; exact end_ S6 fun s7 J7 => ⟨_, _, J7, q6⟩
      | ret u => obtain ⟨v6, σ6, H6, S6, r6, q6⟩ := hsp; exact end_ S6 fun s7 J7 => ⟨_, _, _, J7, r6, q6⟩
    | false =>
      show wpAny _ X.A (handleBy (.ref a) X.env []) _ _ _
      refine wpAny_handleBy_nil ?_
      obtain ⟨k1, k2, k3, oe, vs, T, oT, ts', he, hz, hd, h1, hr⟩ := id fl3'
      unfold PySem.passOn
      refine wpAny_bind (wpAny_field he hd h1 ?_)
      rw [if_neg (show ¬ ((Value.ref T == Value.none) = true) from by simp)]
      have fin : wpAny (model X.prog X.w) X.A (setFlight (.ref a) X.env.frame) (fun _ s4 => wpAny (model X.prog X.w) X.A (throw (.ref a) : Sem Flow) (SP X pins D) X.xe s4) X.xe { s' with heap := h3.push { cls := .type "tuple", data := .seq [c1, c2].toArray } } := by
        rw [hf]
        refine HandSPX.setFlight_upZ fl3' fun h4 hh4 up4 => wpAny_throw (tk _ _ ?_)
        exact ⟨a, B, sI, pins, σ', H', cls, d, rfl, J, nb, up3'.trans up4, .inr (.inr (by rw [hs]; exact hh4)), na, os, ag, hno rfl⟩
      first
        | exact wpAny_bind (wpAny_pure (wpAny_bind fin))
        | exact wpAny_bind fin
  · cases f with
    | next => obtain ⟨σ', H', J', q⟩ := hsp; exact wpAny_execs_nil ⟨σ', H', J'.ofTry ok, q⟩
    | brk => obtain ⟨σ', H', J', q⟩ := hsp; exact ⟨σ', H', J'.ofTry ok, q⟩
    | cont => obtain ⟨σ', H', J', q⟩ := hsp; exact ⟨σ', H', J'.ofTry ok, q⟩
    | ret u => obtain ⟨v, σ', H', J', r, q⟩ := hsp; exact ⟨v, σ', H', J'.ofTry ok, r, q⟩
end
end EX

set_option Elab.async false
set_option linter.all false
set_option maxRecDepth 100000
set_option maxHeartbeats 4000000
namespace DL
open PySem PySem.Spec L2
open Evl (Ex)
/-! ### try: body, except (c1, c2) as n: suite -/
def mTry2 (K : PySem.W.Frag) (c1 c2 : Value) (i : Nat) (mb : DS) (ms : Addr → Addr → Option Addr → DS) : DS := fun E r M =>
  mb { nx := fun r2 M2 => E.nx { r with sl := r2.sl } M2, bk := fun r2 M2 => E.bk { r with sl := r2.sl } M2, ct := fun r2 M2 => E.ct { r with sl := r2.sl } M2, rt := E.rt }
    { r with ex := fun sl C p w M' => ∃ b, PySem.W.exmAny K (.ref C) [c1, c2] = some b ∧
      (b = true → XP K C ∧ ∀ a dd : Addr, ms a C (some dd) { nx := fun r2 M2 => E.nx { r with sl := r2.sl.set i none } M2, bk := fun r2 M2 => E.bk { r with sl := r2.sl.set i none } M2, ct := fun r2 M2 => E.ct { r with sl := r2.sl.set i none } M2, rt := E.rt }
        { sl := sl.set i (some (.cls a)), ex := fun _ _ _ _ _ => False, xd := some (dd, p, w) } M') ∧ (b = false → r.ex sl C p w M') } M
section
variable {X : Cx} {W : WX} {x1 x2 n : Str} {c1 c2 : Value} {i : Nat} {body suite : List Stmt} {b₀ : Stmt} {np1 np2 tpos pos pos' : Pos} {kk : Nat} {mb : DS} {ms : Addr → Addr → Option Addr → DS}
theorem ms_try2 (hs : X.stack = X.env :: X.outer) (hf : X.env.frame = some X.env.locals) (hN : X.N.Nodup) (hi : X.N[i]? = some n) (hln : X.env.kindOf n = some .local)
    (hg1 : Gl X x1) (hm1 : X.mg x1 = some c1) (hd1 : (x1 == ("__debug__" : Str)) = false) (hg2 : Gl X x2) (hm2 : X.mg x2 = some c2) (hd2 : (x2 == ("__debug__" : Str)) = false) (tk : Takes X W)
    (hb : ∀ (W' : WX) (pn : List (Addr × Obj)) (xe : Value → Shared → Prop), Takes (X.tr pn xe) W' → PassesOwn (model X.prog X.w) X.A X.env xe → MSs (X.tr pn xe) W' body mb)
    (hsu : ∀ (a : Addr) (oe : Obj) (C : Addr) (d : Option Addr) (pn : List (Addr × Obj)), XP X.K C → Zc (.ref C) d oe → (∃ vs, oe.data = .fields vs) → MSs (X.suite a ((a, oe) :: pn)) wF (b₀ :: suite) (ms a C d)) :
    MS X W (.Try body [.ExceptHandler (some (.Tuple [.Name x1 np1, .Name x2 np2] kk tpos)) (some n) (b₀ :: suite) pos'] [] [] pos) (mTry2 X.K c1 c2 i mb ms) := by
  refine PS.imp (EX.ps_try_as2 (Wout := W) (tb := fun W' => lS X.K W' mb) (ts := fun a cls d D s H => ∃ C, cls = .ref C ∧ XP X.K C ∧ lS X.K wF (ms a C d) D s H) (c1 := c1) (c2 := c2) hs hf hN hi hln hg1 hm1 hd1 hg2 hm2 hd2 tk (fun W' pn xe tk' ps => hb W' pn xe tk' ps) (fun a oe cls d pn hz hf => ?_)) ?_
  · constructor
    intro pins s σ H D I q
    obtain ⟨C, rfl, pc, q⟩ := q
    exact (hsu a oe C d pn pc hz hf).run pins s σ H D I q
  · rintro D s H ⟨F, al, r, M, E, er, hr, hm, a1, a2, a3, a4⟩
    have back : ∀ {P : RH → MH → Prop} {Q : L2.St → Hp → Prop}, Aft X.K W F al H M P Q → ∀ {W'}, Aft X.K W' F al H M (fun r2 M2 => P { r with sl := r2.sl } M2) Q :=
      fun {P Q} h {W'} s' H' F' al' r' M' st er' hp => h s' H' F' al' _ M' st (er.out hr st er'.es) hp
    unfold mTry2 at hm
    refine ⟨F, al, _, M, _, ?_, hr, hm, back a1, back a2, back a3, a4⟩
    refine ⟨er.es, fun C dx p w s' sl H' F' al' M' st es' xd hx => ?_, er.xd⟩
    obtain ⟨b, e1, h1, h2⟩ := hx
    refine ⟨b, e1, fun hb a ha => ?_, fun hb => er.xe C dx p w s' sl H' F' al' M' st es' xd (h2 hb)⟩
    obtain ⟨dd, _, _, rfl, _⟩ := id xd
    have fin : ∀ {P : RH → MH → Prop} {Q : L2.St → Hp → Prop}, Aft X.K W F al H M P Q → Aft X.K wF F' al' H' M' (fun r2 M2 => P { r with sl := r2.sl.set i none } M2) (fun σ' H' => Q (σ'.set i none) H') :=
      fun {P Q} h s2 H2 F2 al2 r2 M2 st2 er2 hp => h _ H2 F2 al2 _ M2 (st.trans hr st2) (er.out hr (st.trans hr st2) er2.es.unset) hp
    refine ⟨C, rfl, (h1 hb).1, F', al', { sl := sl.set i (some (.cls a)), ex := fun _ _ _ _ _ => False, xd := some (dd, p, w) }, M', _, ⟨es'.set (i := i) (d := .cls a) rfl, fun _ _ _ _ _ _ _ _ _ _ _ _ _ z => False.elim z, fun d p' w' z => ?_⟩, st.hr, (h1 hb).2 a dd, fin a1, fin a2, fin a3, fun v H2 F2 al2 d M2 st2 rv q => a4 v H2 F2 al2 d M2 (st.trans hr st2) rv q⟩
    cases z
    exact xd
end
theorem exmAny2 {K : PySem.W.Frag} {cls c1 c2 : Value} {a b : Bool} (h1 : PySem.W.exmOne K cls c1 = some a) (h2 : PySem.W.exmOne K cls c2 = some b) : PySem.W.exmAny K cls [c1, c2] = some (a || b) := by
  simp [PySem.W.exmAny, h1, h2]
end DL

set_option Elab.async false
set_option linter.all false
set_option maxRecDepth 100000
set_option maxHeartbeats 2000000
namespace DL
open PySem PySem.Spec L2
open Evl (Ex)

/-! ### methods of built-in types -/
def SimM (K : PySem.W.Frag) (T : String) (r : V → List V → Hp → VK → Prop) (mt : MH → D → Prop) (mm : D → List D → MH → DK → Prop) : Prop :=
  (∀ (F : Hp) (al : List Addr) (H : Hp) (M : MH) (x : V) (d : D), HR K F al H M → Rel K F al d x → mt M d → tyV K T x H) ∧
  (∀ (F : Hp) (al : List Addr) (H : Hp) (M : MH) (x : V) (d : D) (vs : List V) (ds : List D) (R : DK) (Q : VK), HR K F al H M → Rel K F al d x → RelA K F al ds vs → mm d ds M R → Out K F al H M R Q → r x vs H Q)
def dMth (mt : MH → D → Prop) (mm : D → List D → MH → DK → Prop) (mo : DE) (mas : DA) : DE := fun r M R => mo r M fun d M1 => mt M1 d ∧ mas r M1 fun ds M2 => mm d ds M2 R
section
variable {X : Cx} {W : WX} {o e : Expr} {es : List Expr} {mo : DE} {mas : DA} {name : Str} {apos cpos : Pos} {T id : String} {r : V → List V → Hp → VK → Prop} {mt : MH → D → Prop} {mm : D → List D → MH → DK → Prop}
theorem me_mth (hs : SimM X.K T r mt mm) (pa : PlainAttrs T) (slot : Slot T name id) (hty : typeOf (.builtin id) = pure (.type "method_descriptor")) (hm : MtM X id r) (ho : ME X W o mo) (ha : MA X W (e :: es) mas)
    (hbase : attributeBase o name X.env (eval o X.env) = eval o X.env := by rfl)
    (hfew : ((backTo cpos (starEach (e :: es) X.env)).all (fun x => !x.1) && (backToKw cpos (keywordEach [] X.env)).all (fun x => x.1.isSome)
      && decide ((e :: es).length + ([] : List Keyword).length + (if ([] : List Keyword).isEmpty then 0 else 1) < 30)) = true := by rfl)
    (hline : (apos.endLine == cpos.line) = true := by rfl) (hst : starEach (e :: es) X.env = (false, eval e X.env) :: starEach es X.env := by rfl) (hplain : (backTo cpos (starEach es X.env)).any (·.1) = false := by rfl) :
    ME X W (.Call (.Attribute o name apos) (e :: es) [] cpos) (dMth mt mm mo mas) := by
  refine PE.imp (pe_bm pa slot hty hm ho ha hbase hfew hline hst hplain) ?_
  rintro s H Q ⟨F, al, r, M, R, er, hr, hm, k⟩
  refine ⟨F, al, r, M, _, er, hr, hm, fun x H1 F1 al1 d M1 s1 r1 hm1 => ?_⟩
  refine ⟨hs.1 F1 al1 H1 M1 x d s1.hr r1 hm1.1, F1, al1, r, M1, _, er.step hr s1, s1.hr, hm1.2, fun vs H2 F2 al2 ds M2 s2 r2 hm2 => ?_⟩
  exact hs.2 F2 al2 H2 M2 x d vs ds R Q s2.hr (r1.mono s2.ex s2.pre) r2 hm2 (Out.step hr k (s1.trans hr s2))
end
/-- append -/
def tyL (M : MH) (d : D) : Prop := (rdL M d).isSome = true
def dApp : D → List D → MH → DK → Prop := fun d es M R => match d, es with
  | .loc k, [y] => (match M[k]? with
    | some (.lst ds) => ds.length < sizeLine ∧ R .non (M.set k (.lst (ds ++ [y])))
    | _ => False)
  | _, _ => False
theorem tyL_ok {K : PySem.W.Frag} (F : Hp) (al : List Addr) (H : Hp) (M : MH) (x : V) (d : D) (h : HR K F al H M) (r : Rel K F al d x) (t : tyL M d) : tyV K "list" x H := by
  obtain ⟨ds, e⟩ := Option.isSome_iff_exists.mp t
  obtain ⟨a, xs, rfl, q, _⟩ := h.rdL_ r e
  exact .inl ⟨rfl, xs, q⟩
theorem sim_app {K : PySem.W.Frag} : SimM K "list" rAppend tyL dApp := by
  refine ⟨tyL_ok, ?_⟩
  intro F al H M x d vs ds R Q h rx rv hm k
  unfold dApp at hm
  split at hm
  · rename_i j y
    split at hm
    · rename_i ds em
      obtain ⟨a, ea, rfl⟩ := rx
      obtain ⟨v, vs', rfl, r1, rfl⟩ := rv
      obtain ⟨fa, xs, ha, ra⟩ := h.mem j a _ ea em
      refine ⟨a, xs, v, rfl, rfl, ha, by rw [ra.length]; exact hm.1, ?_⟩
      have st : Stp K F al H M F al (upd H a (.lst (xs ++ [v]))) (M.set j (.lst (ds ++ [y]))) := by
        refine stp_set h ea em (fun _ _ z => z) (fun b o z => ?_) (fun b o hb z => by rw [upd_ne hb]; exact z) (fun b z => .inl z) fa upd_same (ra.app (RelA.one r1))
        have hb : b ≠ a := fun w => by rw [w, fa] at z; cases z
        rw [upd_ne hb]
        exact h.ext b o z
      exact k _ _ _ _ .non _ st rfl hm.2
    · exact hm.elim
  · exact hm.elim
theorem me_app {X : Cx} {W : WX} {o e : Expr} {mo : DE} {mas : DA} {apos cpos : Pos} (ho : ME X W o mo) (ha : MA X W [e] mas)
    (hbase : attributeBase o "append" X.env (eval o X.env) = eval o X.env := by rfl)
    (hfew : ((backTo cpos (starEach [e] X.env)).all (fun x => !x.1) && (backToKw cpos (keywordEach [] X.env)).all (fun x => x.1.isSome)
      && decide ([e].length + ([] : List Keyword).length + (if ([] : List Keyword).isEmpty then 0 else 1) < 30)) = true := by rfl)
    (hline : (apos.endLine == cpos.line) = true := by rfl) (hst : starEach [e] X.env = (false, eval e X.env) :: starEach [] X.env := by rfl) (hplain : (backTo cpos (starEach [] X.env)).any (·.1) = false := by rfl) :
    ME X W (.Call (.Attribute o "append" apos) [e] [] cpos) (dMth tyL dApp mo mas) :=
  me_mth sim_app PySem.F.plainAttrs_list PySem.F.slot_list_append PySem.F.type_list_append mt_append ho ha hbase hfew hline hst hplain

/-! ### loops and lists by a word -/
theorem forD_ind {α : Type} {pt : Pat} {mb : DS} {E : DEnds} {src : List Nat} {M0 : MH} (enc : α → D) (I : List α → RH → MH → Prop) (h0 : ∀ r M, I [] r M → E.nx r M)
    (hs : ∀ (x : α) (xs : List α) (r : RH) (M : MH) (K : RH → MH → Prop), I (x :: xs) r M → (∀ r' M', I xs r' M' → K r' M') → ∃ sl, bindP pt (enc x) r.sl = some sl ∧ mb { E with nx := K, ct := K, bk := E.nx } { r with sl := sl } M)
    (so : ∀ xs r M, I xs r M → SrcOk src M0 M) : ∀ (xs : List α) (r : RH) (M : MH), I xs r M → forD pt mb E src M0 (xs.map enc) r M
  | [], r, M, h => h0 r M h
  | x :: xs, r, M, h => by
    obtain ⟨sl, e, hb⟩ := hs x xs r M (fun r' M' => SrcOk src M0 M' ∧ forD pt mb E src M0 (xs.map enc) r' M') h fun r' M' h' => ⟨so xs r' M' h', forD_ind enc I h0 hs so xs r' M' h'⟩
    simp only [List.map, forD, e]
    exact hb
theorem lcD_ind {α : Type} {pt : Pat} {mt : DT} {me : DE} {sl0 : SL} {src : List Nat} {M0 : MH} {R : List D → MH → Prop} (enc : α → D) (I : List α → List D → MH → Prop) (h0 : ∀ acc M, I [] acc M → R acc M)
    (hs : ∀ (x : α) (xs : List α) (acc : List D) (M : MH) (K : List D → MH → Prop), I (x :: xs) acc M → (∀ acc' M', I xs acc' M' → K acc' M') → ∃ sl, bindP pt (enc x) sl0 = some sl ∧ mt (rB sl) M fun b M1 => if b = true then me (rB sl) M1 fun y M2 => K (acc ++ [y]) M2 else K acc M1)
    (so : ∀ xs acc M, I xs acc M → SrcOk src M0 M) :
    ∀ (xs : List α) (acc : List D) (M : MH), I xs acc M → lcD pt mt me sl0 src M0 (xs.map enc) acc M R
  | [], acc, M, h => h0 acc M h
  | x :: xs, acc, M, h => by
    obtain ⟨sl, e, hb⟩ := hs x xs acc M (fun acc' M' => SrcOk src M0 M' ∧ lcD pt mt me sl0 src M0 (xs.map enc) acc' M' R) h fun acc' M' h' => ⟨so xs acc' M' h', lcD_ind enc I h0 hs so xs acc' M' h'⟩
    simp only [List.map, lcD, e]
    exact hb

theorem me_l2 {X : Cx} {W : WX} {elt tg iter tg1 iter1 : Expr} {ifs ifs1 : List Expr} {scope : Scope} {pos : Pos} {mi mi1 : DI} {pt pt1 : Pat} {mt mt1 : DT} {me : DE} (fz : Bool) (own : List (Str × Nat)) (vs1 : List Nat) (hN : X.N.Nodup) (hi : MI X W tg iter mi)
    (hg : ∀ (s : Shared) (H : Hp) (C : Addr) (cl : List (Str × Addr)) (fp : List Addr), MG (X.blk s H scope (compEnvC scope cl C X.env) fp) tg pt) (ht : ∀ (s : Shared) (H : Hp) (C : Addr) (cl : List (Str × Addr)) (fp : List Addr), MTs (X.blk s H scope (compEnvC scope cl C X.env) fp) wF ifs mt)
    (hi1 : ∀ (s : Shared) (H : Hp) (C : Addr) (cl : List (Str × Addr)) (fp : List Addr), MI (X.blk s H scope (compEnvC scope cl C X.env) fp) wF tg1 iter1 mi1)
    (hg1 : ∀ (s : Shared) (H : Hp) (C : Addr) (cl : List (Str × Addr)) (fp : List Addr), MG (X.blk s H scope (compEnvC scope cl C X.env) fp) tg1 pt1) (ht1 : ∀ (s : Shared) (H : Hp) (C : Addr) (cl : List (Str × Addr)) (fp : List Addr), MTs (X.blk s H scope (compEnvC scope cl C X.env) fp) wF ifs1 mt1)
    (he : ∀ (s : Shared) (H : Hp) (C : Addr) (cl : List (Str × Addr)) (fp : List Addr), ME (X.blk s H scope (compEnvC scope cl C X.env) fp) wF elt me) (hc : X.calm = true := by rfl) (ok : BlkOk X.N X.env.scope scope own := by exact blkOk_by (by kernel_rfl))
    (hv : ∀ i ∈ ixP pt, i ∈ own.map (·.2) := by decide) (hv1 : ∀ i ∈ ixP pt1, i ∈ vs1 := by decide) (hvo : ∀ i ∈ vs1, i ∈ own.map (·.2) := by decide)
    (hs : ∀ x, foldedSetIterable iter X.env x = pure x := by intro _; rfl) (hs1 : ∀ env x, foldedSetIterable iter1 env x = pure x := by intro _ _; rfl) :
    ME X W (.ListComp elt [⟨tg, iter, ifs, 0⟩, ⟨tg1, iter1, ifs1, 0⟩] scope pos) (dLc2 fz mi pt mt mi1 pt1 mt1 me (own.map (·.2)) vs1) :=
  me_lc2 fz hc hN hi ok hg ht hi1 hg1 ht1 he hv hv1 hvo hs hs1
end DL

set_option Elab.async false
set_option linter.all false
set_option maxRecDepth 100000
set_option maxHeartbeats 4000000
namespace DL
open PySem PySem.Spec L2
open Evl (Ex)

/-! ### new things of the store, changed things, of any kind -/
section
variable {K : PySem.W.Frag} {F F' : Hp} {al : List Addr} {H H' : Hp} {M : MH} {p a : Addr} {mo mo' : MO} {o : HO} {k : Nat}
theorem HR.newG (h : HR K F al H M) (hp : H p = none) (q : MAt K F (al ++ [p]) (upd H p o) p mo) : Stp K F al H M F (al ++ [p]) (upd H p o) (M ++ [mo]) := by
  have fp : F p = none := Evl.fresh_back h.ext hp
  have ne : ∀ (k : Nat) (a : Addr), al[k]? = some a → a ≠ p := fun k a e z => h.trk k a e (by rw [z]; exact hp)
  have lm : ∀ k, k < M.length → (M ++ [mo])[k]? = M[k]? := fun k hk => List.getElem?_append_left hk
  refine ⟨fun _ _ e => e, Pre.app _ _, ⟨?_, by simp [h.len], ?_, ?_, ?_⟩, fun b u e _ => by rw [upd_ne (ne_of_none e hp)]; exact e, fun k hk l => by rw [lm k hk] at l; exact l, fun k a e l => ?_, by simp, fun _ e => .inl e⟩
  · intro a u e
    have ha : a ≠ p := fun z => by rw [z, fp] at e; cases e
    rw [upd_ne ha]; exact h.ext a u e
  · intro k a e
    rcases app_get e with ⟨e, _⟩ | ⟨_, e⟩
    · rw [upd_ne (ne k a e)]; exact h.trk k a e
    · subst e; rw [upd_same]; simp
  · intro k j a e1 e2 l
    rcases app_get e1 with ⟨e1, k1⟩ | ⟨k1, e1⟩
    · rcases app_get e2 with ⟨e2, k2⟩ | ⟨k2, e2⟩
      · rw [lm k (by have := h.len; omega)] at l
        exact h.inj k j a e1 e2 l
      · subst e2; exact absurd rfl (ne k _ e1)
    · rcases app_get e2 with ⟨e2, k2⟩ | ⟨k2, e2⟩
      · subst e1; exact absurd rfl (ne j _ e2)
      · omega
  · intro k a u e1 e2
    rcases app_get e1 with ⟨e1, k1⟩ | ⟨k1, e1⟩
    · rw [lm k (by have := h.len; omega)] at e2
      refine (h.mem k a u e1 e2).mono (fun _ _ e => e) (Pre.app _ _) (fun w _ q => ?_) (fun q => q)
      rw [upd_ne (ne k a e1)]; exact q
    · subst e1
      rcases app_get e2 with ⟨e2, k2⟩ | ⟨k2, e2⟩
      · have := h.len; omega
      · subst e2
        exact q
  · rcases app_get e with ⟨e, k1⟩ | ⟨k1, e⟩
    · have := h.len; omega
    · subst e; exact hp
theorem stp_setG (h : HR K F al H M) (ea : al[k]? = some a) (ek : M[k]? = some mo) (lk : live (some mo)) (ex : Ex F F') (le : Ex F' H') (fr : ∀ b o, b ≠ a → H b = some o → H' b = some o)
    (fz : ∀ b, F b = none → F' b = none ∨ H b = none) (e : H' a = some o) (q : MAt K F' al H' a mo') : Stp K F al H M F' al H' (M.set k mo') := by
  have hl := h.len
  have hk : k < M.length := (List.getElem?_eq_some_iff.mp ek).1
  have lk : live M[k]? := by rw [ek]; exact lk
  have get : ∀ j, (M.set k mo')[j]? = if k = j then some mo' else M[j]? := fun j => by
    rw [List.getElem?_set]
    split
    · first
        | rfl
        | rw [if_pos hk]
    · rfl
  have lv : ∀ j, live (M.set k mo')[j]? → live M[j]? := fun j l => by
    rw [get] at l
    split at l
    · rename_i z; subst z; exact lk
    · exact l
  refine ⟨ex, Pre.refl _, ⟨le, by simp [hl], fun j b z => ?_, fun j i b z1 z2 l => h.inj j i b z1 z2 (lv j l), fun j b o z1 z2 => ?_⟩, fun b o z n => fr b o (fun q => n k (by rw [q]; exact ea) lk) z, fun j _ l => lv j l, (Stp.refl h).new, by simp, fun b z => ?_⟩
  · by_cases q : b = a
    · rw [q, e]; simp
    · have t := h.trk j b z
      cases w : H b with
      | none => exact absurd w t
      | some o => rw [fr b o q w]; simp
  · rw [get] at z2
    split at z2
    · rename_i w
      subst w
      cases z2
      rw [ea] at z1; cases z1
      exact q
    · rename_i q
      have nb : b ≠ a := fun w => q (h.inj k j a ea (by rw [← w]; exact z1) lk)
      refine (h.mem j b o z1 z2).mono ex (Pre.refl _) (fun u _ w => fr b u nb w) fun w => ?_
      rcases fz b w with y | y
      · exact y
      · exact absurd y (h.trk j b z1)
  · rcases fz b z with y | y
    · exact .inl y
    · exact .inr (.inl y)
/-- in place, what is known stays -/
theorem stp_inpl (h : HR K F al H M) (ea : al[k]? = some a) (ek : M[k]? = some mo) (lk : live (some mo)) (fa : F a = none) (q : MAt K F al (upd H a o) a mo') : Stp K F al H M F al (upd H a o) (M.set k mo') := by
  refine stp_setG h ea ek lk (fun _ _ z => z) (fun b u z => ?_) (fun b u hb z => by rw [upd_ne hb]; exact z) (fun b z => .inl z) upd_same q
  have hb : b ≠ a := fun w => by rw [w, fa] at z; cases z
  rw [upd_ne hb]
  exact h.ext b u z
end

/-! ### tuple(..) that is ours -/
def dTupleK : List D → MH → DK → Prop
  | [.kt ds], M, R => R (.kt ds) M
  | [d], M, R => match rdL M d with
    | some ds => R (.kt ds) M
    | none => False
  | _, _, _ => False
section
variable {X : Cx} {W : WX}
theorem bl_tupleK : BltD X "tuple" dTupleK := by
  refine ⟨_, ?_, .inr ⟨_, by decide +kernel, call_tuple_of⟩⟩
  intro F al H M xs ds R Q h rx hm k
  unfold dTupleK at hm
  split at hm
  · obtain ⟨y, ys, rfl, ry, rfl⟩ := rx
    obtain ⟨a, us, rfl, hx, ra⟩ := ry
    exact ⟨a, us, rfl, .inr ⟨Evl.st_of (h.ext _ _ hx), Out.pure (d := .kt _) k h ⟨a, us, rfl, hx, ra⟩ hm⟩⟩
  · obtain ⟨y, ys, rfl, ry, rfl⟩ := rx
    split at hm
    · rename_i es e1
      obtain ⟨a, us, rfl, hx, ra⟩ := h.rdL_ ry e1
      exact ⟨a, us, rfl, .inl ⟨hx, fun l hl => Out.newK k h hl ra hm⟩⟩
    · exact hm.elim
  · exact hm.elim
end

/-! ### dicts whose keys are tuples of ints and texts -/
def keyA : List D → Option (List L2.Key)
  | [] => some []
  | .int i :: ds => match keyA ds with
    | some ks => some (.inl i :: ks)
    | none => none
  | .str s :: ds => match keyA ds with
    | some ks => some (.inr s :: ks)
    | none => none
  | _ :: _ => none
def keyD : D → Option (List L2.Key)
  | .kt ds => keyA ds
  | _ => none
theorem keyA_rel {K : PySem.W.Frag} {F : Hp} {al : List Addr} : ∀ {ds : List D} {xs : List V} {ks : List L2.Key}, RelA K F al ds xs → keyA ds = some ks → xs = ks.map kV
  | [], _, _, h, e => by cases h; cases e; rfl
  | d :: ds, _, ks, ⟨y, ys, h1, h2, h3⟩, e => by
    subst h1
    cases d with
    | int i =>
      unfold keyA at e
      split at e
      · rename_i is e2
        cases e; cases h2
        rw [keyA_rel h3 e2]; rfl
      · cases e
    | str s =>
      unfold keyA at e
      split at e
      · rename_i is e2
        cases e; cases h2
        rw [keyA_rel h3 e2]; rfl
      · cases e
    | _ => simp [keyA] at e
theorem keyD_rel {K : PySem.W.Frag} {F : Hp} {al : List Addr} {d : D} {v : V} {k : List L2.Key} (r : Rel K F al d v) (e : keyD d = some k) : ∃ b, v = .ref b ∧ F b = some (.tup (k.map kV)) := by
  cases d with
  | kt ds =>
    obtain ⟨a, xs, rfl, h2, h3⟩ := r
    rw [keyA_rel h3 e] at h2
    exact ⟨a, rfl, h2⟩
  | _ => cases e
/-- what a dict holds -/
def lkD : List (List L2.Key) → List D → List L2.Key → Option D
  | k0 :: ks, d :: ds, k => if k0 = k then some d else lkD ks ds k
  | _, _, _ => none
def memK (ks : List (List L2.Key)) (k : List L2.Key) : Bool := ks.any fun k0 => decide (k0 = k)
def putKs (ks : List (List L2.Key)) (k : List L2.Key) : List (List L2.Key) := if memK ks k = true then ks else ks ++ [k]
def putDs (ks : List (List L2.Key)) (ds : List D) (k : List L2.Key) (d : D) : List D := if memK ks k = true then List.zipWith (fun k0 d0 => if k0 = k then d else d0) ks ds else ds ++ [d]
section
variable {K : PySem.W.Frag} {F : Hp} {al : List Addr}
theorem lkD_rel : ∀ {ks : List (List L2.Key)} {ds : List D} {xs : List V} {k : List L2.Key}, RelA K F al ds xs → ks.length = ds.length →
    (∀ d, lkD ks ds k = some d → ∃ v, valV (ks.zip xs) k = some v ∧ Rel K F al d v) ∧ (lkD ks ds k = none → valV (ks.zip xs) k = none)
  | [], ds, xs, k, _, _ => ⟨fun d e => (by simp [lkD] at e), fun _ => rfl⟩
  | k0 :: ks, [], _, _, _, e => by cases e
  | k0 :: ks, d :: ds, _, k, ⟨y, ys, h1, h2, h3⟩, e => by
    subst h1
    obtain ⟨i1, i2⟩ := lkD_rel (k := k) h3 (Nat.succ.inj e)
    by_cases hk : k0 = k
    · refine ⟨fun d' e' => ?_, fun e' => ?_⟩
      · simp only [lkD, if_pos hk, Option.some.injEq] at e'
        subst e'
        exact ⟨y, valV_pos (p := (k0, y)) hk, h2⟩
      · simp only [lkD, if_pos hk] at e'
        cases e'
    · refine ⟨fun d' e' => ?_, fun e' => ?_⟩
      · simp only [lkD, if_neg hk] at e'
        obtain ⟨v, e1, r⟩ := i1 d' e'
        exact ⟨v, by rw [List.zip_cons_cons, valV_neg (p := (k0, y)) hk]; exact e1, r⟩
      · simp only [lkD, if_neg hk] at e'
        rw [List.zip_cons_cons, valV_neg (p := (k0, y)) hk]
        exact i2 e'
theorem any_zip : ∀ {ks : List (List L2.Key)} {xs : List V} {k : List L2.Key}, ks.length = xs.length → ((ks.zip xs).any fun kv => decide (kv.1 = k)) = memK ks k
  | [], _, _, _ => rfl
  | k0 :: ks, [], _, e => by cases e
  | k0 :: ks, x :: xs, k, e => by
    rw [List.zip_cons_cons, List.any_cons, any_zip (Nat.succ.inj e)]
    rfl
theorem map_zip : ∀ {ks : List (List L2.Key)} {ds : List D} {xs : List V} {k : List L2.Key} {d : D} {v : V}, RelA K F al ds xs → ks.length = ds.length → Rel K F al d v →
    ∃ xs', (ks.zip xs).map (fun kv => if kv.1 = k then (kv.1, v) else kv) = ks.zip xs' ∧ RelA K F al (List.zipWith (fun k0 d0 => if k0 = k then d else d0) ks ds) xs'
  | [], _, _, _, _, _, _, _, _ => ⟨[], rfl, rfl⟩
  | k0 :: ks, [], _, _, _, _, _, e, _ => by cases e
  | k0 :: ks, d0 :: ds, _, k, d, v, ⟨y, ys, h1, h2, h3⟩, e, r => by
    subst h1
    obtain ⟨xs', e1, r1⟩ := map_zip (k := k) h3 (Nat.succ.inj e) r
    by_cases hk : k0 = k
    · exact ⟨v :: xs', by rw [List.zip_cons_cons, List.map_cons, e1]; simp [hk], v, xs', rfl, by simp [hk]; exact r, r1⟩
    · exact ⟨y :: xs', by rw [List.zip_cons_cons, List.map_cons, e1]; simp [hk], y, xs', rfl, by simp [hk]; exact h2, r1⟩
theorem put_rel {ks : List (List L2.Key)} {ds : List D} {xs : List V} {k : List L2.Key} {d : D} {v : V} (h : RelA K F al ds xs) (e : ks.length = ds.length) (r : Rel K F al d v) :
    ∃ xs', L2.putK (ks.zip xs) k v = (putKs ks k).zip xs' ∧ RelA K F al (putDs ks ds k d) xs' ∧ (putKs ks k).length = (putDs ks ds k d).length := by
  have hx := h.length
  unfold L2.putK putKs putDs
  rw [any_zip (by omega)]
  by_cases hk : memK ks k = true
  · simp only [hk, if_true]
    obtain ⟨xs', e1, r1⟩ := map_zip (k := k) h e r
    exact ⟨xs', e1, r1, by rw [List.length_zipWith]; omega⟩
  · simp only [hk, if_false, Bool.false_eq_true]
    refine ⟨xs ++ [v], ?_, h.app (RelA.one r), by simp [e]⟩
    rw [List.zip_append (by omega)]; rfl
end
/-- a dict: its keys, its values -/
def rdD (M : MH) : D → Option (List (List L2.Key) × List D)
  | .dct ks ds => if ks.length = ds.length then some (ks, ds) else none
  | .loc k => match M[k]? with
    | some (.dt ks ds) => some (ks, ds)
    | _ => none
  | _ => none
theorem HR.rdD_ {K : PySem.W.Frag} {F : Hp} {al : List Addr} {H : Hp} {M : MH} {d : D} {v : V} {ks : List (List L2.Key)} {ds : List D} (h : HR K F al H M) (r : Rel K F al d v) (e : rdD M d = some (ks, ds)) :
    ∃ a xs, v = .ref a ∧ H a = some (.dT (ks.zip xs)) ∧ RelA K F al ds xs ∧ ks.length = ds.length := by
  cases d with
  | dct ks' ds' =>
    unfold rdD at e
    dsimp only at e
    split at e
    · rename_i hl
      cases e
      obtain ⟨a, xs, r1, r2, r3⟩ := r
      exact ⟨a, xs, r1, h.ext _ _ r2, r3, hl⟩
    · cases e
  | loc j =>
    obtain ⟨a, r1, r2⟩ := r
    unfold rdD at e
    dsimp only at e
    split at e
    · rename_i ks' ds' em
      cases e
      obtain ⟨_, xs, q1, q2, q3⟩ := h.mem j a _ r1 em
      exact ⟨a, xs, r2, q1, q2, q3⟩
    · cases e
  | _ => cases e
section
variable {X : Cx} {W : WX} {o i e value : Expr} {mo mi me mx : DE} {pos pos' apos cpos : Pos}
/-- {} -/
def nwT : Bool → MH → DK → Prop
  | true, M, R => R (.dct [] []) M
  | false, M, R => R (.loc M.length) (M ++ [.dt [] []])
def dNewT (fz : Bool) : DE := fun _ M R => nwT fz M R
theorem me_dnew (fz : Bool) : ME X W (.Dict [] [] pos) (dNewT fz) := by
  refine PE.imp pe_dnewT ?_
  rintro s H Q ⟨F, al, r, M, R, er, hr, hm, k⟩ p hp
  cases fz with
  | true =>
    have fp : F p = none := Evl.fresh_back hr.ext hp
    exact k _ _ _ _ (.dct [] []) _ (hr.newF (o := .dT []) hp) ⟨p, [], rfl, upd_same, rfl⟩ hm
  | false =>
    have st := hr.newG (mo := .dt [] []) (o := .dT []) hp ⟨Evl.fresh_back hr.ext hp, [], upd_same, rfl, rfl⟩
    refine k _ _ _ _ (.loc M.length) _ st ⟨p, ?_, rfl⟩ hm
    have z : M.length = al.length := hr.len.symm
    rw [z, List.getElem?_append_right (Nat.le_refl _)]
    simp
/-- k in d -/
def dInD (ng : Bool) : D → D → MH → DK → Prop := fun d e M R => match rdD M e, keyD d with
  | some (ks, _), some k => R (.bl (ng ^^ memK ks k)) M
  | _, _ => False
theorem lk_mem {ks : List (List L2.Key)} {ds : List D} {k : List L2.Key} (h : ks.length = ds.length) : (lkD ks ds k).isSome = memK ks k := by
  induction ks generalizing ds with
  | nil => rfl
  | cons k0 ks ih =>
    cases ds with
    | nil => cases h
    | cons d ds =>
      have ih := ih (ds := ds) (Nat.succ.inj h)
      by_cases hk : k0 = k
      · simp [lkD, memK, hk]
      · rw [show lkD (k0 :: ks) (d :: ds) k = lkD ks ds k from by simp [lkD, hk], ih]
        simp [memK, hk]
theorem dget_rel {K : PySem.W.Frag} {F : Hp} {al : List Addr} {H : Hp} {M : MH} {d e : D} {v y : V} {ks : List (List L2.Key)} {ds : List D} {k : List L2.Key} (h : HR K F al H M) (r : Rel K F al d v) (e1 : rdD M d = some (ks, ds)) (ry : Rel K F al e y) (e2 : keyD e = some k) :
    ∃ a o, v = .ref a ∧ DGet H a y o ∧ IsD H a ∧ o.isSome = memK ks k ∧ ∀ w, lkD ks ds k = some w → ∃ u, o = some u ∧ Rel K F al w u := by
  obtain ⟨a, xs, rfl, ha, ra, hl⟩ := h.rdD_ r e1
  obtain ⟨b, rfl, hb⟩ := keyD_rel ry e2
  obtain ⟨i1, i2⟩ := lkD_rel (k := k) ra hl
  refine ⟨a, _, rfl, DGet.t ha (h.ext _ _ hb), .inr ⟨_, .inl ha⟩, ?_, fun w hw => i1 w hw⟩
  rw [← lk_mem hl]
  cases q : lkD ks ds k with
  | none => rw [i2 q]; rfl
  | some w =>
    obtain ⟨u, e, _⟩ := i1 w q
    rw [e]; rfl
theorem me_din (hu : X.A.units + 1 < cLine) (hi : ME X W i mi) (ho : ME X W o mo) (hm : behindInMarks .In o = false := by with_unfolding_all rfl) : ME X W (.Compare i [.In] [o] pos) (dOp (dInD false) mi mo) := by
  refine PE.imp (pe_cmp (pc_din hu hi ho) hm) ?_
  rintro s H Q ⟨F, al, r, M, R, er, hr, hm, k⟩
  refine ⟨F, al, r, M, _, er, hr, hm, fun y H1 F1 al1 d M1 s1 ry hm1 => ?_⟩
  refine ⟨F1, al1, r, M1, _, er.step hr s1, s1.hr, hm1, fun x H2 F2 al2 e M2 s2 rx hm2 => ?_⟩
  have k2 := Out.step hr k (s1.trans hr s2)
  unfold dInD at hm2
  split at hm2
  · rename_i ks ds kk e1 e2
    obtain ⟨a, oo, rfl, g, _, q, _⟩ := dget_rel s2.hr rx e1 (ry.mono s2.ex s2.pre) e2
    refine ⟨a, oo, rfl, g, ?_⟩
    rw [Bool.false_xor] at hm2
    exact Out.pure (d := .bl _) k2 s2.hr (by rw [q]; rfl) hm2
  · exact hm2.elim
theorem me_dnotin (hu : X.A.units + 1 < cLine) (hi : ME X W i mi) (ho : ME X W o mo) (hm : behindInMarks .NotIn o = false := by with_unfolding_all rfl) : ME X W (.Compare i [.NotIn] [o] pos) (dOp (dInD true) mi mo) := by
  refine PE.imp (pe_cmp (pc_dnotin hu hi ho) hm) ?_
  rintro s H Q ⟨F, al, r, M, R, er, hr, hm, k⟩
  refine ⟨F, al, r, M, _, er, hr, hm, fun y H1 F1 al1 d M1 s1 ry hm1 => ?_⟩
  refine ⟨F1, al1, r, M1, _, er.step hr s1, s1.hr, hm1, fun x H2 F2 al2 e M2 s2 rx hm2 => ?_⟩
  have k2 := Out.step hr k (s1.trans hr s2)
  unfold dInD at hm2
  split at hm2
  · rename_i ks ds kk e1 e2
    obtain ⟨a, oo, rfl, g, _, q, _⟩ := dget_rel s2.hr rx e1 (ry.mono s2.ex s2.pre) e2
    refine ⟨a, oo, rfl, g, ?_⟩
    rw [Bool.true_xor] at hm2
    exact Out.pure (d := .bl _) k2 s2.hr (by rw [q]; rfl) hm2
  · exact hm2.elim
/-- d[k], there -/
def dGetD : D → D → MH → DK → Prop := fun d e M R => match rdD M d, keyD e with
  | some (ks, ds), some k => (match lkD ks ds k with
    | some w => R w M
    | none => False)
  | _, _ => False
theorem me_dget (hu : X.A.units + 1 < cLine) (ho : ME X W o mo) (hi : ME X W i mi) (hs : NoSl i) : ME X W (.Subscript o i pos) (dOp dGetD mo mi) := by
  refine PE.imp (pe_dget hu ho hi hs) ?_
  rintro s H Q ⟨F, al, r, M, R, er, hr, hm, k⟩
  refine ⟨F, al, r, M, _, er, hr, hm, fun x H1 F1 al1 d M1 s1 rx hm1 => ?_⟩
  refine ⟨F1, al1, r, M1, _, er.step hr s1, s1.hr, hm1, fun y H2 F2 al2 e M2 s2 ry hm2 => ?_⟩
  have k2 := Out.step hr k (s1.trans hr s2)
  unfold dGetD at hm2
  split at hm2
  · rename_i ks ds kk e1 e2
    split at hm2
    · rename_i w ew
      obtain ⟨a, oo, rfl, g, _, q, z⟩ := dget_rel s2.hr (rx.mono s2.ex s2.pre) e1 ry e2
      obtain ⟨u, rfl, ru⟩ := z w ew
      exact ⟨a, u, rfl, g, Out.pure k2 s2.hr ru hm2⟩
    · exact hm2.elim
  · exact hm2.elim
/-- d[k] = v, a dict of ours -/
def mDput (mo mi me : DE) : DS := fun E r M => me r M fun dv M1 => mo r M1 fun d0 M2 => mi r M2 fun di M3 => match d0, keyD di with
  | .loc j, some k => (match M3[j]? with
    | some (.dt ks ds) => ks.length < sizeLine ∧ E.nx r (M3.set j (.dt (putKs ks k) (putDs ks ds k dv)))
    | _ => False)
  | _, _ => False
theorem ms_dput (hu : X.A.units + 1 < cLine) (ho : ME X W o mo) (hi : ME X W i mi) (hv : ME X W value me) (hs : swapsWith value (some (.Subscript o i pos')) pos.line X.env = pure false := by rfl) : MS X W (.Assign [.Subscript o i pos'] value pos) (mDput mo mi me) := by
  refine PS.imp (ps_dput hu ho hi hv hs) ?_
  rintro D s H ⟨F, al, r, M, E, er, hr, hm, a1, a2, a3, a4⟩
  refine ⟨F, al, r, M, _, er, hr, hm, fun v H1 F1 al1 dv M1 s1 rv hm1 => ?_⟩
  have er1 := er.step hr s1
  refine ⟨F1, al1, r, M1, _, er1, s1.hr, hm1, fun x H2 F2 al2 d0 M2 s2 r0 hm2 => ?_⟩
  have er2 := er1.step s1.hr s2
  refine ⟨F2, al2, r, M2, _, er2, s2.hr, hm2, fun y H3 F3 al3 di M3 s3 ri hm3 => ?_⟩
  split at hm3
  · rename_i j kk ek
    split at hm3
    · rename_i ks ds em
      obtain ⟨a, ea, rfl⟩ := r0
      have ea3 := s3.pre j a ea
      obtain ⟨fa, xs, ha, ra, hl⟩ := s3.hr.mem j a _ ea3 em
      obtain ⟨b, rfl, hb⟩ := keyD_rel ri ek
      have rv3 := (rv.mono s2.ex s2.pre).mono s3.ex s3.pre
      obtain ⟨xs', e1, r1, l1⟩ := put_rel (k := kk) ra hl rv3
      refine ⟨a, _, rfl, DPut.t ha (s3.hr.ext _ _ hb) (by rw [List.length_zip]; omega), ?_⟩
      have st : Stp X.K F3 al3 H3 M3 F3 al3 (upd H3 a (.dT (L2.putK (ks.zip xs) kk v))) (M3.set j (.dt (putKs ks kk) (putDs ks ds kk dv))) :=
        stp_inpl s3.hr ea3 em trivial fa ⟨fa, xs', by rw [upd_same, e1], r1, l1⟩
      have st4 := ((s1.trans hr s2).trans hr s3).trans hr st
      exact a1 _ _ _ _ _ _ st4 (er.step hr st4) hm3.2
    · exact hm3.elim
  · exact hm3.elim
/-- d.get(k, x) -/
def dGet2 (mo mi mx : DE) : DE := fun r M R => mo r M fun d M1 => (rdD M1 d).isSome = true ∧ mi r M1 fun e M2 => mx r M2 fun z M3 => match rdD M3 d, keyD e with
  | some (ks, ds), some k => R ((lkD ks ds k).getD z) M3
  | _, _ => False
theorem me_dget2 {f : Expr} (hu : X.A.units + 1 < cLine) (ho : ME X W o mo) (he : ME X W e me) (hf : ME X W f mx) (m : M2 X o "get" apos e f cpos) : ME X W (.Call (.Attribute o "get" apos) [e, f] [] cpos) (dGet2 mo me mx) := by
  refine PE.imp (pe_dget2 hu ho he hf m) ?_
  rintro s H Q ⟨F, al, r, M, R, er, hr, hm, k⟩
  refine ⟨F, al, r, M, _, er, hr, hm, fun x H1 F1 al1 d M1 s1 rx hm1 => ?_⟩
  obtain ⟨hd, hm1⟩ := hm1
  obtain ⟨⟨ks0, ds0⟩, e0⟩ := Option.isSome_iff_exists.mp hd
  obtain ⟨a, xs0, rfl, ha0, _, _⟩ := s1.hr.rdD_ rx e0
  refine ⟨a, rfl, .inr ⟨_, .inl ha0⟩, F1, al1, r, M1, _, er.step hr s1, s1.hr, hm1, fun y H2 F2 al2 e M2 s2 ry hm2 => ?_⟩
  have er2 := er.step hr (s1.trans hr s2)
  refine ⟨F2, al2, r, M2, _, er2, s2.hr, hm2, fun z H3 F3 al3 dz M3 s3 rz hm3 => ?_⟩
  have k3 := Out.step hr k ((s1.trans hr s2).trans hr s3)
  split at hm3
  · rename_i ks ds kk e1 e2
    obtain ⟨a', oo, ea, g, _, q, zz⟩ := dget_rel s3.hr ((rx.mono s2.ex s2.pre).mono s3.ex s3.pre) e1 (ry.mono s3.ex s3.pre) e2
    cases ea
    refine ⟨oo, g, ?_⟩
    cases ql : lkD ks ds kk with
    | none =>
      rw [ql] at hm3
      have hl := (s3.hr.rdD_ ((rx.mono s2.ex s2.pre).mono s3.ex s3.pre) e1)
      obtain ⟨_, _, _, _, _, hl⟩ := hl
      rw [← lk_mem hl, ql] at q
      cases oo with
      | none => exact Out.pure k3 s3.hr rz hm3
      | some u => cases q
    | some w =>
      rw [ql] at hm3
      obtain ⟨u, rfl, ru⟩ := zz w ql
      exact Out.pure k3 s3.hr ru hm3
  · exact hm3.elim
end
end DL

set_option Elab.async false
set_option linter.all false
set_option maxRecDepth 100000
set_option maxHeartbeats 4000000
namespace DL
open PySem PySem.Spec L2
open Evl (Ex)
open PyProof.Rows (envOfC)

/-! ### instances: fields -/
/-- an instance: its class, the names of its attributes, their values -/
def rdN (M : MH) : D → Option (Addr × List Str × List D)
  | .ins C ns ds => if ns.length = ds.length then some (C, ns, ds) else none
  | .loc k => match M[k]? with
    | some (.ins C ns ds) => some (C, ns, ds)
    | _ => none
  | _ => none
theorem HR.rdN_ {K : PySem.W.Frag} {F : Hp} {al : List Addr} {H : Hp} {M : MH} {d : D} {v : V} {C : Addr} {ns : List Str} {ds : List D} (h : HR K F al H M) (r : Rel K F al d v) (e : rdN M d = some (C, ns, ds)) :
    ∃ a dx xs, v = .ref a ∧ H a = some (.ins C dx (ns.zip xs)) ∧ RelA K F al ds xs ∧ ns.length = ds.length := by
  cases d with
  | ins C' ns' ds' =>
    unfold rdN at e
    dsimp only at e
    split at e
    · rename_i hl
      cases e
      obtain ⟨a, dx, xs, r1, r2, r3⟩ := r
      exact ⟨a, dx, xs, r1, h.ext _ _ r2, r3, hl⟩
    · cases e
  | loc j =>
    obtain ⟨a, r1, r2⟩ := r
    unfold rdN at e
    dsimp only at e
    split at e
    · rename_i C' ns' ds' em
      cases e
      obtain ⟨_, dx, xs, q1, q2, q3⟩ := h.mem j a _ r1 em
      exact ⟨a, dx, xs, r2, q1, q2, q3⟩
    · cases e
  | _ => cases e
def lkN : List Str → List D → Str → Option D
  | g :: ns, d :: ds, f => if f == g then some d else lkN ns ds f
  | _, _, _ => none
theorem lkN_rel {K : PySem.W.Frag} {F : Hp} {al : List Addr} : ∀ {ns : List Str} {ds : List D} {xs : List V} {f : Str} {d : D}, RelA K F al ds xs → lkN ns ds f = some d → ∃ v, (ns.zip xs).lookup f = some v ∧ Rel K F al d v
  | [], _, _, _, _, _, e => by simp [lkN] at e
  | g :: ns, [], _, _, _, _, e => by simp [lkN] at e
  | g :: ns, d0 :: ds, _, f, d, ⟨y, ys, h1, h2, h3⟩, e => by
    subst h1
    rw [List.zip_cons_cons, List.lookup_cons]
    cases hb : f == g with
    | true =>
      simp only [lkN, hb, if_true, Option.some.injEq] at e
      subst e
      exact ⟨y, rfl, h2⟩
    | false =>
      simp only [lkN, hb, Bool.false_eq_true, if_false] at e
      exact lkN_rel h3 e
/-- the names and the values behind o.f = v -/
def putNs : List Str → Str → List Str
  | [], f => [f]
  | g :: ns, f => if g = f then g :: ns else g :: putNs ns f
def putVs : List Str → List D → Str → D → List D
  | [], _, _, d => [d]
  | g :: ns, d0 :: ds, f, d => if g = f then d :: ds else d0 :: putVs ns ds f d
  | _ :: _, [], _, d => [d]
theorem putN_rel {K : PySem.W.Frag} {F : Hp} {al : List Addr} : ∀ {ns : List Str} {ds : List D} {xs : List V} {f : Str} {d : D} {v : V}, RelA K F al ds xs → ns.length = ds.length → Rel K F al d v →
    ∃ xs', putF f v (ns.zip xs) = (putNs ns f).zip xs' ∧ RelA K F al (putVs ns ds f d) xs' ∧ (putNs ns f).length = (putVs ns ds f d).length
  | [], [], xs, f, d, v, h, _, r => by
    cases h
    exact ⟨[v], rfl, RelA.one r, rfl⟩
  | [], _ :: _, _, _, _, _, _, e, _ => by cases e
  | g :: ns, [], _, _, _, _, _, e, _ => by cases e
  | g :: ns, d0 :: ds, _, f, d, v, ⟨y, ys, h1, h2, h3⟩, e, r => by
    subst h1
    rw [List.zip_cons_cons]
    by_cases hg : g = f
    · refine ⟨v :: ys, ?_, ?_, ?_⟩
      · simp only [putF, putNs, hg, if_true]; rfl
      · simp only [putVs, hg, if_true]; exact ⟨v, ys, rfl, r, h3⟩
      · simp only [putNs, putVs, hg, if_true]; exact e
    · obtain ⟨xs', e1, r1, l1⟩ := putN_rel (f := f) h3 (Nat.succ.inj e) r
      refine ⟨y :: xs', ?_, ?_, ?_⟩
      · simp only [putF, putNs, hg, if_false, e1]; rfl
      · simp only [putVs, hg, if_false]; exact ⟨y, xs', rfl, h2, r1⟩
      · simp only [putNs, putVs, hg, if_false, List.length_cons, l1]
section
variable {X : Cx} {W : WX} {o e value : Expr} {f : Str} {pos pos' : Pos} {mo me : DE} {C : Addr}
/-- e.f, an attribute of an instance of C -/
def dFld (C : Addr) (f : Str) (mo : DE) : DE := fun r M R => mo r M fun d M1 => match rdN M1 d with
  | some (C', ns, ds) => C' = C ∧ (match lkN ns ds f with
    | some w => R w M1
    | none => False)
  | none => False
theorem me_fld (c : Cls X.K C) (n : NoAttr X.K C f) (he : ME X W e mo) (hb : attributeBase e f X.env (eval e X.env) = eval e X.env := by rfl) : ME X W (.Attribute e f pos) (dFld C f mo) := by
  refine PE.imp (pe_fld he hb) ?_
  rintro s H Q ⟨F, al, r, M, R, er, hr, hm, k⟩
  refine ⟨F, al, r, M, _, er, hr, hm, fun x H1 F1 al1 d M1 s1 rx hm1 => ?_⟩
  split at hm1
  · rename_i C' ns ds e1
    obtain ⟨rfl, hm1⟩ := hm1
    split at hm1
    · rename_i w ew
      obtain ⟨a, dx, xs, rfl, ha, ra, hl⟩ := s1.hr.rdN_ rx e1
      obtain ⟨v, hv, rv⟩ := lkN_rel ra ew
      exact ⟨a, _, dx, _, v, rfl, ha, c, n, hv, Out.pure (Out.step hr k s1) s1.hr rv hm1⟩
    · exact hm1.elim
  · exact hm1.elim
/-- o.f = v, an instance of ours -/
def mFld (C : Addr) (f : Str) (mo me : DE) : DS := fun E r M => me r M fun dv M1 => mo r M1 fun d0 M2 => match d0 with
  | .loc j => (match M2[j]? with
    | some (.ins C' ns ds) => C' = C ∧ ns.length < 1000 ∧ E.nx r (M2.set j (.ins C (putNs ns f) (putVs ns ds f dv)))
    | _ => False)
  | _ => False
theorem ms_fld (c : Cls X.K C) (n : NoAttr X.K C f) (ho : ME X W o mo) (hv : ME X W value me) (hs : swapsWith value (some (.Attribute o f pos')) pos.line X.env = pure false := by rfl) : MS X W (.Assign [.Attribute o f pos'] value pos) (mFld C f mo me) := by
  refine PS.imp (ps_fld ho hv hs) ?_
  rintro D s H ⟨F, al, r, M, E, er, hr, hm, a1, a2, a3, a4⟩
  refine ⟨F, al, r, M, _, er, hr, hm, fun v H1 F1 al1 dv M1 s1 rv hm1 => ?_⟩
  have er1 := er.step hr s1
  refine ⟨F1, al1, r, M1, _, er1, s1.hr, hm1, fun x H2 F2 al2 d0 M2 s2 r0 hm2 => ?_⟩
  split at hm2
  · rename_i j
    split at hm2
    · rename_i C' ns ds em
      obtain ⟨rfl, h1, h2⟩ := hm2
      obtain ⟨a, ea, rfl⟩ := r0
      obtain ⟨fa, dx, xs, ha, ra, hl⟩ := s2.hr.mem j a _ ea em
      obtain ⟨xs', e1, r1, l1⟩ := putN_rel (f := f) ra hl (rv.mono s2.ex s2.pre)
      refine ⟨a, _, dx, _, rfl, ha, c, n, by rw [List.length_zip]; omega, ?_⟩
      have st : Stp X.K F2 al2 H2 M2 F2 al2 (upd H2 a (.ins C' dx (putF f v (ns.zip xs)))) (M2.set j (.ins C' (putNs ns f) (putVs ns ds f dv))) :=
        stp_inpl s2.hr ea em trivial fa ⟨fa, dx, xs', by rw [upd_same, e1], r1, l1⟩
      have st4 := (s1.trans hr s2).trans hr st
      exact a1 _ _ _ _ _ _ st4 (er.step hr st4) h2
    · exact hm2.elim
  · exact hm2.elim
end

/-! ### making an instance -/
theorem RoomG.make {k : Nat} {A : Around} (r : RoomG (k + 1) A) (C : Addr) (us : List Value) (kw : List (Str × Value)) : RoomG k (A.under (.builtin "type.__call__" ⟨.ref C :: us, kw⟩)) :=
  ⟨r.r.make C us kw, by have := r.g; first | exact this | (simpa [Around.under, Code.isGuard, guardIds] using this)⟩
theorem RoomG.in1 {k : Nat} {A : Around} (r : RoomG (k + 1) A) : RoomG k A.in1 := ⟨r.r.in1, by have := r.g; first | exact this | (simpa [Around.under, Code.isGuard, guardIds] using this)⟩
/-- what an __init__ leaves: from the arguments, the names and values of the attributes; or an error -/
abbrev PN := List D → (List Str → List D → Prop) → (Addr → D → Str → Prop) → Prop
def spN (K : PySem.W.Frag) (C : Addr) (n : Nat) (pf : PN) : Sp := fun vs H Q E => ∃ F ds x dx us, ∃ R : List Str → List D → Prop, ∃ RE : Addr → D → Str → Prop, ds.length + 1 = n ∧ Ex F H ∧ vs = .ref x :: us ∧ F x = none ∧ H x = some (.ins C dx []) ∧ RelA K F [] ds us ∧ pf ds R RE ∧
  (∀ ns ds' xs' dx' F' H', Ex F F' → Ex F' H' → (∀ b o, b ≠ x → H b = some o → H' b = some o) → (∀ b, b ≠ x → F b = none → F' b = none ∨ H b = none) → F' x = none → H' x = some (.ins C dx' (ns.zip xs')) → RelA K F' [] ds' xs' → ns.length = ds'.length → R ns ds' → Q .non H') ∧
  (∀ Ce dxe p w F' H', Ex F F' → Ex F' H' → (∀ b o, b ≠ x → H b = some o → H' b = some o) → (∀ b, b ≠ x → F b = none → F' b = none ∨ H b = none) → XD K F' [] H' dxe p w → RE Ce p w → E (.ref Ce) dxe H')
section
variable {X : Cx} {W : WX} {k n : Nat} {f C : Addr} {fd : FuncData} {ps : List Str} {sp : Sp} {dvs : List V} {ds : List Value} {E : L2.St → XK} {x : Str} {p pos : Pos} {e : Expr} {es : List Expr} {t : TA}
theorem run_makeG {pins : List (Addr × Obj)} {σ : L2.St} {H : Hp} {s : Shared} {Q : VK} {us : List Value} {vs : List V} (M : Mk X.K C f) (F : FnG X.prog X.w X.K X.mg X.base k f fd ps sp) (hr : RoomG (k + 1) X.A) (hb : Binds X.K fd ps ds) (hd : Vals dvs ds)
    (hx : PassesAt (L2.CX X.prog X.w) X σ (E σ)) (I : L2.Inv X pins σ H s) (r : Vals vs us)
    (h : ∀ x dx, H x = none → H dx = none → dx ≠ x → sp (.ref x :: (vs ++ dvs)) (upd (upd H dx (.own x)) x (.ins C dx [])) (fun v H2 => v = .non ∧ Q (.ref x) H2) (E σ)) :
    wpAny (model X.prog X.w) X.A (call (.ref C) us) (EP X pins σ Q) X.xe s := by
  have hq := h (s.heap.objs.size + 1) s.heap.objs.size (I.hok.fresh (Nat.le_succ _)) (I.hok.fresh (Nat.le_refl _)) (Nat.ne_of_lt (Nat.lt_succ_self _))
  have I2 := Inv.made (C := C) I
  have r2 : Vals (V.ref (s.heap.objs.size + 1) :: (vs ++ dvs)) (Value.ref (s.heap.objs.size + 1) :: (us ++ ds)) := .cons rfl (r.append hd)
  have hl : (Value.ref (s.heap.objs.size + 1) :: us ++ ds).length = ps.length := by
    have e := r2.length
    rw [F.ar _ _ _ _ hq] at e
    exact e.symm
  refine wpAny_call (make_map (f := f) I.kIn M.makes M.init (beq_iff_eq.mp M.fn) (codeAny_mono (F.go _ X.stack _ _ ⟨Value.ref (s.heap.objs.size + 1) :: us, []⟩ (Value.ref (s.heap.objs.size + 1) :: (us ++ ds)) _ _ (E σ) (hr.make C us [])
    (I2.env0.make C us []) (hb _ (Value.ref (s.heap.objs.size + 1) :: us) I2.kIn hl) r2 hq) fun r s' hq' => ?_))
  cases r with
  | error e => exact hx pins _ _ e s' I2 hq'
  | ok fl =>
    cases fl with
    | ret u =>
      obtain ⟨v, H', I3, rv, ev, q3⟩ := I2.after hq'
      subst ev
      exact ⟨rv, ⟨V.ref (s.heap.objs.size + 1), H', I3, rfl, q3⟩⟩
    | next => exact False.elim hq'
    | brk => exact False.elim hq'
    | cont => exact False.elim hq'
def tMakeG (C : Addr) (sp : Sp) (dvs : List V) (E : L2.St → XK) (t : TA) : TE := fun σ H Q => t σ H fun vs H1 => ∀ x dx, H1 x = none → H1 dx = none → dx ≠ x → sp (.ref x :: (vs ++ dvs)) (upd (upd H1 dx (.own x)) x (.ins C dx [])) (fun v H2 => v = .non ∧ Q (.ref x) H2) (E σ)
theorem pe_makeG (M : Mk X.K C f) (F : FnG X.prog X.w X.K X.mg X.base k f fd ps sp) (hr : RoomG (k + 1) X.A) (hg : Gl X x) (hm : X.mg x = some (.ref C)) (hb : Binds X.K fd ps ds) (hd : Vals dvs ds) (hx : ∀ σ, PassesAt (L2.CX X.prog X.w) X σ (E σ))
    (ha : PA X (e :: es) t) (hdb : (x == ("__debug__" : Str)) = false := by decide) (he : starEach (e :: es) X.env = (false, eval e X.env) :: starEach es X.env := by rfl) (hpl : (backTo pos (starEach es X.env)).any (·.1) = false := by rfl) :
    PE X (.Call (.Name x p) (e :: es) [] pos) (tMakeG C sp dvs E t) := by
  refine ⟨fun pins s σ H Q I h => ?_⟩
  refine wpAny_Call_Name_kw (ld_glob I hg hm ?_ hdb)
  refine PySem.W.callWith_K (h₀ := X.base) I.ok.mod.kin M.kp (thn (ha.run pos pins s σ H _ I h) fun us s1 ⟨vs, H1, I1, r, q⟩ => ⟨I1.kIn, ?_⟩) he hpl
  exact run_makeG M F hr hb hd (hx σ) I1 r q
/-- C(..): what comes back is data for ever -/
def dMake (C : Addr) (n : Nat) (pf : PN) (mas : DA) : DE := fun r M R => mas r M fun ds M1 => match prepA M1 ds with
  | some (args, bor) => args.length + 1 = n ∧ pf args (fun ns xs => (bor = true → scalA xs = true) ∧ R (.ins C ns xs) M1) (fun Ce p w => (bor = true → D.scal p = true) ∧ r.ex r.sl Ce p w M1)
  | none => False
end
section
variable {K : PySem.W.Frag} {W : WX} {F F' H H' : Hp} {al : List Addr} {M : MH} {R : DK} {Q : VK}
/-- the frame of a maker's call, from the caller's side -/
theorem make_step {x dx : Addr} {C : Addr} (hx : H x = none) (hdx : H dx = none) (nd : dx ≠ x) (ex : Ex F F') (le : Ex F' H') (fr : ∀ b o, b ≠ x → (upd (upd H dx (.own x)) x (.ins C dx [])) b = some o → H' b = some o)
    (fz : ∀ b, b ≠ x → F b = none → F' b = none ∨ (upd (upd H dx (.own x)) x (.ins C dx [])) b = none) : StpP F H F' H' := by
  refine ⟨ex, le, fun b o e => fr b o (ne_of_none e hx) ?_, fun b e => ?_⟩
  · rw [upd_ne (ne_of_none e hx), upd_ne (ne_of_none e hdx)]; exact e
  · by_cases h1 : b = x
    · subst h1; exact .inr hx
    · rcases fz b h1 e with z | z
      · exact .inl z
      · rw [upd_ne h1] at z
        by_cases h2 : b = dx
        · subst h2; exact .inr hdx
        · rw [upd_ne h2] at z; exact .inr z
theorem frz_new (h : HR K F al H M) {p : Addr} {o : HO} (st : Stp K F al H M F' al H' M) (hp : H p = none) (fp : F' p = none) (e : H' p = some o) : Stp K F al H M (upd F' p o) al H' M := by
  have ne : ∀ (k : Nat) (b : Addr), al[k]? = some b → b ≠ p := fun k b e z => h.trk k b e (by rw [z]; exact hp)
  refine ⟨fun b o z => ?_, Pre.refl _, ⟨fun b o z => ?_, st.hr.len, st.hr.trk, st.hr.inj, fun j b o z1 z2 => ?_⟩, st.fr, st.old, st.new, st.le, fun b z => ?_⟩
  · have hb : b ≠ p := fun q => by have := st.ex b o z; rw [q, fp] at this; cases this
    rw [upd_ne hb]; exact st.ex b o z
  · by_cases hb : b = p
    · subst hb; rw [upd_same] at z; cases z; exact e
    · rw [upd_ne hb] at z; exact st.hr.ext b o z
  · exact (st.hr.mem j b o z1 z2).mono (Evl.Ex.new fp) (Pre.refl _) (fun _ _ q => q) fun q => by rw [upd_ne (ne j b z1)]; exact q
  · by_cases hb : b = p
    · subst hb; exact .inr (.inl hp)
    · rw [upd_ne hb]; exact st.fzn b z
end
section
variable {X : Cx} {W : WX} {k n : Nat} {f C : Addr} {fd : FuncData} {ps : List Str} {pf : PN} {x : Str} {p pos : Pos} {e : Expr} {es : List Expr} {mas : DA}
theorem me_make (Mk_ : Mk X.K C f) (F : FnG X.prog X.w X.K X.mg X.base k f fd ps (spN X.K C n pf)) (hr : RoomG (k + 1) X.A) (hm : X.mg x = some (.ref C)) (hb : Binds X.K fd ps []) (tk : Takes X W)
    (ha : MA X W (e :: es) mas) (hg : Gl X x := by rfl) (hdb : (x == ("__debug__" : Str)) = false := by decide +kernel) (he : starEach (e :: es) X.env = (false, eval e X.env) :: starEach es X.env := by rfl)
    (hpl : (backTo pos (starEach es X.env)).any (·.1) = false := by rfl) : ME X W (.Call (.Name x p) (e :: es) [] pos) (dMake C n pf mas) := by
  refine PE.imp (pe_makeG Mk_ F hr hg hm hb .nil (fun σ => passAt tk σ) ha hdb he hpl) ?_
  rintro s H Q ⟨F0, al, r, M, R, er, hr0, hm0, kk⟩
  refine ⟨F0, al, r, M, _, er, hr0, hm0, fun vs H1 F1 al1 ds M1 s1 r1 hm1 y dx hy hdx nd => ?_⟩
  have h1 := s1.hr
  have er1 := er.step hr0 s1
  have k1 := Out.step hr0 kk s1
  have fy : F1 y = none := Evl.fresh_back h1.ext hy
  have exU : ∀ {G : Hp}, Ex G H1 → Ex G (upd (upd H1 dx (.own y)) y (.ins C dx [])) := fun {G} g b o e => by
    have e2 := g b o e
    rw [upd_ne (ne_of_none e2 hy), upd_ne (ne_of_none e2 hdx)]; exact e2
  split at hm1
  · rename_i args bor e1
    obtain ⟨hn, hp⟩ := hm1
    obtain ⟨q1, q2⟩ := prepA_rel h1 r1 e1
    cases bor with
    | false =>
      refine ⟨F1, args, y, dx, vs, _, _, hn, exU h1.ext, by rw [List.append_nil], fy, upd_same, q2 rfl, hp, fun ns ds' xs' dx' F' H' ex le fr fz fy' ey ra hl q => ⟨rfl, ?_⟩, fun Ce dxe pp w F' H' ex le fr fz xd q => ?_⟩
      · have st := (make_step hy hdx nd ex le fr fz).stp h1
        have st2 := frz_new h1 st hy fy' ey
        exact k1 _ _ _ _ (.ins C ns ds') _ st2 ⟨y, dx', xs', rfl, upd_same, ra.mono (Evl.Ex.new fy') (preNil _)⟩ q.2
      · have st := (make_step hy hdx nd ex le fr fz)
        exact er1.xe Ce dxe pp w s r.sl H' F' al1 M1 (st.stp h1) (er1.es.mono ex (Pre.refl _)) (xd.mono (fun _ _ e => e) (preNil _)) q.2
    | true =>
      have ly : lent F1 H1 al1 M1 y = none := Evl.fresh_back (lent_le h1) hy
      refine ⟨lent F1 H1 al1 M1, args, y, dx, vs, _, _, hn, exU (lent_le h1), by rw [List.append_nil], ly, upd_same, q1, hp, fun ns ds' xs' dx' F' H' ex le fr fz fy' ey ra hl q => ⟨rfl, ?_⟩, fun Ce dxe pp w F' H' ex le fr fz xd q => ?_⟩
      · obtain ⟨F2, a2, hF2, nl⟩ := unlend h1 (make_step hy hdx nd ex le fr fz)
        have fy2 : F2 y = none := by rw [hF2 y hy]; exact fy'
        have st2 := frz_new h1 (a2.stp h1) hy fy2 ey
        exact k1 _ _ _ _ (.ins C ns ds') _ st2 ⟨y, dx', xs', rfl, upd_same, (RelA.scal nl (q.1 rfl) ra : RelA X.K F2 al1 ds' xs').mono (Evl.Ex.new fy2) (Pre.refl _)⟩ q.2
      · obtain ⟨F2, a2, hF2, nl⟩ := unlend h1 (make_step hy hdx nd ex le fr fz)
        obtain ⟨d, fs, v, z1, z2, z3, z4, z5⟩ := xd
        exact er1.xe Ce dxe pp w s r.sl H' F2 al1 M1 (a2.stp h1) (er1.es.mono a2.ex (Pre.refl _)) ⟨d, fs, v, z1, z2, z3, Rel.scal nl (q.1 rfl) z4, z5⟩ q.2
  · exact hm1.elim
end

/-! ### an __init__ by its body -/
def endN (C : Addr) (R : List Str → List D → Prop) : DK := fun d M => d = .non ∧ match M[(0 : Nat)]? with
  | some (.ins C' ns ds) => C' = C ∧ plainA ds = true ∧ R ns ds
  | _ => False
def specN (C : Addr) (n N : Nat) (m : DS) (pf : PN) : Prop := ∀ ds R RE, ds.length + 1 = n → pf ds R RE → m { nx := fun _ M => endN C R .non M, rt := endN C R, bk := fun _ _ => False, ct := fun _ _ => False }
  { sl := slP n N (.loc 0 :: ds), ex := fun _ Ce p w _ => D.plain p = true ∧ RE Ce p w } [.ins C [] []]
section
variable {P : Program} {w : World} {K : PySem.W.Frag} {mg : Str → Option Value} {base : Heap} {k : Nat} {f C : Addr} {fd : FuncData} {x q : Str} {pa : Arguments} {bd : List Stmt} {sc : Scope} {dvs : List V} {kws : List (Str × V)} {N ps : List Str} {pf : PN} {m : DS}
theorem stp1 {F0 F' H0 H' : Hp} {al' : List Addr} {M' : MH} {a : Addr} {mo : MO} (st : Stp K F0 [a] H0 [mo] F' al' H' M') : (∀ b o, b ≠ a → H0 b = some o → H' b = some o) ∧ (∀ b, b ≠ a → F0 b = none → F' b = none ∨ H0 b = none) := by
  refine ⟨fun b o hb z => st.fr b o z fun k z2 _ => ?_, fun b hb z => ?_⟩
  · cases k with
    | zero => exact hb (Option.some.inj z2).symm
    | succ k => cases z2
  · rcases st.fzn b z with y | y | ⟨k, z2, _⟩
    · exact .inl y
    · exact .inr y
    · cases k with
      | zero => exact absurd (Option.some.inj z2).symm hb
      | succ k => cases z2
theorem fnN_of (Dd : FunD K x q pa bd sc dvs kws f fd) (S : FnScope N ps sc) (n : Nat) (hn : ps.length = n) (pf : PN)
    (hb : ∀ (cdv : Value) (A : Around) (outer : List Env) (s : Shared) (H : Hp) (E : XK), RoomG k (A.deeper (envOfC q sc s.heap.objs.size f cdv)) → MSs (cxOf (L2.CX P w) P w K mg base N q sc f cdv A outer s H E) (fun cls d _ H => E cls d H) bd m)
    (hm : specN C n N.length m pf) : FnG P w K mg base (k + 1) f fd ps (spN K C n pf) := by
  refine fnG_of Dd S (fun vs H Q E h => ?_) (fun cdv A outer s H vs Q E room h => ?_)
  · obtain ⟨F, ds, y, dx, us, R, RE, hl, _, rfl, _, _, r, _⟩ := h
    rw [List.length_cons, r.length, hl, hn]
  · refine ⟨_, hb cdv A outer s H E room, ?_⟩
    obtain ⟨F, ds, a, dx, us, R, RE, hl, ex, rfl, fa, ha, r, hp, out, outx⟩ := h
    have sub : ∀ {k : Nat} {b : Addr}, [a][k]? = some b → k = 0 ∧ b = a := fun {k b} e => by
      cases k with
      | zero => exact ⟨rfl, (Option.some.inj e).symm⟩
      | succ k => cases e
    have h0 : HR K F [a] H [.ins C [] []] := by
      refine ⟨ex, rfl, fun k b e => ?_, fun k j b e1 e2 _ => ?_, fun k b o e1 e2 => ?_⟩
      · rw [(sub e).2, ha]; simp
      · rw [(sub e1).1, (sub e2).1]
      · obtain ⟨rfl, rfl⟩ := sub e1
        cases e2
        exact ⟨fa, dx, [], ha, rfl, rfl⟩
    have ra : RelA K F [a] (.loc 0 :: ds) (.ref a :: us) := ⟨.ref a, us, rfl, ⟨a, rfl, rfl⟩, r.mono (fun _ _ z => z) fun k x e => by simp at e⟩
    have fin : ∀ {F' al' H' M' d v}, Stp K F [a] H [.ins C [] []] F' al' H' M' → Rel K F' al' d v → endN C R d M' → Q v H' := by
      intro F' al' H' M' d v st rv z
      obtain ⟨rfl, z⟩ := z
      cases rv
      split at z
      · rename_i C' ns ds' em
        obtain ⟨rfl, pl, hR⟩ := z
        have ea : al'[0]? = some a := st.pre 0 a rfl
        obtain ⟨fa', dx', xs, ha', ra', hl'⟩ := st.hr.mem 0 a _ ea em
        obtain ⟨g1, g2⟩ := stp1 st
        exact out ns ds' xs dx' F' H' st.ex st.hr.ext g1 g2 fa' ha' (RelA.plain pl ra') hl' hR
      · exact z.elim
    refine ⟨F, [a], _, [.ins C [] []], _, ?_, h0, hm ds R RE hl hp, ?_, ?_, ?_, ?_⟩
    · refine ⟨by rw [← hl]; exact es_startA ra, fun Ce dxe p w s' sl H' F' al' M' st _ xd z => ?_, fun d p w z => by cases z⟩
      obtain ⟨d, fs, v, z1, z2, z3, z4, z5⟩ := xd
      obtain ⟨g1, g2⟩ := stp1 st
      exact outx Ce dxe p w F' H' st.ex st.hr.ext g1 g2 ⟨d, fs, v, z1, z2, z3, Rel.plain z.1 z4, z5⟩ z.2
    · exact fun s' H' F' al' r' M' st er z => fin (d := .non) (v := .non) st rfl z
    · exact fun _ _ _ _ _ _ _ _ z => z.elim
    · exact fun _ _ _ _ _ _ _ _ z => z.elim
    · exact fun v H' F' al' d M' st rv z => fin st rv z
end

/-! ### properties -/
section
variable {X : Cx} {W : WX} {k : Nat} {C p g : Addr} {f : Str} {fd : FuncData} {pf : PF} {ps : List Str} {e : Expr} {me : DE} {pos : Pos} {sp : Sp}
theorem getprop_okG {pins : List (Addr × Obj)} {σ : L2.St} {H : Hp} {s : Shared} {Q : VK} {b : Bool} {E : XK} {E' : Value → Shared → Prop} {a dx : Addr} {fs : List (Str × V)} (I : L2.Inv X pins σ H s) (ea : H a = some (.ins C dx fs)) (c : Cls X.K C) (hp : PropOf X.K C f p g)
    (F : FnG X.prog X.w X.K X.mg X.base k g fd ps sp) (hr : RoomG (k + 1) X.A) (hb : Binds X.K fd ps []) (hx : Passes (L2.CX X.prog X.w) X.nox E) (h : sp [.ref a] H Q E) :
    wpAny (model X.prog X.w) X.A (getAttr (.ref a) f b) (EP X pins σ Q) E' s := by
  obtain ⟨mA, O, _, _, _, _⟩ := ins_get I.hok ea
  obtain ⟨od, J, _⟩ := O.look
  obtain ⟨rest, hrec⟩ := hp.rec_
  have I1 := I.tok (s.toks + 1)
  have hl : ([Value.ref a] ++ []).length = ps.length := by
    rw [← F.ar _ _ _ _ h]; rfl
  have hc : (PySem.W.clsIn X.K C).isSome = true := by
    obtain ⟨cd, hc, _⟩ := PySem.W.any_some c.hd
    rw [hc]
    rfl
  refine PySem.W.get_bind I.kIn J (PySem.W.plainGet_of (c.get f)).1 (PySem.W.findObj_data hc hp.at_ hp.get hp.tak) (PySem.W.plainGet_of (c.get f)).2 (wpAny_call (PySem.W.prop_get (s := { s with toks := s.toks + 1 }) I.kIn hrec ?_))
  refine codeAny_mono (F.go X.A.in1 X.stack { s with toks := s.toks + 1 } H ⟨[.ref a], []⟩ [.ref a] [.ref a] Q E hr.in1 I1.env0.in1 (hb _ [.ref a] I1.kIn hl) (.cons rfl .nil) h) fun r s' hq => ?_
  cases r with
  | error er => exact False.elim (hx pins σ H { s with toks := s.toks + 1 } er s' (I1.wish _) hq)
  | ok fl =>
    cases fl with
    | ret u =>
      obtain ⟨v, H', I3, rv, q3⟩ := I1.after hq
      show wpAny _ _ (handedOut u) _ _ _
      rw [PySem.W.handedOut_of (handed_of rv)]
      exact wpAny_pure ⟨v, H', I3, rv, q3⟩
    | next => exact False.elim hq
    | brk => exact False.elim hq
    | cont => exact False.elim hq
def noX : XK := fun _ _ _ => False
theorem pe_propG (he : PE X e te) (c : Cls X.K C) (hp : PropOf X.K C f p g) (F : FnG X.prog X.w X.K X.mg X.base k g fd ps sp) (hr : RoomG (k + 1) X.A) (hb : Binds X.K fd ps []) (hx : Passes (L2.CX X.prog X.w) X.nox noX)
    (hab : attributeBase e f X.env (eval e X.env) = eval e X.env := by rfl) : PE X (.Attribute e f pos) (tProp C sp [] noX te) := by
  refine ⟨fun pins s σ H Q I h => ?_⟩
  refine attr_of hab (thn (he.run pins s σ H _ I h) fun u s1 ⟨x, H1, I1, rx, a, dx, fs, ex, ea, q⟩ => ?_)
  subst ex
  obtain rfl : u = Value.ref a := rx
  exact getprop_okG I1 ea c hp F hr hb hx q
end
end DL

set_option Elab.async false
set_option linter.all false
set_option maxRecDepth 100000
set_option maxHeartbeats 4000000
namespace DL
open PySem PySem.Spec L2
open Evl (Ex)

/-! ### properties over data -/
def dProp (C : Addr) (pf : PF) (fr fz : Bool) (me : DE) : DE := fun r M R => me r M fun d M1 => match d with
  | .ins C' ns ds => (C' = C ∧ plainA ds = true) ∧ pf [.ins C' ns ds] (fun w => resK fr fz w M1 R) (fun _ _ _ => False)
  | _ => False
theorem passNo {X : Cx} : Passes (L2.CX X.prog X.w) X.nox noX := fun pins σ H s e s' I c => takesF (X := X.nox) e s' (XE.of_call I (fun _ _ _ h => h) c)
/-- a property that is read -/
structure CalP (P : Program) (w : World) (K : PySem.W.Frag) (mg : Str → Option Value) (base : Heap) (k : Nat) (C : Addr) (f : Str) (sp : Sp) : Prop where
  ex : ∃ (p g : Addr) (fd : FuncData), Cls K C ∧ PropOf K C f p g ∧ FnG P w K mg base k g fd ["self"] sp ∧ Binds K fd ["self"] []
/-- a class that is made -/
structure CalM (P : Program) (w : World) (K : PySem.W.Frag) (mg : Str → Option Value) (base : Heap) (k : Nat) (x : Str) (C : Addr) (ps : List Str) (sp : Sp) : Prop where
  ex : ∃ (f : Addr) (fd : FuncData), Mk K C f ∧ FnG P w K mg base k f fd ps sp ∧ mg x = some (.ref C) ∧ Binds K fd ps []
section
variable {X : Cx} {W : WX} {k n : Nat} {C : Addr} {f x : Str} {pf : PF} {pn : PN} {fr : Bool} {e : Expr} {es : List Expr} {me : DE} {mas : DA} {pos p : Pos} {ps : List Str}
theorem me_pr (fz : Bool) (hC : CalP X.prog X.w X.K X.mg X.base k C f (spP X.K 1 fr pf)) (hr : RoomG (k + 1) X.A) (he : ME X W e me) (hab : attributeBase e f X.env (eval e X.env) = eval e X.env := by rfl) : ME X W (.Attribute e f pos) (dProp C pf fr fz me) := by
  obtain ⟨p, g, fd, c, hp, F, hb⟩ := hC.ex
  refine PE.imp (pe_propG he c hp F hr hb passNo hab) ?_
  rintro s H Q ⟨F0, al, r, M, R, er, hr, hm, k⟩
  refine ⟨F0, al, r, M, _, er, hr, hm, fun x H1 F1 al1 d M1 s1 rx hm1 => ?_⟩
  cases d with
  | ins C' ns ds =>
    obtain ⟨⟨rfl, hpl⟩, hm1⟩ := hm1
    have rx' : Rel X.K F1 [] (.ins C' ns ds) x := Rel.plain (show D.plain (.ins C' ns ds) = true from hpl) rx
    obtain ⟨a, dx, xs, rfl, ha, ra⟩ := rx
    refine ⟨a, dx, _, rfl, s1.hr.ext _ _ ha, F1, [.ins C' ns ds], _, fun _ _ _ => False, rfl, s1.hr.ext, RelA.one rx', hm1, fun d v F' H' st res q => ?_, fun _ _ _ _ _ _ _ _ z => z.elim⟩
    exact resP_out s1.hr (st.stp s1.hr) res q (Out.step hr k s1)
  | _ => exact hm1.elim
theorem me_mk (hC : CalM X.prog X.w X.K X.mg X.base k x C ps (spN X.K C n pn)) (hr : RoomG (k + 1) X.A) (tk : Takes X W) (ha : MA X W (e :: es) mas) (hg : Gl X x := by rfl) (hdb : (x == ("__debug__" : Str)) = false := by decide +kernel) (he : starEach (e :: es) X.env = (false, eval e X.env) :: starEach es X.env := by rfl)
    (hpl : (backTo pos (starEach es X.env)).any (·.1) = false := by rfl) : ME X W (.Call (.Name x p) (e :: es) [] pos) (dMake C n pn mas) := by
  obtain ⟨f, fd, M, F, hm, hb⟩ := hC.ex
  exact me_make M F hr hm hb tk ha hg hdb he hpl
end

end DL

set_option Elab.async false
set_option linter.all false
set_option maxRecDepth 100000
set_option maxHeartbeats 4000000
/-! # Exceptions of ours as values: made, asked for their class, their place and word read -/
namespace DL
open PySem PySem.Spec L2
open Evl (Ex)
open PyProof.Rows

/-! ### isinstance of such a value -/
section
variable {prog : Program} {w : World} {A : Around} {E : Value → Shared → Prop} {s : Shared} {K : PySem.W.Frag} {x C : Addr} {ox od : Obj}
/-- its __class__, its dict there -/
theorem exc_cls {Q : Option Value → Shared → Prop} (T : ExcC K C) (X : K.In s.heap) (I : PySem.W.InstAt s.heap x ox C (some od)) (h : Q (some (.ref C)) { s with toks := s.toks + 1 }) :
    wpAny (model prog w) A (getAttr? (.ref x) "__class__") Q E s := by
  have hf : PySem.W.findObj K C (some od) "__class__" = some (.bind (.builtin "getset_descriptor.__get__") (.builtin "object.__class__")) :=
    PySem.W.findObj_data (by obtain ⟨cd, hc, _⟩ := PySem.W.any_some T.hd; rw [hc]; rfl) T.ha T.hn T.ht
  obtain ⟨hp, g, d, t, os⟩ := s
  have ty := I.type (M := model prog w)
  have own : (Value.builtin "BaseException.__getattribute__" == Value.builtin "object.__getattribute__") = false := by decide +kernel
  have sub : PySem.W.Looks (model prog w) hp (isInstance (.ref x) (.type "BaseException")) true := ty.andThen (PySem.W.looks_subIn X T.hs)
  unfold getAttr? getAttrBy? getAttrBy
  refine wpAny_bind (wpAny_mkText (wpAny_bind (wpAny_attempt (wpAny_holding (wpAny_bind (ty.at (wpAny_bind ((PySem.W.looks_findIn X T.hg).at ?_))))))))
  show wpAny _ _ (if (onTheHeap (Value.ref C) && Value.builtin "BaseException.__getattribute__" == Value.builtin "object.__getattribute__") = true then _ else _) _ _ _
  rw [if_neg (by rw [own]; simp)]
  unfold getAttrByItsOwn hookBefore
  refine wpAny_bind ?_
  rw [if_pos (show onTheHeap (Value.ref C) = true from rfl)]
  refine (PySem.W.looks_findIn X T.hk).at ?_
  refine wpAny_bind (wpAny_attempt (wpAny_holding ?_))
  unfold callGetattribute
  rw [if_neg (by simp)]
  unfold boundAndCalled
  rw [PySem.F.excAttr_ValueError.ga.bind (.ref x)]
  refine wpAny_bind (wpAny_pure ?_)
  refine wpAny_call (codeAny_call_builtin PySem.F.excAttr_ValueError.ga.plain PySem.F.entry_bexc_ga ?_)
  refine PySem.W.check_slot (s := ⟨hp, g, d, t + 1, os⟩) (i := "BaseException.__getattribute__") (owner := "BaseException") (n := "__getattribute__") (by decide +kernel) (by decide +kernel) sub (PySem.F.args_bexc_ga (.ref x) (.str "__class__" t)) ?_
  unfold Builtin.«object.__getattribute__»
  refine wpAny_bind (wpAny_of_eq (a := ((Value.ref x : Value), [Value.str "__class__" t])) (by first | rfl | (simp only [slotArgs]; rfl)) ?_)
  refine wpAny_bind (wpAny_pure (wpAny_bind (ty.at (wpAny_bind ((PySem.W.looks_find X I hf).at ?_)))))
  refine wpAny_bind (wpAny_holding (wpAny_call (PySem.W.class_get (s := ⟨hp, g, d, t + 1, os⟩) (ox := ox) (od := some od) X I T.hm ?_)))
  refine wpAny_pure ?_
  show wpAny _ _ (handedOut (.ref C)) _ _ _
  rw [PySem.W.handedOut_of (v := .ref C) rfl]
  first
    | exact wpAny_pure (wpAny_pure h)
    | exact wpAny_pure h
    | exact wpAny_pure (wpAny_bind (wpAny_pure (wpAny_pure h)))

/-- what isinstance asks of such a value -/
theorem kitx_err (T : ExcC K C) : PySem.W.KitX K (.ref x) (.ref C) (fun h => PySem.W.InstAt h x ox C (some od)) where
  ty := fun _ _ _ I => I.type
  it := fun _ _ X _ => by
    obtain ⟨cd, hc, _⟩ := PySem.W.any_some T.hd
    unfold PySem.W.clsIn at hc
    split at hc
    · rename_i o
      intro A' Q' E' s' k q
      unfold isType loadHead
      exact wpAny_bind (wpAny_loadPart (k _ _ (X _ _ o)) (wpAny_pure q))
    · cases hc
  ne := fun h tp dd its n sl X htp => by
    obtain ⟨cd, hc, _⟩ := PySem.W.any_some T.hd
    refine Bool.eq_false_iff.mpr fun q => ?_
    obtain rfl : C = tp := Value.ref.inj (beq_iff_eq.mp q)
    unfold PySem.W.clsIn at hc
    split at hc
    · rename_i o
      cases (X _ _ o).symm.trans htp
    · cases hc
  ca := fun X I k => exc_cls T X I k
end
/-- what stands in the heap there -/
theorem err_at {P : Program} {w : World} {H : Hp} {h : Heap} {a C dx : Addr} {fs : List (Str × V)} (hok : HOk P w H h) (ha : H a = some (exo a C (some dx))) (hd : H dx = some (exd dx fs)) :
    ∃ (ox od : Obj) (mA : Str → Option Value), PySem.W.InstAt h a ox C (some od) ∧ (∀ f, PySem.W.lookIn f od = some (mA f)) ∧ ∀ f, RelO (fs.lookup f) (mA f) := by
  obtain ⟨t1, e1⟩ := exo_at hok ha
  obtain ⟨mA, hns, rel⟩ := exd_at hok hd
  obtain ⟨od, ho, hl⟩ := lookIn_ns hns
  exact ⟨_, od, mA, ⟨e1, rfl, rfl, ho⟩, hl, rel⟩

/-- a class name's answer: kitOne -/
def rIsX (K : PySem.W.Frag) : List V → Hp → VK → Prop := fun xs H Q => ∃ (a dx C : Addr) (fs : List (Str × V)) (c : V) (u : Value) (b : Bool), xs = [.ref a, c] ∧ H a = some (exo a C (some dx)) ∧ H dx = some (exd dx fs) ∧ ExcC K C ∧ ClsV c u ∧ PySem.W.kitOne K (.ref C) u = some b ∧ Q (.bl b) H
theorem call_isX {X : Cx} : CallR X (.builtin "isinstance") (rIsX X.K) := by
  intro pins s σ H xs us Q I r h
  obtain ⟨a, dx, C, fs, c, u, b, rfl, ha, hd, T, k, e, q⟩ := h
  obtain ⟨u1, u2, rfl, r1, r2⟩ := vals2 r
  have e2 := k.eq r2
  subst e2
  obtain rfl : u1 = Value.ref a := r1
  obtain ⟨ox, od, mA, J, _, _⟩ := err_at I.hok ha hd
  exact PySem.W.kia_one (kitx_err T) I.kIn J e (fun z => nomatch z) fun tk => ⟨.bl b, H, I.tok tk, rfl, q⟩
def clsU : D → Option Value
  | .cls C => some (.ref C)
  | .ty n => some (.type n)
  | _ => none
/-- isinstance of an exception of ours -/
def dIsX (K : PySem.W.Frag) : List D → MH → DK → Prop
  | [.err C _ _, c], M, R => ExcC K C ∧ ∃ u, clsU c = some u ∧ ∃ b, PySem.W.kitOne K (.ref C) u = some b ∧ R (.bl b) M
  | _, _, _ => False
theorem bl_isX {X : Cx} : BltD X "isinstance" (dIsX X.K) := by
  refine ⟨_, ?_, .inl ⟨_, by decide +kernel, call_isX⟩⟩
  intro F al H M xs ds R Q h rx hm k
  unfold dIsX at hm
  split at hm
  · rename_i C ns es c
    obtain ⟨T, u, hu, b, e, q⟩ := hm
    obtain ⟨y, ys, rfl, ry, z, zs, rfl, rz, rfl⟩ := rx
    obtain ⟨a, dx, xs, rfl, ha, hd, _⟩ := ry
    have kc : ClsV z u := by
      cases c with
      | cls C' => cases hu; cases rz; exact .own _
      | ty n => cases hu; cases rz; exact .ty _
      | _ => cases hu
    exact ⟨a, dx, C, _, z, u, b, rfl, h.ext _ _ ha, h.ext _ _ hd, T, kc, e, Out.pq k h q rfl⟩
  · exact hm.elim

/-! ### its place, its word -/
def tXfl (K : PySem.W.Frag) (f : Str) (te : TE) : TE := fun σ H Q => te σ H fun x H1 => ∃ (a dx C : Addr) (fs : List (Str × V)) (v : V), x = .ref a ∧ H1 a = some (exo a C (some dx)) ∧ H1 dx = some (exd dx fs) ∧ XfC K C ∧ PySem.W.findIn K (.ref C) f = some none ∧ fs.lookup f = some v ∧ Q v H1
section
variable {X : Cx} {W : WX} {e : Expr} {f : Str} {pos : Pos} {te : TE} {me : DE}
theorem pe_xfl (he : PE X e te) (hb : attributeBase e f X.env (eval e X.env) = eval e X.env := by rfl) : PE X (.Attribute e f pos) (tXfl X.K f te) := by
  refine ⟨fun pins s σ H Q I h => ?_⟩
  refine attr_of hb (thn (he.run pins s σ H _ I h) fun u s1 hh => ?_)
  obtain ⟨x, H1, I1, rx, a, dx, C, fs, v, rfl, ha, hd, T, hno, l, q⟩ := hh
  obtain rfl : u = Value.ref a := rx
  obtain ⟨ox, od, mA, J, hl, hr⟩ := err_at I1.hok ha hd
  obtain ⟨u, hu, ru⟩ := RelO.some_of (v := v) (o := mA f) (by rw [← l]; exact hr f)
  exact PySem.HandSPX.exc_get I1.kIn J T.ga T.gg T.exC (PySem.W.findObj_own T.hdC hno rfl (by rw [hl, hu])) (handed_of ru) ⟨v, H1, I1.tok _, ru, q⟩
/-- e.f, e an exception of ours -/
def dXfl (K : PySem.W.Frag) (f : Str) (me : DE) : DE := fun r M R => me r M fun d M1 => match d with
  | .err C ns ds => XfC K C ∧ PySem.W.findIn K (.ref C) f = some none ∧ (match lkN ns ds f with
    | some w => R w M1
    | none => False)
  | _ => False
theorem me_xfl (he : ME X W e me) (hb : attributeBase e f X.env (eval e X.env) = eval e X.env := by rfl) : ME X W (.Attribute e f pos) (dXfl X.K f me) := by
  refine PE.imp (pe_xfl he hb) ?_
  rintro s H Q ⟨F, al, r, M, R, er, hr, hm, k⟩
  refine ⟨F, al, r, M, _, er, hr, hm, fun x H1 F1 al1 d M1 s1 rx hm1 => ?_⟩
  cases d with
  | err C ns ds =>
    obtain ⟨T, hno, hm1⟩ := hm1
    split at hm1
    · rename_i w ew
      obtain ⟨a, dx, xs, rfl, ha, hd, ra⟩ := rx
      obtain ⟨v, hv, rv⟩ := lkN_rel ra ew
      exact ⟨a, dx, C, _, v, rfl, s1.hr.ext _ _ ha, s1.hr.ext _ _ hd, T, hno, hv, Out.pure (Out.step hr k s1) s1.hr rv hm1⟩
    · exact hm1.elim
  | _ => exact hm1.elim
end
end DL

set_option Elab.async false
set_option linter.all false
set_option maxRecDepth 100000
set_option maxHeartbeats 4000000
/-! # An exception class of ours, called with its place by name -/
namespace EX
open PySem PySem.Spec PySem.HandSPX
section
variable {M : Model} {prog : Program} {w : World} {A : Around} {E : Value → Shared → Prop} {R : Result → Shared → Prop} {h : Heap} {g : Array GenState} {d : Drawn} {t : Nat} {os : OsState}
variable {nm q : Str} {C N fI : Addr} {bs bm bmB : List Value} {hdct : Bool} {sn : List Str} {sub : List Value} {ab : Bool} {col : Option Bool} {dd : Option Addr} {k0 k1 k2 k3 k5 : Option Value} {B newId initId : String} {p : Value} {k : Str}
theorem kw_check (F : ExcBaseFacts B newId initId bmB) (hT : ∀ X : String, bm.contains (.type X) = bmB.contains (.type X)) {Q : Unit → Shared → Prop}
    (hC : h.get? C = some (excClassObj nm q C N bs bm hdct sn sub ab col dd k0 k1 k2 k3 k5 newId)) (hq : Q () ⟨h, g, d, t, os⟩) : wpAny M A (checkBuiltinCall newId ⟨[.ref C], [(k, p)]⟩) Q E ⟨h, g, d, t, os⟩ := by
  have hB : (Value.ref C :: bm).contains (.type B) = true := by rw [List.contains_cons, hT, F.hasB, Bool.or_true]
  have hs := F.noStar
  simp only [checkBuiltinCall, F.newKind, F.newSplit, F.newRow]
  repeat (first | refine wpAny_loadPart_at hC ?_ | (refine wpAny_isSubtype_exc hC ?_; rw [hB]) | refine wpAny_staticBase_exc hC ?_ | refine wpAny_madeBy_exc hC ?_ | simp only [bne_self_eq_false, Bool.false_eq_true, if_false] | wp_step)
  exact hq
theorem kw_new (F : ExcBaseFacts B newId initId bmB) (hT : ∀ X : String, bm.contains (.type X) = bmB.contains (.type X))
    (hC : h.get? C = some (excClassObj nm q C N bs bm hdct sn sub ab col dd k0 k1 k2 k3 k5 newId))
    (hq : R (.ok (.ret (.ref (h.objs.size + 1)))) ⟨(h.push (W.kdv_tup [])).push (excO C h.objs.size), g, d, t, os⟩) :
    codeAny (model prog w) A (.builtin newId ⟨[.ref C], [(k, p)]⟩) R ⟨h, g, d, t, os⟩ := by
  have he := F.ends
  have hB : (Value.ref C :: bm).contains (.type B) = true := by rw [List.contains_cons, hT, F.hasB, Bool.or_true]
  have hA : (Value.ref C :: bm).contains (.type "AttributeError") = false := by rw [List.contains_cons, hT, F.noAttr]; rfl
  have hN : (Value.ref C :: bm).contains (.type "NameError") = false := by rw [List.contains_cons, hT, F.noName]; rfl
  have hz : ([] : List Value).length ≤ sizeLine := Nat.zero_le _
  refine codeAny_builtinAt F.entry ?_
  unfold Builtin.«BaseException.__new__»
  refine wpAt_bind ?_
  show wpAt _ _ _ (stack >>= _) _ _ _
  refine wpAt_bind (wpAt_stack fun p below => wpAt_of_wpAny ?_)
  wp_walk
  refine wpAt_of_wpAny ?_
  rw [F.owner]
  repeat (first | with_reducible refine wpAny_madeHere_exc F.canon hC ?_ | with_reducible refine wpAny_loadPart_at hC ?_ | (with_reducible refine wpAny_isSubtype_exc hC ?_; first | rw [hB] | rw [hA] | rw [hN]) | wp_step)
  show R _ _
  rw [Heap.size_push]
  exact hq
theorem kw_type (F : ExcBaseFacts B newId initId bmB) (hT : ∀ X : String, bm.contains (.type X) = bmB.contains (.type X)) {Q : Fin → Shared → Prop}
    (hC : h.get? C = some (excClassObj nm q C N bs bm hdct sn sub ab col dd k0 k1 k2 k3 k5 newId))
    (hi : W.Looks (model prog w) h (typeLookup (.ref C) "__init__") (some (.ref fI))) (hb : ∀ self, W.Looks (model prog w) h (bindSpecial (.ref fI) self) (.ref fI, [self]))
    (hq : codeAny (model prog w) A (.call (.ref fI) ⟨[.ref (h.objs.size + 1)], [(k, p)]⟩)
      (fun r s' => match r with | .ok (.ret v) => v = .none ∧ Q (.done (.ret (.ref (h.objs.size + 1)))) s' | .ok _ => False | .error e => E e s')
      ⟨(h.push (W.kdv_tup [])).push (excO C h.objs.size), g, d, t, os⟩) :
    wpAny (model prog w) A (Builtin.«type.__call__» ⟨[.ref C], [(k, p)]⟩) Q E ⟨h, g, d, t, os⟩ := by
  repeat (first | with_reducible refine wpAny_loadPart_at hC ?_ | with_reducible refine wpAny_madeBy_exc hC ?_ | wp_step)
  refine codeAny_call_builtin_code (Code.quiet_builtin _ F.quiet) (kw_check F hT hC ?_)
  refine kw_new F hT hC ?_
  show wpAny _ _ _ _ _ _
  have kp : ∀ b o, h.get? b = some o → ((h.push (W.kdv_tup [])).push (excO C h.objs.size)).get? b = some o := fun b o e => Heap.get?_push_of_some _ (Heap.get?_push_of_some _ e)
  have hC₁ := kp _ _ hC
  have hget : ((h.push (W.kdv_tup [])).push (excO C h.objs.size)).get? (h.objs.size + 1) = some (excO C h.objs.size) := by heap_get
  have hcC : (Value.ref C :: bm).contains (.ref C) = true := by simp
  have i1 := hi.keeps kp
  have b1 := (hb (.ref (h.objs.size + 1))).keeps kp
  unfold isInstance
  repeat (first | with_reducible refine wpAny_loadPart_at hget ?_ | (with_reducible refine wpAny_isSubtype_exc hC₁ ?_; rw [hcC]) | wp_step)
  show wpAny _ _ (typeLookup (.ref C) _) _ _ _
  refine i1.at ?_
  refine wpAny_holding (wpAny_bind (b1.at ?_))
  refine wpAny_bind (wpAny_call (codeAny_mono hq fun r s' z => ?_))
  rcases r with e | (v | _ | _ | _) <;> first | exact z | exact z.elim | skip
  obtain ⟨rfl, z⟩ := z
  first
    | exact wpAny_pure (wpAny_pure z)
    | (wp_walk; exact z)
theorem kw_call (F : ExcBaseFacts B newId initId bmB) (hT : ∀ X : String, bm.contains (.type X) = bmB.contains (.type X))
    (hC : h.get? C = some (excClassObj nm q C N bs bm hdct sn sub ab col dd k0 k1 k2 k3 k5 newId))
    (hi : W.Looks (model prog w) h (typeLookup (.ref C) "__init__") (some (.ref fI))) (hb : ∀ self, W.Looks (model prog w) h (bindSpecial (.ref fI) self) (.ref fI, [self]))
    (hq : codeAny (model prog w) (A.under (.builtin "type.__call__" ⟨[.ref C], [(k, p)]⟩)) (.call (.ref fI) ⟨[.ref (h.objs.size + 1)], [(k, p)]⟩) (W.InitBack (h.objs.size + 1) R)
      ⟨(h.push (W.kdv_tup [])).push (excO C h.objs.size), g, d, t, os⟩) :
    codeAny (model prog w) A (.call (.ref C) ⟨[], [(k, p)]⟩) R ⟨h, g, d, t, os⟩ := by
  have f1 := tc_lookup
  have f2 := tc_bind (.ref C)
  have hTy : (⟨h, g, d, t, os⟩ : Shared).TypeIs (.ref C) "type" := ⟨_, hC, rfl⟩
  refine codeAny_of_tree ?_
  show wpAny _ _ (callAny (.ref C) _) _ _ _
  repeat (any_goals (first | assumption | with_reducible refine wpAny_loadPart_at hC ?_ | wp_step))
  refine ⟨rfl, ?_⟩
  refine codeAny_call_builtin_at (Code.quiet_builtin _ (by decide +kernel)) entry_typeCall (wpAny_check_type_call_sub hC (kw_type F hT hC hi hb ?_))
  refine codeAny_mono hq fun r s' z => ?_
  unfold W.InitBack at z
  rcases r with e | (v | _ | _ | _) <;> first | exact z | exact z.elim
end
end EX

set_option Elab.async false
set_option linter.all false
set_option maxRecDepth 100000
set_option maxHeartbeats 4000000
/-! # Exceptions of ours as values: made -/
namespace DL
open PySem PySem.Spec L2
open Evl (Ex)
open PyProof.Rows (envOfC)

section
variable {X : Cx} {W : WX} {C : Addr} {wd x : Str} {e : Expr} {es : List Expr} {kws : List Keyword} {ta : TA} {mas : DA} {p pos kp : Pos}
abbrev exF (wd : Str) (pv : V) : List (Str × V) := [("word", .str wd), ("place", pv)]
theorem exv_core {pins : List (Addr × Obj)} {σ : L2.St} {H1 : Hp} {hp' : Heap} {g : Array GenState} {dr : Drawn} {tk : Nat} {os : OsState} {Q : VK} {ts : List Value} {pv : V} {pu : Value} {args : Args} {fI : Addr} {A : Around} {R : Result → Shared → Prop}
    (go : ∀ (A : Around) (s : Shared) (x t0 : Addr) (p : Value) (args : Args) (R : Result → Shared → Prop), L2.Mod X.K X.mg X.base → A.depth + 2 < recursionLimit → (∀ b o, X.base.get? b = some o → s.heap.get? b = some o) → X.base.get? x = none →
      s.heap.get? x = some (EX.eo C t0 none) → (args = ⟨[.ref x, p], []⟩ ∨ (args = ⟨[.ref x], []⟩ ∧ p = .none) ∨ args = ⟨[.ref x], [("place", p)]⟩) → EX.Made C x p wd R s → codeAny (model X.prog X.w) A (.call (.ref fI) args) R s)
    (hr : A.depth + 2 < recursionLimit) (I1 : Inv X pins σ H1 ⟨hp', g, dr, tk, os⟩) (rp : RelV pv pu)
    (hargs : args = ⟨[.ref (hp'.objs.size + 1), pu], []⟩ ∨ (args = ⟨[.ref (hp'.objs.size + 1)], []⟩ ∧ pu = .none) ∨ args = ⟨[.ref (hp'.objs.size + 1)], [("place", pu)]⟩)
    (q : ∀ a d, H1 a = none → H1 d = none → a ≠ d → Q (.ref a) (upd (upd H1 d (exd d (exF wd pv))) a (exo a C (some d)))) (hR : ∀ v s', EP X pins σ Q v s' → R (.ok (.ret v)) s') :
    codeAny (model X.prog X.w) A (.call (.ref fI) args) (PySem.W.InitBack (hp'.objs.size + 1) R) ⟨(hp'.push (PySem.W.kdv_tup ts)).push (PySem.HandSPX.excO C hp'.objs.size), g, dr, tk, os⟩ := by
  have hsz : hp'.objs.size ≤ hp'.objs.size + 1 := Nat.le_succ _
  have hn : H1 (hp'.objs.size + 1) = none := I1.hok.fresh hsz
  have kk : ∀ b o, hp'.get? b = some o → ((hp'.push (PySem.W.kdv_tup ts)).push (PySem.HandSPX.excO C hp'.objs.size)).get? b = some o := fun b o e => Heap.get?_push_of_some _ (Heap.get?_push_of_some _ e)
  have hget : ((hp'.push (PySem.W.kdv_tup ts)).push (PySem.HandSPX.excO C hp'.objs.size)).get? (hp'.objs.size + 1) = some (PySem.HandSPX.excO C hp'.objs.size) := by heap_get
  have I2 : Inv X pins σ (upd H1 (hp'.objs.size + 1) (exo (hp'.objs.size + 1) C none)) ⟨(hp'.push (PySem.W.kdv_tup ts)).push (PySem.HandSPX.excO C hp'.objs.size), g, dr, tk, os⟩ :=
    I1.laid (t' := tk) (a := hp'.objs.size + 1) (o := exo (hp'.objs.size + 1) C none) (h' := (hp'.push (PySem.W.kdv_tup ts)).push (PySem.HandSPX.excO C hp'.objs.size)) kk hsz (exo_ok hget)
  have bn : X.base.get? (hp'.objs.size + 1) = none := by
    cases z : X.base.get? (hp'.objs.size + 1) with
    | none => rfl
    | some o =>
      have := Heap.lt_size (I1.bk _ _ z)
      exact absurd this (Nat.not_lt.mpr hsz)
  refine go _ _ _ _ pu _ _ I1.ok.mod hr (fun b o z => kk _ _ (I1.bk _ _ z)) bn hget hargs ?_
  intro h2 dx t1 tk2 tk2' k2' dn dne e2 n2
  have hd1 : upd H1 (hp'.objs.size + 1) (exo (hp'.objs.size + 1) C none) dx = none := I2.hok.gone dn
  have hd0 : H1 dx = none := by rw [upd_ne dne] at hd1; exact hd1
  obtain ⟨un, hok⟩ := un_exc X.fs (tk' := tk2) (fs := exF wd pv) I2 upd_same hd1 dne dn k2' e2 n2 (relO_dm rp)
  have q2 := q (hp'.objs.size + 1) dx hn hd0 (Ne.symm dne)
  have eu : upd (upd (upd H1 (hp'.objs.size + 1) (exo (hp'.objs.size + 1) C none)) dx (exd dx (exF wd pv))) (hp'.objs.size + 1) (exo (hp'.objs.size + 1) C (some dx)) = upd (upd H1 dx (exd dx (exF wd pv))) (hp'.objs.size + 1) (exo (hp'.objs.size + 1) C (some dx)) := by
    funext b
    by_cases h2 : b = hp'.objs.size + 1
    · rw [h2, upd_same, upd_same]
    · rw [upd_ne h2, upd_ne h2]
      by_cases h1 : b = dx
      · rw [h1, upd_same, upd_same]
      · rw [upd_ne h1, upd_ne h1, upd_ne h2]
  refine ⟨rfl, hR _ _ ⟨.ref (hp'.objs.size + 1), _, I2.un (t' := tk2') un hok, rfl, ?_⟩⟩
  rw [eu]
  exact q2
theorem exv_run {pins : List (Addr × Obj)} {σ : L2.St} {H1 : Hp} {s1 : Shared} {Q : VK} {us : List Value} {vs : List V} {pv : V} (M : MkC X.prog X.w X.K X.mg X.base C wd) (hr : X.A.depth + 3 < recursionLimit) (I1 : Inv X pins σ H1 s1) (r1 : Vals vs us) (hp : vs = [pv] ∨ (vs = [] ∧ pv = .non))
    (q : ∀ a d, H1 a = none → H1 d = none → a ≠ d → Q (.ref a) (upd (upd H1 d (exd d (exF wd pv))) a (exo a C (some d)))) : wpAny (model X.prog X.w) X.A (call (.ref C) us) (EP X pins σ Q) X.xe s1 := by
  obtain ⟨fI, iC, tI, go⟩ := M.ex
  obtain ⟨nm, qn, N, bs, bm, sn, sub, ab, col, dd, k0, k1, k2, k3, k5, hC, hbm⟩ := M.ox.cls
  obtain ⟨hp', g, dr, tk, os⟩ := s1
  have hus : us.length ≤ sizeLine := by
    rw [← Paired.length r1, sizeLine_eq]
    rcases hp with rfl | ⟨rfl, _⟩ <;> simp
  obtain ⟨pu, rp, hargs⟩ : ∃ pu, RelV pv pu ∧ ((⟨.ref (hp'.objs.size + 1) :: us, []⟩ : Args) = ⟨[.ref (hp'.objs.size + 1), pu], []⟩ ∨ ((⟨.ref (hp'.objs.size + 1) :: us, []⟩ : Args) = ⟨[.ref (hp'.objs.size + 1)], []⟩ ∧ pu = .none)) := by
    rcases hp with rfl | ⟨rfl, rfl⟩
    · cases r1 with
      | cons a b => cases b; exact ⟨_, a, .inl rfl⟩
    · cases r1
      exact ⟨.none, rfl, .inr ⟨rfl, rfl⟩⟩
  refine wpAny_call (PySem.HandSPX.call_own F.excBase_Exception (fun Y => PySem.W.excTail_contains Y bm hbm) (I1.kIn _ _ hC) (PySem.W.looks_findIn I1.kIn iC) (fun self => PySem.W.bind_fn I1.kIn self tI) hus ?_)
  exact exv_core (Q := Q) go (by show X.A.depth + 1 + 2 < recursionLimit; omega) I1 rp (by rcases hargs with z | z; exact .inl z; exact .inr (.inl z)) q fun v s' z => z
theorem exv_runK {pins : List (Addr × Obj)} {σ : L2.St} {H1 : Hp} {s1 : Shared} {Q : VK} {pu : Value} {pv : V} (M : MkC X.prog X.w X.K X.mg X.base C wd) (hr : X.A.depth + 3 < recursionLimit) (I1 : Inv X pins σ H1 s1) (rp : RelV pv pu)
    (q : ∀ a d, H1 a = none → H1 d = none → a ≠ d → Q (.ref a) (upd (upd H1 d (exd d (exF wd pv))) a (exo a C (some d)))) : wpAny (model X.prog X.w) X.A (call (.ref C) [] [("place", pu)]) (EP X pins σ Q) X.xe s1 := by
  obtain ⟨fI, iC, tI, go⟩ := M.ex
  obtain ⟨nm, qn, N, bs, bm, sn, sub, ab, col, dd, k0, k1, k2, k3, k5, hC, hbm⟩ := M.ox.cls
  obtain ⟨hp', g, dr, tk, os⟩ := s1
  refine wpAny_call (EX.kw_call F.excBase_Exception (fun Y => PySem.W.excTail_contains Y bm hbm) (I1.kIn _ _ hC) (PySem.W.looks_findIn I1.kIn iC) (fun self => PySem.W.bind_fn I1.kIn self tI) ?_)
  exact exv_core (Q := Q) go (by show X.A.depth + 1 + 2 < recursionLimit; omega) I1 rp (.inr (.inr rfl)) q fun v s' z => z

/-! ### the rules -/
def tExv (C : Addr) (wd : Str) (ta : TA) : TE := fun σ H Q => ta σ H fun vs H1 => ∃ p : V, (vs = [p] ∨ (vs = [] ∧ p = .non)) ∧ ∀ a d, H1 a = none → H1 d = none → a ≠ d → Q (.ref a) (upd (upd H1 d (exd d (exF wd p))) a (exo a C (some d)))
theorem pe_exv (M : MkC X.prog X.w X.K X.mg X.base C wd) (hr : X.A.depth + 3 < recursionLimit) (hm : X.mg x = some (.ref C)) (ha : PA X (e :: es) ta) (hg : Gl X x := by rfl)
    (hdb : (x == ("__debug__" : Str)) = false := by decide) (he : starEach (e :: es) X.env = (false, eval e X.env) :: starEach es X.env := by rfl) (hpl : (backTo pos (starEach es X.env)).any (·.1) = false := by rfl) :
    PE X (.Call (.Name x p) (e :: es) [] pos) (tExv C wd ta) := by
  refine ⟨fun pins s σ H Q I h => ?_⟩
  refine wpAny_Call_Name_kw (ld_glob I hg hm ?_ hdb)
  refine PySem.W.callWith_K (h₀ := X.base) I.ok.mod.kin M.ox.kC (thn (ha.run pos pins s σ H _ I h) fun us s1 ⟨vs, H1, I1, r1, pv, hp, q1⟩ => ⟨I1.kIn, ?_⟩) he hpl
  exact exv_run M hr I1 r1 hp q1
theorem pe_exv0 (M : MkC X.prog X.w X.K X.mg X.base C wd) (hr : X.A.depth + 3 < recursionLimit) (hm : X.mg x = some (.ref C)) (hg : Gl X x := by rfl)
    (hdb : (x == ("__debug__" : Str)) = false := by decide) : PE X (.Call (.Name x p) [] [] pos) (tExv C wd tNil) := by
  refine ⟨fun pins s σ H Q I h => ?_⟩
  refine wpAny_Call_Name_kw (ld_glob I hg hm ?_ hdb)
  obtain ⟨pv, hp, q1⟩ := h
  exact PySem.W.callWith_K0 I.kIn M.ox.kC (exv_run (us := []) M hr I .nil hp q1)
def tExvK (C : Addr) (wd : Str) (ta : TA) : TE := fun σ H Q => ta σ H fun vs H1 => ∃ v, vs = [v] ∧ ∀ a d, H1 a = none → H1 d = none → a ≠ d → Q (.ref a) (upd (upd H1 d (exd d (exF wd v))) a (exo a C (some d)))
theorem pe_exvK (M : MkC X.prog X.w X.K X.mg X.base C wd) (hr : X.A.depth + 3 < recursionLimit) (hm : X.mg x = some (.ref C)) {te : TE} (ha : PE X e te) (hg : Gl X x := by rfl)
    (hdb : (x == ("__debug__" : Str)) = false := by decide)
    (hall : (backToKw pos (keywordEach [⟨some "place", e, kp⟩] X.env)).all (·.1.isSome) = true := by rfl) (hpl : ((backTo pos (starEach [] X.env)).any (·.1) || (backToKw pos (keywordEach [⟨some "place", e, kp⟩] X.env)).any (·.1.isNone)) = false := by rfl) :
    PE X (.Call (.Name x p) [] [⟨some "place", e, kp⟩] pos) (tExvK C wd (tCons te tNil)) := by
  refine ⟨fun pins s σ H Q I h => ?_⟩
  refine wpAny_Call_Name_kw (ld_glob I hg hm ?_ hdb)
  refine PySem.W.callWith_KW0 (h₀ := X.base) I.ok.mod.kin M.ox.kC hall (thn ((pk_cons (nm := some "place") (kpos := kp) ha pk_nil).run pos pins s σ H _ I h) fun us s1 ⟨vs, H1, I1, r1, v, hv, q1⟩ => ⟨I1.kIn, ?_⟩) hpl
  subst hv
  cases r1 with
  | cons a b =>
    cases b
    exact exv_runK M hr I1 a q1
/-- C(), C(e), C(place=e): the exception as a value -/
def exvA : List D → Option D
  | [] => some .non
  | [d] => some d
  | _ => none
def dExv (C : Addr) (wd : Str) (mas : DA) : DE := fun r M R => mas r M fun ds M1 => match exvA ds with
  | some d => R (.err C ["word", "place"] [.str wd, d]) M1
  | none => False
theorem exvA0 : exvA [] = some .non := rfl
theorem exvA1 {d : D} : exvA [d] = some d := rfl
theorem exv_out {K : PySem.W.Frag} {F : Hp} {al : List Addr} {H : Hp} {M : MH} {R : DK} {Q : VK} {d : D} {v : V} (k : Out K F al H M R Q) (h : HR K F al H M) (rv : Rel K F al d v) (q : R (.err C ["word", "place"] [.str wd, d]) M) {a dx : Addr} (ha : H a = none) (hd : H dx = none) (n : a ≠ dx) :
    Q (.ref a) (upd (upd H dx (exd dx (exF wd v))) a (exo a C (some dx))) := by
  have fd : F dx = none := Evl.fresh_back h.ext hd
  have fa : F a = none := Evl.fresh_back h.ext ha
  have s1 := h.newF (o := exd dx (exF wd v)) hd
  have s2 := s1.hr.newF (p := a) (o := exo a C (some dx)) (by rw [upd_ne n]; exact ha)
  refine k _ _ _ _ (.err C ["word", "place"] [.str wd, d]) _ (s1.trans h s2) ⟨a, dx, [.str wd, v], rfl, upd_same, ?_, ?_⟩ q
  · rw [upd_ne (Ne.symm n), upd_same]
    rfl
  · exact ⟨.str wd, [v], rfl, rfl, RelA.one (rv.mono ((Evl.Ex.new fd).trans (Evl.Ex.new (by rw [upd_ne n]; exact fa))) (Pre.refl _))⟩
theorem me_exv (M : MkC X.prog X.w X.K X.mg X.base C wd) (hr : X.A.depth + 3 < recursionLimit) (hm : X.mg x = some (.ref C)) (ha : MA X W (e :: es) mas) (hg : Gl X x := by rfl)
    (hdb : (x == ("__debug__" : Str)) = false := by decide) (he : starEach (e :: es) X.env = (false, eval e X.env) :: starEach es X.env := by rfl) (hpl : (backTo pos (starEach es X.env)).any (·.1) = false := by rfl) :
    ME X W (.Call (.Name x p) (e :: es) [] pos) (dExv C wd mas) := by
  refine PE.imp (pe_exv M hr hm ha hg hdb he hpl) ?_
  rintro s H Q ⟨F, al, r, M, R, er, hr0, hm0, k⟩
  refine ⟨F, al, r, M, _, er, hr0, hm0, fun vs H1 F1 al1 ds M1 s1 r1 hm1 => ?_⟩
  split at hm1
  · rename_i d ed
    match ds, ed with
    | [], ed =>
      cases ed
      cases r1
      exact ⟨.non, .inr ⟨rfl, rfl⟩, fun a d ha hd n => exv_out (Out.step hr0 k s1) s1.hr (show Rel X.K F1 al1 .non .non from rfl) hm1 ha hd n⟩
    | [d'], ed =>
      cases ed
      obtain ⟨y, ys, rfl, r2, rfl⟩ := r1
      exact ⟨y, .inl rfl, fun a d ha hd n => exv_out (Out.step hr0 k s1) s1.hr r2 hm1 ha hd n⟩
  · exact hm1.elim
theorem me_exv0 (M : MkC X.prog X.w X.K X.mg X.base C wd) (hr : X.A.depth + 3 < recursionLimit) (hm : X.mg x = some (.ref C)) (hg : Gl X x := by rfl)
    (hdb : (x == ("__debug__" : Str)) = false := by decide) : ME X W (.Call (.Name x p) [] [] pos) (dExv C wd dNil) := by
  refine PE.imp (pe_exv0 M hr hm hg hdb) ?_
  rintro s H Q ⟨F, al, r, M, R, er, hr0, hm0, k⟩
  exact ⟨.non, .inr ⟨rfl, rfl⟩, fun a d ha hd n => exv_out k hr0 (show Rel X.K F al .non .non from rfl) hm0 ha hd n⟩
theorem me_exvK {me : DE} (M : MkC X.prog X.w X.K X.mg X.base C wd) (hr : X.A.depth + 3 < recursionLimit) (hm : X.mg x = some (.ref C)) (ha : ME X W e me) (hg : Gl X x := by rfl)
    (hdb : (x == ("__debug__" : Str)) = false := by decide)
    (hall : (backToKw pos (keywordEach [⟨some "place", e, kp⟩] X.env)).all (·.1.isSome) = true := by rfl) (hpl : ((backTo pos (starEach [] X.env)).any (·.1) || (backToKw pos (keywordEach [⟨some "place", e, kp⟩] X.env)).any (·.1.isNone)) = false := by rfl) :
    ME X W (.Call (.Name x p) [] [⟨some "place", e, kp⟩] pos) (dExv C wd (dCons me dNil)) := by
  refine PE.imp (pe_exvK M hr hm ha hg hdb hall hpl) ?_
  rintro s H Q ⟨F, al, r, M, R, er, hr0, hm0, k⟩
  refine ⟨F, al, r, M, _, er, hr0, hm0, fun v H1 F1 al1 d M1 s1 r1 hm1 => ?_⟩
  exact ⟨v, rfl, fun a dx ha hd n => exv_out (Out.step hr0 k s1) s1.hr r1 hm1 ha hd n⟩
end
end DL

set_option Elab.async false
set_option linter.all false
set_option maxRecDepth 100000
set_option maxHeartbeats 4000000
namespace DL
open PySem PySem.Spec L2
open Evl (Ex)
section
variable {X : Cx} {W : WX} {a b c : Expr} {mas : DA} {x y z : Str}
/-- a, b, c = e1, e2, e3 -/
def mPar3 (i j l : Nat) (mas : DA) : DS := fun E r M => mas r M fun ds M1 => match ds with
  | [d, e, f] => E.nx (((r.put i d).put j e).put l f) M1
  | _ => False
theorem ms_p3 {px py pz pt pos pt2 : Pos} {kt k2 : Nat} (i j l : Nat) (hN : X.N.Nodup) (ha : MA X W [a, b, c] mas) (hc : X.calm = true := by rfl) (hi : X.N[i]? = some x := by rfl) (hj : X.N[j]? = some y := by rfl) (hl : X.N[l]? = some z := by rfl)
    (hij : i ≠ j := by decide) (hil : i ≠ l := by decide) (hjl : j ≠ l := by decide) (hx : X.env.scope.names.lookup x = some .local := by rfl) (hy : X.env.scope.names.lookup y = some .local := by rfl) (hz : X.env.scope.names.lookup z = some .local := by rfl)
    (hw : swappedStores [.Tuple [.Name x px, .Name y py, .Name z pz] kt pt] (.Tuple [a, b, c] k2 pt2) X.env = pure (some [x, y, z]) := by rfl)
    (hs : swapsWithSole [.Tuple [.Name x px, .Name y py, .Name z pz] kt pt] (.Tuple [a, b, c] k2 pt2) pos.line X.env = pure false := by rfl) :
    MS X W (.Assign [.Tuple [.Name x px, .Name y py, .Name z pz] kt pt] (.Tuple [a, b, c] k2 pt2) pos) (mPar3 i j l mas) := by
  refine PS.imp (ps_par3 hc hN hi hj hl hij hil hjl hx hy hz ha hw hs) ?_
  rintro D s H ⟨F, al, r, M, E, er, hr, hm, a1, a2, a3, a4⟩
  refine ⟨F, al, r, M, _, er, hr, hm, fun vs H1 F1 al1 ds M1 s1 r1 hm1 => ?_⟩
  split at hm1
  · obtain ⟨y, ys, rfl, ry, z, zs, rfl, rz, w, ws, rfl, rw, rfl⟩ := r1
    exact ⟨y, z, w, rfl, a1 _ _ _ _ _ _ s1 ((((er.step hr s1).put ry).put rz).put rw) hm1⟩
  · exact hm1.elim
/-- an own class as a value; ValueError -/
theorem me_cl {C : Addr} {pos : Pos} (hm : X.mg x = some (.ref C)) (hg : Gl X x := by rfl) (hdb : (x == ("__debug__" : Str)) = false := by decide +kernel) : ME X W (.Name x pos) (dC (.cls C)) := me_cls hg hm hdb
theorem boot_ve : bootBuiltins "ValueError" = some (.type "ValueError") := by decide +kernel
theorem me_ve {pos : Pos} (hm : X.mg "ValueError" = none) (hg : Gl X "ValueError" := by rfl) : ME X W (.Name "ValueError" pos) (dC (.ty "ValueError")) := me_ty hg hm boot_ve (by decide +kernel) (by decide +kernel)
/-- isinstance of an exception of ours -/
theorem me_isX {e : Expr} {es : List Expr} {p pos : Pos} (hm : X.mg "isinstance" = none) (ha : MA X W (e :: es) mas) (hg : Gl X "isinstance" := by rfl)
    (he : starEach (e :: es) X.env = (false, eval e X.env) :: starEach es X.env := by rfl) (hpl : (backTo pos (starEach es X.env)).any (·.1) = false := by rfl) : ME X W (.Call (.Name "isinstance" p) (e :: es) [] pos) (dCB (dIsX X.K) mas) :=
  me_blt bl_isX hg hm ha (by decide +kernel) (by decide +kernel) he hpl
end
end DL

set_option Elab.async false
set_option linter.all false
set_option maxRecDepth 100000
set_option maxHeartbeats 8000000
namespace NU
open PySem PySem.Spec PyProof.Rows L2 DL
def Sm (k : Nat) (i : Int) : Prop := i.natAbs < 2 ^ k
def rD (x : Rat) : D := .tup [.int x.num, .int x.den]
def SmR (k : Nat) (x : Rat) : Prop := Sm k x.num ∧ x.den < 2 ^ k
def pf_common : PF := fun ds R _ => ∃ a b : Int, ds = [.int a, .int b] ∧ R (.int (Int.gcd a b))
def pf_fraction : PF := fun ds R _ => ∃ a b : Int, ds = [.int a, .int b] ∧ b ≠ 0 ∧ Sm 4000 b ∧ R (rD (Rat.divInt a b))
def pf_plus : PF := fun ds R _ => ∃ x y : Rat, ds = [rD x, rD y] ∧ SmR 1000 x ∧ SmR 1000 y ∧ R (rD (x + y))
def pf_opposite_of : PF := fun ds R _ => ∃ x : Rat, ds = [rD x] ∧ R (rD (-x))
def pf_less : PF := fun ds R _ => ∃ x y : Rat, ds = [rD x, rD y] ∧ SmR 1000 x ∧ SmR 1000 y ∧ R (rD (x - y))
def pf_times : PF := fun ds R _ => ∃ x y : Rat, ds = [rD x, rD y] ∧ SmR 1000 x ∧ SmR 1000 y ∧ R (rD (x * y))
def pf_over (C : Addr) : PF := fun ds R RE => ∃ x y : Rat, ds = [rD x, rD y] ∧ SmR 1000 x ∧ SmR 1000 y ∧ (y = 0 → RE C .non "NothingThere") ∧ (y ≠ 0 → R (rD (x / y)))
def pf_sign_of : PF := fun ds R _ => ∃ x : Rat, ds = [rD x] ∧ R (.int (Int.sign x.num))
def pf_below : PF := fun ds R _ => ∃ x y : Rat, ds = [rD x, rD y] ∧ SmR 1000 x ∧ SmR 1000 y ∧ R (.bl (decide (x.num * y.den < y.num * x.den)))
def isInt : D → Bool
  | .int _ => true
  | _ => false
/-- what may be asked: whether it is a fraction -/
def okV : D → Bool
  | .tup ds => plainA ds
  | .lst ds => plainA ds
  | .int _ => true
  | .bl _ => true
  | .non => true
  | .str _ => true
  | _ => false
def isFr : D → Bool
  | .tup [.int a, .int b] => decide (0 < b ∧ Int.gcd a b = 1)
  | _ => false
def pf_is_integer : PF := fun ds R _ => ∃ d, ds = [d] ∧ okV d = true ∧ R (.bl (isInt d))
def okA : D → Bool
  | .tup ds => ds.all okV
  | d => okV d
def pf_is_fraction : PF := fun ds R _ => ∃ d, ds = [d] ∧ okA d = true ∧ R (.bl (isFr d))
def isPt : D → Int → Bool
  | .tup ds, n => decide ((ds.length : Int) = n) && ds.all isFr
  | _, _ => false
def okP : D → Bool
  | .tup ds => decide (ds.length ≤ 1000) && ds.all okA
  | d => okA d
def pf_is_point : PF := fun ds R _ => ∃ d n, ds = [d, .int n] ∧ okP d = true ∧ R (.bl (isPt d n))
def prim (qs : List Rat) : List Int :=
  let L : Int := qs.foldl (fun (s : Int) q => s.fdiv (Int.gcd s q.den) * q.den) 1
  let its := qs.map fun q => q.num * L.fdiv q.den
  let g : Int := its.foldl (fun (s : Int) i => Int.gcd s i) 0
  its.map fun i => i.fdiv g
def pf_primitive : PF := fun ds R _ => ∃ qs : List Rat, ds = [.lst (qs.map rD)] ∧ qs.length ≤ 40 ∧ (∀ x ∈ qs, SmR 110 x) ∧ (∃ x ∈ qs, x ≠ 0) ∧ R (.lst ((prim qs).map D.int))
/-- what may be compared and shown: depth n at most, b signs and items at most -/
structure Gd (n b : Nat) (d : D) : Prop where
  dat : d.dat = true
  lay : (py d).canLay0 = true
  dep : (py d).depth ≤ n
  sho : (py d).showable = true
  blk : (py d).bulk ≤ b
def pf__law_is : PF := fun ds R _ => ∃ d e, ds = [d, e] ∧ Gd 60 8000 d ∧ Gd 60 8000 e ∧ ((d = e ∧ R (.bl true)) ∨ ((py d).eqv (py e) = false ∧ R (.bl false)))
def pf__law_over : PF := fun ds R _ => ∃ x y : Rat, ds = [rD x, rD y] ∧ SmR 1000 x ∧ SmR 1000 y ∧ R (if y = 0 then .tup [.str "nothing", .non] else rD (x / y))
/-- a deck: held number, place, seed, script, count -/
def dk (h p s : Int) (ns : List Int) (c : Int) : List D := [.int h, .int p, .int s, .lst (ns.map D.int), .int c]
def Dk (ds : List D) : Prop := ∃ h p s ns c, ds = dk h p s ns c ∧ 0 ≤ p
def pf__law_deck : PF := fun ds R _ => ∃ ns : List Int, ds = [.scr (ns.map D.int)] ∧ ns.length ≤ 63 ∧ ∀ dk0, Dk dk0 → R (.lst dk0)
def pf__law_draw : IF := fun dk0 ds R => ∃ b : Int, ds = [.int b] ∧ 0 < b ∧ Sm 8000 b ∧ Dk dk0 ∧ ∀ v dk1, 0 ≤ v → v < b → Dk dk1 → R (.int v) dk1
def pf__law_number : IF := fun dk0 ds R => ds = [] ∧ Dk dk0 ∧ ∀ (v : Int) dk1, v.natAbs ≤ 10 ^ 30 → Dk dk1 → R (.int v) dk1
def pf_law : PF := fun ds R _ => ∃ ns : List Int, ds = [.scr (ns.map D.int)] ∧ ns.length ≤ 63 ∧ R (.bl true)
def N_common : List Str := ["a", "b"]
def m_common : DS := mSeq (mPar 0 1 (dCons (dCB dAbs (dCons (dVar 0) (dNil))) (dCons (dCB dAbs (dCons (dVar 1) (dNil))) (dNil)))) (mSeq (mWhile (dTest (dVar 1)) (mPar 0 1 (dCons (dVar 1) (dCons (dOp dMd (dVar 0) (dVar 1)) (dNil))))) (mRet (dVar 0)))
def N_fraction : List Str := ["a", "b", "shared"]
def m_fraction : DS := mSeq (mSet 2 (dCallP 2 pf_common false true [] (dCons (dVar 0) (dCons (dVar 1) (dNil))))) (mSeq (mIf (dTestB (dOp dLt (dVar 1) (dC (.int 0)))) (mSet 2 (dUn dNeg (dVar 2))) (mNext)) (mRet (dTup (dCons (dOp dFd (dVar 0) (dVar 2)) (dCons (dOp dFd (dVar 1) (dVar 2)) (dNil))))))
def N_plus : List Str := ["x", "y"]
def m_plus : DS := mRet (dCallP 2 pf_fraction false true [] (dCons (dOp (dAdd true) (dOp (dMul true) (dOp dIx (dVar 0) (dC (.int 0))) (dOp dIx (dVar 1) (dC (.int 1)))) (dOp (dMul true) (dOp dIx (dVar 1) (dC (.int 0))) (dOp dIx (dVar 0) (dC (.int 1))))) (dCons (dOp (dMul true) (dOp dIx (dVar 0) (dC (.int 1))) (dOp dIx (dVar 1) (dC (.int 1)))) (dNil))))
def N_opposite_of : List Str := ["x"]
def m_opposite_of : DS := mRet (dTup (dCons (dUn dNeg (dOp dIx (dVar 0) (dC (.int 0)))) (dCons (dOp dIx (dVar 0) (dC (.int 1))) (dNil))))
def N_less : List Str := ["x", "y"]
def m_less : DS := mRet (dCallP 2 pf_plus false true [] (dCons (dVar 0) (dCons (dCallP 1 pf_opposite_of false true [] (dCons (dVar 1) (dNil))) (dNil))))
def N_times : List Str := ["x", "y"]
def m_times : DS := mRet (dCallP 2 pf_fraction false true [] (dCons (dOp (dMul true) (dOp dIx (dVar 0) (dC (.int 0))) (dOp dIx (dVar 1) (dC (.int 0)))) (dCons (dOp (dMul true) (dOp dIx (dVar 0) (dC (.int 1))) (dOp dIx (dVar 1) (dC (.int 1)))) (dNil))))
def N_over : List Str := ["x", "y"]
def m_over  (C_NothingThere : Addr) : DS := mSeq (mIf (dTestB (dOp dEq (dOp dIx (dVar 1) (dC (.int 0))) (dC (.int 0)))) (mRaise C_NothingThere "NothingThere" dNil) (mNext)) (mRet (dCallP 2 pf_fraction false true [] (dCons (dOp (dMul true) (dOp dIx (dVar 0) (dC (.int 0))) (dOp dIx (dVar 1) (dC (.int 1)))) (dCons (dOp (dMul true) (dOp dIx (dVar 0) (dC (.int 1))) (dOp dIx (dVar 1) (dC (.int 0)))) (dNil)))))
def N_sign_of : List Str := ["x"]
def m_sign_of : DS := mRet (dOp dSub (dOp dGt (dOp dIx (dVar 0) (dC (.int 0))) (dC (.int 0))) (dOp dLt (dOp dIx (dVar 0) (dC (.int 0))) (dC (.int 0))))
def N_below : List Str := ["x", "y"]
def m_below : DS := mRet (dOp dLt (dOp (dMul true) (dOp dIx (dVar 0) (dC (.int 0))) (dOp dIx (dVar 1) (dC (.int 1)))) (dOp (dMul true) (dOp dIx (dVar 1) (dC (.int 0))) (dOp dIx (dVar 0) (dC (.int 1)))))
def N_is_integer : List Str := ["value"]
def m_is_integer : DS := mRet (dAndV (dCB dIsi (dCons (dVar 0) (dCons (dC (.ty "int")) (dNil)))) (dNotV (dCB dIsi (dCons (dVar 0) (dCons (dC (.ty "bool")) (dNil))))))
def N_is_fraction : List Str := ["value"]
def m_is_fraction : DS := mSeq (mIf (dOr (dNot (dTest (dCB dIsi (dCons (dVar 0) (dCons (dC (.ty "tuple")) (dNil)))))) (dOr (dTestB (dOp dNe (dCB dLen (dCons (dVar 0) (dNil))) (dC (.int 2)))) (dOr (dNot (dTest (dCallP 1 pf_is_integer false true [] (dCons (dOp dIx (dVar 0) (dC (.int 0))) (dNil))))) (dNot (dTest (dCallP 1 pf_is_integer false true [] (dCons (dOp dIx (dVar 0) (dC (.int 1))) (dNil)))))))) (mRet (dC (.bl false))) (mNext)) (mRet (dAndV (dOp dGt (dOp dIx (dVar 0) (dC (.int 1))) (dC (.int 0))) (dOp dEq (dCallP 2 pf_common false true [] (dCons (dOp dIx (dVar 0) (dC (.int 0))) (dCons (dOp dIx (dVar 0) (dC (.int 1))) (dNil)))) (dC (.int 1)))))
def N_is_point : List Str := ["value", "n", "item"]
def m_is_point : DS := mRet (dAndV (dCB dIsi (dCons (dVar 0) (dCons (dC (.ty "tuple")) (dNil)))) (dAndV (dOp dEq (dCB dLen (dCons (dVar 0) (dNil))) (dVar 1)) (dCB (dAny true) (dCons (dLc true (dSeq (dVar 0)) (.nm 2) (tYesD) (dCallP 1 pf_is_fraction false true [] (dCons (dVar 2) (dNil))) [2]) (dNil)))))
def N_primitive : List Str := ["row", "shared", "item", "items", "divisor"]
def m_primitive : DS := mSeq (mSet 1 (dC (.int 1))) (mSeq (mFor (dSeq (dVar 0)) (.nm 2) (mSet 1 (dOp (dMul true) (dOp dFd (dVar 1) (dCallP 2 pf_common false true [] (dCons (dVar 1) (dCons (dOp dIx (dVar 2) (dC (.int 1))) (dNil))))) (dOp dIx (dVar 2) (dC (.int 1)))))) (mSeq (mSet 3 (dLc true (dSeq (dVar 0)) (.nm 2) (tYesD) (dOp (dMul true) (dOp dIx (dVar 2) (dC (.int 0))) (dOp dFd (dVar 1) (dOp dIx (dVar 2) (dC (.int 1))))) [2])) (mSeq (mSet 4 (dC (.int 0))) (mSeq (mFor (dSeq (dVar 3)) (.nm 2) (mSet 4 (dCallP 2 pf_common false true [] (dCons (dVar 4) (dCons (dVar 2) (dNil)))))) (mRet (dLc true (dSeq (dVar 3)) (.nm 2) (tYesD) (dOp dFd (dVar 2) (dVar 4)) [2]))))))
def N__law_deck : List Str := ["script", "seed", "cell"]
def m__law_deck : DS := mSeq (mSet 1 (dC (.int 7))) (mSeq (mFor (dSeq (dVar 0)) (.nm 2) (mSet 1 (dOp dMd (dCB dInt (dCons (dOp (dAdd true) (dOp (dMul true) (dVar 1) (dC (.int 48271))) (dVar 2)) (dNil))) (dC (.int 2147483647))))) (mRet (dLst false (dCons (dC (.int 0)) (dCons (dC (.int 0)) (dCons (dVar 1) (dCons (dCB (dList true) (dCons (dVar 0) (dNil))) (dCons (dC (.int 0)) (dNil)))))))))
def N__law_draw : List Str := ["deck", "bound", "number", "value"]
def m__law_draw : DS := mSeq (mIf (dAnd (dTestB (dOp dEq (dOp dIx (dVar 0) (dC (.int 0))) (dC (.int 0)))) (dTestB (dOp dLt (dOp dIx (dVar 0) (dC (.int 1))) (dCB dLen (dCons (dOp dIx (dVar 0) (dC (.int 3))) (dNil)))))) (mSeq (mPut (dVar 0) (dC (.int 0)) (dCB dAbs (dCons (dOp dIx (dOp dIx (dVar 0) (dC (.int 3))) (dOp dIx (dVar 0) (dC (.int 1)))) (dNil)))) (mPut (dVar 0) (dC (.int 1)) (dOp (dAdd true) (dOp dIx (dVar 0) (dC (.int 1))) (dC (.int 1))))) (mIf (dTestB (dOp dEq (dOp dIx (dVar 0) (dC (.int 0))) (dC (.int 0)))) (mSeq (mPut (dVar 0) (dC (.int 4)) (dOp (dAdd true) (dOp dIx (dVar 0) (dC (.int 4))) (dC (.int 1)))) (mSeq (mSet 2 (dOp dMd (dCB dInt (dCons (dOp (dAdd true) (dOp (dAdd true) (dOp (dMul true) (dOp dIx (dVar 0) (dC (.int 2))) (dC (.int 48271))) (dOp (dMul true) (dOp dIx (dVar 0) (dC (.int 4))) (dC (.int 69621)))) (dC (.int 12345))) (dNil))) (dC (.int 2147483647)))) (mSeq (mSet 2 (dOp dMd (dCB dInt (dCons (dOp (dAdd true) (dOp (dAdd true) (dOp (dMul true) (dVar 2) (dVar 2)) (dOp (dMul true) (dC (.int 16807)) (dOp dIx (dVar 0) (dC (.int 4))))) (dC (.int 7))) (dNil))) (dC (.int 998244353)))) (mSeq (mSet 2 (dOp dMd (dCB dInt (dCons (dOp (dAdd true) (dOp (dAdd true) (dOp (dMul true) (dVar 2) (dVar 2)) (dOp (dMul true) (dC (.int 48271)) (dOp dIx (dVar 0) (dC (.int 4))))) (dOp dIx (dVar 0) (dC (.int 2)))) (dNil))) (dC (.int 2147483629)))) (mPut (dVar 0) (dC (.int 0)) (dOp dFd (dVar 2) (dC (.int 13)))))))) (mNext))) (mSeq (mSet 3 (dOp dMd (dCB dInt (dCons (dOp dIx (dVar 0) (dC (.int 0))) (dNil))) (dVar 1))) (mSeq (mPut (dVar 0) (dC (.int 0)) (dOp dFd (dOp dIx (dVar 0) (dC (.int 0))) (dVar 1))) (mRet (dVar 3))))
def N__law_is : List Str := ["value", "due"]
def m__law_is : DS := mRet (dAndV (dOp dEq (dVar 0) (dVar 1)) (dOp dEq (dCB dRepr (dCons (dVar 0) (dNil))) (dCB dRepr (dCons (dVar 1) (dNil)))))
def N__law_gcd : List Str := ["a", "b", "first", "second"]
def m__law_gcd : DS := mSeq (mPar 2 3 (dCons (dCB dAbs (dCons (dVar 0) (dNil))) (dCons (dCB dAbs (dCons (dVar 1) (dNil))) (dNil)))) (mSeq (mWhile (dTestB (dOp dGt (dVar 3) (dC (.int 0)))) (mPar 2 3 (dCons (dVar 3) (dCons (dOp dMd (dCB dInt (dCons (dVar 2) (dNil))) (dVar 3)) (dNil))))) (mRet (dVar 2)))
def N__law_frac : List Str := ["a", "b", "shared"]
def m__law_frac : DS := mSeq (mSet 2 (dCallP 2 pf_common false true [] (dCons (dVar 0) (dCons (dVar 1) (dNil))))) (mSeq (mIf (dTestB (dOp dLt (dVar 1) (dC (.int 0)))) (mSet 2 (dUn dNeg (dVar 2))) (mNext)) (mRet (dTup (dCons (dOp dFd (dVar 0) (dVar 2)) (dCons (dOp dFd (dVar 1) (dVar 2)) (dNil))))))
def N__law_sign : List Str := ["x"]
def m__law_sign : DS := mRet (dOp dSub (dCB dInt (dCons (dOp dGt (dOp dIx (dVar 0) (dC (.int 0))) (dC (.int 0))) (dNil))) (dCB dInt (dCons (dOp dLt (dOp dIx (dVar 0) (dC (.int 0))) (dC (.int 0))) (dNil))))
end NU

set_option Elab.async false
set_option linter.all false
set_option maxRecDepth 100000
set_option maxHeartbeats 8000000
namespace NU
open PySem PySem.Spec PyProof.Rows L2 DL


/-! ### sizes -/
theorem pyl {j : Int} (h : j.natAbs < 2 ^ 8900) (i : Int) : Builtin.divisionGoesByPylong i j = false := by
  unfold Builtin.divisionGoesByPylong
  by_cases h0 : j = 0
  · subst h0; simp
  · have h1 : j.natAbs.log2 < 8900 := (Nat.log2_lt (by omega)).mpr h
    simp only [Bool.and_eq_false_iff, decide_eq_false_iff_not]
    left
    have : (j == 0) = false := by simpa using h0
    rw [this]
    simp only [Bool.false_eq_true, if_false]
    omega
theorem cfd {i j : Int} (h0 : j ≠ 0) (h : j.natAbs < 2 ^ 8900) : CFd i j := ⟨h0, pyl h i⟩
theorem bits_le {a : Int} {n : Nat} (h : a.natAbs < 2 ^ n) : Builtin.Int.intBits a ≤ n := by
  unfold Builtin.Int.intBits
  split
  · omega
  · rename_i h0
    have h0' : a ≠ 0 := by simpa using h0
    exact (Nat.log2_lt (by omega)).mpr h
theorem mulOk {a b : Int} {n m : Nat} (ha : a.natAbs < 2 ^ n) (hb : b.natAbs < 2 ^ m) (h : n + m ≤ 1000000) : IntMulOk a b := by
  have h1 := bits_le ha
  have h2 := bits_le hb
  unfold IntMulOk Builtin.Int.intTooBig
  simp only [Bool.and_eq_true, decide_eq_true_eq, not_and]
  intro _ _
  have : (1000000 : Int) ≤ bitsLine := by decide +kernel
  omega
instance (k : Nat) (i : Int) : Decidable (Sm k i) := inferInstanceAs (Decidable (i.natAbs < 2 ^ k))
theorem sm_mul {a b : Int} {n m k : Nat} (ha : Sm n a) (hb : Sm m b) (h : n + m ≤ k) : Sm k (a * b) := by
  unfold Sm at *
  rw [Int.natAbs_mul]
  calc a.natAbs * b.natAbs < 2 ^ n * 2 ^ m := Nat.mul_lt_mul'' ha hb
    _ = 2 ^ (n + m) := (Nat.pow_add 2 n m).symm
    _ ≤ 2 ^ k := Nat.pow_le_pow_right (by decide) h
theorem sm_add {a b : Int} {n k : Nat} (ha : Sm n a) (hb : Sm n b) (h : n + 1 ≤ k) : Sm k (a + b) := by
  unfold Sm at *
  have : 2 ^ (n + 1) ≤ 2 ^ k := Nat.pow_le_pow_right (by decide) h
  rw [Nat.pow_succ] at this
  omega
theorem sm_neg {a : Int} {n : Nat} (ha : Sm n a) : Sm n (-a) := by
  unfold Sm at *
  omega
theorem sm_mono {a : Int} {n k : Nat} (ha : Sm n a) (h : n ≤ k) : Sm k a := Nat.lt_of_lt_of_le ha (Nat.pow_le_pow_right (by decide) h)
theorem smR_den {x : Rat} {k : Nat} (h : SmR k x) : Sm k (x.den : Int) := by
  unfold Sm
  rw [Int.natAbs_natCast]
  exact h.2
theorem den0 (x : Rat) : (x.den : Int) ≠ 0 := by
  have := x.den_nz
  omega
theorem p_int {M : MH} {i : Int} : prep1 M (.int i) = some (.int i, false) := rfl
theorem p_bl {M : MH} {i : Bool} : prep1 M (.bl i) = some (.bl i, false) := rfl
theorem p_non {M : MH} : prep1 M .non = some (.non, false) := rfl
theorem p_str {M : MH} {i : Str} : prep1 M (.str i) = some (.str i, false) := rfl
theorem p_rD {M : MH} {a b : Int} : prep1 M (.tup [.int a, .int b]) = some (.tup [.int a, .int b], false) := rfl
theorem prep1_plain {M : MH} {d : D} (h : D.plain d = true) : prep1 M d = some (d, false) := by
  cases d <;> first
    | rfl
    | (cases h)
    | (simp only [prep1]; rw [if_pos h])
theorem okV_plain {d : D} (h : okV d = true) : D.plain d = true := by
  cases d <;> first
    | rfl
    | exact h
    | cases h
/-! ### numbers -/
theorem abs_if (a : Int) : (if a < 0 then -a else a) = (a.natAbs : Int) := by split <;> omega
theorem h_common : specP 2 N_common.length false m_common pf_common := by
  rintro ds R RE hl ⟨a, b, rfl, hR⟩
  simp only [m_common, N_common, mSeq, mPar, mSet, mAsg, mWhile, mFor, mIf, mRet, mRetN, mNext, mPut, mDrop, dCons, dNil, dCB, dAbs, dInt, dLen, dVar, dC, slP, dOp, dUn, dNeg, dSub, dAdd, dMul, dMd, dFd, dI, dI0, dCmpI, dLt, dLe, dGt, dGe, dTest, dTestB, dTru, dTup, dLst, dIx, dCallP, dCallI, callIK, dAndV, dOrV, dNotV, dAnd, dOr, dNot, dIf, RH.put, List.length, List.map, List.getElem?_cons_zero, List.getElem?_cons_succ, List.cons_append, List.nil_append, List.append_nil, List.set, Nat.reduceSub, List.replicate, prepA, nw, p_int, p_bl, p_non, p_str, D.plain, plainA, Bool.and_true, Bool.true_and, if_true, Bool.or_false, Bool.false_or, resK, rdS, rdL, bindP, bindPs, abs_if]
  refine ⟨fun n r M => ∃ x y : Nat, r.sl = [some (.int x), some (.int y)] ∧ M = [] ∧ n = y ∧ Nat.gcd x y = Int.gcd a b, ⟨_, a.natAbs, b.natAbs, rfl, rfl, rfl, rfl⟩, ?_⟩
  rintro n r M ⟨x, y, hs, rfl, rfl, hg⟩
  simp only [hs, mSeq, mPar, mSet, mAsg, mWhile, mFor, mIf, mRet, mRetN, mNext, mPut, mDrop, dCons, dNil, dCB, dAbs, dInt, dLen, dVar, dC, slP, dOp, dUn, dNeg, dSub, dAdd, dMul, dMd, dFd, dI, dI0, dCmpI, dLt, dLe, dGt, dGe, dTest, dTestB, dTru, dTup, dLst, dIx, dCallP, dCallI, callIK, dAndV, dOrV, dNotV, dAnd, dOr, dNot, dIf, RH.put, List.length, List.map, List.getElem?_cons_zero, List.getElem?_cons_succ, List.cons_append, List.nil_append, List.append_nil, List.set, Nat.reduceSub, List.replicate, prepA, nw, p_int, p_bl, p_non, p_str, D.plain, plainA, Bool.and_true, Bool.true_and, if_true, Bool.or_false, Bool.false_or, resK, rdS, rdL, bindP, bindPs]
  split
  · rename_i h
    have hy : n ≠ 0 := by simpa using h
    refine ⟨fun r' M' => r'.sl = [some (.int n), some (.int ((x % n : Nat) : Int))] ∧ M' = [], ?_, by omega, ?_⟩
    · rintro r' M' ⟨h1, rfl⟩
      exact ⟨x % n, Nat.mod_lt _ (by omega), n, x % n, h1, rfl, rfl, by rw [← hg, Nat.gcd_comm n, ← Nat.gcd_rec, Nat.gcd_comm]⟩
    · refine ⟨?_, rfl⟩
      rw [Int.fmod_eq_emod_of_nonneg _ (by omega)]
      rfl
  · rename_i h
    have hy : n = 0 := by simpa using h
    subst hy
    rw [Nat.gcd_zero_right] at hg
    rw [hg]
    exact ⟨rfl, hR⟩
theorem h__law_gcd : specP 2 N__law_gcd.length false m__law_gcd pf_common := by
  rintro ds R RE hl ⟨a, b, rfl, hR⟩
  simp only [m__law_gcd, N__law_gcd, mSeq, mPar, mSet, mAsg, mWhile, mFor, mIf, mRet, mRetN, mNext, mPut, mDrop, dCons, dNil, dCB, dAbs, dInt, dLen, dVar, dC, slP, dOp, dUn, dNeg, dSub, dAdd, dMul, dMd, dFd, dI, dI0, dCmpI, dLt, dLe, dGt, dGe, dTest, dTestB, dTru, dTup, dLst, dIx, dCallP, dCallI, callIK, dAndV, dOrV, dNotV, dAnd, dOr, dNot, dIf, RH.put, List.length, List.map, List.getElem?_cons_zero, List.getElem?_cons_succ, List.cons_append, List.nil_append, List.append_nil, List.set, Nat.reduceSub, List.replicate, prepA, nw, p_int, p_bl, p_non, p_str, D.plain, plainA, Bool.and_true, Bool.true_and, if_true, Bool.or_false, Bool.false_or, resK, rdS, rdL, bindP, bindPs, abs_if]
  refine ⟨fun n r M => ∃ x y : Nat, r.sl = [some (.int a), some (.int b), some (.int x), some (.int y)] ∧ M = [] ∧ n = y ∧ Nat.gcd x y = Int.gcd a b, ⟨_, a.natAbs, b.natAbs, rfl, rfl, rfl, rfl⟩, ?_⟩
  rintro n r M ⟨x, y, hs, rfl, rfl, hg⟩
  simp only [hs, mSeq, mPar, mSet, mAsg, mWhile, mFor, mIf, mRet, mRetN, mNext, mPut, mDrop, dCons, dNil, dCB, dAbs, dInt, dLen, dVar, dC, slP, dOp, dUn, dNeg, dSub, dAdd, dMul, dMd, dFd, dI, dI0, dCmpI, dLt, dLe, dGt, dGe, dTest, dTestB, dTru, dTup, dLst, dIx, dCallP, dCallI, callIK, dAndV, dOrV, dNotV, dAnd, dOr, dNot, dIf, RH.put, List.length, List.map, List.getElem?_cons_zero, List.getElem?_cons_succ, List.cons_append, List.nil_append, List.append_nil, List.set, Nat.reduceSub, List.replicate, prepA, nw, p_int, p_bl, p_non, p_str, D.plain, plainA, Bool.and_true, Bool.true_and, if_true, Bool.or_false, Bool.false_or, resK, rdS, rdL, bindP, bindPs]
  split
  · rename_i h
    have hy : n ≠ 0 := by
      have := of_decide_eq_true h
      omega
    refine ⟨fun r' M' => r'.sl = [some (.int a), some (.int b), some (.int n), some (.int ((x % n : Nat) : Int))] ∧ M' = [], ?_, by omega, ?_⟩
    · rintro r' M' ⟨h1, rfl⟩
      exact ⟨x % n, Nat.mod_lt _ (by omega), n, x % n, h1, rfl, rfl, by rw [← hg, Nat.gcd_comm n, ← Nat.gcd_rec, Nat.gcd_comm]⟩
    · refine ⟨?_, rfl⟩
      rw [Int.fmod_eq_emod_of_nonneg _ (by omega)]
      rfl
  · rename_i h
    have hy : n = 0 := by
      have : ¬ ((0 : Int) < n) := by simpa using h
      omega
    subst hy
    rw [Nat.gcd_zero_right] at hg
    rw [hg]
    exact ⟨rfl, hR⟩
theorem frac_num {a b : Int} (hb : b ≠ 0) : a.fdiv (if b < 0 then -(Int.gcd a b : Int) else (Int.gcd a b : Int)) = (Rat.divInt a b).num ∧ b.fdiv (if b < 0 then -(Int.gcd a b : Int) else (Int.gcd a b : Int)) = ((Rat.divInt a b).den : Int) := by
  have ga : ((Int.gcd a b : Int)) ∣ a := Int.gcd_dvd_left ..
  have gb : ((Int.gcd a b : Int)) ∣ b := Int.gcd_dvd_right ..
  have e1 : Int.gcd b a = Int.gcd a b := Int.gcd_comm b a
  rw [Rat.num_divInt, Rat.den_divInt, if_neg hb, e1]
  by_cases h : b < 0
  · rw [if_pos h]
    have s : b.sign = -1 := Int.sign_eq_neg_one_of_neg h
    rw [Int.fdiv_eq_ediv_of_dvd (Int.neg_dvd.mpr ga), Int.fdiv_eq_ediv_of_dvd (Int.neg_dvd.mpr gb), s, Int.ediv_neg, Int.ediv_neg]
    refine ⟨by rw [show (-1 : Int) * a = -a by omega, Int.neg_ediv_of_dvd ga], ?_⟩
    rw [Int.natCast_ediv, Int.ofNat_natAbs_of_nonpos (Int.le_of_lt h), Int.neg_ediv_of_dvd gb]
  · rw [if_neg h]
    have h' : 0 < b := by omega
    have s : b.sign = 1 := Int.sign_eq_one_of_pos h'
    rw [Int.fdiv_eq_ediv_of_dvd ga, Int.fdiv_eq_ediv_of_dvd gb, s, Int.one_mul]
    refine ⟨rfl, ?_⟩
    rw [Int.natCast_ediv, Int.natAbs_of_nonneg (Int.le_of_lt h')]
theorem gcd_sm {a b : Int} {k : Nat} (hb : b ≠ 0) (h : Sm k b) : Sm k (Int.gcd a b : Int) ∧ (Int.gcd a b : Int) ≠ 0 := by
  have hp : 0 < b.natAbs := by omega
  have gb : Int.gcd a b ∣ b.natAbs := Nat.gcd_dvd_right ..
  have := Nat.le_of_dvd hp gb
  have h0 : Int.gcd a b ≠ 0 := fun z => by
    rw [z] at gb
    have := Nat.eq_zero_of_zero_dvd gb
    omega
  unfold Sm at *
  refine ⟨?_, by omega⟩
  rw [Int.natAbs_natCast]
  omega
theorem core_fraction {n : Nat} {a b : Int} {R : D → Prop} (hb : b ≠ 0) (hs : Sm 4000 b) (hR : R (rD (Rat.divInt a b))) : CFd a (if b < 0 then -(Int.gcd a b : Int) else (Int.gcd a b : Int)) ∧ CFd b (if b < 0 then -(Int.gcd a b : Int) else (Int.gcd a b : Int)) ∧
    R (.tup [.int (a.fdiv (if b < 0 then -(Int.gcd a b : Int) else (Int.gcd a b : Int))), .int (b.fdiv (if b < 0 then -(Int.gcd a b : Int) else (Int.gcd a b : Int)))]) := by
  obtain ⟨h1, h2⟩ := gcd_sm (a := a) hb hs
  have hg : Sm 8900 (if b < 0 then -(Int.gcd a b : Int) else (Int.gcd a b : Int)) ∧ (if b < 0 then -(Int.gcd a b : Int) else (Int.gcd a b : Int)) ≠ 0 := by
    split
    · exact ⟨sm_mono (sm_neg h1) (by decide), by omega⟩
    · exact ⟨sm_mono h1 (by decide), h2⟩
  obtain ⟨e1, e2⟩ := frac_num (a := a) hb
  refine ⟨cfd hg.2 hg.1, cfd hg.2 hg.1, ?_⟩
  rw [e1, e2]
  exact hR
theorem h_fraction : specP 2 N_fraction.length false m_fraction pf_fraction := by
  rintro ds R RE hl ⟨a, b, rfl, hb, hs, hR⟩
  simp only [m_fraction, N_fraction, mSeq, mPar, mSet, mAsg, mWhile, mFor, mIf, mRet, mRetN, mNext, mPut, mDrop, dCons, dNil, dCB, dAbs, dInt, dLen, dVar, dC, slP, dOp, dUn, dNeg, dSub, dAdd, dMul, dMd, dFd, dI, dI0, dCmpI, dLt, dLe, dGt, dGe, dTest, dTestB, dTru, dTup, dLst, dIx, dCallP, dCallI, callIK, dAndV, dOrV, dNotV, dAnd, dOr, dNot, dIf, RH.put, List.length, List.map, List.getElem?_cons_zero, List.getElem?_cons_succ, List.cons_append, List.nil_append, List.append_nil, List.set, Nat.reduceSub, List.replicate, prepA, nw, p_int, p_bl, p_non, p_str, D.plain, plainA, Bool.and_true, Bool.true_and, if_true, Bool.or_false, Bool.false_or, resK, rdS, rdL, bindP, bindPs]
  refine ⟨trivial, a, b, rfl, fun z => (by cases z), ?_⟩
  have key := core_fraction (n := 0) hb hs hR
  by_cases h : b < 0
  · simp only [h, decide_true, if_true, mSeq, mPar, mSet, mAsg, mWhile, mFor, mIf, mRet, mRetN, mNext, mPut, mDrop, dCons, dNil, dCB, dAbs, dInt, dLen, dVar, dC, slP, dOp, dUn, dNeg, dSub, dAdd, dMul, dMd, dFd, dI, dI0, dCmpI, dLt, dLe, dGt, dGe, dTest, dTestB, dTru, dTup, dLst, dIx, dCallP, dCallI, callIK, dAndV, dOrV, dNotV, dAnd, dOr, dNot, dIf, RH.put, List.length, List.map, List.getElem?_cons_zero, List.getElem?_cons_succ, List.cons_append, List.nil_append, List.append_nil, List.set, Nat.reduceSub, List.replicate, prepA, nw, p_int, p_bl, p_non, p_str, D.plain, plainA, Bool.and_true, Bool.true_and, if_true, Bool.or_false, Bool.false_or, resK, rdS, rdL, bindP, bindPs] at key ⊢
    exact ⟨key.1, key.2.1, by decide, rfl, key.2.2⟩
  · simp only [h, decide_false, if_false, Bool.false_eq_true, mSeq, mPar, mSet, mAsg, mWhile, mFor, mIf, mRet, mRetN, mNext, mPut, mDrop, dCons, dNil, dCB, dAbs, dInt, dLen, dVar, dC, slP, dOp, dUn, dNeg, dSub, dAdd, dMul, dMd, dFd, dI, dI0, dCmpI, dLt, dLe, dGt, dGe, dTest, dTestB, dTru, dTup, dLst, dIx, dCallP, dCallI, callIK, dAndV, dOrV, dNotV, dAnd, dOr, dNot, dIf, RH.put, List.length, List.map, List.getElem?_cons_zero, List.getElem?_cons_succ, List.cons_append, List.nil_append, List.append_nil, List.set, Nat.reduceSub, List.replicate, prepA, nw, p_int, p_bl, p_non, p_str, D.plain, plainA, Bool.and_true, Bool.true_and, if_true, Bool.or_false, Bool.false_or, resK, rdS, rdL, bindP, bindPs] at key ⊢
    exact ⟨key.1, key.2.1, by decide, rfl, key.2.2⟩
theorem at0 {a b : D} : atI [a, b] 0 = some a := rfl
theorem at1 {a b : D} : atI [a, b] 1 = some b := rfl
theorem rD_plain (x : Rat) : (rD x).plain = true := rfl
theorem h_plus : specP 2 N_plus.length false m_plus pf_plus := by
  rintro ds R RE hl ⟨x, y, rfl, hx, hy, hR⟩
  simp only [m_plus, N_plus, rD, at0, at1, mSeq, mPar, mSet, mAsg, mWhile, mFor, mIf, mRet, mRetN, mNext, mPut, mDrop, dCons, dNil, dCB, dAbs, dInt, dLen, dVar, dC, slP, dOp, dUn, dNeg, dSub, dAdd, dMul, dMd, dFd, dI, dI0, dCmpI, dLt, dLe, dGt, dGe, dTest, dTestB, dTru, dTup, dLst, dIx, dCallP, dCallI, callIK, dAndV, dOrV, dNotV, dAnd, dOr, dNot, dIf, RH.put, List.length, List.map, List.getElem?_cons_zero, List.getElem?_cons_succ, List.cons_append, List.nil_append, List.append_nil, List.set, Nat.reduceSub, List.replicate, prepA, nw, p_int, p_bl, p_non, p_str, D.plain, plainA, Bool.and_true, Bool.true_and, if_true, Bool.or_false, Bool.false_or, resK, rdS, rdL, bindP, bindPs]
  have dx := smR_den hx
  have dy := smR_den hy
  refine ⟨mulOk hx.1 dy (by decide), mulOk hy.1 dx (by decide), mulOk dx dy (by decide), trivial, _, _, rfl, Int.mul_ne_zero (den0 x) (den0 y), sm_mul dx dy (by decide), fun z => (by cases z), rfl, ?_⟩
  rw [← Rat.divInt_add_divInt _ _ (den0 x) (den0 y), Rat.num_divInt_den, Rat.num_divInt_den]
  exact hR
theorem h_times : specP 2 N_times.length false m_times pf_times := by
  rintro ds R RE hl ⟨x, y, rfl, hx, hy, hR⟩
  simp only [m_times, N_times, rD, at0, at1, mSeq, mPar, mSet, mAsg, mWhile, mFor, mIf, mRet, mRetN, mNext, mPut, mDrop, dCons, dNil, dCB, dAbs, dInt, dLen, dVar, dC, slP, dOp, dUn, dNeg, dSub, dAdd, dMul, dMd, dFd, dI, dI0, dCmpI, dLt, dLe, dGt, dGe, dTest, dTestB, dTru, dTup, dLst, dIx, dCallP, dCallI, callIK, dAndV, dOrV, dNotV, dAnd, dOr, dNot, dIf, RH.put, List.length, List.map, List.getElem?_cons_zero, List.getElem?_cons_succ, List.cons_append, List.nil_append, List.append_nil, List.set, Nat.reduceSub, List.replicate, prepA, nw, p_int, p_bl, p_non, p_str, D.plain, plainA, Bool.and_true, Bool.true_and, if_true, Bool.or_false, Bool.false_or, resK, rdS, rdL, bindP, bindPs]
  have dx := smR_den hx
  have dy := smR_den hy
  refine ⟨mulOk hx.1 hy.1 (by decide), mulOk dx dy (by decide), trivial, _, _, rfl, Int.mul_ne_zero (den0 x) (den0 y), sm_mul dx dy (by decide), fun z => (by cases z), rfl, ?_⟩
  rw [← Rat.divInt_mul_divInt, Rat.num_divInt_den, Rat.num_divInt_den]
  exact hR
theorem h_opposite_of : specP 1 N_opposite_of.length false m_opposite_of pf_opposite_of := by
  rintro ds R RE hl ⟨x, rfl, hR⟩
  simp only [m_opposite_of, N_opposite_of, rD, at0, at1, mSeq, mPar, mSet, mAsg, mWhile, mFor, mIf, mRet, mRetN, mNext, mPut, mDrop, dCons, dNil, dCB, dAbs, dInt, dLen, dVar, dC, slP, dOp, dUn, dNeg, dSub, dAdd, dMul, dMd, dFd, dI, dI0, dCmpI, dLt, dLe, dGt, dGe, dTest, dTestB, dTru, dTup, dLst, dIx, dCallP, dCallI, callIK, dAndV, dOrV, dNotV, dAnd, dOr, dNot, dIf, RH.put, List.length, List.map, List.getElem?_cons_zero, List.getElem?_cons_succ, List.cons_append, List.nil_append, List.append_nil, List.set, Nat.reduceSub, List.replicate, prepA, nw, p_int, p_bl, p_non, p_str, D.plain, plainA, Bool.and_true, Bool.true_and, if_true, Bool.or_false, Bool.false_or, resK, rdS, rdL, bindP, bindPs]
  exact ⟨by decide, rfl, hR⟩
theorem smR_neg {x : Rat} {k : Nat} (h : SmR k x) : SmR k (-x) := ⟨by rw [Rat.neg_num]; exact sm_neg h.1, h.2⟩
theorem h_less : specP 2 N_less.length false m_less pf_less := by
  rintro ds R RE hl ⟨x, y, rfl, hx, hy, hR⟩
  simp only [m_less, N_less, rD, at0, at1, mSeq, mPar, mSet, mAsg, mWhile, mFor, mIf, mRet, mRetN, mNext, mPut, mDrop, dCons, dNil, dCB, dAbs, dInt, dLen, dVar, dC, slP, dOp, dUn, dNeg, dSub, dAdd, dMul, dMd, dFd, dI, dI0, dCmpI, dLt, dLe, dGt, dGe, dTest, dTestB, dTru, dTup, dLst, dIx, dCallP, dCallI, callIK, dAndV, dOrV, dNotV, dAnd, dOr, dNot, dIf, RH.put, List.length, List.map, List.getElem?_cons_zero, List.getElem?_cons_succ, List.cons_append, List.nil_append, List.append_nil, List.set, Nat.reduceSub, List.replicate, prepA, nw, p_int, p_bl, p_non, p_str, D.plain, plainA, Bool.and_true, Bool.true_and, if_true, Bool.or_false, Bool.false_or, resK, rdS, rdL, bindP, bindPs]
  refine ⟨rfl, y, rfl, fun z => (by cases z), ?_⟩
  simp only [rD, at0, at1, p_rD, mSeq, mPar, mSet, mAsg, mWhile, mFor, mIf, mRet, mRetN, mNext, mPut, mDrop, dCons, dNil, dCB, dAbs, dInt, dLen, dVar, dC, slP, dOp, dUn, dNeg, dSub, dAdd, dMul, dMd, dFd, dI, dI0, dCmpI, dLt, dLe, dGt, dGe, dTest, dTestB, dTru, dTup, dLst, dIx, dCallP, dCallI, callIK, dAndV, dOrV, dNotV, dAnd, dOr, dNot, dIf, RH.put, List.length, List.map, List.getElem?_cons_zero, List.getElem?_cons_succ, List.cons_append, List.nil_append, List.append_nil, List.set, Nat.reduceSub, List.replicate, prepA, nw, p_int, p_bl, p_non, p_str, D.plain, plainA, Bool.and_true, Bool.true_and, if_true, Bool.or_false, Bool.false_or, resK, rdS, rdL, bindP, bindPs]
  refine ⟨trivial, x, -y, rfl, hx, smR_neg hy, fun z => (by cases z), rfl, ?_⟩
  rw [← Rat.sub_eq_add_neg]
  exact hR
theorem div_eq (x y : Rat) (hy : y ≠ 0) : Rat.divInt (x.num * y.den) (x.den * y.num) = x / y := by
  have h0 : y.num ≠ 0 := fun z => hy (Rat.num_eq_zero.mp z)
  rw [Rat.div_def]
  conv => rhs; rw [← Rat.num_divInt_den x, ← Rat.num_divInt_den y]
  rw [Rat.inv_divInt, Rat.divInt_mul_divInt]
theorem shap_int (a : Int) : SeqAt.shaped (.int a) = true := rfl
theorem eqv_int (a b : Int) : PyData.eqv (.int a) (.int b) = (a == b) := rfl
theorem h_over (C : Addr) : specP 2 N_over.length false (m_over C) (pf_over C) := by
  rintro ds R RE hl ⟨x, y, rfl, hx, hy, h0, hR⟩
  simp only [m_over, N_over, rD, at0, at1, mRaise, dEq, pyM, D.dat, py, shap_int, eqv_int, mSeq, mPar, mSet, mAsg, mWhile, mFor, mIf, mRet, mRetN, mNext, mPut, mDrop, dCons, dNil, dCB, dAbs, dInt, dLen, dVar, dC, slP, dOp, dUn, dNeg, dSub, dAdd, dMul, dMd, dFd, dI, dI0, dCmpI, dLt, dLe, dGt, dGe, dTest, dTestB, dTru, dTup, dLst, dIx, dCallP, dCallI, callIK, dAndV, dOrV, dNotV, dAnd, dOr, dNot, dIf, RH.put, List.length, List.map, List.getElem?_cons_zero, List.getElem?_cons_succ, List.cons_append, List.nil_append, List.append_nil, List.set, Nat.reduceSub, List.replicate, prepA, nw, p_int, p_bl, p_non, p_str, D.plain, plainA, Bool.and_true, Bool.true_and, if_true, Bool.or_false, Bool.false_or, resK, rdS, rdL, bindP, bindPs]
  refine ⟨⟨trivial, trivial⟩, ?_⟩
  by_cases h : y = 0
  · subst h
    exact ⟨.non, .inr ⟨trivial, rfl⟩, rfl, h0 rfl⟩
  · have hn : y.num ≠ 0 := fun z => h (Rat.num_eq_zero.mp z)
    rw [if_neg (by simpa using hn)]
    have dx := smR_den hx
    have dy := smR_den hy
    refine ⟨mulOk hx.1 dy (by decide), mulOk dx hy.1 (by decide), trivial, _, _, rfl, Int.mul_ne_zero (den0 x) hn, sm_mul dx hy.1 (by decide), fun z => (by cases z), rfl, ?_⟩
    rw [div_eq x y h]
    exact hR h
theorem sign_eq (a : Int) : b2i (decide (0 < a)) - b2i (decide (a < 0)) = a.sign := by
  rcases Int.lt_trichotomy a 0 with h | h | h
  · rw [Int.sign_eq_neg_one_of_neg h]
    simp [b2i, h, Int.not_lt.mpr (Int.le_of_lt h)]
  · subst h; rfl
  · rw [Int.sign_eq_one_of_pos h]
    simp [b2i, h, Int.not_lt.mpr (Int.le_of_lt h)]
theorem h_sign_of : specP 1 N_sign_of.length false m_sign_of pf_sign_of := by
  rintro ds R RE hl ⟨x, rfl, hR⟩
  simp only [m_sign_of, N_sign_of, rD, at0, at1, sign_eq, mSeq, mPar, mSet, mAsg, mWhile, mFor, mIf, mRet, mRetN, mNext, mPut, mDrop, dCons, dNil, dCB, dAbs, dInt, dLen, dVar, dC, slP, dOp, dUn, dNeg, dSub, dAdd, dMul, dMd, dFd, dI, dI0, dCmpI, dLt, dLe, dGt, dGe, dTest, dTestB, dTru, dTup, dLst, dIx, dCallP, dCallI, callIK, dAndV, dOrV, dNotV, dAnd, dOr, dNot, dIf, RH.put, List.length, List.map, List.getElem?_cons_zero, List.getElem?_cons_succ, List.cons_append, List.nil_append, List.append_nil, List.set, Nat.reduceSub, List.replicate, prepA, nw, p_int, p_bl, p_non, p_str, D.plain, plainA, Bool.and_true, Bool.true_and, if_true, Bool.or_false, Bool.false_or, resK, rdS, rdL, bindP, bindPs]
  exact ⟨rfl, hR⟩
theorem h__law_sign : specP 1 N__law_sign.length false m__law_sign pf_sign_of := by
  rintro ds R RE hl ⟨x, rfl, hR⟩
  simp only [m__law_sign, N__law_sign, rD, at0, at1, mSeq, mPar, mSet, mAsg, mWhile, mFor, mIf, mRet, mRetN, mNext, mPut, mDrop, dCons, dNil, dCB, dAbs, dInt, dLen, dVar, dC, slP, dOp, dUn, dNeg, dSub, dAdd, dMul, dMd, dFd, dI, dI0, dCmpI, dLt, dLe, dGt, dGe, dTest, dTestB, dTru, dTup, dLst, dIx, dCallP, dCallI, callIK, dAndV, dOrV, dNotV, dAnd, dOr, dNot, dIf, RH.put, List.length, List.map, List.getElem?_cons_zero, List.getElem?_cons_succ, List.cons_append, List.nil_append, List.append_nil, List.set, Nat.reduceSub, List.replicate, prepA, nw, p_int, p_bl, p_non, p_str, D.plain, plainA, Bool.and_true, Bool.true_and, if_true, Bool.or_false, Bool.false_or, resK, rdS, rdL, bindP, bindPs]
  rw [← sign_eq] at hR
  exact ⟨rfl, hR⟩
theorem h_below : specP 2 N_below.length false m_below pf_below := by
  rintro ds R RE hl ⟨x, y, rfl, hx, hy, hR⟩
  simp only [m_below, N_below, rD, at0, at1, mSeq, mPar, mSet, mAsg, mWhile, mFor, mIf, mRet, mRetN, mNext, mPut, mDrop, dCons, dNil, dCB, dAbs, dInt, dLen, dVar, dC, slP, dOp, dUn, dNeg, dSub, dAdd, dMul, dMd, dFd, dI, dI0, dCmpI, dLt, dLe, dGt, dGe, dTest, dTestB, dTru, dTup, dLst, dIx, dCallP, dCallI, callIK, dAndV, dOrV, dNotV, dAnd, dOr, dNot, dIf, RH.put, List.length, List.map, List.getElem?_cons_zero, List.getElem?_cons_succ, List.cons_append, List.nil_append, List.append_nil, List.set, Nat.reduceSub, List.replicate, prepA, nw, p_int, p_bl, p_non, p_str, D.plain, plainA, Bool.and_true, Bool.true_and, if_true, Bool.or_false, Bool.false_or, resK, rdS, rdL, bindP, bindPs]
  exact ⟨mulOk hx.1 (smR_den hy) (by decide), mulOk hy.1 (smR_den hx) (by decide), rfl, hR⟩
theorem h__law_frac : specP 2 N__law_frac.length false m__law_frac pf_fraction := by
  rintro ds R RE hl ⟨a, b, rfl, hb, hs, hR⟩
  simp only [m__law_frac, N__law_frac, mSeq, mPar, mSet, mAsg, mWhile, mFor, mIf, mRet, mRetN, mNext, mPut, mDrop, dCons, dNil, dCB, dAbs, dInt, dLen, dVar, dC, slP, dOp, dUn, dNeg, dSub, dAdd, dMul, dMd, dFd, dI, dI0, dCmpI, dLt, dLe, dGt, dGe, dTest, dTestB, dTru, dTup, dLst, dIx, dCallP, dCallI, callIK, dAndV, dOrV, dNotV, dAnd, dOr, dNot, dIf, RH.put, List.length, List.map, List.getElem?_cons_zero, List.getElem?_cons_succ, List.cons_append, List.nil_append, List.append_nil, List.set, Nat.reduceSub, List.replicate, prepA, nw, p_int, p_bl, p_non, p_str, D.plain, plainA, Bool.and_true, Bool.true_and, if_true, Bool.or_false, Bool.false_or, resK, rdS, rdL, bindP, bindPs]
  refine ⟨trivial, a, b, rfl, fun z => (by cases z), ?_⟩
  have key := core_fraction (n := 0) hb hs hR
  by_cases h : b < 0
  · simp only [h, decide_true, if_true, mSeq, mPar, mSet, mAsg, mWhile, mFor, mIf, mRet, mRetN, mNext, mPut, mDrop, dCons, dNil, dCB, dAbs, dInt, dLen, dVar, dC, slP, dOp, dUn, dNeg, dSub, dAdd, dMul, dMd, dFd, dI, dI0, dCmpI, dLt, dLe, dGt, dGe, dTest, dTestB, dTru, dTup, dLst, dIx, dCallP, dCallI, callIK, dAndV, dOrV, dNotV, dAnd, dOr, dNot, dIf, RH.put, List.length, List.map, List.getElem?_cons_zero, List.getElem?_cons_succ, List.cons_append, List.nil_append, List.append_nil, List.set, Nat.reduceSub, List.replicate, prepA, nw, p_int, p_bl, p_non, p_str, D.plain, plainA, Bool.and_true, Bool.true_and, if_true, Bool.or_false, Bool.false_or, resK, rdS, rdL, bindP, bindPs] at key ⊢
    exact ⟨key.1, key.2.1, by decide, rfl, key.2.2⟩
  · simp only [h, decide_false, if_false, Bool.false_eq_true, mSeq, mPar, mSet, mAsg, mWhile, mFor, mIf, mRet, mRetN, mNext, mPut, mDrop, dCons, dNil, dCB, dAbs, dInt, dLen, dVar, dC, slP, dOp, dUn, dNeg, dSub, dAdd, dMul, dMd, dFd, dI, dI0, dCmpI, dLt, dLe, dGt, dGe, dTest, dTestB, dTru, dTup, dLst, dIx, dCallP, dCallI, callIK, dAndV, dOrV, dNotV, dAnd, dOr, dNot, dIf, RH.put, List.length, List.map, List.getElem?_cons_zero, List.getElem?_cons_succ, List.cons_append, List.nil_append, List.append_nil, List.set, Nat.reduceSub, List.replicate, prepA, nw, p_int, p_bl, p_non, p_str, D.plain, plainA, Bool.and_true, Bool.true_and, if_true, Bool.or_false, Bool.false_or, resK, rdS, rdL, bindP, bindPs] at key ⊢
    exact ⟨key.1, key.2.1, by decide, rfl, key.2.2⟩
theorem h_is_integer : specP 1 N_is_integer.length false m_is_integer pf_is_integer := by
  rintro ds R RE hl ⟨d, rfl, hd, hR⟩
  cases d <;> (try cases hd) <;> simp only [m_is_integer, N_is_integer, dIsi, tyD, isInt, mSeq, mPar, mSet, mAsg, mWhile, mFor, mIf, mRet, mRetN, mNext, mPut, mDrop, dCons, dNil, dCB, dAbs, dInt, dLen, dVar, dC, slP, dOp, dUn, dNeg, dSub, dAdd, dMul, dMd, dFd, dI, dI0, dCmpI, dLt, dLe, dGt, dGe, dTest, dTestB, dTru, dTup, dLst, dIx, dCallP, dCallI, callIK, dAndV, dOrV, dNotV, dAnd, dOr, dNot, dIf, RH.put, List.length, List.map, List.getElem?_cons_zero, List.getElem?_cons_succ, List.cons_append, List.nil_append, List.append_nil, List.set, Nat.reduceSub, List.replicate, prepA, nw, p_int, p_bl, p_non, p_str, D.plain, plainA, Bool.and_true, Bool.true_and, if_true, Bool.or_false, Bool.false_or, resK, rdS, rdL, bindP, bindPs] <;> (refine ⟨by decide, ?_⟩)
  all_goals first
    | (rw [if_neg (by decide)]; exact ⟨rfl, hR⟩)
    | (rw [if_pos (by decide)]; exact ⟨by decide, rfl, hR⟩)
/-! ### lists that are made -/
theorem lcD_map {i : Nat} {sl0 : SL} {src : List Nat} {M0 M : MH} {me : DE} (g : D → D) (hs : SrcOk src M0 M) : ∀ (ds acc : List D) (R : List D → MH → Prop), (∀ d ∈ ds, ∀ R' : DK, R' (g d) M → me (rB (sl0.set i (some d))) M R') → R (acc ++ ds.map g) M → lcD (.nm i) tYesD me sl0 src M0 ds acc M R
  | [], acc, R, _, h => by simpa [lcD] using h
  | d :: ds, acc, R, hm, h => by
    simp only [lcD, bindP, tYesD, if_true]
    refine hm d (List.mem_cons_self ..) _ ⟨hs, ?_⟩
    refine lcD_map g hs ds (acc ++ [g d]) R (fun d hd => hm d (List.mem_cons_of_mem _ hd)) ?_
    rw [List.append_assoc]
    exact h
theorem h_is_fraction : specP 1 N_is_fraction.length false m_is_fraction pf_is_fraction := by
  rintro ds R RE hl ⟨d, rfl, hd, hR⟩
  cases d with
  | tup ds =>
    match ds, hd, hR with
    | [a, b], hd, hR =>
      have hd' : okV a = true ∧ okV b = true := by simpa [okA] using hd
      have pa : ∀ M, prep1 M a = some (a, false) := fun M => prep1_plain (okV_plain hd'.1)
      have pb : ∀ M, prep1 M b = some (b, false) := fun M => prep1_plain (okV_plain hd'.2)
      simp only [m_is_fraction, N_is_fraction, dIsi, tyD, dNe, pyM, D.dat, py, shap_int, eqv_int, at0, at1, pa, pb, mSeq, mPar, mSet, mAsg, mWhile, mFor, mIf, mRet, mRetN, mNext, mPut, mDrop, dCons, dNil, dCB, dAbs, dInt, dLen, dVar, dC, slP, dOp, dUn, dNeg, dSub, dAdd, dMul, dMd, dFd, dI, dI0, dCmpI, dLt, dLe, dGt, dGe, dTest, dTestB, dTru, dTup, dLst, dIx, dCallP, dCallI, callIK, dAndV, dOrV, dNotV, dAnd, dOr, dNot, dIf, RH.put, List.length, List.map, List.getElem?_cons_zero, List.getElem?_cons_succ, List.cons_append, List.nil_append, List.append_nil, List.set, Nat.reduceSub, List.replicate, prepA, nw, p_int, p_bl, p_non, p_str, D.plain, plainA, Bool.and_true, Bool.true_and, if_true, Bool.or_false, Bool.false_or, resK, rdS, rdL, bindP, bindPs]
      refine ⟨by decide, ?_⟩
      rw [if_neg (by decide)]
      refine ⟨⟨trivial, trivial⟩, ?_⟩
      rw [if_neg (by decide)]
      refine ⟨trivial, a, rfl, hd'.1, fun z => (by cases z), ?_⟩
      by_cases ha : isInt a = true
      · cases a with
        | int i =>
          simp only [isInt, Bool.not_true, Bool.false_eq_true, if_false, mSeq, mPar, mSet, mAsg, mWhile, mFor, mIf, mRet, mRetN, mNext, mPut, mDrop, dCons, dNil, dCB, dAbs, dInt, dLen, dVar, dC, slP, dOp, dUn, dNeg, dSub, dAdd, dMul, dMd, dFd, dI, dI0, dCmpI, dLt, dLe, dGt, dGe, dTest, dTestB, dTru, dTup, dLst, dIx, dCallP, dCallI, callIK, dAndV, dOrV, dNotV, dAnd, dOr, dNot, dIf, RH.put, List.length, List.map, List.getElem?_cons_zero, List.getElem?_cons_succ, List.cons_append, List.nil_append, List.append_nil, List.set, Nat.reduceSub, List.replicate, prepA, nw, p_int, p_bl, p_non, p_str, D.plain, plainA, Bool.and_true, Bool.true_and, if_true, Bool.or_false, Bool.false_or, resK, rdS, rdL, bindP, bindPs]
          refine ⟨trivial, b, rfl, hd'.2, fun z => (by cases z), ?_⟩
          by_cases hb : isInt b = true
          · cases b with
            | int j =>
              simp only [isInt, Bool.not_true, Bool.false_eq_true, if_false, mSeq, mPar, mSet, mAsg, mWhile, mFor, mIf, mRet, mRetN, mNext, mPut, mDrop, dCons, dNil, dCB, dAbs, dInt, dLen, dVar, dC, slP, dOp, dUn, dNeg, dSub, dAdd, dMul, dMd, dFd, dI, dI0, dCmpI, dLt, dLe, dGt, dGe, dTest, dTestB, dTru, dTup, dLst, dIx, dCallP, dCallI, callIK, dAndV, dOrV, dNotV, dAnd, dOr, dNot, dIf, RH.put, List.length, List.map, List.getElem?_cons_zero, List.getElem?_cons_succ, List.cons_append, List.nil_append, List.append_nil, List.set, Nat.reduceSub, List.replicate, prepA, nw, p_int, p_bl, p_non, p_str, D.plain, plainA, Bool.and_true, Bool.true_and, if_true, Bool.or_false, Bool.false_or, resK, rdS, rdL, bindP, bindPs]
              by_cases hj : 0 < j
              · simp only [hj, decide_true, if_true, mSeq, mPar, mSet, mAsg, mWhile, mFor, mIf, mRet, mRetN, mNext, mPut, mDrop, dCons, dNil, dCB, dAbs, dInt, dLen, dVar, dC, slP, dOp, dUn, dNeg, dSub, dAdd, dMul, dMd, dFd, dI, dI0, dCmpI, dLt, dLe, dGt, dGe, dTest, dTestB, dTru, dTup, dLst, dIx, dCallP, dCallI, callIK, dAndV, dOrV, dNotV, dAnd, dOr, dNot, dIf, RH.put, List.length, List.map, List.getElem?_cons_zero, List.getElem?_cons_succ, List.cons_append, List.nil_append, List.append_nil, List.set, Nat.reduceSub, List.replicate, prepA, nw, p_int, p_bl, p_non, p_str, D.plain, plainA, Bool.and_true, Bool.true_and, if_true, Bool.or_false, Bool.false_or, resK, rdS, rdL, bindP, bindPs]
                refine ⟨trivial, i, j, rfl, fun z => (by cases z), ?_⟩
                simp only [dEq, pyM, D.dat, py, shap_int, eqv_int, if_true]
                refine ⟨⟨trivial, trivial⟩, rfl, ?_⟩
                have e : isFr (.tup [.int i, .int j]) = ((Int.gcd i j : Int) == 1) := by
                  simp only [isFr, hj, true_and]
                  by_cases hg : Int.gcd i j = 1
                  · simp [hg]
                  · have : (Int.gcd i j : Int) ≠ 1 := by omega
                    simp [hg, this]
                rw [← e]
                exact hR
              · simp only [hj, decide_false, if_false, Bool.false_eq_true, mSeq, mPar, mSet, mAsg, mWhile, mFor, mIf, mRet, mRetN, mNext, mPut, mDrop, dCons, dNil, dCB, dAbs, dInt, dLen, dVar, dC, slP, dOp, dUn, dNeg, dSub, dAdd, dMul, dMd, dFd, dI, dI0, dCmpI, dLt, dLe, dGt, dGe, dTest, dTestB, dTru, dTup, dLst, dIx, dCallP, dCallI, callIK, dAndV, dOrV, dNotV, dAnd, dOr, dNot, dIf, RH.put, List.length, List.map, List.getElem?_cons_zero, List.getElem?_cons_succ, List.cons_append, List.nil_append, List.append_nil, List.set, Nat.reduceSub, List.replicate, prepA, nw, p_int, p_bl, p_non, p_str, D.plain, plainA, Bool.and_true, Bool.true_and, if_true, Bool.or_false, Bool.false_or, resK, rdS, rdL, bindP, bindPs]
                have e : isFr (.tup [.int i, .int j]) = false := by simp [isFr, hj]
                rw [e] at hR
                exact ⟨rfl, hR⟩
            | _ => cases hb
          · have hb' : isInt b = false := by simpa using hb
            rw [hb']
            simp only [Bool.not_false, if_true, mSeq, mPar, mSet, mAsg, mWhile, mFor, mIf, mRet, mRetN, mNext, mPut, mDrop, dCons, dNil, dCB, dAbs, dInt, dLen, dVar, dC, slP, dOp, dUn, dNeg, dSub, dAdd, dMul, dMd, dFd, dI, dI0, dCmpI, dLt, dLe, dGt, dGe, dTest, dTestB, dTru, dTup, dLst, dIx, dCallP, dCallI, callIK, dAndV, dOrV, dNotV, dAnd, dOr, dNot, dIf, RH.put, List.length, List.map, List.getElem?_cons_zero, List.getElem?_cons_succ, List.cons_append, List.nil_append, List.append_nil, List.set, Nat.reduceSub, List.replicate, prepA, nw, p_int, p_bl, p_non, p_str, D.plain, plainA, Bool.and_true, Bool.true_and, if_true, Bool.or_false, Bool.false_or, resK, rdS, rdL, bindP, bindPs]
            have e : isFr (.tup [.int i, b]) = false := by cases b <;> first | rfl | exact absurd rfl hb
            rw [e] at hR
            exact ⟨rfl, hR⟩
        | _ => cases ha
      · have ha' : isInt a = false := by simpa using ha
        rw [ha']
        simp only [Bool.not_false, if_true, mSeq, mPar, mSet, mAsg, mWhile, mFor, mIf, mRet, mRetN, mNext, mPut, mDrop, dCons, dNil, dCB, dAbs, dInt, dLen, dVar, dC, slP, dOp, dUn, dNeg, dSub, dAdd, dMul, dMd, dFd, dI, dI0, dCmpI, dLt, dLe, dGt, dGe, dTest, dTestB, dTru, dTup, dLst, dIx, dCallP, dCallI, callIK, dAndV, dOrV, dNotV, dAnd, dOr, dNot, dIf, RH.put, List.length, List.map, List.getElem?_cons_zero, List.getElem?_cons_succ, List.cons_append, List.nil_append, List.append_nil, List.set, Nat.reduceSub, List.replicate, prepA, nw, p_int, p_bl, p_non, p_str, D.plain, plainA, Bool.and_true, Bool.true_and, if_true, Bool.or_false, Bool.false_or, resK, rdS, rdL, bindP, bindPs]
        have e : isFr (.tup [a, b]) = false := by cases a <;> first | rfl | exact absurd rfl ha
        rw [e] at hR
        exact ⟨rfl, hR⟩
    | [], hd, hR =>
      simp only [m_is_fraction, N_is_fraction, dIsi, tyD, dNe, pyM, D.dat, py, shap_int, eqv_int, mSeq, mPar, mSet, mAsg, mWhile, mFor, mIf, mRet, mRetN, mNext, mPut, mDrop, dCons, dNil, dCB, dAbs, dInt, dLen, dVar, dC, slP, dOp, dUn, dNeg, dSub, dAdd, dMul, dMd, dFd, dI, dI0, dCmpI, dLt, dLe, dGt, dGe, dTest, dTestB, dTru, dTup, dLst, dIx, dCallP, dCallI, callIK, dAndV, dOrV, dNotV, dAnd, dOr, dNot, dIf, RH.put, List.length, List.map, List.getElem?_cons_zero, List.getElem?_cons_succ, List.cons_append, List.nil_append, List.append_nil, List.set, Nat.reduceSub, List.replicate, prepA, nw, p_int, p_bl, p_non, p_str, D.plain, plainA, Bool.and_true, Bool.true_and, if_true, Bool.or_false, Bool.false_or, resK, rdS, rdL, bindP, bindPs]
      refine ⟨by decide, ?_⟩
      rw [if_neg (by decide)]
      exact ⟨⟨trivial, trivial⟩, by rw [if_pos (by decide)]; exact ⟨rfl, hR⟩⟩
    | [a], hd, hR =>
      simp only [m_is_fraction, N_is_fraction, dIsi, tyD, dNe, pyM, D.dat, py, shap_int, eqv_int, mSeq, mPar, mSet, mAsg, mWhile, mFor, mIf, mRet, mRetN, mNext, mPut, mDrop, dCons, dNil, dCB, dAbs, dInt, dLen, dVar, dC, slP, dOp, dUn, dNeg, dSub, dAdd, dMul, dMd, dFd, dI, dI0, dCmpI, dLt, dLe, dGt, dGe, dTest, dTestB, dTru, dTup, dLst, dIx, dCallP, dCallI, callIK, dAndV, dOrV, dNotV, dAnd, dOr, dNot, dIf, RH.put, List.length, List.map, List.getElem?_cons_zero, List.getElem?_cons_succ, List.cons_append, List.nil_append, List.append_nil, List.set, Nat.reduceSub, List.replicate, prepA, nw, p_int, p_bl, p_non, p_str, D.plain, plainA, Bool.and_true, Bool.true_and, if_true, Bool.or_false, Bool.false_or, resK, rdS, rdL, bindP, bindPs]
      refine ⟨by decide, ?_⟩
      rw [if_neg (by decide)]
      have e : isFr (.tup [a]) = false := by cases a <;> rfl
      rw [e] at hR
      exact ⟨⟨trivial, trivial⟩, by rw [if_pos (by decide)]; exact ⟨rfl, hR⟩⟩
    | a :: b :: c :: r, hd, hR =>
      simp only [m_is_fraction, N_is_fraction, dIsi, tyD, dNe, pyM, D.dat, py, shap_int, eqv_int, mSeq, mPar, mSet, mAsg, mWhile, mFor, mIf, mRet, mRetN, mNext, mPut, mDrop, dCons, dNil, dCB, dAbs, dInt, dLen, dVar, dC, slP, dOp, dUn, dNeg, dSub, dAdd, dMul, dMd, dFd, dI, dI0, dCmpI, dLt, dLe, dGt, dGe, dTest, dTestB, dTru, dTup, dLst, dIx, dCallP, dCallI, callIK, dAndV, dOrV, dNotV, dAnd, dOr, dNot, dIf, RH.put, List.length, List.map, List.getElem?_cons_zero, List.getElem?_cons_succ, List.cons_append, List.nil_append, List.append_nil, List.set, Nat.reduceSub, List.replicate, prepA, nw, p_int, p_bl, p_non, p_str, D.plain, plainA, Bool.and_true, Bool.true_and, if_true, Bool.or_false, Bool.false_or, resK, rdS, rdL, bindP, bindPs]
      refine ⟨by decide, ?_⟩
      rw [if_neg (by decide)]
      have e : isFr (.tup (a :: b :: c :: r)) = false := by cases a <;> cases b <;> rfl
      rw [e] at hR
      refine ⟨⟨trivial, trivial⟩, ?_⟩
      rw [if_pos (by simp; omega)]
      exact ⟨rfl, hR⟩
  | _ =>
    first
      | (simp only [m_is_fraction, N_is_fraction, dIsi, tyD, dNe, pyM, D.dat, py, shap_int, eqv_int, mSeq, mPar, mSet, mAsg, mWhile, mFor, mIf, mRet, mRetN, mNext, mPut, mDrop, dCons, dNil, dCB, dAbs, dInt, dLen, dVar, dC, slP, dOp, dUn, dNeg, dSub, dAdd, dMul, dMd, dFd, dI, dI0, dCmpI, dLt, dLe, dGt, dGe, dTest, dTestB, dTru, dTup, dLst, dIx, dCallP, dCallI, callIK, dAndV, dOrV, dNotV, dAnd, dOr, dNot, dIf, RH.put, List.length, List.map, List.getElem?_cons_zero, List.getElem?_cons_succ, List.cons_append, List.nil_append, List.append_nil, List.set, Nat.reduceSub, List.replicate, prepA, nw, p_int, p_bl, p_non, p_str, D.plain, plainA, Bool.and_true, Bool.true_and, if_true, Bool.or_false, Bool.false_or, resK, rdS, rdL, bindP, bindPs]
         refine ⟨by decide, ?_⟩
         rw [if_pos (by decide)]
         exact ⟨rfl, hR⟩)
      | (exact absurd hd (by decide))
      | (cases hd; done)
theorem truA_bl : ∀ bs : List Bool, truA (bs.map D.bl) = some bs
  | [] => rfl
  | b :: bs => by
    simp only [List.map, truA, truA_bl bs]
    rfl
theorem all_map (ds : List D) : (ds.map isFr).all id = ds.all isFr := by
  induction ds with
  | nil => rfl
  | cons d ds ih => simp [List.all_cons, ih]
theorem okA_plain {d : D} (h : okA d = true) : D.plain d = true := by
  cases d with
  | tup ds =>
    have h' : ds.all okV = true := h
    show plainA ds = true
    clear h
    induction ds with
    | nil => rfl
    | cons d ds ih =>
      rw [List.all_cons, Bool.and_eq_true] at h'
      show (D.plain d && plainA ds) = true
      rw [okV_plain h'.1, ih h'.2]; rfl
  | _ => first
    | rfl
    | exact h
    | cases h
theorem h_is_point : specP 2 N_is_point.length false m_is_point pf_is_point := by
  rintro ds R RE hl ⟨d, n, rfl, hd, hR⟩
  cases d with
  | tup ds =>
    have hd' : ds.length ≤ 1000 ∧ ds.all okA = true := by simpa [okP] using hd
    simp only [m_is_point, N_is_point, dIsi, tyD, dEq, pyM, D.dat, py, shap_int, eqv_int, dLc, dSeq, wipeD, dAny, mSeq, mPar, mSet, mAsg, mWhile, mFor, mIf, mRet, mRetN, mNext, mPut, mDrop, dCons, dNil, dCB, dAbs, dInt, dLen, dVar, dC, slP, dOp, dUn, dNeg, dSub, dAdd, dMul, dMd, dFd, dI, dI0, dCmpI, dLt, dLe, dGt, dGe, dTest, dTestB, dTru, dTup, dLst, dIx, dCallP, dCallI, callIK, dAndV, dOrV, dNotV, dAnd, dOr, dNot, dIf, RH.put, List.length, List.map, List.getElem?_cons_zero, List.getElem?_cons_succ, List.cons_append, List.nil_append, List.append_nil, List.set, Nat.reduceSub, List.replicate, prepA, nw, p_int, p_bl, p_non, p_str, D.plain, plainA, Bool.and_true, Bool.true_and, if_true, Bool.or_false, Bool.false_or, resK, rdS, rdL, bindP, bindPs]
    refine ⟨by decide, ?_⟩
    rw [if_pos (by decide)]
    refine ⟨⟨trivial, trivial⟩, ?_⟩
    by_cases hn : (ds.length : Int) = n
    · rw [if_pos (by simpa using hn)]
      refine ⟨by have : (1000 : Nat) ≤ sizeLine := by decide
                 omega, ?_⟩
      refine lcD_map (fun d => .bl (isFr d)) (fun _ h => by cases h) ds [] _ (fun d hd2 R' hR' => ?_) ?_
      · have ho : okA d = true := List.all_eq_true.mp hd'.2 d hd2
        simp only [rB, prep1_plain (okA_plain ho), mSeq, mPar, mSet, mAsg, mWhile, mFor, mIf, mRet, mRetN, mNext, mPut, mDrop, dCons, dNil, dCB, dAbs, dInt, dLen, dVar, dC, slP, dOp, dUn, dNeg, dSub, dAdd, dMul, dMd, dFd, dI, dI0, dCmpI, dLt, dLe, dGt, dGe, dTest, dTestB, dTru, dTup, dLst, dIx, dCallP, dCallI, callIK, dAndV, dOrV, dNotV, dAnd, dOr, dNot, dIf, RH.put, List.length, List.map, List.getElem?_cons_zero, List.getElem?_cons_succ, List.cons_append, List.nil_append, List.append_nil, List.set, Nat.reduceSub, List.replicate, prepA, nw, p_int, p_bl, p_non, p_str, D.plain, plainA, Bool.and_true, Bool.true_and, if_true, Bool.or_false, Bool.false_or, resK, rdS, rdL, bindP, bindPs]
        exact ⟨trivial, d, rfl, ho, fun z => (by cases z), hR'⟩
      · simp only [nw, List.nil_append]
        have e : ds.map (fun d => D.bl (isFr d)) = (ds.map isFr).map D.bl := by rw [List.map_map]; rfl
        rw [e, truA_bl]
        simp only [all_map]
        have e2 : isPt (.tup ds) n = ds.all isFr := by simp [isPt, hn]
        rw [e2] at hR
        exact ⟨rfl, hR⟩
    · rw [if_neg (by simpa using hn)]
      have e2 : isPt (.tup ds) n = false := by simp [isPt, hn]
      rw [e2] at hR
      exact ⟨rfl, hR⟩
  | _ =>
    first
      | (simp only [m_is_point, N_is_point, dIsi, tyD, mSeq, mPar, mSet, mAsg, mWhile, mFor, mIf, mRet, mRetN, mNext, mPut, mDrop, dCons, dNil, dCB, dAbs, dInt, dLen, dVar, dC, slP, dOp, dUn, dNeg, dSub, dAdd, dMul, dMd, dFd, dI, dI0, dCmpI, dLt, dLe, dGt, dGe, dTest, dTestB, dTru, dTup, dLst, dIx, dCallP, dCallI, callIK, dAndV, dOrV, dNotV, dAnd, dOr, dNot, dIf, RH.put, List.length, List.map, List.getElem?_cons_zero, List.getElem?_cons_succ, List.cons_append, List.nil_append, List.append_nil, List.set, Nat.reduceSub, List.replicate, prepA, nw, p_int, p_bl, p_non, p_str, D.plain, plainA, Bool.and_true, Bool.true_and, if_true, Bool.or_false, Bool.false_or, resK, rdS, rdL, bindP, bindPs]
         refine ⟨by decide, ?_⟩
         rw [if_neg (by decide)]
         exact ⟨rfl, hR⟩)
      | (exact absurd hd (by decide))
      | (cases hd; done)
/-! ### the law's own -/
mutual
theorem short1 : ∀ p : PyData, p.showable = true → p.intsShort 1921 = true
  | .none, _ => rfl
  | .bool _, _ => rfl
  | .str _, _ => rfl
  | .dict _, _ => rfl
  | .int i, h => by
    have h1 : i.natAbs.log2 < 1920 := by simpa [PyData.showable] using h
    have h2 := int_text_length_le (a := i) (k := 1920) (by decide) h1
    unfold PyData.intsShort
    refine decide_eq_true ?_
    show (PySem.Str.ofString (toString i)).length ≤ 1921
    have e : (PySem.Str.ofString (toString i)).length = (toString i).length := PySem.ofString_length _
    omega
  | .list xs, h => shortA xs h
  | .tuple xs, h => shortA xs h
theorem shortA : ∀ xs : List PyData, PyData.showableAll xs = true → PyData.intsShortAll 1921 xs = true
  | [], _ => rfl
  | x :: xs, h => by
    have h' : (x.showable && PyData.showableAll xs) = true := h
    rw [Bool.and_eq_true] at h'
    show (x.intsShort 1921 && PyData.intsShortAll 1921 xs) = true
    rw [short1 x h'.1, shortA xs h'.2]; rfl
end
theorem shown_ok {n b : Nat} {d : D} (h : Gd n b d) (hb : b ≤ 8000) : (py d).shown.length ≤ sizeLine := by
  have h1 := PyData.shown_le_bulk 1921 (by decide) (py d) (PyData.leavesShort_of_canLay0 1921 _ h.lay (short1 _ h.sho))
  have h2 : (1921 + 2) * (py d).bulk ≤ (1921 + 2) * 8000 := Nat.mul_le_mul_left _ (Nat.le_trans h.blk hb)
  have : (1921 + 2) * 8000 + 1921 ≤ sizeLine := by decide
  omega
theorem pyM_dat {M : MH} {d : D} (h : d.dat = true) : pyM M d = some (py d) := by
  cases d <;> first
    | rfl
    | (cases h; done)
    | (simp only [pyM]; rw [if_pos h])
theorem Gd.shap {n b : Nat} {d : D} (h : Gd n b d) (hn : n ≤ 64) : SeqAt.shaped (py d) = true := by
  unfold SeqAt.shaped
  rw [h.lay, Bool.true_and]
  exact decide_eq_true (Nat.le_trans h.dep hn)
theorem Gd.refl {n b : Nat} {d : D} (h : Gd n b d) : (py d).eqv (py d) = true := SeqAt.eqv_refl _ h.lay
theorem dEq_of {d e : D} {M : MH} {R : DK} {b : Bool} (hd : d.dat = true) (he : e.dat = true) (h1 : SeqAt.shaped (py d) = true) (h2 : SeqAt.shaped (py e) = true) (hb : (py d).eqv (py e) = b) (h : R (.bl b) M) : dEq d e M R := by
  unfold dEq
  split
  · rename_i x y
    have e1 : decide (x = y) = b := by
      rw [← hb]
      show decide (x = y) = (x == y)
      rw [Bool.eq_iff_iff]
      simp
    rw [e1]
    exact h
  · rw [pyM_dat hd, pyM_dat he]
    exact ⟨⟨h1, h2⟩, by rw [hb]; exact h⟩
theorem h__law_is : specP 2 N__law_is.length false m__law_is pf__law_is := by
  rintro ds R RE hl ⟨d, e, rfl, hd, he, h⟩
  simp only [m__law_is, N__law_is, mSeq, mPar, mSet, mAsg, mWhile, mFor, mIf, mRet, mRetN, mNext, mPut, mDrop, dCons, dNil, dCB, dAbs, dInt, dLen, dVar, dC, slP, dOp, dUn, dNeg, dSub, dAdd, dMul, dMd, dFd, dI, dI0, dCmpI, dLt, dLe, dGt, dGe, dTest, dTestB, dTru, dTup, dLst, dIx, dCallP, dCallI, callIK, dAndV, dOrV, dNotV, dAnd, dOr, dNot, dIf, RH.put, List.length, List.map, List.getElem?_cons_zero, List.getElem?_cons_succ, List.cons_append, List.nil_append, List.append_nil, List.set, Nat.reduceSub, List.replicate, prepA, nw, p_int, p_bl, p_non, p_str, D.plain, plainA, Bool.and_true, Bool.true_and, if_true, Bool.or_false, Bool.false_or, resK, rdS, rdL, bindP, bindPs]
  rcases h with ⟨rfl, h⟩ | ⟨h1, h⟩
  · refine dEq_of hd.dat he.dat (hd.shap (by decide)) (he.shap (by decide)) hd.refl ?_
    simp only [dRepr, pyM_dat hd.dat, dEq, mSeq, mPar, mSet, mAsg, mWhile, mFor, mIf, mRet, mRetN, mNext, mPut, mDrop, dCons, dNil, dCB, dAbs, dInt, dLen, dVar, dC, slP, dOp, dUn, dNeg, dSub, dAdd, dMul, dMd, dFd, dI, dI0, dCmpI, dLt, dLe, dGt, dGe, dTest, dTestB, dTru, dTup, dLst, dIx, dCallP, dCallI, callIK, dAndV, dOrV, dNotV, dAnd, dOr, dNot, dIf, RH.put, List.length, List.map, List.getElem?_cons_zero, List.getElem?_cons_succ, List.cons_append, List.nil_append, List.append_nil, List.set, Nat.reduceSub, List.replicate, prepA, nw, p_int, p_bl, p_non, p_str, D.plain, plainA, Bool.and_true, Bool.true_and, if_true, Bool.or_false, Bool.false_or, resK, rdS, rdL, bindP, bindPs]
    exact ⟨⟨hd.sho, hd.shap (by decide), shown_ok hd (by decide)⟩, ⟨hd.sho, hd.shap (by decide), shown_ok hd (by decide)⟩, rfl, h⟩
  · refine dEq_of hd.dat he.dat (hd.shap (by decide)) (he.shap (by decide)) h1 ?_
    simp only [mSeq, mPar, mSet, mAsg, mWhile, mFor, mIf, mRet, mRetN, mNext, mPut, mDrop, dCons, dNil, dCB, dAbs, dInt, dLen, dVar, dC, slP, dOp, dUn, dNeg, dSub, dAdd, dMul, dMd, dFd, dI, dI0, dCmpI, dLt, dLe, dGt, dGe, dTest, dTestB, dTru, dTup, dLst, dIx, dCallP, dCallI, callIK, dAndV, dOrV, dNotV, dAnd, dOr, dNot, dIf, RH.put, List.length, List.map, List.getElem?_cons_zero, List.getElem?_cons_succ, List.cons_append, List.nil_append, List.append_nil, List.set, Nat.reduceSub, List.replicate, prepA, nw, p_int, p_bl, p_non, p_str, D.plain, plainA, Bool.and_true, Bool.true_and, if_true, Bool.or_false, Bool.false_or, resK, rdS, rdL, bindP, bindPs]
    exact ⟨rfl, h⟩
theorem a50 {a b c d e : D} : atI [a, b, c, d, e] 0 = some a := rfl
theorem a51 {a b c d e : D} : atI [a, b, c, d, e] 1 = some b := rfl
theorem a52 {a b c d e : D} : atI [a, b, c, d, e] 2 = some c := rfl
theorem a53 {a b c d e : D} : atI [a, b, c, d, e] 3 = some d := rfl
theorem a54 {a b c d e : D} : atI [a, b, c, d, e] 4 = some e := rfl
theorem u50 {a b c d e v : D} {nx : MH → Prop} : DL.putK 0 0 v [.lst [a, b, c, d, e]] nx = nx [.lst [v, b, c, d, e]] := rfl
theorem u51 {a b c d e v : D} {nx : MH → Prop} : DL.putK 0 1 v [.lst [a, b, c, d, e]] nx = nx [.lst [a, v, c, d, e]] := rfl
theorem u54 {a b c d e v : D} {nx : MH → Prop} : DL.putK 0 4 v [.lst [a, b, c, d, e]] nx = nx [.lst [a, b, c, d, v]] := rfl
theorem atI_map {ns : List Int} {p : Int} (h0 : 0 ≤ p) (h1 : p < ns.length) : ∃ z, atI (ns.map D.int) p = some (.int z) := by
  obtain ⟨n, rfl⟩ := Int.eq_ofNat_of_zero_le h0
  have hn : n < ns.length := by omega
  refine ⟨ns[n], ?_⟩
  unfold atI ixN
  rw [List.length_map, if_pos h0, if_pos h1]
  simp [hn]
theorem cp_i {a b : Int} {R : DK} {M : MH} : dEq (.int a) (.int b) M R = (((true = true) ∧ (true = true)) ∧ R (.bl (a == b)) M) := rfl
theorem mulK {a k : Int} (h : Sm 60 k) : IntMulOk a k := by
  unfold IntMulOk
  have : Builtin.Int.intBits k ≤ 60 := bits_le h
  have e : decide (Builtin.Int.intBits k > shortFactorBits) = false := decide_eq_false (by unfold shortFactorBits; omega)
  rw [e, Bool.and_false, Bool.false_and]
  simp
theorem mulK' {a k : Int} (h : Sm 60 k) : IntMulOk k a := by
  unfold IntMulOk
  have : Builtin.Int.intBits k ≤ 60 := bits_le h
  have e : decide (Builtin.Int.intBits k > shortFactorBits) = false := decide_eq_false (by unfold shortFactorBits; omega)
  rw [e, Bool.false_and, Bool.false_and]
  simp
theorem fmod_sm {a m : Int} (h0 : 0 < m) (h : m ≤ 1099511627776) : Sm 40 (a.fmod m) := by
  unfold Sm
  rw [Int.fmod_eq_emod_of_nonneg _ (by omega)]
  have h1 := Int.emod_nonneg a (show m ≠ 0 by omega)
  have h2 := Int.emod_lt_of_pos a h0
  omega
theorem fin_draw {h p s c b : Int} {ns : List Int} {R : D → List D → Prop} (hb : 0 < b) (sb : Sm 8000 b) (hp : 0 ≤ p) (hpl : plainA (dk h p s ns c) = true) (hR : ∀ (v : Int) (dk1 : List D), 0 ≤ v → v < b → Dk dk1 → R (.int v) dk1) :
    b ≠ 0 ∧ CFd h b ∧ endI R (.int (h.fmod b)) [.lst (dk (h.fdiv b) p s ns c)] := by
  refine ⟨by omega, cfd (by omega) (sm_mono sb (by decide)), rfl, hpl, ?_⟩
  refine hR _ _ ?_ ?_ ⟨_, _, _, _, _, rfl, hp⟩
  · rw [Int.fmod_eq_emod_of_nonneg _ (by omega)]; exact Int.emod_nonneg _ (by omega)
  · rw [Int.fmod_eq_emod_of_nonneg _ (by omega)]; exact Int.emod_lt_of_pos _ hb
theorem h__law_draw : specI 2 N__law_draw.length m__law_draw pf__law_draw := by
  rintro dk0 ds R hl hpl ⟨b, rfl, hb, sb, ⟨h, p, s, ns, c, rfl, hp⟩, hR⟩
  have pl : ∀ h p s c, plainA (dk h p s ns c) = true := fun _ _ _ _ => hpl
  simp only [m__law_draw, N__law_draw, dk, cp_i, a50, a51, a52, a53, a54, u50, u51, u54, mSeq, mPar, mSet, mAsg, mWhile, mFor, mIf, mRet, mRetN, mNext, mPut, mDrop, dCons, dNil, dCB, dAbs, dInt, dLen, dVar, dC, slP, dOp, dUn, dNeg, dSub, dAdd, dMul, dMd, dFd, dI, dI0, dCmpI, dLt, dLe, dGt, dGe, dTest, dTestB, dTru, dTup, dLst, dIx, dCallP, dCallI, callIK, dAndV, dOrV, dNotV, dAnd, dOr, dNot, dIf, RH.put, List.length, List.map, List.getElem?_cons_zero, List.getElem?_cons_succ, List.cons_append, List.nil_append, List.append_nil, List.set, Nat.reduceSub, List.replicate, prepA, nw, p_int, p_bl, p_non, p_str, D.plain, plainA, Bool.and_true, Bool.true_and, if_true, Bool.or_false, Bool.false_or, resK, rdS, rdL, bindP, bindPs]
  refine ⟨⟨trivial, trivial⟩, ?_⟩
  have fin : ∀ h p s c, 0 ≤ p → b ≠ 0 ∧ CFd h b ∧ endI R (.int (h.fmod b)) [.lst (dk (h.fdiv b) p s ns c)] := fun h p s c hp => fin_draw hb sb hp (pl _ _ _ _) hR
  by_cases h0 : h = 0
  · rw [if_pos (by simpa using h0)]
    by_cases h1 : p < ns.length
    · rw [if_pos (by rw [List.length_map]; exact decide_eq_true h1)]
      obtain ⟨z, hz⟩ := atI_map hp h1
      simp only [hz, a50, a51, a52, a53, a54, u50, u51, u54, mSeq, mPar, mSet, mAsg, mWhile, mFor, mIf, mRet, mRetN, mNext, mPut, mDrop, dCons, dNil, dCB, dAbs, dInt, dLen, dVar, dC, slP, dOp, dUn, dNeg, dSub, dAdd, dMul, dMd, dFd, dI, dI0, dCmpI, dLt, dLe, dGt, dGe, dTest, dTestB, dTru, dTup, dLst, dIx, dCallP, dCallI, callIK, dAndV, dOrV, dNotV, dAnd, dOr, dNot, dIf, RH.put, List.length, List.map, List.getElem?_cons_zero, List.getElem?_cons_succ, List.cons_append, List.nil_append, List.append_nil, List.set, Nat.reduceSub, List.replicate, prepA, nw, p_int, p_bl, p_non, p_str, D.plain, plainA, Bool.and_true, Bool.true_and, if_true, Bool.or_false, Bool.false_or, resK, rdS, rdL, bindP, bindPs]
      exact fin _ (p + 1) s c (by omega)
    · rw [if_neg (by rw [List.length_map]; simpa using h1)]
      refine ⟨⟨trivial, trivial⟩, ?_⟩
      rw [if_pos (by simpa using h0)]
      refine ⟨mulK (by decide), mulK (by decide), by decide, mulOk (n := 40) (m := 40) (fmod_sm (by decide) (by decide)) (fmod_sm (by decide) (by decide)) (by decide), mulK' (by decide), by decide, mulOk (n := 40) (m := 40) (fmod_sm (by decide) (by decide)) (fmod_sm (by decide) (by decide)) (by decide), mulK' (by decide), by decide, cfd (by decide) (sm_mono (a := 13) (n := 10) (by decide) (by decide)), ?_⟩
      exact fin _ p s (c + 1) hp
  · rw [if_neg (by simpa using h0), if_neg (by decide)]
    refine ⟨⟨trivial, trivial⟩, ?_⟩
    rw [if_neg (by simpa using h0)]
    exact fin h p s c hp
theorem h__law_deck : specP 1 N__law_deck.length true m__law_deck pf__law_deck := by
  rintro ds R RE hl ⟨ns, rfl, hn, h⟩
  have loop : ∀ (E : DEnds) (ms : List Int) (r : RH) (s : Int), r.sl.length = 3 → r.sl[0]? = some (some (.scr (ns.map D.int))) → r.sl[1]? = some (some (.int s)) →
      (∀ r' : RH, r'.sl.length = 3 → r'.sl[0]? = some (some (.scr (ns.map D.int))) → (∃ s, r'.sl[1]? = some (some (.int s))) → E.nx r' []) →
      forD (.nm 2) (mSet 1 (dOp dMd (dCB dInt (dCons (dOp (dAdd true) (dOp (dMul true) (dVar 1) (dC (.int 48271))) (dVar 2)) (dNil))) (dC (.int 2147483647)))) E [] [] (ms.map D.int) r [] := by
    intro E ms
    induction ms with
    | nil =>
      intro r s h1 h2 h3 hE
      exact hE r h1 h2 ⟨s, h3⟩
    | cons m ms ih =>
      intro r s h1 h2 h3 hE
      have g1 : (r.sl.set 2 (some (D.int m)))[1]? = some (some (.int s)) := by rw [List.getElem?_set_ne (by decide)]; exact h3
      have g2 : (r.sl.set 2 (some (D.int m)))[2]? = some (some (.int m)) := by rw [List.getElem?_set_self (by omega)]
      simp only [List.map, forD, bindP, mSet, dOp, dMd, dI, dCB, dInt, dCons, dNil, dAdd, dMul, dVar, dC, g1, g2]
      refine ⟨mulK (by decide), by decide, fun _ z => (by cases z), ?_⟩
      refine ih _ ((s * 48271 + m).fmod 2147483647) (by simp [RH.put, h1]) ?_ ?_ hE
      · simp only [RH.put]
        rw [List.getElem?_set_ne (by decide), List.getElem?_set_ne (by decide)]; exact h2
      · simp only [RH.put]
        rw [List.getElem?_set_self (by simp [h1])]
  simp only [m__law_deck, N__law_deck, dSeq, dList, nw, mSeq, mPar, mSet, mAsg, mWhile, mFor, mIf, mRet, mRetN, mNext, mPut, mDrop, dCons, dNil, dCB, dAbs, dInt, dLen, dVar, dC, slP, dOp, dUn, dNeg, dSub, dAdd, dMul, dMd, dFd, dI, dI0, dCmpI, dLt, dLe, dGt, dGe, dTest, dTestB, dTru, dTup, dLst, dIx, dCallP, dCallI, callIK, dAndV, dOrV, dNotV, dAnd, dOr, dNot, dIf, RH.put, List.length, List.map, List.getElem?_cons_zero, List.getElem?_cons_succ, List.cons_append, List.nil_append, List.append_nil, List.set, Nat.reduceSub, List.replicate, prepA, nw, p_int, p_bl, p_non, p_str, D.plain, plainA, Bool.and_true, Bool.true_and, if_true, Bool.or_false, Bool.false_or, resK, rdS, rdL, bindP, bindPs]
  refine loop _ ns _ 7 rfl rfl rfl ?_
  intro r' h1 h2 ⟨s, h3⟩
  simp only [h2, h3, mSeq, mPar, mSet, mAsg, mWhile, mFor, mIf, mRet, mRetN, mNext, mPut, mDrop, dCons, dNil, dCB, dAbs, dInt, dLen, dVar, dC, slP, dOp, dUn, dNeg, dSub, dAdd, dMul, dMd, dFd, dI, dI0, dCmpI, dLt, dLe, dGt, dGe, dTest, dTestB, dTru, dTup, dLst, dIx, dCallP, dCallI, callIK, dAndV, dOrV, dNotV, dAnd, dOr, dNot, dIf, RH.put, List.length, List.map, List.getElem?_cons_zero, List.getElem?_cons_succ, List.cons_append, List.nil_append, List.append_nil, List.set, Nat.reduceSub, List.replicate, prepA, nw, p_int, p_bl, p_non, p_str, D.plain, plainA, Bool.and_true, Bool.true_and, if_true, Bool.or_false, Bool.false_or, resK, rdS, rdL, bindP, bindPs]
  refine ⟨by decide, ?_⟩
  have pl : plainA (dk 0 0 s ns 0) = true := by
    have : ∀ ns : List Int, plainA (ns.map D.int) = true := fun ns => by
      induction ns with
      | nil => rfl
      | cons n ns ih => exact ih
    show (plainA (ns.map D.int) && true) = true
    rw [this]; rfl
  exact ⟨pl, h _ ⟨0, 0, s, ns, 0, rfl, by decide⟩⟩
end NU

set_option Elab.async false
set_option linter.all false
set_option maxRecDepth 100000
set_option maxHeartbeats 8000000
namespace NU
open PySem PySem.Spec PyProof.Rows L2 DL


/-! ### the plain law of primitive -/
def lcmS (s : Int) (q : Rat) : Int := s.fdiv (Int.gcd s q.den) * q.den
theorem lcmS_ok {s : Int} (q : Rat) (hs : 0 < s) : 0 < lcmS s q ∧ s ∣ lcmS s q ∧ (q.den : Int) ∣ lcmS s q ∧ lcmS s q ≤ s * q.den := by
  have hd : (0 : Int) < q.den := by have := q.den_pos; omega
  have gs : (Int.gcd s q.den : Int) ∣ s := Int.gcd_dvd_left ..
  have gd : (Int.gcd s q.den : Int) ∣ q.den := Int.gcd_dvd_right ..
  have g0 : (0 : Int) < Int.gcd s q.den := by
    have : 0 < Int.gcd s q.den := Int.gcd_pos_of_ne_zero_left _ (by omega)
    omega
  have e : s.fdiv (Int.gcd s q.den) = s / (Int.gcd s q.den) := Int.fdiv_eq_ediv_of_dvd gs
  obtain ⟨t, ht⟩ := gs
  obtain ⟨u, hu⟩ := gd
  have e2 : s / (Int.gcd s q.den) = t := by
    conv => lhs; lhs; rw [ht]
    exact Int.mul_ediv_cancel_left _ (by omega)
  have ht0 : 0 < t := by
    rw [ht] at hs
    exact Int.pos_of_mul_pos_right hs g0 |> fun h => h
  unfold lcmS
  rw [e, e2]
  refine ⟨Int.mul_pos ht0 hd, ⟨u, ?_⟩, Int.dvd_mul_left .., ?_⟩
  · conv => lhs; rw [hu]
    conv => rhs; rw [ht]
    rw [Int.mul_left_comm, Int.mul_assoc]
  · refine Int.mul_le_mul_of_nonneg_right ?_ (by omega)
    rw [ht]
    have := Int.mul_le_mul_of_nonneg_right (show (1 : Int) ≤ Int.gcd s q.den by omega) (show 0 ≤ t by omega)
    omega
theorem lcm_fold : ∀ (qs : List Rat) (s : Int) (n : Nat), 0 < s → Sm n s → (∀ q ∈ qs, q.den < 2 ^ 110) → 0 < qs.foldl lcmS s ∧ s ∣ qs.foldl lcmS s ∧ (∀ q ∈ qs, (q.den : Int) ∣ qs.foldl lcmS s) ∧ Sm (n + 110 * qs.length) (qs.foldl lcmS s)
  | [], s, n, hs, hn, _ => ⟨hs, Int.dvd_refl _, fun q hq => (by cases hq), hn⟩
  | q :: qs, s, n, hs, hn, hq => by
    obtain ⟨h1, h2, h3, h4⟩ := lcmS_ok q hs
    have hd := hq q (List.mem_cons_self ..)
    have hn2 : Sm (n + 110) (lcmS s q) := by
      have : Sm (n + 110) (s * q.den) := sm_mul hn (show Sm 110 (q.den : Int) by unfold Sm; rw [Int.natAbs_natCast]; exact hd) (Nat.le_refl _)
      unfold Sm at this ⊢
      omega
    obtain ⟨g1, g2, g3, g4⟩ := lcm_fold qs (lcmS s q) (n + 110) h1 hn2 fun q hq2 => hq q (List.mem_cons_of_mem _ hq2)
    refine ⟨g1, Int.dvd_trans h2 g2, fun p hp => ?_, ?_⟩
    · rcases List.mem_cons.mp hp with rfl | hp
      · exact Int.dvd_trans h3 g2
      · exact g3 p hp
    · have e : n + 110 + 110 * qs.length = n + 110 * (q :: qs).length := by rw [List.length_cons]; omega
      rw [← e]
      exact g4
def gcdS (s i : Int) : Int := Int.gcd s i
theorem gcd_fold : ∀ (is : List Int) (s : Int), is.foldl gcdS s ∣ s ∧ (∀ i ∈ is, is.foldl gcdS s ∣ i) ∧ (0 ≤ s → 0 ≤ is.foldl gcdS s) ∧ ∀ d, d ∣ s → (∀ i ∈ is, d ∣ i) → d ∣ is.foldl gcdS s
  | [], s => ⟨Int.dvd_refl _, fun i hi => (by cases hi), fun h => h, fun d h _ => h⟩
  | i :: is, s => by
    obtain ⟨h1, h2, h3, h4⟩ := gcd_fold is (gcdS s i)
    have a : gcdS s i ∣ s := Int.gcd_dvd_left ..
    have b : gcdS s i ∣ i := Int.gcd_dvd_right ..
    refine ⟨Int.dvd_trans h1 a, fun j hj => ?_, fun _ => h3 (by unfold gcdS; omega), fun d hd hi => h4 d ?_ fun j hj => hi j (List.mem_cons_of_mem _ hj)⟩
    · rcases List.mem_cons.mp hj with rfl | hj
      · exact Int.dvd_trans h1 b
      · exact h2 j hj
    · exact Int.dvd_coe_gcd hd (hi i (List.mem_cons_self ..))
def Lq (qs : List Rat) : Int := qs.foldl lcmS 1
def itq (qs : List Rat) (q : Rat) : Int := q.num * (Lq qs).fdiv q.den
def gq (qs : List Rat) : Int := (qs.map (itq qs)).foldl gcdS 0
theorem prim_eq (qs : List Rat) : prim qs = qs.map fun q => (itq qs q).fdiv (gq qs) := by
  show ((qs.map (itq qs)).map fun i => i.fdiv (gq qs)) = _
  rw [List.map_map]
  rfl
theorem Lq_ok {qs : List Rat} (hl : qs.length ≤ 40) (hq : ∀ x ∈ qs, SmR 110 x) : 0 < Lq qs ∧ (∀ q ∈ qs, (q.den : Int) ∣ Lq qs) ∧ Sm 4401 (Lq qs) := by
  obtain ⟨h1, _, h3, h4⟩ := lcm_fold qs 1 1 (by decide) (by decide) fun q h => (hq q h).2
  exact ⟨h1, h3, sm_mono h4 (by omega)⟩
/-- L over a denominator -/
theorem Lq_div {qs : List Rat} (hl : qs.length ≤ 40) (hq : ∀ x ∈ qs, SmR 110 x) {q : Rat} (h : q ∈ qs) : ∃ t : Int, 0 < t ∧ Lq qs = q.den * t ∧ (Lq qs).fdiv q.den = t := by
  obtain ⟨h1, h2, _⟩ := Lq_ok hl hq
  obtain ⟨t, ht⟩ := h2 q h
  have hd : (0 : Int) < q.den := by have := q.den_pos; omega
  refine ⟨t, ?_, ht, ?_⟩
  · rw [ht] at h1
    exact Int.pos_of_mul_pos_right h1 hd
  · rw [Int.fdiv_eq_ediv_of_dvd ⟨t, ht⟩, ht]
    exact Int.mul_ediv_cancel_left _ (by omega)
theorem itq_ok {qs : List Rat} (hl : qs.length ≤ 40) (hq : ∀ x ∈ qs, SmR 110 x) {q : Rat} (h : q ∈ qs) : Sm 4600 ((Lq qs).fdiv q.den) ∧ Sm 4800 (itq qs q) ∧ (itq qs q = 0 ↔ q = 0) := by
  obtain ⟨t, t0, e1, e2⟩ := Lq_div hl hq h
  obtain ⟨_, _, hs⟩ := Lq_ok hl hq
  have hd : (0 : Int) < q.den := by have := q.den_pos; omega
  have st : Sm 4401 t := by
    rw [e1] at hs
    have : t ≤ q.den * t := by
      have := Int.mul_le_mul_of_nonneg_right (show (1 : Int) ≤ q.den by omega) (show 0 ≤ t by omega)
      omega
    unfold Sm at *
    omega
  unfold itq
  rw [e2]
  refine ⟨sm_mono st (by decide), sm_mul (hq q h).1 st (by decide), ?_⟩
  rw [Int.mul_eq_zero, Rat.num_eq_zero]
  constructor
  · rintro (h | h)
    · exact h
    · omega
  · exact .inl
theorem gq_ok {qs : List Rat} (hl : qs.length ≤ 40) (hq : ∀ x ∈ qs, SmR 110 x) (hz : ∃ x ∈ qs, x ≠ 0) : 0 < gq qs ∧ Sm 4800 (gq qs) ∧ ∀ q ∈ qs, gq qs ∣ itq qs q := by
  obtain ⟨x, hx, x0⟩ := hz
  obtain ⟨_, h2, h3, _⟩ := gcd_fold (qs.map (itq qs)) 0
  have hd : gq qs ∣ itq qs x := h2 _ (List.mem_map_of_mem hx)
  have n0 : itq qs x ≠ 0 := fun z => x0 ((itq_ok hl hq hx).2.2.mp z)
  have p : 0 ≤ gq qs := h3 (by decide)
  have g0 : gq qs ≠ 0 := fun z => by
    rw [z] at hd
    exact n0 (Int.zero_dvd.mp hd)
  refine ⟨by omega, ?_, fun q hq2 => h2 _ (List.mem_map_of_mem hq2)⟩
  have := Int.natAbs_dvd_natAbs.mpr hd
  have := Nat.le_of_dvd (by omega) this
  have s := (itq_ok hl hq hx).2.1
  unfold Sm at *
  omega
/-- a comprehension over what stands for xs -/
theorem lcD_enc {α : Type} {i : Nat} {sl0 : SL} {src : List Nat} {M0 M : MH} {me : DE} (enc f : α → D) (hs : SrcOk src M0 M) : ∀ (xs : List α) (acc : List D) (R : List D → MH → Prop), (∀ x ∈ xs, ∀ R' : DK, R' (f x) M → me (rB (sl0.set i (some (enc x)))) M R') → R (acc ++ xs.map f) M → lcD (.nm i) tYesD me sl0 src M0 (xs.map enc) acc M R
  | [], acc, R, _, h => by simpa [lcD] using h
  | x :: xs, acc, R, hm, h => by
    simp only [lcD, bindP, tYesD, if_true, List.map]
    refine hm x (List.mem_cons_self ..) _ ⟨hs, ?_⟩
    refine lcD_enc enc f hs xs (acc ++ [f x]) R (fun x hx => hm x (List.mem_cons_of_mem _ hx)) ?_
    rw [List.append_assoc]
    exact h
theorem h_primitive : specP 1 N_primitive.length false m_primitive pf_primitive := by
  rintro ds R RE hl ⟨qs, rfl, hn, hq, hz, hR⟩
  have loop1 : ∀ (E : DEnds) (ps : List Rat) (a0 a2 a3 a4 : Option D) (ex) (s : Int) (n : Nat), 0 < s → Sm n s → n + 110 * ps.length ≤ 6000 → (∀ p ∈ ps, p.den < 2 ^ 110) →
      (∀ a2, E.nx { sl := [a0, some (.int (ps.foldl lcmS s)), a2, a3, a4], ex := ex } []) →
      forD (.nm 2) (mSet 1 (dOp (dMul true) (dOp dFd (dVar 1) (dCallP 2 pf_common false true [] (dCons (dVar 1) (dCons (dOp dIx (dVar 2) (dC (.int 1))) (dNil))))) (dOp dIx (dVar 2) (dC (.int 1))))) E [] [] (ps.map rD) { sl := [a0, some (.int s), a2, a3, a4], ex := ex } [] := by
    intro E ps
    induction ps with
    | nil => intro a0 a2 a3 a4 ex s n _ _ _ _ hE; exact hE a2
    | cons p ps ih =>
      intro a0 a2 a3 a4 ex s n s0 hs hb hp hE
      obtain ⟨g1, g2⟩ := gcd_sm (a := s) (b := p.den) (k := 110) (den0 p) (by unfold Sm; rw [Int.natAbs_natCast]; exact hp p (List.mem_cons_self ..))
      obtain ⟨l1, l2, l3, l4⟩ := lcmS_ok p s0
      have hdp : Sm 110 (p.den : Int) := by unfold Sm; rw [Int.natAbs_natCast]; exact hp p (List.mem_cons_self ..)
      simp only [forD, rD, at0, at1, mSeq, mPar, mSet, mAsg, mWhile, mFor, mIf, mRet, mRetN, mNext, mPut, mDrop, dCons, dNil, dCB, dAbs, dInt, dLen, dVar, dC, slP, dOp, dUn, dNeg, dSub, dAdd, dMul, dMd, dFd, dI, dI0, dCmpI, dLt, dLe, dGt, dGe, dTest, dTestB, dTru, dTup, dLst, dIx, dCallP, dCallI, callIK, dAndV, dOrV, dNotV, dAnd, dOr, dNot, dIf, RH.put, List.length, List.map, List.getElem?_cons_zero, List.getElem?_cons_succ, List.cons_append, List.nil_append, List.append_nil, List.set, Nat.reduceSub, List.replicate, prepA, nw, p_int, p_bl, p_non, p_str, D.plain, plainA, Bool.and_true, Bool.true_and, if_true, Bool.or_false, Bool.false_or, resK, rdS, rdL, bindP, bindPs]
      refine ⟨trivial, _, _, rfl, fun z => (by cases z), cfd g2 (sm_mono g1 (by decide)), ?_, fun _ z => (by cases z), ?_⟩
      · have : Sm 6000 (s.fdiv (Int.gcd s p.den)) := by
          have gs : (Int.gcd s p.den : Int) ∣ s := Int.gcd_dvd_left ..
          have e : (s.fdiv (Int.gcd s p.den)).natAbs ≤ s.natAbs := by
            rw [Int.fdiv_eq_ediv_of_dvd gs]
            exact Int.natAbs_ediv_le_natAbs ..
          have s6 := sm_mono hs (show n ≤ 6000 by omega)
          unfold Sm at *
          omega
        exact mulOk this hdp (by decide)
      · have hn2 : Sm (n + 110) (lcmS s p) := by
          have : Sm (n + 110) (s * p.den) := sm_mul hs hdp (Nat.le_refl _)
          unfold Sm at this ⊢
          omega
        refine ih a0 _ a3 a4 ex (lcmS s p) (n + 110) l1 hn2 ?_ (fun p hp2 => hp p (List.mem_cons_of_mem _ hp2)) hE
        rw [List.length_cons] at hb
        omega
  have loop2 : ∀ (E : DEnds) (is : List Int) (a0 a1 a2 a3 : Option D) (ex) (s : Int),
      (∀ a2, E.nx { sl := [a0, a1, a2, a3, some (.int (is.foldl gcdS s))], ex := ex } []) →
      forD (.nm 2) (mSet 4 (dCallP 2 pf_common false true [] (dCons (dVar 4) (dCons (dVar 2) (dNil))))) E [] [] (is.map D.int) { sl := [a0, a1, a2, a3, some (.int s)], ex := ex } [] := by
    intro E is
    induction is with
    | nil => intro a0 a1 a2 a3 ex s hE; exact hE a2
    | cons i is ih =>
      intro a0 a1 a2 a3 ex s hE
      simp only [forD, mSeq, mPar, mSet, mAsg, mWhile, mFor, mIf, mRet, mRetN, mNext, mPut, mDrop, dCons, dNil, dCB, dAbs, dInt, dLen, dVar, dC, slP, dOp, dUn, dNeg, dSub, dAdd, dMul, dMd, dFd, dI, dI0, dCmpI, dLt, dLe, dGt, dGe, dTest, dTestB, dTru, dTup, dLst, dIx, dCallP, dCallI, callIK, dAndV, dOrV, dNotV, dAnd, dOr, dNot, dIf, RH.put, List.length, List.map, List.getElem?_cons_zero, List.getElem?_cons_succ, List.cons_append, List.nil_append, List.append_nil, List.set, Nat.reduceSub, List.replicate, prepA, nw, p_int, p_bl, p_non, p_str, D.plain, plainA, Bool.and_true, Bool.true_and, if_true, Bool.or_false, Bool.false_or, resK, rdS, rdL, bindP, bindPs]
      exact ⟨trivial, _, _, rfl, fun z => (by cases z), fun _ z => (by cases z), ih a0 a1 _ a3 ex (gcdS s i) hE⟩
  obtain ⟨L0, Ld, Ls⟩ := Lq_ok hn hq
  obtain ⟨G0, Gs, Gd⟩ := gq_ok hn hq hz
  have sz : ∀ n, n ≤ 40 → n ≤ sizeLine := fun n h => by
    have : 40 ≤ sizeLine := by decide
    omega
  simp only [m_primitive, N_primitive, dSeq, mSeq, mPar, mSet, mAsg, mWhile, mFor, mIf, mRet, mRetN, mNext, mPut, mDrop, dCons, dNil, dCB, dAbs, dInt, dLen, dVar, dC, slP, dOp, dUn, dNeg, dSub, dAdd, dMul, dMd, dFd, dI, dI0, dCmpI, dLt, dLe, dGt, dGe, dTest, dTestB, dTru, dTup, dLst, dIx, dCallP, dCallI, callIK, dAndV, dOrV, dNotV, dAnd, dOr, dNot, dIf, RH.put, List.length, List.map, List.getElem?_cons_zero, List.getElem?_cons_succ, List.cons_append, List.nil_append, List.append_nil, List.set, Nat.reduceSub, List.replicate, prepA, nw, p_int, p_bl, p_non, p_str, D.plain, plainA, Bool.and_true, Bool.true_and, if_true, Bool.or_false, Bool.false_or, resK, rdS, rdL, bindP, bindPs]
  refine loop1 _ qs _ _ _ _ _ 1 1 (by decide) (by decide) (by omega) (fun p hp => (hq p hp).2) fun a2 => ?_
  simp only [dLc, dSeq, wipeD, mSeq, mPar, mSet, mAsg, mWhile, mFor, mIf, mRet, mRetN, mNext, mPut, mDrop, dCons, dNil, dCB, dAbs, dInt, dLen, dVar, dC, slP, dOp, dUn, dNeg, dSub, dAdd, dMul, dMd, dFd, dI, dI0, dCmpI, dLt, dLe, dGt, dGe, dTest, dTestB, dTru, dTup, dLst, dIx, dCallP, dCallI, callIK, dAndV, dOrV, dNotV, dAnd, dOr, dNot, dIf, RH.put, List.length, List.map, List.getElem?_cons_zero, List.getElem?_cons_succ, List.cons_append, List.nil_append, List.append_nil, List.set, Nat.reduceSub, List.replicate, prepA, nw, p_int, p_bl, p_non, p_str, D.plain, plainA, Bool.and_true, Bool.true_and, if_true, Bool.or_false, Bool.false_or, resK, rdS, rdL, bindP, bindPs]
  refine ⟨by rw [List.length_map]; exact sz _ hn, ?_⟩
  refine lcD_enc rD (fun q => .int (itq qs q)) (fun _ h => by cases h) qs [] _ (fun q hq2 R' hR' => ?_) ?_
  · obtain ⟨i1, i2, i3⟩ := itq_ok hn hq hq2
    simp only [rB, rD, at0, at1, mSeq, mPar, mSet, mAsg, mWhile, mFor, mIf, mRet, mRetN, mNext, mPut, mDrop, dCons, dNil, dCB, dAbs, dInt, dLen, dVar, dC, slP, dOp, dUn, dNeg, dSub, dAdd, dMul, dMd, dFd, dI, dI0, dCmpI, dLt, dLe, dGt, dGe, dTest, dTestB, dTru, dTup, dLst, dIx, dCallP, dCallI, callIK, dAndV, dOrV, dNotV, dAnd, dOr, dNot, dIf, RH.put, List.length, List.map, List.getElem?_cons_zero, List.getElem?_cons_succ, List.cons_append, List.nil_append, List.append_nil, List.set, Nat.reduceSub, List.replicate, prepA, nw, p_int, p_bl, p_non, p_str, D.plain, plainA, Bool.and_true, Bool.true_and, if_true, Bool.or_false, Bool.false_or, resK, rdS, rdL, bindP, bindPs]
    exact ⟨cfd (den0 q) (sm_mono (smR_den (hq q hq2)) (by decide)), mulOk (hq q hq2).1 i1 (by decide), hR'⟩
  · have e : (qs.map fun q => D.int (itq qs q)) = (qs.map (itq qs)).map D.int := by rw [List.map_map]; rfl
    simp only [nw, e, mSeq, mPar, mSet, mAsg, mWhile, mFor, mIf, mRet, mRetN, mNext, mPut, mDrop, dCons, dNil, dCB, dAbs, dInt, dLen, dVar, dC, slP, dOp, dUn, dNeg, dSub, dAdd, dMul, dMd, dFd, dI, dI0, dCmpI, dLt, dLe, dGt, dGe, dTest, dTestB, dTru, dTup, dLst, dIx, dCallP, dCallI, callIK, dAndV, dOrV, dNotV, dAnd, dOr, dNot, dIf, RH.put, List.length, List.map, List.getElem?_cons_zero, List.getElem?_cons_succ, List.cons_append, List.nil_append, List.append_nil, List.set, Nat.reduceSub, List.replicate, prepA, nw, p_int, p_bl, p_non, p_str, D.plain, plainA, Bool.and_true, Bool.true_and, if_true, Bool.or_false, Bool.false_or, resK, rdS, rdL, bindP, bindPs]
    refine loop2 _ (qs.map (itq qs)) _ _ _ _ _ 0 fun a2 => ?_
    simp only [mSeq, mPar, mSet, mAsg, mWhile, mFor, mIf, mRet, mRetN, mNext, mPut, mDrop, dCons, dNil, dCB, dAbs, dInt, dLen, dVar, dC, slP, dOp, dUn, dNeg, dSub, dAdd, dMul, dMd, dFd, dI, dI0, dCmpI, dLt, dLe, dGt, dGe, dTest, dTestB, dTru, dTup, dLst, dIx, dCallP, dCallI, callIK, dAndV, dOrV, dNotV, dAnd, dOr, dNot, dIf, RH.put, List.length, List.map, List.getElem?_cons_zero, List.getElem?_cons_succ, List.cons_append, List.nil_append, List.append_nil, List.set, Nat.reduceSub, List.replicate, prepA, nw, p_int, p_bl, p_non, p_str, D.plain, plainA, Bool.and_true, Bool.true_and, if_true, Bool.or_false, Bool.false_or, resK, rdS, rdL, bindP, bindPs]
    refine ⟨by rw [List.length_map, List.length_map]; exact sz _ hn, ?_⟩
    rw [List.map_map]
    refine lcD_enc (D.int ∘ itq qs) (fun q => .int ((itq qs q).fdiv (gq qs))) (fun _ h => by cases h) qs [] _ (fun q hq2 R' hR' => ?_) ?_
    · simp only [rB, Function.comp, mSeq, mPar, mSet, mAsg, mWhile, mFor, mIf, mRet, mRetN, mNext, mPut, mDrop, dCons, dNil, dCB, dAbs, dInt, dLen, dVar, dC, slP, dOp, dUn, dNeg, dSub, dAdd, dMul, dMd, dFd, dI, dI0, dCmpI, dLt, dLe, dGt, dGe, dTest, dTestB, dTru, dTup, dLst, dIx, dCallP, dCallI, callIK, dAndV, dOrV, dNotV, dAnd, dOr, dNot, dIf, RH.put, List.length, List.map, List.getElem?_cons_zero, List.getElem?_cons_succ, List.cons_append, List.nil_append, List.append_nil, List.set, Nat.reduceSub, List.replicate, prepA, nw, p_int, p_bl, p_non, p_str, D.plain, plainA, Bool.and_true, Bool.true_and, if_true, Bool.or_false, Bool.false_or, resK, rdS, rdL, bindP, bindPs]
      exact ⟨cfd (by have := G0; unfold gq at this; omega) (sm_mono Gs (by decide)), hR'⟩
    · have e2 : ([] ++ qs.map fun q => D.int ((itq qs q).fdiv (gq qs))) = (prim qs).map D.int := by
        rw [prim_eq, List.map_map]; rfl
      simp only [nw, e2]
      have pl : ∀ is : List Int, plainA (is.map D.int) = true := fun is => by
        induction is with
        | nil => rfl
        | cons n ns ih => exact ih
      exact ⟨pl _, hR⟩
end NU

set_option Elab.async false
set_option linter.all false
set_option maxRecDepth 100000
set_option maxHeartbeats 8000000
namespace NU
open PySem PySem.Spec PyProof.Rows L2 DL


/-! ### what is compared -/
structure GA (n b : Nat) (ds : List D) : Prop where
  dat : datA ds = true
  lay : PyData.canLayAll0 (pyA ds) = true
  dep : PyData.depthAll (pyA ds) ≤ n
  sho : PyData.showableAll (pyA ds) = true
  blk : PyData.bulkAll (pyA ds) ≤ b
theorem gA_nil {n b : Nat} : GA n b [] := ⟨rfl, rfl, Nat.zero_le _, rfl, Nat.zero_le _⟩
theorem gA_cons {n b b' : Nat} {d : D} {ds : List D} (h : Gd n b d) (g : GA n b' ds) : GA n (b + 1 + b') (d :: ds) := by
  refine ⟨?_, ?_, ?_, ?_, ?_⟩
  · show (D.dat d && datA ds) = true
    rw [h.dat, g.dat]; rfl
  · show ((py d).canLay0 && PyData.canLayAll0 (pyA ds)) = true
    rw [h.lay, g.lay]; rfl
  · exact Nat.max_le.mpr ⟨h.dep, g.dep⟩
  · show ((py d).showable && PyData.showableAll (pyA ds)) = true
    rw [h.sho, g.sho]; rfl
  · have h1 := h.blk
    have h2 := g.blk
    show (py d).bulk + 1 + PyData.bulkAll (pyA ds) ≤ _
    omega
theorem g_tup {n b : Nat} {ds : List D} (g : GA n b ds) : Gd (n + 1) b (.tup ds) := ⟨g.dat, g.lay, Nat.add_le_add_right g.dep 1, g.sho, g.blk⟩
theorem g_lst {n b : Nat} {ds : List D} (g : GA n b ds) : Gd (n + 1) b (.lst ds) := ⟨g.dat, g.lay, Nat.add_le_add_right g.dep 1, g.sho, g.blk⟩
theorem Gd.mono {n b n' b' : Nat} {d : D} (h : Gd n b d) (h1 : n ≤ n') (h2 : b ≤ b') : Gd n' b' d := ⟨h.dat, h.lay, Nat.le_trans h.dep h1, h.sho, Nat.le_trans h.blk h2⟩
theorem g_int {n b : Nat} {i : Int} (h : Sm 1900 i) : Gd n b (.int i) := by
  refine ⟨rfl, rfl, Nat.zero_le _, decide_eq_true ?_, Nat.zero_le _⟩
  by_cases h0 : i.natAbs = 0
  · rw [h0]; decide
  · exact Nat.lt_trans ((Nat.log2_lt h0).mpr h) (by decide)
theorem g_bl {n b : Nat} {i : Bool} : Gd n b (.bl i) := ⟨rfl, rfl, Nat.zero_le _, rfl, Nat.zero_le _⟩
theorem g_non {n b : Nat} : Gd n b .non := ⟨rfl, rfl, Nat.zero_le _, rfl, Nat.zero_le _⟩
theorem g_rD {x : Rat} (h : SmR 1900 x) : Gd 1 2 (rD x) := g_tup (gA_cons (b := 0) (g_int h.1) (gA_cons (b := 0) (b' := 0) (g_int (smR_den h)) gA_nil))
theorem gA_map {α : Type} {f : α → D} {n b : Nat} : ∀ (xs : List α), (∀ x ∈ xs, Gd n b (f x)) → GA n ((b + 1) * xs.length) (xs.map f)
  | [], _ => gA_nil
  | x :: xs, h => by
    have e : (b + 1) * (x :: xs).length = b + 1 + (b + 1) * xs.length := by rw [List.length_cons, Nat.mul_succ]; omega
    rw [e]
    exact gA_cons (h x (List.mem_cons_self ..)) (gA_map xs fun y hy => h y (List.mem_cons_of_mem _ hy))
theorem smR_mono {x : Rat} {n k : Nat} (h : SmR n x) (l : n ≤ k) : SmR k x := ⟨sm_mono h.1 l, Nat.lt_of_lt_of_le h.2 (Nat.pow_le_pow_right (by decide) l)⟩
mutual
theorem dat_plain : ∀ {d : D}, d.dat = true → d.plain = true
  | .non, _ => rfl
  | .bl _, _ => rfl
  | .int _, _ => rfl
  | .str _, _ => rfl
  | .tup ds, h => datA_plain (ds := ds) h
  | .lst ds, h => datA_plain (ds := ds) h
  | .scr ds, h => datA_plain (ds := ds) h
  | .loc _, h => by cases h
  | .ty _, h => by cases h
  | .cls _, h => by cases h
  | .kt ds, h => datA_plain (ds := ds) h
  | .ins _ _ _, h => by cases h
  | .err _ _ _, h => by cases h
  | .dct _ _, h => by cases h
theorem datA_plain : ∀ {ds : List D}, datA ds = true → plainA ds = true
  | [], _ => rfl
  | d :: ds, h => by
    have h' : (D.dat d && datA ds) = true := h
    rw [Bool.and_eq_true] at h'
    show (D.plain d && plainA ds) = true
    rw [dat_plain h'.1, datA_plain h'.2]; rfl
end
theorem smR_divInt {a b : Int} {k : Nat} (hb : b ≠ 0) (ha : Sm k a) (sb : Sm k b) : SmR k (Rat.divInt a b) := by
  obtain ⟨e1, e2⟩ := frac_num (a := a) hb
  have key : ∀ c : Int, (c.fdiv (if b < 0 then -(Int.gcd a b : Int) else (Int.gcd a b : Int))).natAbs ≤ c.natAbs ∨ ¬ ((if b < 0 then -(Int.gcd a b : Int) else (Int.gcd a b : Int)) ∣ c) := fun c => by
    by_cases hd : (if b < 0 then -(Int.gcd a b : Int) else (Int.gcd a b : Int)) ∣ c
    · rw [Int.fdiv_eq_ediv_of_dvd hd]
      exact .inl (Int.natAbs_ediv_le_natAbs ..)
    · exact .inr hd
  have ga : (if b < 0 then -(Int.gcd a b : Int) else (Int.gcd a b : Int)) ∣ a := by
    split
    · exact Int.neg_dvd.mpr (Int.gcd_dvd_left ..)
    · exact Int.gcd_dvd_left ..
  have gb : (if b < 0 then -(Int.gcd a b : Int) else (Int.gcd a b : Int)) ∣ b := by
    split
    · exact Int.neg_dvd.mpr (Int.gcd_dvd_right ..)
    · exact Int.gcd_dvd_right ..
  constructor
  · rw [← e1]
    rcases key a with h | h
    · unfold Sm at *; omega
    · exact absurd ga h
  · have : ((Rat.divInt a b).den : Int).natAbs ≤ b.natAbs := by
      rw [← e2]
      rcases key b with h | h
      · exact h
      · exact absurd gb h
    rw [Int.natAbs_natCast] at this
    unfold Sm at sb
    omega
/-! ### primitive rows -/
theorem prim_len (qs : List Rat) : (prim qs).length = qs.length := by rw [prim_eq, List.length_map]
theorem prim_mul {qs : List Rat} (hl : qs.length ≤ 40) (hq : ∀ x ∈ qs, SmR 110 x) (hz : ∃ x ∈ qs, x ≠ 0) {q : Rat} (h : q ∈ qs) : (itq qs q).fdiv (gq qs) * gq qs = itq qs q ∧ itq qs q * q.den = q.num * Lq qs := by
  obtain ⟨g0, _, gd⟩ := gq_ok hl hq hz
  obtain ⟨t, t0, e1, e2⟩ := Lq_div hl hq h
  refine ⟨?_, ?_⟩
  · rw [Int.fdiv_eq_ediv_of_dvd (gd q h)]
    exact Int.ediv_mul_cancel (gd q h)
  · unfold itq
    rw [e2, e1, Int.mul_assoc, Int.mul_comm t]
theorem prim_gcd {qs : List Rat} (hl : qs.length ≤ 40) (hq : ∀ x ∈ qs, SmR 110 x) (hz : ∃ x ∈ qs, x ≠ 0) : (prim qs).foldl gcdS 0 = 1 := by
  obtain ⟨g0, _, gd⟩ := gq_ok hl hq hz
  obtain ⟨_, h2, h3, _⟩ := gcd_fold (prim qs) 0
  obtain ⟨_, _, _, k4⟩ := gcd_fold (qs.map (itq qs)) 0
  have key : (prim qs).foldl gcdS 0 * gq qs ∣ gq qs := by
    refine k4 _ (Int.dvd_zero _) fun i hi => ?_
    obtain ⟨q, hq2, rfl⟩ := List.mem_map.mp hi
    rw [← (prim_mul hl hq hz hq2).1]
    refine Int.mul_dvd_mul (h2 _ ?_) (Int.dvd_refl _)
    rw [prim_eq]
    exact List.mem_map_of_mem hq2
  have h1 : (prim qs).foldl gcdS 0 ∣ 1 := by
    obtain ⟨c, hc⟩ := key
    refine ⟨c, ?_⟩
    have : gq qs * ((prim qs).foldl gcdS 0 * c) = gq qs * 1 := by
      rw [Int.mul_one]
      conv => rhs; rw [hc]
      rw [Int.mul_left_comm, ← Int.mul_assoc]
    exact (Int.eq_of_mul_eq_mul_left (by omega) this).symm
  have := h3 (by decide)
  exact Int.eq_one_of_dvd_one this h1
theorem prim_sign {qs : List Rat} (hl : qs.length ≤ 40) (hq : ∀ x ∈ qs, SmR 110 x) (hz : ∃ x ∈ qs, x ≠ 0) {q : Rat} (h : q ∈ qs) : 0 < (itq qs q).fdiv (gq qs) ↔ 0 < q.num := by
  obtain ⟨g0, _, _⟩ := gq_ok hl hq hz
  obtain ⟨L0, _, _⟩ := Lq_ok hl hq
  obtain ⟨e1, e2⟩ := prim_mul hl hq hz h
  have hd : (0 : Int) < q.den := by have := q.den_pos; omega
  constructor
  · intro hp
    have h1 : 0 < itq qs q := by rw [← e1]; exact Int.mul_pos hp g0
    have h2 : 0 < q.num * Lq qs := by rw [← e2]; exact Int.mul_pos h1 hd
    exact Int.pos_of_mul_pos_left h2 L0
  · intro hp
    have h2 : 0 < itq qs q * q.den := by rw [e2]; exact Int.mul_pos hp L0
    have h1 : 0 < itq qs q := Int.pos_of_mul_pos_left h2 hd
    rw [← e1] at h1
    exact Int.pos_of_mul_pos_left h1 g0
theorem prim_cross {qs : List Rat} (hl : qs.length ≤ 40) (hq : ∀ x ∈ qs, SmR 110 x) (hz : ∃ x ∈ qs, x ≠ 0) {p q : Rat} (hp : p ∈ qs) (h : q ∈ qs) :
    (itq qs p).fdiv (gq qs) * q.num * p.den = (itq qs q).fdiv (gq qs) * p.num * q.den := by
  obtain ⟨g0, _, _⟩ := gq_ok hl hq hz
  obtain ⟨e1, e2⟩ := prim_mul hl hq hz h
  obtain ⟨f1, f2⟩ := prim_mul hl hq hz hp
  have key : ∀ A B : Int, A * gq qs = itq qs p → B * gq qs = itq qs q → A * q.num * p.den = B * p.num * q.den := by
    intro A B f1 e1
    apply Int.eq_of_mul_eq_mul_left (show gq qs ≠ 0 by omega)
    have l1 : gq qs * (A * q.num * p.den) = itq qs p * p.den * q.num := by rw [← f1]; simp only [Int.mul_assoc, Int.mul_comm, Int.mul_left_comm]
    have l2 : gq qs * (B * p.num * q.den) = itq qs q * q.den * p.num := by rw [← e1]; simp only [Int.mul_assoc, Int.mul_comm, Int.mul_left_comm]
    rw [l1, l2, e2, f2]
    simp only [Int.mul_assoc, Int.mul_comm, Int.mul_left_comm]
  exact key _ _ f1 e1
end NU

set_option Elab.async false
set_option linter.all false
set_option maxRecDepth 100000
set_option maxHeartbeats 8000000
namespace NU
open PySem PySem.Spec PyProof.Rows L2 DL

/-! ### calls as the reading meets them -/
theorem rD_inj {x y : Rat} (h : rD x = rD y) : x = y := by
  unfold rD at h
  simp only [D.tup.injEq, List.cons.injEq, D.int.injEq, and_true] at h
  exact Rat.ext h.1 (by omega)
theorem rD_eq {x y : Rat} : rD x = rD y ↔ x = y := ⟨rD_inj, fun h => by rw [h]⟩
theorem rD_int (n : Int) : rD (n : Rat) = .tup [.int n, .int 1] := rfl
theorem p_R' {M : MH} {x : Rat} : prep1 M (rD x) = some (rD x, false) := rfl
section
variable {x y : Rat} {a b : Int} {R : D → Prop} {RE : Addr → D → Str → Prop}
theorem c_common : pf_common [.int a, .int b] R RE ↔ R (.int (Int.gcd a b)) := by
  constructor
  · rintro ⟨a', b', e, h⟩
    simp only [List.cons.injEq, D.int.injEq, and_true] at e
    obtain ⟨rfl, rfl⟩ := e
    exact h
  · exact fun h => ⟨a, b, rfl, h⟩
theorem c_fraction : pf_fraction [.int a, .int b] R RE ↔ (b ≠ 0 ∧ Sm 4000 b) ∧ R (rD (Rat.divInt a b)) := by
  constructor
  · rintro ⟨a', b', e, h1, h2, h⟩
    simp only [List.cons.injEq, D.int.injEq, and_true] at e
    obtain ⟨rfl, rfl⟩ := e
    exact ⟨⟨h1, h2⟩, h⟩
  · exact fun h => ⟨a, b, rfl, h.1.1, h.1.2, h.2⟩
theorem c_plus : pf_plus [rD x, rD y] R RE ↔ (SmR 1000 x ∧ SmR 1000 y) ∧ R (rD (x + y)) := by
  constructor
  · rintro ⟨x', y', e, h1, h2, h⟩
    simp only [List.cons.injEq, rD_eq, and_true] at e
    obtain ⟨rfl, rfl⟩ := e
    exact ⟨⟨h1, h2⟩, h⟩
  · exact fun h => ⟨x, y, rfl, h.1.1, h.1.2, h.2⟩
theorem c_less : pf_less [rD x, rD y] R RE ↔ (SmR 1000 x ∧ SmR 1000 y) ∧ R (rD (x - y)) := by
  constructor
  · rintro ⟨x', y', e, h1, h2, h⟩
    simp only [List.cons.injEq, rD_eq, and_true] at e
    obtain ⟨rfl, rfl⟩ := e
    exact ⟨⟨h1, h2⟩, h⟩
  · exact fun h => ⟨x, y, rfl, h.1.1, h.1.2, h.2⟩
theorem c_times : pf_times [rD x, rD y] R RE ↔ (SmR 1000 x ∧ SmR 1000 y) ∧ R (rD (x * y)) := by
  constructor
  · rintro ⟨x', y', e, h1, h2, h⟩
    simp only [List.cons.injEq, rD_eq, and_true] at e
    obtain ⟨rfl, rfl⟩ := e
    exact ⟨⟨h1, h2⟩, h⟩
  · exact fun h => ⟨x, y, rfl, h.1.1, h.1.2, h.2⟩
theorem c_over {C : Addr} : pf_over C [rD x, rD y] R RE ↔ (SmR 1000 x ∧ SmR 1000 y) ∧ (y = 0 → RE C .non "NothingThere") ∧ (y ≠ 0 → R (rD (x / y))) := by
  constructor
  · rintro ⟨x', y', e, h1, h2, h⟩
    simp only [List.cons.injEq, rD_eq, and_true] at e
    obtain ⟨rfl, rfl⟩ := e
    exact ⟨⟨h1, h2⟩, h⟩
  · exact fun h => ⟨x, y, rfl, h.1.1, h.1.2, h.2⟩
theorem c_opposite_of : pf_opposite_of [rD x] R RE ↔ R (rD (-x)) := by
  constructor
  · rintro ⟨x', e, h⟩
    simp only [List.cons.injEq, rD_eq, and_true] at e
    obtain rfl := e
    exact h
  · exact fun h => ⟨x, rfl, h⟩
theorem c_sign_of : pf_sign_of [rD x] R RE ↔ R (.int (Int.sign x.num)) := by
  constructor
  · rintro ⟨x', e, h⟩
    simp only [List.cons.injEq, rD_eq, and_true] at e
    obtain rfl := e
    exact h
  · exact fun h => ⟨x, rfl, h⟩
theorem c_below : pf_below [rD x, rD y] R RE ↔ (SmR 1000 x ∧ SmR 1000 y) ∧ R (.bl (decide (x.num * y.den < y.num * x.den))) := by
  constructor
  · rintro ⟨x', y', e, h1, h2, h⟩
    simp only [List.cons.injEq, rD_eq, and_true] at e
    obtain ⟨rfl, rfl⟩ := e
    exact ⟨⟨h1, h2⟩, h⟩
  · exact fun h => ⟨x, y, rfl, h.1.1, h.1.2, h.2⟩
theorem c_is_integer {d : D} : pf_is_integer [d] R RE ↔ okV d = true ∧ R (.bl (isInt d)) := by
  constructor
  · rintro ⟨d', e, h1, h⟩
    simp only [List.cons.injEq, and_true] at e
    obtain rfl := e
    exact ⟨h1, h⟩
  · exact fun h => ⟨d, rfl, h.1, h.2⟩
theorem map_rD_inj {xs ys : List Rat} (h : xs.map rD = ys.map rD) : xs = ys := by
  induction xs generalizing ys with
  | nil => cases ys with
    | nil => rfl
    | cons => simp at h
  | cons x xs ih => cases ys with
    | nil => simp at h
    | cons y ys =>
      simp only [List.map_cons, List.cons.injEq] at h
      rw [rD_inj h.1, ih h.2]
theorem map_int_inj {xs ys : List Int} (h : xs.map D.int = ys.map D.int) : xs = ys := by
  induction xs generalizing ys with
  | nil => cases ys with
    | nil => rfl
    | cons => simp at h
  | cons x xs ih => cases ys with
    | nil => simp at h
    | cons y ys =>
      simp only [List.map_cons, List.cons.injEq, D.int.injEq] at h
      rw [h.1, ih h.2]
end
/-! ### rows -/
abbrev iT (ns : List Int) : D := .tup (ns.map D.int)
abbrev iL (ns : List Int) : D := .lst (ns.map D.int)
abbrev rT (qs : List Rat) : D := .tup (qs.map rD)
abbrev rL (qs : List Rat) : D := .lst (qs.map rD)
theorem pl_ints : ∀ ns : List Int, plainA (ns.map D.int) = true
  | [] => rfl
  | _ :: ns => pl_ints ns
theorem pl_rats : ∀ qs : List Rat, plainA (qs.map rD) = true
  | [] => rfl
  | _ :: qs => pl_rats qs
theorem p_iT {M : MH} {ns : List Int} : prep1 M (iT ns) = some (iT ns, false) := prep1_plain (pl_ints ns)
theorem p_iL {M : MH} {ns : List Int} : prep1 M (iL ns) = some (iL ns, false) := prep1_plain (pl_ints ns)
theorem p_rT {M : MH} {qs : List Rat} : prep1 M (rT qs) = some (rT qs, false) := prep1_plain (pl_rats qs)
theorem p_rL {M : MH} {qs : List Rat} : prep1 M (rL qs) = some (rL qs, false) := prep1_plain (pl_rats qs)
theorem Dk.pl {ds : List D} (h : Dk ds) : plainA ds = true := by
  obtain ⟨a, b, c, ns, e, rfl, _⟩ := h
  show (plainA (ns.map D.int) && true) = true
  rw [pl_ints]; rfl
theorem p_scr {M : MH} {ns : List Int} : prep1 M (.scr (ns.map D.int)) = some (.scr (ns.map D.int), false) := prep1_plain (pl_ints ns)
/-! ### sizes of rationals -/
theorem smR_addG {x y : Rat} {n m k : Nat} (hx : SmR n x) (hy : SmR m y) (h : n + m + 1 ≤ k) : SmR k (x + y) := by
  have e : x + y = Rat.divInt (x.num * y.den + y.num * x.den) (x.den * y.den) := by
    rw [← Rat.divInt_add_divInt _ _ (den0 x) (den0 y), Rat.num_divInt_den, Rat.num_divInt_den]
  rw [e]
  refine smR_divInt (Int.mul_ne_zero (den0 x) (den0 y)) ?_ (sm_mul (smR_den hx) (smR_den hy) (by omega))
  exact sm_add (n := n + m) (sm_mul hx.1 (smR_den hy) (by omega)) (sm_mul hy.1 (smR_den hx) (by omega)) h
theorem smR_mulG {x y : Rat} {n m k : Nat} (hx : SmR n x) (hy : SmR m y) (h : n + m ≤ k) : SmR k (x * y) := by
  have e : x * y = Rat.divInt (x.num * y.num) (x.den * y.den) := by
    rw [← Rat.divInt_mul_divInt, Rat.num_divInt_den, Rat.num_divInt_den]
  rw [e]
  exact smR_divInt (Int.mul_ne_zero (den0 x) (den0 y)) (sm_mul hx.1 hy.1 h) (sm_mul (smR_den hx) (smR_den hy) h)
theorem smR_divG {x y : Rat} {n m k : Nat} (hx : SmR n x) (hy : SmR m y) (h0 : y ≠ 0) (h : n + m ≤ k) : SmR k (x / y) := by
  have h1 : y.num ≠ 0 := fun z => h0 (Rat.num_eq_zero.mp z)
  rw [← div_eq x y h0]
  exact smR_divInt (Int.mul_ne_zero (den0 x) h1) (sm_mul hx.1 (smR_den hy) h) (sm_mul (smR_den hx) hy.1 h)
theorem smR_int {n : Int} {k : Nat} (h : Sm k n) (hk : 1 ≤ k) : SmR k (n : Rat) := ⟨h, Nat.lt_of_lt_of_le (by show 1 < 2 ^ 1; decide) (Nat.pow_le_pow_right (by decide) hk)⟩
theorem smR_zero {k : Nat} (hk : 1 ≤ k) : SmR k 0 := smR_int (n := 0) (by unfold Sm; exact Nat.pow_pos (by decide)) hk
theorem sm_lt {i : Int} {b k : Nat} (h : i.natAbs < b) (hk : b ≤ 2 ^ k) : Sm k i := Nat.lt_of_lt_of_le h hk
/-! ### the deck -/
theorem c_draw {dk0 : List D} {b : Int} {R : D → List D → Prop} (hb : 0 < b) (sb : Sm 8000 b) (hd : Dk dk0) (h : ∀ v dk1, 0 ≤ v → v < b → Dk dk1 → R (.int v) dk1) : pf__law_draw dk0 [.int b] R := ⟨b, rfl, hb, sb, hd, h⟩
/-- a draw in a reading -/
theorem draw_go {fz : Bool} {n : Nat} {R : DK} {b : Int} {dk0 : List D} (hn : n = 2) (hb : 0 < b) (sb : Sm 8000 b) (hd : Dk dk0) (h : ∀ v dk1, 0 ≤ v → v < b → Dk dk1 → R (.int v) [.lst dk1]) : callIK n pf__law_draw false fz R (.loc 0) [.int b] [.lst dk0] := by
  subst hn
  exact ⟨⟨rfl, hd.pl, rfl⟩, c_draw hb sb hd fun v dk1 h0 h1 h2 => ⟨h2.pl, h v dk1 h0 h1 h2⟩⟩
/-! ### == of rows of ints -/
theorem eqv_intA : ∀ ns ms : List Int, PyData.eqvAll (pyA (ns.map D.int)) (pyA (ms.map D.int)) = decide (ns = ms)
  | [], [] => rfl
  | [], _ :: _ => rfl
  | _ :: _, [] => rfl
  | n :: ns, m :: ms => by
    show ((n == m) && PyData.eqvAll (pyA (ns.map D.int)) (pyA (ms.map D.int))) = decide (n :: ns = m :: ms)
    rw [eqv_intA ns ms, Bool.eq_iff_iff]
    simp
end NU

set_option Elab.async false
set_option linter.all false
set_option maxRecDepth 100000
set_option maxHeartbeats 8000000
namespace NU
open PySem PySem.Spec PyProof.Rows L2 DL

/-! ### parts, items -/
theorem six_non {n d : Nat} : HT.sIx n d none = d := rfl
theorem cut_init {α : Type} (xs : List α) : DL.cutD xs none (some (-1)) = xs.dropLast := by
  unfold DL.cutD
  have e : HT.sIx xs.length xs.length (some (-1)) = xs.length - 1 := by
    simp only [HT.sIx]
    rw [if_pos (by decide)]
    omega
  rw [e, six_non, List.drop_zero, Nat.sub_zero, List.dropLast_eq_take]
theorem cut_take {α : Type} (xs : List α) (k : Nat) : DL.cutD xs none (some (k : Int)) = xs.take k := by
  unfold DL.cutD
  have e : HT.sIx xs.length xs.length (some (k : Int)) = min k xs.length := HT.sIx_nat _ _ _
  rw [e, six_non, List.drop_zero, Nat.sub_zero, ← List.take_eq_take_min]
theorem cut_drop {α : Type} (xs : List α) (k : Nat) : DL.cutD xs (some (k : Int)) none = xs.drop k := by
  unfold DL.cutD
  have e : HT.sIx xs.length 0 (some (k : Int)) = min k xs.length := HT.sIx_nat _ _ _
  rw [e, six_non]
  by_cases h : k ≤ xs.length
  · rw [Nat.min_eq_left h, List.take_of_length_le (by rw [List.length_drop]; omega)]
  · rw [Nat.min_eq_right (by omega), List.drop_length, List.drop_of_length_le (by omega), List.take_nil]
theorem atI_nat' {α : Type} (xs : List α) (k : Nat) : atI xs (k : Int) = xs[k]? := by
  unfold atI ixN
  rw [if_pos (by omega)]
  by_cases h : (k : Int) < xs.length
  · rw [if_pos h]; rfl
  · rw [if_neg h]
    exact (List.getElem?_eq_none (by omega)).symm
theorem atI_last' {α : Type} (xs : List α) : atI xs (-1) = xs.getLast? := by
  unfold atI ixN
  rw [if_neg (by decide)]
  by_cases h : xs.length = 0
  · have : xs = [] := List.eq_nil_of_length_eq_zero h
    subst this; rfl
  · rw [if_pos (by omega), List.getLast?_eq_getElem?]
    have : (-1 + (xs.length : Int)).toNat = xs.length - 1 := by omega
    simp only [this]
    rfl
theorem atI_mem {α : Type} {xs : List α} {v : Int} (h0 : 0 ≤ v) (h1 : v < xs.length) : ∃ x, x ∈ xs ∧ atI xs v = some x := by
  obtain ⟨k, rfl⟩ := Int.eq_ofNat_of_zero_le h0
  have hk : k < xs.length := by omega
  exact ⟨xs[k], List.getElem_mem hk, by rw [atI_nat', List.getElem?_eq_getElem hk]⟩
theorem atI_mapG {α : Type} {f : α → D} {xs : List α} {v : Int} (h0 : 0 ≤ v) (h1 : v < xs.length) : ∃ x, x ∈ xs ∧ atI (xs.map f) v = some (f x) := by
  obtain ⟨k, rfl⟩ := Int.eq_ofNat_of_zero_le h0
  have hk : k < xs.length := by omega
  exact ⟨xs[k], List.getElem_mem hk, by rw [atI_nat', List.getElem?_map, List.getElem?_eq_getElem hk]; rfl⟩
/-! ### lists that are made -/
theorem lcD_mapE {α : Type} {i : Nat} {sl0 : SL} {src : List Nat} {M0 M : MH} {me : DE} {acc : List D} {R : List D → MH → Prop} (enc g : α → D) (xs : List α) (hs : SrcOk src M0 M) (h : ∀ x ∈ xs, ∀ R' : DK, R' (g x) M → me (rB (sl0.set i (some (enc x)))) M R')
    (k : R (acc ++ xs.map g) M) : lcD (.nm i) tYesD me sl0 src M0 (xs.map enc) acc M R := by
  induction xs generalizing acc with
  | nil => simpa [lcD] using k
  | cons x xs ih =>
    simp only [List.map, lcD, bindP, tYesD, if_true]
    refine h x (List.mem_cons_self ..) _ ⟨hs, ?_⟩
    refine ih (fun y hy => h y (List.mem_cons_of_mem _ hy)) ?_
    rw [List.append_assoc]
    exact k
theorem lcD_mapT {α : Type} {ps : List Pat} {sl0 : SL} {src : List Nat} {M0 M : MH} {me : DE} {acc : List D} {R : List D → MH → Prop} (enc g : α → D) (st : α → SL) (xs : List α) (hs : SrcOk src M0 M) (hb : ∀ x ∈ xs, bindP (.tp ps) (enc x) sl0 = some (st x)) (h : ∀ x ∈ xs, ∀ R' : DK, R' (g x) M → me (rB (st x)) M R')
    (k : R (acc ++ xs.map g) M) : lcD (.tp ps) tYesD me sl0 src M0 (xs.map enc) acc M R := by
  induction xs generalizing acc with
  | nil => simpa [lcD] using k
  | cons x xs ih =>
    simp only [List.map, lcD, hb x (List.mem_cons_self ..), tYesD, if_true]
    refine h x (List.mem_cons_self ..) _ ⟨hs, ?_⟩
    refine ih (fun y hy => hb y (List.mem_cons_of_mem _ hy)) (fun y hy => h y (List.mem_cons_of_mem _ hy)) ?_
    rw [List.append_assoc]
    exact k
theorem lcD_filter {α : Type} {i : Nat} {sl0 : SL} {src : List Nat} {M0 M : MH} {mt : DT} {me : DE} {acc : List D} {R : List D → MH → Prop} (enc g : α → D) (p : α → Bool) (xs : List α) (hs : SrcOk src M0 M)
    (ht : ∀ x ∈ xs, ∀ R' : Bool → MH → Prop, R' (p x) M → mt (rB (sl0.set i (some (enc x)))) M R') (h : ∀ x ∈ xs, p x = true → ∀ R' : DK, R' (g x) M → me (rB (sl0.set i (some (enc x)))) M R')
    (k : R (acc ++ (xs.filter p).map g) M) : lcD (.nm i) mt me sl0 src M0 (xs.map enc) acc M R := by
  induction xs generalizing acc with
  | nil => simpa [lcD] using k
  | cons x xs ih =>
    simp only [List.map, lcD, bindP]
    refine ht x (List.mem_cons_self ..) _ ?_
    have ih' := fun acc k => ih (acc := acc) (fun y hy => ht y (List.mem_cons_of_mem _ hy)) (fun y hy => h y (List.mem_cons_of_mem _ hy)) k
    by_cases hp : p x = true
    · rw [if_pos hp]
      refine h x (List.mem_cons_self ..) hp _ ⟨hs, ih' _ ?_⟩
      rw [List.filter_cons_of_pos hp] at k
      rw [List.append_assoc]
      exact k
    · rw [if_neg hp]
      refine ⟨hs, ih' _ ?_⟩
      rw [List.filter_cons_of_neg hp] at k
      exact k
/-! ### a loop that folds -/
theorem forD_fold {α β : Type} {i : Nat} {mb : DS} {E : DEnds} {src : List Nat} {M0 M : MH} (enc : α → D) (f : β → α → β) (S : β → RH → Prop) (xs : List α) (hs : SrcOk src M0 M)
    (hb : ∀ b x, x ∈ xs → ∀ (r : RH) (K : RH → MH → Prop), S b r → (∀ r', S (f b x) r' → K r' M) → mb { E with nx := K, ct := K, bk := E.nx } { r with sl := r.sl.set i (some (enc x)) } M)
    (b : β) (r : RH) (h : S b r) (hE : ∀ r', S (xs.foldl f b) r' → E.nx r' M) : forD (.nm i) mb E src M0 (xs.map enc) r M := by
  induction xs generalizing b r with
  | nil => exact hE r h
  | cons x xs ih =>
    simp only [List.map, forD, bindP]
    refine hb b x (List.mem_cons_self ..) r _ h fun r' h' => ⟨hs, ?_⟩
    exact ih (fun b y hy => hb b y (List.mem_cons_of_mem _ hy)) (f b x) r' h' hE
theorem forD_foldT {α β : Type} {pt : Pat} {mb : DS} {E : DEnds} {src : List Nat} {M0 M : MH} (enc : α → D) (f : β → α → β) (S : β → RH → Prop) (xs : List α) (hs : SrcOk src M0 M)
    (hb : ∀ b x, x ∈ xs → ∀ (r : RH) (K : RH → MH → Prop), S b r → (∀ r', S (f b x) r' → K r' M) → ∃ sl, bindP pt (enc x) r.sl = some sl ∧ mb { E with nx := K, ct := K, bk := E.nx } { r with sl := sl } M)
    (b : β) (r : RH) (h : S b r) (hE : ∀ r', S (xs.foldl f b) r' → E.nx r' M) : forD pt mb E src M0 (xs.map enc) r M := by
  induction xs generalizing b r with
  | nil => exact hE r h
  | cons x xs ih =>
    obtain ⟨sl, e, q⟩ := hb b x (List.mem_cons_self ..) r (fun r' M' => SrcOk src M0 M' ∧ forD pt mb E src M0 (xs.map enc) r' M') h fun r' h' => ⟨hs, ih (fun b y hy => hb b y (List.mem_cons_of_mem _ hy)) (f b x) r' h' hE⟩
    simp only [List.map, forD, e]
    exact q
/-! ### any, all, sum, max of rows -/
theorem truA_ints : ∀ ns : List Int, truA (ns.map D.int) = some (ns.map fun i => i != 0)
  | [] => rfl
  | n :: ns => by
    simp only [List.map, truA, truA_ints ns]
    rfl
theorem intA_ints : ∀ ns : List Int, intA (ns.map D.int) = some ns
  | [] => rfl
  | n :: ns => by
    simp only [List.map, intA, intA_ints ns]
theorem map_map' {α β γ : Type} (f : α → β) (g : β → γ) (xs : List α) : (xs.map f).map g = xs.map fun x => g (f x) := by rw [List.map_map]; rfl
theorem zipD_map {α β : Type} (f : α → D) (g : β → D) : ∀ (xs : List α) (ys : List β), zipD (xs.map f) (ys.map g) = (List.zip xs ys).map fun p => .tup [f p.1, g p.2]
  | [], _ => by simp [zipD]
  | _ :: _, [] => by simp [zipD]
  | x :: xs, y :: ys => by
    have ih := zipD_map f g xs ys
    simp only [zipD] at ih ⊢
    simp only [List.map_cons, List.zipWith_cons_cons, List.zip_cons_cons, ih]
theorem max_ok {ns : List Int} (h : 0 < ns.length) : ∃ m, m ∈ ns ∧ ∀ y ∈ ns, y ≤ m := by
  induction ns with
  | nil => simp at h
  | cons n ns ih =>
    cases ns with
    | nil => exact ⟨n, by simp, by simp⟩
    | cons k ns =>
      obtain ⟨m, h1, h2⟩ := ih (by simp)
      by_cases hm : m ≤ n
      · exact ⟨n, by simp, fun y hy => by
          rcases List.mem_cons.mp hy with rfl | hy
          · exact Int.le_refl _
          · exact Int.le_trans (h2 y hy) hm⟩
      · exact ⟨m, List.mem_cons_of_mem _ h1, fun y hy => by
          rcases List.mem_cons.mp hy with rfl | hy
          · omega
          · exact h2 y hy⟩
theorem src_nil {M0 M : MH} : SrcOk [] M0 M := fun k h => (by cases h)
theorem src_self {src : List Nat} {M : MH} : SrcOk src M M := fun _ _ => rfl
end NU

set_option Elab.async false
set_option linter.all false
set_option maxRecDepth 100000
set_option maxHeartbeats 8000000
namespace NU
open PySem PySem.Spec PyProof.Rows L2 DL

/-! ### readings as they are met -/
section
variable {fz : Bool} {i j : Int} {a b : Bool} {s t : Str} {ds es xs ys : List D} {d e : D} {k : Nat} {M : MH} {R : DK} {x y : Rat} {ns ms : List Int} {bs : List Bool} {lo hi : Option Int}
def ixK (o : Option D) (M : MH) (R : DK) : Prop := match o with
  | some x => R x M
  | none => False
theorem ixK_s : ixK (some d) M R = R d M := id rfl
theorem ixT : dIx (.tup ds) (.int i) M R = ixK (atI ds i) M R := id rfl
theorem ixL : dIx (.lst ds) (.int i) M R = ixK (atI ds i) M R := id rfl
theorem ixS : dIx (.scr ds) (.int i) M R = ixK (atI ds i) M R := id rfl
theorem ixM (h : rdS M (.loc k) = some ds) : dIx (.loc k) (.int i) M R = ixK (atI ds i) M R := by
  show (match rdS M (.loc k) with | some ds => (match atI ds i with | some x => R x M | none => False) | none => False) = _
  rw [h]; rfl
theorem ix_r0 : dIx (rD x) (.int 0) M R = R (.int x.num) M := id rfl
theorem ix_r1 : dIx (rD x) (.int 1) M R = R (.int x.den) M := id rfl
theorem at_0 : atI (d :: ds) 0 = some d := by
  have := atI_nat' (d :: ds) 0
  exact this
theorem at_1 : atI (d :: e :: ds) 1 = some e := atI_nat' (d :: e :: ds) 1
theorem addI : dAdd fz (.int i) (.int j) M R = R (.int (i + j)) M := id rfl
theorem addIB : dAdd fz (.int i) (.bl b) M R = R (.int (i + b2i b)) M := id rfl
theorem addTT : dAdd fz (.tup xs) (.tup ys) M R = (xs.length + ys.length ≤ sizeLine ∧ R (.tup (xs ++ ys)) M) := id rfl
theorem addLL : dAdd fz (.lst xs) (.lst ys) M R = (xs.length + ys.length ≤ sizeLine ∧ nw fz (xs ++ ys) M R) := id rfl
theorem addSS : dAdd fz (.str s) (.str t) M R = (s.length + t.length ≤ sizeLine ∧ R (.str (s ++ t)) M) := id rfl
theorem mulI : dMul fz (.int i) (.int j) M R = (IntMulOk i j ∧ R (.int (i * j)) M) := id rfl
theorem mulL : dMul fz (.lst xs) (.int j) M R = ((0 ≤ j ∧ j < 2 ^ 62 ∧ xs.length * j.toNat ≤ sizeLine) ∧ nw fz (List.replicate j.toNat xs).flatten M R) := id rfl
theorem mulT : dMulT fz (.tup xs) (.int j) M R = ((xs ≠ [] ∧ 1 ≤ j ∧ j ≤ 1000 ∧ xs.length ≤ 1000) ∧ R (.tup (List.replicate j.toNat xs).flatten) M) := id rfl
theorem eqI : dEq (.int i) (.int j) M R ↔ R (.bl (decide (i = j))) M := by
  have e : decide (i = j) = (i == j) := rfl
  rw [e]
  exact ⟨fun h => h.2, fun h => ⟨⟨rfl, rfl⟩, h⟩⟩
theorem neI : dNe (.int i) (.int j) M R ↔ R (.bl (!decide (i = j))) M := by
  have e : decide (i = j) = (i == j) := rfl
  rw [e]
  exact ⟨fun h => h.2, fun h => ⟨⟨rfl, rfl⟩, h⟩⟩
theorem eqS : dEq (.str s) (.str t) M R = R (.bl (decide (s = t))) M := id rfl
theorem lenT : dLen [.tup ds] M R = R (.int ds.length) M := id rfl
theorem lenL : dLen [.lst ds] M R = R (.int ds.length) M := id rfl
theorem lenM (h : rdS M (.loc k) = some ds) : dLen [.loc k] M R = R (.int ds.length) M := by
  show (match rdS M (.loc k) with | some ds => R (.int ds.length) M | none => False) = _
  rw [h]
theorem slT : dSlV fz lo hi (.tup ds) M R = R (.tup (DL.cutD ds lo hi)) M := id rfl
theorem slL : dSlV fz lo hi (.lst ds) M R = nw fz (DL.cutD ds lo hi) M R := id rfl
theorem slM (h : rdL M (.loc k) = some ds) : dSlV fz lo hi (.loc k) M R = nw fz (DL.cutD ds lo hi) M R := by
  show (match rdL M (.loc k) with | some ds => nw fz (DL.cutD ds lo hi) M R | none => False) = _
  rw [h]
theorem anyB {al : Bool} : dAny al [.lst (bs.map D.bl)] M R = R (.bl (if al then bs.all id else bs.any id)) M := by
  show (match truA (bs.map D.bl) with | some bs => R (.bl (if al then bs.all id else bs.any id)) M | none => False) = _
  rw [truA_bl]
theorem anyIL {al : Bool} : dAny al [.lst (ns.map D.int)] M R = R (.bl (if al then (ns.map fun i => i != 0).all id else (ns.map fun i => i != 0).any id)) M := by
  show (match truA (ns.map D.int) with | some bs => R (.bl (if al then bs.all id else bs.any id)) M | none => False) = _
  rw [truA_ints]
theorem anyIT {al : Bool} : dAny al [.tup (ns.map D.int)] M R = R (.bl (if al then (ns.map fun i => i != 0).all id else (ns.map fun i => i != 0).any id)) M := by
  show (match truA (ns.map D.int) with | some bs => R (.bl (if al then bs.all id else bs.any id)) M | none => False) = _
  rw [truA_ints]
theorem maxL {mx : Bool} : dMax mx [.lst (ns.map D.int)] M R = (0 < ns.length ∧ ∀ m, m ∈ ns → (∀ y, y ∈ ns → if mx then y ≤ m else m ≤ y) → R (.int m) M) := by
  show (match intA (ns.map D.int) with | some ns => 0 < ns.length ∧ ∀ m, m ∈ ns → (∀ y, y ∈ ns → if mx then y ≤ m else m ≤ y) → R (.int m) M | none => False) = _
  rw [intA_ints]
theorem max2 {mx : Bool} : dMax mx [.int i, .int j] M R = R (.int (if mx then (if j > i then j else i) else (if j < i then j else i))) M := id rfl
theorem sumL : dSum [.lst (ns.map D.int)] M R = R (.int ns.sum) M := by
  show (match intA (ns.map D.int) with | some ns => R (.int ns.sum) M | none => False) = _
  rw [intA_ints]
theorem isi_non_int : dIsi [.non, .ty "int"] M R ↔ R (.bl false) M := ⟨fun h => h.2, fun h => ⟨by decide, h⟩⟩
theorem isi_non_bool : dIsi [.non, .ty "bool"] M R ↔ R (.bl false) M := ⟨fun h => h.2, fun h => ⟨by decide, h⟩⟩
theorem isi_non_tuple : dIsi [.non, .ty "tuple"] M R ↔ R (.bl false) M := ⟨fun h => h.2, fun h => ⟨by decide, h⟩⟩
theorem isi_non_list : dIsi [.non, .ty "list"] M R ↔ R (.bl false) M := ⟨fun h => h.2, fun h => ⟨by decide, h⟩⟩
theorem isi_non_str : dIsi [.non, .ty "str"] M R ↔ R (.bl false) M := ⟨fun h => h.2, fun h => ⟨by decide, h⟩⟩
theorem isi_non_dict : dIsi [.non, .ty "dict"] M R ↔ R (.bl false) M := ⟨fun h => h.2, fun h => ⟨by decide, h⟩⟩
theorem isi_bl_int : dIsi [(.bl b), .ty "int"] M R ↔ R (.bl true) M := ⟨fun h => h.2, fun h => ⟨by decide, h⟩⟩
theorem isi_bl_bool : dIsi [(.bl b), .ty "bool"] M R ↔ R (.bl true) M := ⟨fun h => h.2, fun h => ⟨by decide, h⟩⟩
theorem isi_bl_tuple : dIsi [(.bl b), .ty "tuple"] M R ↔ R (.bl false) M := ⟨fun h => h.2, fun h => ⟨by decide, h⟩⟩
theorem isi_bl_list : dIsi [(.bl b), .ty "list"] M R ↔ R (.bl false) M := ⟨fun h => h.2, fun h => ⟨by decide, h⟩⟩
theorem isi_bl_str : dIsi [(.bl b), .ty "str"] M R ↔ R (.bl false) M := ⟨fun h => h.2, fun h => ⟨by decide, h⟩⟩
theorem isi_bl_dict : dIsi [(.bl b), .ty "dict"] M R ↔ R (.bl false) M := ⟨fun h => h.2, fun h => ⟨by decide, h⟩⟩
theorem isi_int_int : dIsi [(.int i), .ty "int"] M R ↔ R (.bl true) M := ⟨fun h => h.2, fun h => ⟨by decide, h⟩⟩
theorem isi_int_bool : dIsi [(.int i), .ty "bool"] M R ↔ R (.bl false) M := ⟨fun h => h.2, fun h => ⟨by decide, h⟩⟩
theorem isi_int_tuple : dIsi [(.int i), .ty "tuple"] M R ↔ R (.bl false) M := ⟨fun h => h.2, fun h => ⟨by decide, h⟩⟩
theorem isi_int_list : dIsi [(.int i), .ty "list"] M R ↔ R (.bl false) M := ⟨fun h => h.2, fun h => ⟨by decide, h⟩⟩
theorem isi_int_str : dIsi [(.int i), .ty "str"] M R ↔ R (.bl false) M := ⟨fun h => h.2, fun h => ⟨by decide, h⟩⟩
theorem isi_int_dict : dIsi [(.int i), .ty "dict"] M R ↔ R (.bl false) M := ⟨fun h => h.2, fun h => ⟨by decide, h⟩⟩
theorem isi_str_int : dIsi [(.str s), .ty "int"] M R ↔ R (.bl false) M := ⟨fun h => h.2, fun h => ⟨by decide, h⟩⟩
theorem isi_str_bool : dIsi [(.str s), .ty "bool"] M R ↔ R (.bl false) M := ⟨fun h => h.2, fun h => ⟨by decide, h⟩⟩
theorem isi_str_tuple : dIsi [(.str s), .ty "tuple"] M R ↔ R (.bl false) M := ⟨fun h => h.2, fun h => ⟨by decide, h⟩⟩
theorem isi_str_list : dIsi [(.str s), .ty "list"] M R ↔ R (.bl false) M := ⟨fun h => h.2, fun h => ⟨by decide, h⟩⟩
theorem isi_str_str : dIsi [(.str s), .ty "str"] M R ↔ R (.bl true) M := ⟨fun h => h.2, fun h => ⟨by decide, h⟩⟩
theorem isi_str_dict : dIsi [(.str s), .ty "dict"] M R ↔ R (.bl false) M := ⟨fun h => h.2, fun h => ⟨by decide, h⟩⟩
theorem isi_tup_int : dIsi [(.tup ds), .ty "int"] M R ↔ R (.bl false) M := ⟨fun h => h.2, fun h => ⟨by decide, h⟩⟩
theorem isi_tup_bool : dIsi [(.tup ds), .ty "bool"] M R ↔ R (.bl false) M := ⟨fun h => h.2, fun h => ⟨by decide, h⟩⟩
theorem isi_tup_tuple : dIsi [(.tup ds), .ty "tuple"] M R ↔ R (.bl true) M := ⟨fun h => h.2, fun h => ⟨by decide, h⟩⟩
theorem isi_tup_list : dIsi [(.tup ds), .ty "list"] M R ↔ R (.bl false) M := ⟨fun h => h.2, fun h => ⟨by decide, h⟩⟩
theorem isi_tup_str : dIsi [(.tup ds), .ty "str"] M R ↔ R (.bl false) M := ⟨fun h => h.2, fun h => ⟨by decide, h⟩⟩
theorem isi_tup_dict : dIsi [(.tup ds), .ty "dict"] M R ↔ R (.bl false) M := ⟨fun h => h.2, fun h => ⟨by decide, h⟩⟩
theorem isi_lst_int : dIsi [(.lst ds), .ty "int"] M R ↔ R (.bl false) M := ⟨fun h => h.2, fun h => ⟨by decide, h⟩⟩
theorem isi_lst_bool : dIsi [(.lst ds), .ty "bool"] M R ↔ R (.bl false) M := ⟨fun h => h.2, fun h => ⟨by decide, h⟩⟩
theorem isi_lst_tuple : dIsi [(.lst ds), .ty "tuple"] M R ↔ R (.bl false) M := ⟨fun h => h.2, fun h => ⟨by decide, h⟩⟩
theorem isi_lst_list : dIsi [(.lst ds), .ty "list"] M R ↔ R (.bl true) M := ⟨fun h => h.2, fun h => ⟨by decide, h⟩⟩
theorem isi_lst_str : dIsi [(.lst ds), .ty "str"] M R ↔ R (.bl false) M := ⟨fun h => h.2, fun h => ⟨by decide, h⟩⟩
theorem isi_lst_dict : dIsi [(.lst ds), .ty "dict"] M R ↔ R (.bl false) M := ⟨fun h => h.2, fun h => ⟨by decide, h⟩⟩
theorem isi_scr_int : dIsi [(.scr ds), .ty "int"] M R ↔ R (.bl false) M := ⟨fun h => h.2, fun h => ⟨by decide, h⟩⟩
theorem isi_scr_bool : dIsi [(.scr ds), .ty "bool"] M R ↔ R (.bl false) M := ⟨fun h => h.2, fun h => ⟨by decide, h⟩⟩
theorem isi_scr_tuple : dIsi [(.scr ds), .ty "tuple"] M R ↔ R (.bl false) M := ⟨fun h => h.2, fun h => ⟨by decide, h⟩⟩
theorem isi_scr_list : dIsi [(.scr ds), .ty "list"] M R ↔ R (.bl true) M := ⟨fun h => h.2, fun h => ⟨by decide, h⟩⟩
theorem isi_scr_str : dIsi [(.scr ds), .ty "str"] M R ↔ R (.bl false) M := ⟨fun h => h.2, fun h => ⟨by decide, h⟩⟩
theorem isi_scr_dict : dIsi [(.scr ds), .ty "dict"] M R ↔ R (.bl false) M := ⟨fun h => h.2, fun h => ⟨by decide, h⟩⟩
end
/-! ### == of rows -/
theorem depth_ints : ∀ ns : List Int, PyData.depthAll (pyA (ns.map D.int)) = 0
  | [] => rfl
  | n :: ns => by
    show max 0 (PyData.depthAll (pyA (ns.map D.int))) = 0
    rw [depth_ints ns]; rfl
theorem lay_ints : ∀ ns : List Int, PyData.canLayAll0 (pyA (ns.map D.int)) = true
  | [] => rfl
  | n :: ns => by
    show (true && PyData.canLayAll0 (pyA (ns.map D.int))) = true
    rw [lay_ints ns]; rfl
theorem dat_ints : ∀ ns : List Int, datA (ns.map D.int) = true
  | [] => rfl
  | n :: ns => dat_ints ns
end NU

set_option Elab.async false
set_option linter.all false
set_option maxRecDepth 100000
set_option maxHeartbeats 8000000
namespace NU
open PySem PySem.Spec PyProof.Rows L2 DL

/-! ### two fors -/
theorem lc2D_map {α β : Type} {pt : Pat} {mi1 : DI} {i1 : Nat} {me : DE} {vs1 : List Nat} {sl0 : SL} {src : List Nat} {M0 M : MH} {R : List D → MH → Prop} (enc : α → D) (encb : β → D) (g : α → β → D) (st : α → SL) (ys : α → List β) (xs : List α) (acc : List D) (hs : SrcOk src M0 M)
    (hb : ∀ x ∈ xs, bindP pt (enc x) sl0 = some (st x)) (hi : ∀ x ∈ xs, ∀ Q : List D → List Nat → MH → Prop, Q ((ys x).map encb) [] M → mi1 (rB (st x)) M Q)
    (he : ∀ x ∈ xs, ∀ y ∈ ys x, ∀ R' : DK, R' (g x y) M → me (rB ((wipeD (st x) vs1).set i1 (some (encb y)))) M R') (hz : acc.length + (xs.flatMap ys).length ≤ sizeLine)
    (k : R (acc ++ xs.flatMap fun x => (ys x).map (g x)) M) : lc2D pt tYesD mi1 (.nm i1) tYesD me vs1 sl0 src M0 (xs.map enc) acc M R := by
  induction xs generalizing acc with
  | nil => simpa [lc2D] using k
  | cons x xs ih =>
    simp only [List.map, lc2D, hb x (List.mem_cons_self ..), tYesD, if_true]
    refine hi x (List.mem_cons_self ..) _ ⟨?_, ?_⟩
    · rw [List.length_map]
      rw [List.flatMap_cons, List.length_append] at hz
      omega
    · refine lcD_mapE encb (g x) (ys x) src_self (fun y hy R' hR' => he x (List.mem_cons_self ..) y hy R' hR') ⟨hs, ?_⟩
      refine ih _ (fun y hy => hb y (List.mem_cons_of_mem _ hy)) (fun y hy => hi y (List.mem_cons_of_mem _ hy)) (fun y hy => he y (List.mem_cons_of_mem _ hy)) ?_ ?_
      · rw [List.flatMap_cons, List.length_append] at hz
        rw [List.length_append, List.length_map]
        omega
      · rw [List.append_assoc]
        rw [List.flatMap_cons] at k
        exact k
/-! ### rows of ints -/
theorem shap_iT (ns : List Int) : SeqAt.shaped (py (iT ns)) = true := by
  unfold SeqAt.shaped
  show (PyData.canLayAll0 (pyA (ns.map D.int)) && decide (PyData.depthAll (pyA (ns.map D.int)) + 1 ≤ 64)) = true
  rw [lay_ints, depth_ints]; rfl
theorem eq_iT {ns ms : List Int} {M : MH} {R : DK} : dEq (iT ns) (iT ms) M R ↔ R (.bl (decide (ns = ms))) M := by
  have e1 : pyM M (iT ns) = some (py (iT ns)) := pyM_dat (dat_ints ns)
  have e2 : pyM M (iT ms) = some (py (iT ms)) := pyM_dat (dat_ints ms)
  have e3 : PyData.eqv (py (iT ns)) (py (iT ms)) = decide (ns = ms) := eqv_intA ns ms
  show (match pyM M (iT ns), pyM M (iT ms) with | some p, some q => (SeqAt.shaped p = true ∧ SeqAt.shaped q = true) ∧ R (.bl (PyData.eqv p q)) M | _, _ => False) ↔ _
  rw [e1, e2]
  show (SeqAt.shaped (py (iT ns)) = true ∧ SeqAt.shaped (py (iT ms)) = true) ∧ R (.bl (PyData.eqv (py (iT ns)) (py (iT ms)))) M ↔ _
  rw [shap_iT, shap_iT, e3]
  simp
/-! ### a store of two -/
section
variable {fz : Bool} {i : Int} {b : Bool} {ds es : List D} {d : D} {m : MO} {R : DK} {lo hi : Option Int} {nx : MH → Prop}
theorem ix_1 : dIx (.loc 1) (.int i) [m, .lst ds] R = ixK (atI ds i) [m, .lst ds] R := id rfl
theorem ix_0 {o : List MO} : dIx (.loc 0) (.int i) (.lst ds :: o) R = ixK (atI ds i) (.lst ds :: o) R := id rfl
theorem len_1 : dLen [.loc 1] [m, .lst ds] R = R (.int ds.length) [m, .lst ds] := id rfl
theorem len_0 {o : List MO} : dLen [.loc 0] (.lst ds :: o) R = R (.int ds.length) (.lst ds :: o) := id rfl
theorem sl_1 : dSlV fz lo hi (.loc 1) [m, .lst ds] R = nw fz (DL.cutD ds lo hi) [m, .lst ds] R := id rfl
theorem app_1 : dApp (.loc 1) [d] [m, .lst ds] R = (ds.length < sizeLine ∧ R .non [m, .lst (ds ++ [d])]) := id rfl
theorem app_0 : dApp (.loc 0) [d] [.lst ds] R = (ds.length < sizeLine ∧ R .non [.lst (ds ++ [d])]) := id rfl
theorem tyL_1 : tyL [m, .lst ds] (.loc 1) = True := by
  unfold tyL
  simp [rdL]
theorem tyL_0 {o : List MO} : tyL (.lst ds :: o) (.loc 0) = True := by
  unfold tyL
  simp [rdL]
theorem put_1 (h0 : 0 ≤ i) (h1 : i < ds.length) (h : nx [m, .lst (ds.set i.toNat d)]) : putK 1 i d [m, .lst ds] nx := by
  show (match ixN ds.length i with | some j => nx [m, .lst (ds.set j d)] | none => False)
  unfold ixN
  rw [if_pos h0, if_pos h1]
  exact h
theorem tuple_1 : dTuple [.loc 1] [m, .lst ds] R = R (.tup ds) [m, .lst ds] := id rfl
end
/-! ### common divisors -/
theorem gcd_div {ns : List Int} (h : ∃ i ∈ ns, i ≠ 0) : 0 < ns.foldl gcdS 0 ∧ (∀ i ∈ ns, i.fdiv (ns.foldl gcdS 0) * ns.foldl gcdS 0 = i) ∧ (ns.map fun i => i.fdiv (ns.foldl gcdS 0)).foldl gcdS 0 = 1 := by
  obtain ⟨_, g2, g3, g4⟩ := gcd_fold ns 0
  have g3 := g3 (Int.le_refl 0)
  generalize hg : ns.foldl gcdS 0 = g at *
  have g0 : 0 < g := by
    obtain ⟨i, hi, h0⟩ := h
    have := g2 i hi
    rcases Int.lt_or_eq_of_le g3 with h1 | h1
    · exact h1
    · rw [← h1] at this
      exact absurd (Int.zero_dvd.mp this) h0
  have hm : ∀ i ∈ ns, i.fdiv g * g = i := fun i hi => by
    rw [Int.fdiv_eq_ediv_of_dvd (g2 i hi)]
    exact Int.ediv_mul_cancel (g2 i hi)
  refine ⟨g0, hm, ?_⟩
  obtain ⟨_, k2, k3, _⟩ := gcd_fold (ns.map fun i => i.fdiv g) 0
  have k3 := k3 (Int.le_refl 0)
  generalize hk : (ns.map fun i => i.fdiv g).foldl gcdS 0 = k at *
  have key : k * g ∣ g := by
    refine g4 (k * g) (Int.dvd_zero _) fun i hi => ?_
    rw [← hm i hi]
    exact Int.mul_dvd_mul (k2 _ (List.mem_map_of_mem hi)) (Int.dvd_refl _)
  obtain ⟨c, hc⟩ := key
  have h1 : g * (k * c) = g * 1 := by rw [Int.mul_one]; conv => rhs; rw [hc]
                                      rw [Int.mul_left_comm, ← Int.mul_assoc]
  have h2 := Int.eq_of_mul_eq_mul_left (by omega) h1
  exact Int.eq_one_of_dvd_one k3 ⟨c, h2.symm⟩
theorem gcdS_eq (a b : Int) : gcdS a b = (Int.gcd a b : Int) := rfl
theorem gcd_le {ns : List Int} {i : Int} (hi : i ∈ ns) (h0 : i ≠ 0) : (ns.foldl gcdS 0).natAbs ≤ i.natAbs := by
  obtain ⟨_, g2, _, _⟩ := gcd_fold ns 0
  exact Nat.le_of_dvd (by omega) (Int.natAbs_dvd_natAbs.mpr (g2 i hi))
theorem fdiv_le {i g : Int} (hg : 0 < g) (h : i.fdiv g * g = i) : (i.fdiv g).natAbs ≤ i.natAbs := by
  have e : i.natAbs = (i.fdiv g).natAbs * g.natAbs := by rw [← Int.natAbs_mul, h]
  rw [e]
  exact Nat.le_mul_of_pos_right _ (by omega)
theorem xf_place {a C dd : Addr} {p : D} {w : Str} {me : DE} {sl : SL} {ex : SL → Addr → D → Str → MH → Prop} {M : MH} {R : DK} : dXf "place" a C (some dd) me { sl := sl, ex := ex, xd := some (dd, p, w) } M R = me { sl := sl, ex := ex, xd := some (dd, p, w) } M fun v M1 => v = .cls a ∧ R p M1 := by
  unfold dXf
  congr 1
  funext v M1
  apply propext
  constructor
  · rintro ⟨h1, d2, p2, w2, e1, e2, ⟨_, h⟩ | ⟨z, _⟩⟩
    · cases e1
      cases e2
      exact ⟨h1, h⟩
    · exact absurd z (by decide +kernel)
  · rintro ⟨h1, h⟩
    exact ⟨h1, dd, p, w, rfl, rfl, .inl ⟨rfl, h⟩⟩
theorem xf_word {a C dd : Addr} {p : D} {w : Str} {me : DE} {sl : SL} {ex : SL → Addr → D → Str → MH → Prop} {M : MH} {R : DK} : dXf "word" a C (some dd) me { sl := sl, ex := ex, xd := some (dd, p, w) } M R = me { sl := sl, ex := ex, xd := some (dd, p, w) } M fun v M1 => v = .cls a ∧ R (.str w) M1 := by
  unfold dXf
  congr 1
  funext v M1
  apply propext
  constructor
  · rintro ⟨h1, d2, p2, w2, e1, e2, ⟨z, _⟩ | ⟨_, h⟩⟩
    · exact absurd z (by decide +kernel)
    · cases e1
      cases e2
      exact ⟨h1, h⟩
  · rintro ⟨h1, h⟩
    exact ⟨h1, dd, p, w, rfl, rfl, .inr ⟨rfl, h⟩⟩
/-- a loop that takes the common divisor -/
theorem for_gcd {i j : Nat} {src : List Nat} {M0 M : MH} {E : DEnds} (pre : SL) (post : Int → Option D → SL) (ns : List Int) (c : Int) (r : RH) (hs : SrcOk src M0 M)
    (hb : ∀ (c x : Int) (z : Option D) (r : RH) (K : RH → MH → Prop), x ∈ ns → r.sl = post c z → (∀ r', r'.sl = post (Int.gcd c x) (some (.int x)) → K r' M) → mSet i (dCallP 2 pf_common false true [] (dCons (dVar i) (dCons (dVar j) (dNil)))) { E with nx := K, ct := K, bk := E.nx } { r with sl := r.sl.set j (some (.int x)) } M)
    (h : ∃ z, r.sl = post c z) (hE : ∀ r' z, r'.sl = post (ns.foldl gcdS c) z → E.nx r' M) : forD (.nm j) (mSet i (dCallP 2 pf_common false true [] (dCons (dVar i) (dCons (dVar j) (dNil))))) E src M0 (ns.map D.int) r M := by
  refine forD_fold D.int gcdS (fun c r => ∃ z, r.sl = post c z) ns hs (fun c x hx r K ⟨z, hz⟩ hK => ?_) c r h (fun r' ⟨z, hz⟩ => hE r' z hz)
  exact hb c x z r K hx hz fun r' h' => hK r' ⟨_, h'⟩
end NU

set_option Elab.async false
set_option linter.all false
set_option maxRecDepth 100000
set_option maxHeartbeats 8000000
namespace K00
open PySem PySem.Spec PyProof.Rows L2 DL NU
abbrev P : Program := PySem.Challenge.rw_planecuts_k00_errors_apart.prog
def top (i : Nat) : Stmt := P.main.body.getD i (.Pass ⟨0, 0, 0, 0⟩)
/-! ### what is promised -/
def al19 : List Str := ["BadNumber", "BadPlane", "BadCut", "BadText", "BadRow", "BadPoint", "BadFlat", "BadPrime", "BadGallery", "BadHeights", "BadElement", "BadWeights", "BadForms", "BadGraph", "BadLabel", "Unlike", "NothingThere", "TooMany", "CutError"]
def wd (i : Nat) : Str := al19.getD i ""
/-- an error of the i-th class, its place p -/
def er (cs : List Addr) (i : Nat) (p : D) : D := .err (cs.getD i 0) ["word", "place"] [.str (wd i), p]
def pf_all (cs : List Addr) : PF := fun ds R _ => ∃ p : D, ds = [p] ∧ p.plain = true ∧ R (.lst ((List.range 18).map fun i => er cs i p))
def pf_bare (cs : List Addr) : PF := fun ds R _ => ds = [] ∧ R (.lst ((List.range 18).map fun i => er cs i .non))
def pf_kinds (cs : List Addr) : PF := fun ds R _ => ∃ (i : Nat) (p : D), i < 19 ∧ p.plain = true ∧ ds = [er cs i p] ∧ R (.lst ((List.range 18).map fun j => .bl (i == j)))
def wo : List Str := ["BadText", "Unlike", "NothingThere", "TooMany", "BadRow"]
def pf_caught : PF := fun ds R _ => ∃ (k : Nat) (p : D), k < 5 ∧ p.plain = true ∧ ds = [.int k, p] ∧ R (.tup [.str (wo.getD k ""), p])
/-- what the written part says of the classes -/
structure KF (K : PySem.W.Frag) (cs : List Addr) : Prop where
  ki : ∀ i j, i < 19 → j < 19 → PySem.W.kitOne K (.ref (cs.getD i 0)) (.ref (cs.getD j 0)) = some (i == j || j == 18)
  kb : ∀ i, i < 19 → PySem.W.kitOne K (.ref (cs.getD i 0)) (.type "ValueError") = some false
  ec : ∀ i, i < 19 → ExcC K (cs.getD i 0)
  xp : ∀ i, i < 19 → XP K (cs.getD i 0)
  ex : ∀ i, i < 18 → PySem.W.exmOne K (.ref (cs.getD i 0)) (.ref (cs.getD 18 0)) = some true
def pf_law : PF := fun ds R _ => ∃ ns : List Int, ds = [.scr (ns.map D.int)] ∧ ns.length ≤ 63 ∧ R (.bl true)
section
variable {w : World} {K : PySem.W.Frag} {mg : Str → Option Value} {base : Heap}
/-! ### read from the text -/
def bls : List String := ["ValueError", "abs", "any", "int", "isinstance", "len", "list", "range", "repr"]
abbrev st__law_deck : Stmt := top 21
theorem scope__law_deck : FnScope N__law_deck ["script"] (defScope st__law_deck) := ⟨rfl, rfl, rfl, by decide +kernel, rfl, by decide +kernel, by decide +kernel⟩
theorem ms__law_deck (ub : ∀ x ∈ bls, mg (PySem.Str.ofString x) = none) (f : Addr) (cdv : Value) (A : Around) (outer : List Env) (s : Shared) (H : Hp) (E : XK) (hr : RoomG 0 (A.deeper (envOfC "_law_deck" (defScope st__law_deck) s.heap.objs.size f cdv))) :
    MSs (cxOf (L2.CX P w) P w K mg base N__law_deck "_law_deck" (defScope st__law_deck) f cdv A outer s H E) (fun cls d _ H => E cls d H) (defBody st__law_deck) (m__law_deck) :=
  mss_cons (ms_s 1 scope__law_deck.nd (me_int)) (mss_cons (ms_for (passes_of rfl) rfl (mi_seq (me_v 0)) (mg_n 2 scope__law_deck.nd) (mss_one (ms_s 1 scope__law_deck.nd (me_mod (me_bt bl_int (ub _ (by decide)) (ma_cons (me_add true (me_mul true (me_v 1) (me_int)) (me_v 2)) (ma_nil))) (me_int))))) (mss_one (ms_ret (me_lst false (ma_cons (me_int) (ma_cons (me_int) (ma_cons (me_v 1) (ma_cons (me_bt (bl_list true) (ub _ (by decide)) (ma_cons (me_v 0) (ma_nil))) (ma_cons (me_int) (ma_nil))))))))))
theorem cal__law_deck {f : Addr} {fd : FuncData} (Dd : FunD K "_law_deck" "_law_deck" (defArgs st__law_deck) (defBody st__law_deck) (defScope st__law_deck) [] [] f fd) (hm : mg "_law_deck" = some (.ref f)) (ub : ∀ x ∈ bls, mg (PySem.Str.ofString x) = none) (hs : specP 1 N__law_deck.length true (m__law_deck) pf__law_deck) : Cal P w K mg base 1 "_law_deck" ["script"] (spP K 1 true pf__law_deck) [] :=
  ⟨f, fd, [], fnP_of Dd scope__law_deck 1 rfl pf__law_deck true (fun cdv A outer s H E hr => ms__law_deck ub f cdv A outer s H E hr) hs, hm, Dd.kp, .nil, Dd.bindsN fun _ _ _ _ _ _ us hl => match us, hl with | [_], _ => rfl⟩
abbrev st__law_draw : Stmt := top 22
theorem scope__law_draw : FnScope N__law_draw ["deck", "bound"] (defScope st__law_draw) := ⟨rfl, rfl, rfl, by decide +kernel, rfl, by decide +kernel, by decide +kernel⟩
theorem ms__law_draw (ub : ∀ x ∈ bls, mg (PySem.Str.ofString x) = none) (f : Addr) (cdv : Value) (A : Around) (outer : List Env) (s : Shared) (H : Hp) (E : XK) (hr : RoomG 0 (A.deeper (envOfC "_law_draw" (defScope st__law_draw) s.heap.objs.size f cdv))) :
    MSs (cxOf (L2.CX P w) P w K mg base N__law_draw "_law_draw" (defScope st__law_draw) f cdv A outer s H E) wF (defBody st__law_draw) (m__law_draw) :=
  mss_cons (ms_if (MW.mt (mw_and (mt_c (cd_eq hr.u64) (me_ix (me_v 0) (me_int)) (me_int)) (mw_and1 (mt_c cd_lt (me_ix (me_v 0) (me_int)) (me_bt bl_len (ub _ (by decide)) (ma_cons (me_ix (me_v 0) (me_int)) (ma_nil))))))) (mss_cons (ms_put (me_v 0) (me_int) (me_bt bl_abs (ub _ (by decide)) (ma_cons (me_ix (me_ix (me_v 0) (me_int)) (me_ix (me_v 0) (me_int))) (ma_nil)))) (mss_one (ms_put (me_v 0) (me_int) (me_add true (me_ix (me_v 0) (me_int)) (me_int))))) (mss_one (ms_if (mt_c (cd_eq hr.u64) (me_ix (me_v 0) (me_int)) (me_int)) (mss_cons (ms_put (me_v 0) (me_int) (me_add true (me_ix (me_v 0) (me_int)) (me_int))) (mss_cons (ms_s 2 scope__law_draw.nd (me_mod (me_bt bl_int (ub _ (by decide)) (ma_cons (me_add true (me_add true (me_mul true (me_ix (me_v 0) (me_int)) (me_int)) (me_mul true (me_ix (me_v 0) (me_int)) (me_int))) (me_int)) (ma_nil))) (me_int))) (mss_cons (ms_s 2 scope__law_draw.nd (me_mod (me_bt bl_int (ub _ (by decide)) (ma_cons (me_add true (me_add true (me_mul true (me_v 2) (me_v 2)) (me_mul true (me_int) (me_ix (me_v 0) (me_int)))) (me_int)) (ma_nil))) (me_int))) (mss_cons (ms_s 2 scope__law_draw.nd (me_mod (me_bt bl_int (ub _ (by decide)) (ma_cons (me_add true (me_add true (me_mul true (me_v 2) (me_v 2)) (me_mul true (me_int) (me_ix (me_v 0) (me_int)))) (me_ix (me_v 0) (me_int))) (ma_nil))) (me_int))) (mss_one (ms_put (me_v 0) (me_int) (me_fdiv (me_v 2) (me_int)))))))) (mss_nil)))) (mss_cons (ms_s 3 scope__law_draw.nd (me_mod (me_bt bl_int (ub _ (by decide)) (ma_cons (me_ix (me_v 0) (me_int)) (ma_nil))) (me_v 1))) (mss_cons (ms_put (me_v 0) (me_int) (me_fdiv (me_ix (me_v 0) (me_int)) (me_v 1))) (mss_one (ms_ret (me_v 3)))))
theorem cal__law_draw {f : Addr} {fd : FuncData} (Dd : FunD K "_law_draw" "_law_draw" (defArgs st__law_draw) (defBody st__law_draw) (defScope st__law_draw) [] [] f fd) (hm : mg "_law_draw" = some (.ref f)) (ub : ∀ x ∈ bls, mg (PySem.Str.ofString x) = none) (hs : specI 2 N__law_draw.length (m__law_draw) pf__law_draw) : Cal P w K mg base 1 "_law_draw" ["deck", "bound"] (spI K 2 false pf__law_draw) [] :=
  ⟨f, fd, [], fnI_of Dd scope__law_draw 2 rfl pf__law_draw (fun cdv A outer s H E hr => ms__law_draw ub f cdv A outer s H E hr) hs, hm, Dd.kp, .nil, Dd.bindsN fun _ _ _ _ _ _ us hl => match us, hl with | [_, _], _ => rfl⟩
abbrev st__law_is : Stmt := top 23
theorem scope__law_is : FnScope N__law_is ["value", "due"] (defScope st__law_is) := ⟨rfl, rfl, rfl, by decide +kernel, rfl, by decide +kernel, by decide +kernel⟩
theorem ms__law_is (ub : ∀ x ∈ bls, mg (PySem.Str.ofString x) = none) (f : Addr) (cdv : Value) (A : Around) (outer : List Env) (s : Shared) (H : Hp) (E : XK) (hr : RoomG 0 (A.deeper (envOfC "_law_is" (defScope st__law_is) s.heap.objs.size f cdv))) :
    MSs (cxOf (L2.CX P w) P w K mg base N__law_is "_law_is" (defScope st__law_is) f cdv A outer s H E) (fun cls d _ H => E cls d H) (defBody st__law_is) (m__law_is) :=
  mss_one (ms_ret (me_and (me_c (cd_eq hr.u64) (me_v 0) (me_v 1)) (me_one (me_c (cd_eq hr.u64) (me_bt (bl_repr hr.g hr.u66) (ub _ (by decide)) (ma_cons (me_v 0) (ma_nil))) (me_bt (bl_repr hr.g hr.u66) (ub _ (by decide)) (ma_cons (me_v 1) (ma_nil)))))))
theorem cal__law_is {f : Addr} {fd : FuncData} (Dd : FunD K "_law_is" "_law_is" (defArgs st__law_is) (defBody st__law_is) (defScope st__law_is) [] [] f fd) (hm : mg "_law_is" = some (.ref f)) (ub : ∀ x ∈ bls, mg (PySem.Str.ofString x) = none) (hs : specP 2 N__law_is.length false (m__law_is) pf__law_is) : Cal P w K mg base 1 "_law_is" ["value", "due"] (spP K 2 false pf__law_is) [] :=
  ⟨f, fd, [], fnP_of Dd scope__law_is 2 rfl pf__law_is false (fun cdv A outer s H E hr => ms__law_is ub f cdv A outer s H E hr) hs, hm, Dd.kp, .nil, Dd.bindsN fun _ _ _ _ _ _ us hl => match us, hl with | [_, _], _ => rfl⟩
abbrev st__law_all : Stmt := top 24
def N__law_all : List Str := ["place", "made"]
theorem scope__law_all : FnScope N__law_all ["place"] (defScope st__law_all) := ⟨rfl, rfl, rfl, by decide +kernel, rfl, by decide +kernel, by decide +kernel⟩
def m__law_all  (C_BadCut : Addr) (C_BadElement : Addr) (C_BadFlat : Addr) (C_BadForms : Addr) (C_BadGallery : Addr) (C_BadGraph : Addr) (C_BadHeights : Addr) (C_BadLabel : Addr) (C_BadNumber : Addr) (C_BadPlane : Addr) (C_BadPoint : Addr) (C_BadPrime : Addr) (C_BadRow : Addr) (C_BadText : Addr) (C_BadWeights : Addr) (C_CutError : Addr) (C_NothingThere : Addr) (C_TooMany : Addr) (C_Unlike : Addr) : DS := mSeq (mSet 1 (dLst true (dCons (dExv C_BadNumber "BadNumber" (dCons (dVar 0) (dNil))) (dCons (dExv C_BadPlane "BadPlane" (dCons (dVar 0) (dNil))) (dCons (dExv C_BadCut "BadCut" (dCons (dVar 0) (dNil))) (dCons (dExv C_BadText "BadText" (dCons (dVar 0) (dNil))) (dCons (dExv C_BadRow "BadRow" (dCons (dVar 0) (dNil))) (dCons (dExv C_BadPoint "BadPoint" (dCons (dVar 0) (dNil))) (dNil))))))))) (mSeq (mSet 1 (dOp (dAdd true) (dVar 1) (dLst true (dCons (dExv C_BadFlat "BadFlat" (dCons (dVar 0) (dNil))) (dCons (dExv C_BadPrime "BadPrime" (dCons (dVar 0) (dNil))) (dCons (dExv C_BadGallery "BadGallery" (dCons (dVar 0) (dNil))) (dCons (dExv C_BadHeights "BadHeights" (dCons (dVar 0) (dNil))) (dCons (dExv C_BadElement "BadElement" (dCons (dVar 0) (dNil))) (dCons (dExv C_BadWeights "BadWeights" (dCons (dVar 0) (dNil))) (dNil)))))))))) (mRet (dOp (dAdd true) (dVar 1) (dLst true (dCons (dExv C_BadForms "BadForms" (dCons (dVar 0) (dNil))) (dCons (dExv C_BadGraph "BadGraph" (dCons (dVar 0) (dNil))) (dCons (dExv C_BadLabel "BadLabel" (dCons (dVar 0) (dNil))) (dCons (dExv C_Unlike "Unlike" (dCons (dVar 0) (dNil))) (dCons (dExv C_NothingThere "NothingThere" (dCons (dVar 0) (dNil))) (dCons (dExv C_TooMany "TooMany" (dCons (dVar 0) (dNil))) (dNil)))))))))))
theorem ms__law_all {C_BadCut : Addr} {C_BadElement : Addr} {C_BadFlat : Addr} {C_BadForms : Addr} {C_BadGallery : Addr} {C_BadGraph : Addr} {C_BadHeights : Addr} {C_BadLabel : Addr} {C_BadNumber : Addr} {C_BadPlane : Addr} {C_BadPoint : Addr} {C_BadPrime : Addr} {C_BadRow : Addr} {C_BadText : Addr} {C_BadWeights : Addr} {C_CutError : Addr} {C_NothingThere : Addr} {C_TooMany : Addr} {C_Unlike : Addr} (ub : ∀ x ∈ bls, mg (PySem.Str.ofString x) = none) (k_BadCut : MkC P w K mg base C_BadCut "BadCut") (g_BadCut : mg "BadCut" = some (.ref C_BadCut)) (k_BadElement : MkC P w K mg base C_BadElement "BadElement") (g_BadElement : mg "BadElement" = some (.ref C_BadElement)) (k_BadFlat : MkC P w K mg base C_BadFlat "BadFlat") (g_BadFlat : mg "BadFlat" = some (.ref C_BadFlat)) (k_BadForms : MkC P w K mg base C_BadForms "BadForms") (g_BadForms : mg "BadForms" = some (.ref C_BadForms)) (k_BadGallery : MkC P w K mg base C_BadGallery "BadGallery") (g_BadGallery : mg "BadGallery" = some (.ref C_BadGallery)) (k_BadGraph : MkC P w K mg base C_BadGraph "BadGraph") (g_BadGraph : mg "BadGraph" = some (.ref C_BadGraph)) (k_BadHeights : MkC P w K mg base C_BadHeights "BadHeights") (g_BadHeights : mg "BadHeights" = some (.ref C_BadHeights)) (k_BadLabel : MkC P w K mg base C_BadLabel "BadLabel") (g_BadLabel : mg "BadLabel" = some (.ref C_BadLabel)) (k_BadNumber : MkC P w K mg base C_BadNumber "BadNumber") (g_BadNumber : mg "BadNumber" = some (.ref C_BadNumber)) (k_BadPlane : MkC P w K mg base C_BadPlane "BadPlane") (g_BadPlane : mg "BadPlane" = some (.ref C_BadPlane)) (k_BadPoint : MkC P w K mg base C_BadPoint "BadPoint") (g_BadPoint : mg "BadPoint" = some (.ref C_BadPoint)) (k_BadPrime : MkC P w K mg base C_BadPrime "BadPrime") (g_BadPrime : mg "BadPrime" = some (.ref C_BadPrime)) (k_BadRow : MkC P w K mg base C_BadRow "BadRow") (g_BadRow : mg "BadRow" = some (.ref C_BadRow)) (k_BadText : MkC P w K mg base C_BadText "BadText") (g_BadText : mg "BadText" = some (.ref C_BadText)) (k_BadWeights : MkC P w K mg base C_BadWeights "BadWeights") (g_BadWeights : mg "BadWeights" = some (.ref C_BadWeights)) (k_CutError : MkC P w K mg base C_CutError "CutError") (g_CutError : mg "CutError" = some (.ref C_CutError)) (k_NothingThere : MkC P w K mg base C_NothingThere "NothingThere") (g_NothingThere : mg "NothingThere" = some (.ref C_NothingThere)) (k_TooMany : MkC P w K mg base C_TooMany "TooMany") (g_TooMany : mg "TooMany" = some (.ref C_TooMany)) (k_Unlike : MkC P w K mg base C_Unlike "Unlike") (g_Unlike : mg "Unlike" = some (.ref C_Unlike)) (f : Addr) (cdv : Value) (A : Around) (outer : List Env) (s : Shared) (H : Hp) (E : XK) (hr : RoomG 0 (A.deeper (envOfC "_law_all" (defScope st__law_all) s.heap.objs.size f cdv))) :
    MSs (cxOf (L2.CX P w) P w K mg base N__law_all "_law_all" (defScope st__law_all) f cdv A outer s H E) (fun cls d _ H => E cls d H) (defBody st__law_all) (m__law_all C_BadCut C_BadElement C_BadFlat C_BadForms C_BadGallery C_BadGraph C_BadHeights C_BadLabel C_BadNumber C_BadPlane C_BadPoint C_BadPrime C_BadRow C_BadText C_BadWeights C_CutError C_NothingThere C_TooMany C_Unlike) :=
  mss_cons (ms_s 1 scope__law_all.nd (me_lst true (ma_cons (me_exv k_BadNumber hr.d3 g_BadNumber (ma_cons (me_v 0) (ma_nil))) (ma_cons (me_exv k_BadPlane hr.d3 g_BadPlane (ma_cons (me_v 0) (ma_nil))) (ma_cons (me_exv k_BadCut hr.d3 g_BadCut (ma_cons (me_v 0) (ma_nil))) (ma_cons (me_exv k_BadText hr.d3 g_BadText (ma_cons (me_v 0) (ma_nil))) (ma_cons (me_exv k_BadRow hr.d3 g_BadRow (ma_cons (me_v 0) (ma_nil))) (ma_cons (me_exv k_BadPoint hr.d3 g_BadPoint (ma_cons (me_v 0) (ma_nil))) (ma_nil))))))))) (mss_cons (ms_s 1 scope__law_all.nd (me_add true (me_v 1) (me_lst true (ma_cons (me_exv k_BadFlat hr.d3 g_BadFlat (ma_cons (me_v 0) (ma_nil))) (ma_cons (me_exv k_BadPrime hr.d3 g_BadPrime (ma_cons (me_v 0) (ma_nil))) (ma_cons (me_exv k_BadGallery hr.d3 g_BadGallery (ma_cons (me_v 0) (ma_nil))) (ma_cons (me_exv k_BadHeights hr.d3 g_BadHeights (ma_cons (me_v 0) (ma_nil))) (ma_cons (me_exv k_BadElement hr.d3 g_BadElement (ma_cons (me_v 0) (ma_nil))) (ma_cons (me_exv k_BadWeights hr.d3 g_BadWeights (ma_cons (me_v 0) (ma_nil))) (ma_nil)))))))))) (mss_one (ms_ret (me_add true (me_v 1) (me_lst true (ma_cons (me_exv k_BadForms hr.d3 g_BadForms (ma_cons (me_v 0) (ma_nil))) (ma_cons (me_exv k_BadGraph hr.d3 g_BadGraph (ma_cons (me_v 0) (ma_nil))) (ma_cons (me_exv k_BadLabel hr.d3 g_BadLabel (ma_cons (me_v 0) (ma_nil))) (ma_cons (me_exv k_Unlike hr.d3 g_Unlike (ma_cons (me_v 0) (ma_nil))) (ma_cons (me_exv k_NothingThere hr.d3 g_NothingThere (ma_cons (me_v 0) (ma_nil))) (ma_cons (me_exv k_TooMany hr.d3 g_TooMany (ma_cons (me_v 0) (ma_nil))) (ma_nil))))))))))))
theorem cal__law_all {C_BadCut : Addr} {C_BadElement : Addr} {C_BadFlat : Addr} {C_BadForms : Addr} {C_BadGallery : Addr} {C_BadGraph : Addr} {C_BadHeights : Addr} {C_BadLabel : Addr} {C_BadNumber : Addr} {C_BadPlane : Addr} {C_BadPoint : Addr} {C_BadPrime : Addr} {C_BadRow : Addr} {C_BadText : Addr} {C_BadWeights : Addr} {C_CutError : Addr} {C_NothingThere : Addr} {C_TooMany : Addr} {C_Unlike : Addr} {f : Addr} {fd : FuncData} (Dd : FunD K "_law_all" "_law_all" (defArgs st__law_all) (defBody st__law_all) (defScope st__law_all) [] [] f fd) (hm : mg "_law_all" = some (.ref f)) (ub : ∀ x ∈ bls, mg (PySem.Str.ofString x) = none) (k_BadCut : MkC P w K mg base C_BadCut "BadCut") (g_BadCut : mg "BadCut" = some (.ref C_BadCut)) (k_BadElement : MkC P w K mg base C_BadElement "BadElement") (g_BadElement : mg "BadElement" = some (.ref C_BadElement)) (k_BadFlat : MkC P w K mg base C_BadFlat "BadFlat") (g_BadFlat : mg "BadFlat" = some (.ref C_BadFlat)) (k_BadForms : MkC P w K mg base C_BadForms "BadForms") (g_BadForms : mg "BadForms" = some (.ref C_BadForms)) (k_BadGallery : MkC P w K mg base C_BadGallery "BadGallery") (g_BadGallery : mg "BadGallery" = some (.ref C_BadGallery)) (k_BadGraph : MkC P w K mg base C_BadGraph "BadGraph") (g_BadGraph : mg "BadGraph" = some (.ref C_BadGraph)) (k_BadHeights : MkC P w K mg base C_BadHeights "BadHeights") (g_BadHeights : mg "BadHeights" = some (.ref C_BadHeights)) (k_BadLabel : MkC P w K mg base C_BadLabel "BadLabel") (g_BadLabel : mg "BadLabel" = some (.ref C_BadLabel)) (k_BadNumber : MkC P w K mg base C_BadNumber "BadNumber") (g_BadNumber : mg "BadNumber" = some (.ref C_BadNumber)) (k_BadPlane : MkC P w K mg base C_BadPlane "BadPlane") (g_BadPlane : mg "BadPlane" = some (.ref C_BadPlane)) (k_BadPoint : MkC P w K mg base C_BadPoint "BadPoint") (g_BadPoint : mg "BadPoint" = some (.ref C_BadPoint)) (k_BadPrime : MkC P w K mg base C_BadPrime "BadPrime") (g_BadPrime : mg "BadPrime" = some (.ref C_BadPrime)) (k_BadRow : MkC P w K mg base C_BadRow "BadRow") (g_BadRow : mg "BadRow" = some (.ref C_BadRow)) (k_BadText : MkC P w K mg base C_BadText "BadText") (g_BadText : mg "BadText" = some (.ref C_BadText)) (k_BadWeights : MkC P w K mg base C_BadWeights "BadWeights") (g_BadWeights : mg "BadWeights" = some (.ref C_BadWeights)) (k_CutError : MkC P w K mg base C_CutError "CutError") (g_CutError : mg "CutError" = some (.ref C_CutError)) (k_NothingThere : MkC P w K mg base C_NothingThere "NothingThere") (g_NothingThere : mg "NothingThere" = some (.ref C_NothingThere)) (k_TooMany : MkC P w K mg base C_TooMany "TooMany") (g_TooMany : mg "TooMany" = some (.ref C_TooMany)) (k_Unlike : MkC P w K mg base C_Unlike "Unlike") (g_Unlike : mg "Unlike" = some (.ref C_Unlike)) (hs : specP 1 N__law_all.length false (m__law_all C_BadCut C_BadElement C_BadFlat C_BadForms C_BadGallery C_BadGraph C_BadHeights C_BadLabel C_BadNumber C_BadPlane C_BadPoint C_BadPrime C_BadRow C_BadText C_BadWeights C_CutError C_NothingThere C_TooMany C_Unlike) (pf_all [C_BadNumber, C_BadPlane, C_BadCut, C_BadText, C_BadRow, C_BadPoint, C_BadFlat, C_BadPrime, C_BadGallery, C_BadHeights, C_BadElement, C_BadWeights, C_BadForms, C_BadGraph, C_BadLabel, C_Unlike, C_NothingThere, C_TooMany, C_CutError])) : Cal P w K mg base 1 "_law_all" ["place"] (spP K 1 false (pf_all [C_BadNumber, C_BadPlane, C_BadCut, C_BadText, C_BadRow, C_BadPoint, C_BadFlat, C_BadPrime, C_BadGallery, C_BadHeights, C_BadElement, C_BadWeights, C_BadForms, C_BadGraph, C_BadLabel, C_Unlike, C_NothingThere, C_TooMany, C_CutError])) [] :=
  ⟨f, fd, [], fnP_of Dd scope__law_all 1 rfl (pf_all [C_BadNumber, C_BadPlane, C_BadCut, C_BadText, C_BadRow, C_BadPoint, C_BadFlat, C_BadPrime, C_BadGallery, C_BadHeights, C_BadElement, C_BadWeights, C_BadForms, C_BadGraph, C_BadLabel, C_Unlike, C_NothingThere, C_TooMany, C_CutError]) false (fun cdv A outer s H E hr => ms__law_all ub k_BadCut g_BadCut k_BadElement g_BadElement k_BadFlat g_BadFlat k_BadForms g_BadForms k_BadGallery g_BadGallery k_BadGraph g_BadGraph k_BadHeights g_BadHeights k_BadLabel g_BadLabel k_BadNumber g_BadNumber k_BadPlane g_BadPlane k_BadPoint g_BadPoint k_BadPrime g_BadPrime k_BadRow g_BadRow k_BadText g_BadText k_BadWeights g_BadWeights k_CutError g_CutError k_NothingThere g_NothingThere k_TooMany g_TooMany k_Unlike g_Unlike f cdv A outer s H E hr) hs, hm, Dd.kp, .nil, Dd.bindsN fun _ _ _ _ _ _ us hl => match us, hl with | [_], _ => rfl⟩
abbrev st__law_bare : Stmt := top 25
def N__law_bare : List Str := ["made"]
theorem scope__law_bare : FnScope N__law_bare [] (defScope st__law_bare) := ⟨rfl, rfl, rfl, by decide +kernel, rfl, by decide +kernel, by decide +kernel⟩
def m__law_bare  (C_BadCut : Addr) (C_BadElement : Addr) (C_BadFlat : Addr) (C_BadForms : Addr) (C_BadGallery : Addr) (C_BadGraph : Addr) (C_BadHeights : Addr) (C_BadLabel : Addr) (C_BadNumber : Addr) (C_BadPlane : Addr) (C_BadPoint : Addr) (C_BadPrime : Addr) (C_BadRow : Addr) (C_BadText : Addr) (C_BadWeights : Addr) (C_CutError : Addr) (C_NothingThere : Addr) (C_TooMany : Addr) (C_Unlike : Addr) : DS := mSeq (mSet 0 (dLst true (dCons (dExv C_BadNumber "BadNumber" dNil) (dCons (dExv C_BadPlane "BadPlane" dNil) (dCons (dExv C_BadCut "BadCut" dNil) (dCons (dExv C_BadText "BadText" dNil) (dCons (dExv C_BadRow "BadRow" dNil) (dCons (dExv C_BadPoint "BadPoint" dNil) (dNil))))))))) (mSeq (mSet 0 (dOp (dAdd true) (dVar 0) (dLst true (dCons (dExv C_BadFlat "BadFlat" dNil) (dCons (dExv C_BadPrime "BadPrime" dNil) (dCons (dExv C_BadGallery "BadGallery" dNil) (dCons (dExv C_BadHeights "BadHeights" dNil) (dCons (dExv C_BadElement "BadElement" dNil) (dCons (dExv C_BadWeights "BadWeights" dNil) (dNil)))))))))) (mRet (dOp (dAdd true) (dVar 0) (dLst true (dCons (dExv C_BadForms "BadForms" dNil) (dCons (dExv C_BadGraph "BadGraph" dNil) (dCons (dExv C_BadLabel "BadLabel" dNil) (dCons (dExv C_Unlike "Unlike" dNil) (dCons (dExv C_NothingThere "NothingThere" dNil) (dCons (dExv C_TooMany "TooMany" dNil) (dNil)))))))))))
theorem ms__law_bare {C_BadCut : Addr} {C_BadElement : Addr} {C_BadFlat : Addr} {C_BadForms : Addr} {C_BadGallery : Addr} {C_BadGraph : Addr} {C_BadHeights : Addr} {C_BadLabel : Addr} {C_BadNumber : Addr} {C_BadPlane : Addr} {C_BadPoint : Addr} {C_BadPrime : Addr} {C_BadRow : Addr} {C_BadText : Addr} {C_BadWeights : Addr} {C_CutError : Addr} {C_NothingThere : Addr} {C_TooMany : Addr} {C_Unlike : Addr} (ub : ∀ x ∈ bls, mg (PySem.Str.ofString x) = none) (k_BadCut : MkC P w K mg base C_BadCut "BadCut") (g_BadCut : mg "BadCut" = some (.ref C_BadCut)) (k_BadElement : MkC P w K mg base C_BadElement "BadElement") (g_BadElement : mg "BadElement" = some (.ref C_BadElement)) (k_BadFlat : MkC P w K mg base C_BadFlat "BadFlat") (g_BadFlat : mg "BadFlat" = some (.ref C_BadFlat)) (k_BadForms : MkC P w K mg base C_BadForms "BadForms") (g_BadForms : mg "BadForms" = some (.ref C_BadForms)) (k_BadGallery : MkC P w K mg base C_BadGallery "BadGallery") (g_BadGallery : mg "BadGallery" = some (.ref C_BadGallery)) (k_BadGraph : MkC P w K mg base C_BadGraph "BadGraph") (g_BadGraph : mg "BadGraph" = some (.ref C_BadGraph)) (k_BadHeights : MkC P w K mg base C_BadHeights "BadHeights") (g_BadHeights : mg "BadHeights" = some (.ref C_BadHeights)) (k_BadLabel : MkC P w K mg base C_BadLabel "BadLabel") (g_BadLabel : mg "BadLabel" = some (.ref C_BadLabel)) (k_BadNumber : MkC P w K mg base C_BadNumber "BadNumber") (g_BadNumber : mg "BadNumber" = some (.ref C_BadNumber)) (k_BadPlane : MkC P w K mg base C_BadPlane "BadPlane") (g_BadPlane : mg "BadPlane" = some (.ref C_BadPlane)) (k_BadPoint : MkC P w K mg base C_BadPoint "BadPoint") (g_BadPoint : mg "BadPoint" = some (.ref C_BadPoint)) (k_BadPrime : MkC P w K mg base C_BadPrime "BadPrime") (g_BadPrime : mg "BadPrime" = some (.ref C_BadPrime)) (k_BadRow : MkC P w K mg base C_BadRow "BadRow") (g_BadRow : mg "BadRow" = some (.ref C_BadRow)) (k_BadText : MkC P w K mg base C_BadText "BadText") (g_BadText : mg "BadText" = some (.ref C_BadText)) (k_BadWeights : MkC P w K mg base C_BadWeights "BadWeights") (g_BadWeights : mg "BadWeights" = some (.ref C_BadWeights)) (k_CutError : MkC P w K mg base C_CutError "CutError") (g_CutError : mg "CutError" = some (.ref C_CutError)) (k_NothingThere : MkC P w K mg base C_NothingThere "NothingThere") (g_NothingThere : mg "NothingThere" = some (.ref C_NothingThere)) (k_TooMany : MkC P w K mg base C_TooMany "TooMany") (g_TooMany : mg "TooMany" = some (.ref C_TooMany)) (k_Unlike : MkC P w K mg base C_Unlike "Unlike") (g_Unlike : mg "Unlike" = some (.ref C_Unlike)) (f : Addr) (cdv : Value) (A : Around) (outer : List Env) (s : Shared) (H : Hp) (E : XK) (hr : RoomG 0 (A.deeper (envOfC "_law_bare" (defScope st__law_bare) s.heap.objs.size f cdv))) :
    MSs (cxOf (L2.CX P w) P w K mg base N__law_bare "_law_bare" (defScope st__law_bare) f cdv A outer s H E) (fun cls d _ H => E cls d H) (defBody st__law_bare) (m__law_bare C_BadCut C_BadElement C_BadFlat C_BadForms C_BadGallery C_BadGraph C_BadHeights C_BadLabel C_BadNumber C_BadPlane C_BadPoint C_BadPrime C_BadRow C_BadText C_BadWeights C_CutError C_NothingThere C_TooMany C_Unlike) :=
  mss_cons (ms_s 0 scope__law_bare.nd (me_lst true (ma_cons (me_exv0 k_BadNumber hr.d3 g_BadNumber) (ma_cons (me_exv0 k_BadPlane hr.d3 g_BadPlane) (ma_cons (me_exv0 k_BadCut hr.d3 g_BadCut) (ma_cons (me_exv0 k_BadText hr.d3 g_BadText) (ma_cons (me_exv0 k_BadRow hr.d3 g_BadRow) (ma_cons (me_exv0 k_BadPoint hr.d3 g_BadPoint) (ma_nil))))))))) (mss_cons (ms_s 0 scope__law_bare.nd (me_add true (me_v 0) (me_lst true (ma_cons (me_exv0 k_BadFlat hr.d3 g_BadFlat) (ma_cons (me_exv0 k_BadPrime hr.d3 g_BadPrime) (ma_cons (me_exv0 k_BadGallery hr.d3 g_BadGallery) (ma_cons (me_exv0 k_BadHeights hr.d3 g_BadHeights) (ma_cons (me_exv0 k_BadElement hr.d3 g_BadElement) (ma_cons (me_exv0 k_BadWeights hr.d3 g_BadWeights) (ma_nil)))))))))) (mss_one (ms_ret (me_add true (me_v 0) (me_lst true (ma_cons (me_exv0 k_BadForms hr.d3 g_BadForms) (ma_cons (me_exv0 k_BadGraph hr.d3 g_BadGraph) (ma_cons (me_exv0 k_BadLabel hr.d3 g_BadLabel) (ma_cons (me_exv0 k_Unlike hr.d3 g_Unlike) (ma_cons (me_exv0 k_NothingThere hr.d3 g_NothingThere) (ma_cons (me_exv0 k_TooMany hr.d3 g_TooMany) (ma_nil))))))))))))
theorem cal__law_bare {C_BadCut : Addr} {C_BadElement : Addr} {C_BadFlat : Addr} {C_BadForms : Addr} {C_BadGallery : Addr} {C_BadGraph : Addr} {C_BadHeights : Addr} {C_BadLabel : Addr} {C_BadNumber : Addr} {C_BadPlane : Addr} {C_BadPoint : Addr} {C_BadPrime : Addr} {C_BadRow : Addr} {C_BadText : Addr} {C_BadWeights : Addr} {C_CutError : Addr} {C_NothingThere : Addr} {C_TooMany : Addr} {C_Unlike : Addr} {f : Addr} {fd : FuncData} (Dd : FunD K "_law_bare" "_law_bare" (defArgs st__law_bare) (defBody st__law_bare) (defScope st__law_bare) [] [] f fd) (hm : mg "_law_bare" = some (.ref f)) (ub : ∀ x ∈ bls, mg (PySem.Str.ofString x) = none) (k_BadCut : MkC P w K mg base C_BadCut "BadCut") (g_BadCut : mg "BadCut" = some (.ref C_BadCut)) (k_BadElement : MkC P w K mg base C_BadElement "BadElement") (g_BadElement : mg "BadElement" = some (.ref C_BadElement)) (k_BadFlat : MkC P w K mg base C_BadFlat "BadFlat") (g_BadFlat : mg "BadFlat" = some (.ref C_BadFlat)) (k_BadForms : MkC P w K mg base C_BadForms "BadForms") (g_BadForms : mg "BadForms" = some (.ref C_BadForms)) (k_BadGallery : MkC P w K mg base C_BadGallery "BadGallery") (g_BadGallery : mg "BadGallery" = some (.ref C_BadGallery)) (k_BadGraph : MkC P w K mg base C_BadGraph "BadGraph") (g_BadGraph : mg "BadGraph" = some (.ref C_BadGraph)) (k_BadHeights : MkC P w K mg base C_BadHeights "BadHeights") (g_BadHeights : mg "BadHeights" = some (.ref C_BadHeights)) (k_BadLabel : MkC P w K mg base C_BadLabel "BadLabel") (g_BadLabel : mg "BadLabel" = some (.ref C_BadLabel)) (k_BadNumber : MkC P w K mg base C_BadNumber "BadNumber") (g_BadNumber : mg "BadNumber" = some (.ref C_BadNumber)) (k_BadPlane : MkC P w K mg base C_BadPlane "BadPlane") (g_BadPlane : mg "BadPlane" = some (.ref C_BadPlane)) (k_BadPoint : MkC P w K mg base C_BadPoint "BadPoint") (g_BadPoint : mg "BadPoint" = some (.ref C_BadPoint)) (k_BadPrime : MkC P w K mg base C_BadPrime "BadPrime") (g_BadPrime : mg "BadPrime" = some (.ref C_BadPrime)) (k_BadRow : MkC P w K mg base C_BadRow "BadRow") (g_BadRow : mg "BadRow" = some (.ref C_BadRow)) (k_BadText : MkC P w K mg base C_BadText "BadText") (g_BadText : mg "BadText" = some (.ref C_BadText)) (k_BadWeights : MkC P w K mg base C_BadWeights "BadWeights") (g_BadWeights : mg "BadWeights" = some (.ref C_BadWeights)) (k_CutError : MkC P w K mg base C_CutError "CutError") (g_CutError : mg "CutError" = some (.ref C_CutError)) (k_NothingThere : MkC P w K mg base C_NothingThere "NothingThere") (g_NothingThere : mg "NothingThere" = some (.ref C_NothingThere)) (k_TooMany : MkC P w K mg base C_TooMany "TooMany") (g_TooMany : mg "TooMany" = some (.ref C_TooMany)) (k_Unlike : MkC P w K mg base C_Unlike "Unlike") (g_Unlike : mg "Unlike" = some (.ref C_Unlike)) (hs : specP 0 N__law_bare.length false (m__law_bare C_BadCut C_BadElement C_BadFlat C_BadForms C_BadGallery C_BadGraph C_BadHeights C_BadLabel C_BadNumber C_BadPlane C_BadPoint C_BadPrime C_BadRow C_BadText C_BadWeights C_CutError C_NothingThere C_TooMany C_Unlike) (pf_bare [C_BadNumber, C_BadPlane, C_BadCut, C_BadText, C_BadRow, C_BadPoint, C_BadFlat, C_BadPrime, C_BadGallery, C_BadHeights, C_BadElement, C_BadWeights, C_BadForms, C_BadGraph, C_BadLabel, C_Unlike, C_NothingThere, C_TooMany, C_CutError])) : Cal P w K mg base 1 "_law_bare" [] (spP K 0 false (pf_bare [C_BadNumber, C_BadPlane, C_BadCut, C_BadText, C_BadRow, C_BadPoint, C_BadFlat, C_BadPrime, C_BadGallery, C_BadHeights, C_BadElement, C_BadWeights, C_BadForms, C_BadGraph, C_BadLabel, C_Unlike, C_NothingThere, C_TooMany, C_CutError])) [] :=
  ⟨f, fd, [], fnP_of Dd scope__law_bare 0 rfl (pf_bare [C_BadNumber, C_BadPlane, C_BadCut, C_BadText, C_BadRow, C_BadPoint, C_BadFlat, C_BadPrime, C_BadGallery, C_BadHeights, C_BadElement, C_BadWeights, C_BadForms, C_BadGraph, C_BadLabel, C_Unlike, C_NothingThere, C_TooMany, C_CutError]) false (fun cdv A outer s H E hr => ms__law_bare ub k_BadCut g_BadCut k_BadElement g_BadElement k_BadFlat g_BadFlat k_BadForms g_BadForms k_BadGallery g_BadGallery k_BadGraph g_BadGraph k_BadHeights g_BadHeights k_BadLabel g_BadLabel k_BadNumber g_BadNumber k_BadPlane g_BadPlane k_BadPoint g_BadPoint k_BadPrime g_BadPrime k_BadRow g_BadRow k_BadText g_BadText k_BadWeights g_BadWeights k_CutError g_CutError k_NothingThere g_NothingThere k_TooMany g_TooMany k_Unlike g_Unlike f cdv A outer s H E hr) hs, hm, Dd.kp, .nil, Dd.bindsN fun _ _ _ _ _ _ us hl => match us, hl with | [], _ => rfl⟩
abbrev st__law_named : Stmt := top 26
def N__law_named : List Str := ["spot", "made"]
theorem scope__law_named : FnScope N__law_named ["spot"] (defScope st__law_named) := ⟨rfl, rfl, rfl, by decide +kernel, rfl, by decide +kernel, by decide +kernel⟩
def m__law_named  (C_BadCut : Addr) (C_BadElement : Addr) (C_BadFlat : Addr) (C_BadForms : Addr) (C_BadGallery : Addr) (C_BadGraph : Addr) (C_BadHeights : Addr) (C_BadLabel : Addr) (C_BadNumber : Addr) (C_BadPlane : Addr) (C_BadPoint : Addr) (C_BadPrime : Addr) (C_BadRow : Addr) (C_BadText : Addr) (C_BadWeights : Addr) (C_CutError : Addr) (C_NothingThere : Addr) (C_TooMany : Addr) (C_Unlike : Addr) : DS := mSeq (mSet 1 (dLst true (dCons (dExv C_BadNumber "BadNumber" (dCons (dVar 0) dNil)) (dCons (dExv C_BadPlane "BadPlane" (dCons (dVar 0) dNil)) (dCons (dExv C_BadCut "BadCut" (dCons (dVar 0) dNil)) (dCons (dExv C_BadText "BadText" (dCons (dVar 0) dNil)) (dCons (dExv C_BadRow "BadRow" (dCons (dVar 0) dNil)) (dCons (dExv C_BadPoint "BadPoint" (dCons (dVar 0) dNil)) (dNil))))))))) (mSeq (mSet 1 (dOp (dAdd true) (dVar 1) (dLst true (dCons (dExv C_BadFlat "BadFlat" (dCons (dVar 0) dNil)) (dCons (dExv C_BadPrime "BadPrime" (dCons (dVar 0) dNil)) (dCons (dExv C_BadGallery "BadGallery" (dCons (dVar 0) dNil)) (dCons (dExv C_BadHeights "BadHeights" (dCons (dVar 0) dNil)) (dCons (dExv C_BadElement "BadElement" (dCons (dVar 0) dNil)) (dCons (dExv C_BadWeights "BadWeights" (dCons (dVar 0) dNil)) (dNil)))))))))) (mRet (dOp (dAdd true) (dVar 1) (dLst true (dCons (dExv C_BadForms "BadForms" (dCons (dVar 0) dNil)) (dCons (dExv C_BadGraph "BadGraph" (dCons (dVar 0) dNil)) (dCons (dExv C_BadLabel "BadLabel" (dCons (dVar 0) dNil)) (dCons (dExv C_Unlike "Unlike" (dCons (dVar 0) dNil)) (dCons (dExv C_NothingThere "NothingThere" (dCons (dVar 0) dNil)) (dCons (dExv C_TooMany "TooMany" (dCons (dVar 0) dNil)) (dNil)))))))))))
theorem ms__law_named {C_BadCut : Addr} {C_BadElement : Addr} {C_BadFlat : Addr} {C_BadForms : Addr} {C_BadGallery : Addr} {C_BadGraph : Addr} {C_BadHeights : Addr} {C_BadLabel : Addr} {C_BadNumber : Addr} {C_BadPlane : Addr} {C_BadPoint : Addr} {C_BadPrime : Addr} {C_BadRow : Addr} {C_BadText : Addr} {C_BadWeights : Addr} {C_CutError : Addr} {C_NothingThere : Addr} {C_TooMany : Addr} {C_Unlike : Addr} (ub : ∀ x ∈ bls, mg (PySem.Str.ofString x) = none) (k_BadCut : MkC P w K mg base C_BadCut "BadCut") (g_BadCut : mg "BadCut" = some (.ref C_BadCut)) (k_BadElement : MkC P w K mg base C_BadElement "BadElement") (g_BadElement : mg "BadElement" = some (.ref C_BadElement)) (k_BadFlat : MkC P w K mg base C_BadFlat "BadFlat") (g_BadFlat : mg "BadFlat" = some (.ref C_BadFlat)) (k_BadForms : MkC P w K mg base C_BadForms "BadForms") (g_BadForms : mg "BadForms" = some (.ref C_BadForms)) (k_BadGallery : MkC P w K mg base C_BadGallery "BadGallery") (g_BadGallery : mg "BadGallery" = some (.ref C_BadGallery)) (k_BadGraph : MkC P w K mg base C_BadGraph "BadGraph") (g_BadGraph : mg "BadGraph" = some (.ref C_BadGraph)) (k_BadHeights : MkC P w K mg base C_BadHeights "BadHeights") (g_BadHeights : mg "BadHeights" = some (.ref C_BadHeights)) (k_BadLabel : MkC P w K mg base C_BadLabel "BadLabel") (g_BadLabel : mg "BadLabel" = some (.ref C_BadLabel)) (k_BadNumber : MkC P w K mg base C_BadNumber "BadNumber") (g_BadNumber : mg "BadNumber" = some (.ref C_BadNumber)) (k_BadPlane : MkC P w K mg base C_BadPlane "BadPlane") (g_BadPlane : mg "BadPlane" = some (.ref C_BadPlane)) (k_BadPoint : MkC P w K mg base C_BadPoint "BadPoint") (g_BadPoint : mg "BadPoint" = some (.ref C_BadPoint)) (k_BadPrime : MkC P w K mg base C_BadPrime "BadPrime") (g_BadPrime : mg "BadPrime" = some (.ref C_BadPrime)) (k_BadRow : MkC P w K mg base C_BadRow "BadRow") (g_BadRow : mg "BadRow" = some (.ref C_BadRow)) (k_BadText : MkC P w K mg base C_BadText "BadText") (g_BadText : mg "BadText" = some (.ref C_BadText)) (k_BadWeights : MkC P w K mg base C_BadWeights "BadWeights") (g_BadWeights : mg "BadWeights" = some (.ref C_BadWeights)) (k_CutError : MkC P w K mg base C_CutError "CutError") (g_CutError : mg "CutError" = some (.ref C_CutError)) (k_NothingThere : MkC P w K mg base C_NothingThere "NothingThere") (g_NothingThere : mg "NothingThere" = some (.ref C_NothingThere)) (k_TooMany : MkC P w K mg base C_TooMany "TooMany") (g_TooMany : mg "TooMany" = some (.ref C_TooMany)) (k_Unlike : MkC P w K mg base C_Unlike "Unlike") (g_Unlike : mg "Unlike" = some (.ref C_Unlike)) (f : Addr) (cdv : Value) (A : Around) (outer : List Env) (s : Shared) (H : Hp) (E : XK) (hr : RoomG 0 (A.deeper (envOfC "_law_named" (defScope st__law_named) s.heap.objs.size f cdv))) :
    MSs (cxOf (L2.CX P w) P w K mg base N__law_named "_law_named" (defScope st__law_named) f cdv A outer s H E) (fun cls d _ H => E cls d H) (defBody st__law_named) (m__law_named C_BadCut C_BadElement C_BadFlat C_BadForms C_BadGallery C_BadGraph C_BadHeights C_BadLabel C_BadNumber C_BadPlane C_BadPoint C_BadPrime C_BadRow C_BadText C_BadWeights C_CutError C_NothingThere C_TooMany C_Unlike) :=
  mss_cons (ms_s 1 scope__law_named.nd (me_lst true (ma_cons (me_exvK k_BadNumber hr.d3 g_BadNumber (me_v 0)) (ma_cons (me_exvK k_BadPlane hr.d3 g_BadPlane (me_v 0)) (ma_cons (me_exvK k_BadCut hr.d3 g_BadCut (me_v 0)) (ma_cons (me_exvK k_BadText hr.d3 g_BadText (me_v 0)) (ma_cons (me_exvK k_BadRow hr.d3 g_BadRow (me_v 0)) (ma_cons (me_exvK k_BadPoint hr.d3 g_BadPoint (me_v 0)) (ma_nil))))))))) (mss_cons (ms_s 1 scope__law_named.nd (me_add true (me_v 1) (me_lst true (ma_cons (me_exvK k_BadFlat hr.d3 g_BadFlat (me_v 0)) (ma_cons (me_exvK k_BadPrime hr.d3 g_BadPrime (me_v 0)) (ma_cons (me_exvK k_BadGallery hr.d3 g_BadGallery (me_v 0)) (ma_cons (me_exvK k_BadHeights hr.d3 g_BadHeights (me_v 0)) (ma_cons (me_exvK k_BadElement hr.d3 g_BadElement (me_v 0)) (ma_cons (me_exvK k_BadWeights hr.d3 g_BadWeights (me_v 0)) (ma_nil)))))))))) (mss_one (ms_ret (me_add true (me_v 1) (me_lst true (ma_cons (me_exvK k_BadForms hr.d3 g_BadForms (me_v 0)) (ma_cons (me_exvK k_BadGraph hr.d3 g_BadGraph (me_v 0)) (ma_cons (me_exvK k_BadLabel hr.d3 g_BadLabel (me_v 0)) (ma_cons (me_exvK k_Unlike hr.d3 g_Unlike (me_v 0)) (ma_cons (me_exvK k_NothingThere hr.d3 g_NothingThere (me_v 0)) (ma_cons (me_exvK k_TooMany hr.d3 g_TooMany (me_v 0)) (ma_nil))))))))))))
theorem cal__law_named {C_BadCut : Addr} {C_BadElement : Addr} {C_BadFlat : Addr} {C_BadForms : Addr} {C_BadGallery : Addr} {C_BadGraph : Addr} {C_BadHeights : Addr} {C_BadLabel : Addr} {C_BadNumber : Addr} {C_BadPlane : Addr} {C_BadPoint : Addr} {C_BadPrime : Addr} {C_BadRow : Addr} {C_BadText : Addr} {C_BadWeights : Addr} {C_CutError : Addr} {C_NothingThere : Addr} {C_TooMany : Addr} {C_Unlike : Addr} {f : Addr} {fd : FuncData} (Dd : FunD K "_law_named" "_law_named" (defArgs st__law_named) (defBody st__law_named) (defScope st__law_named) [] [] f fd) (hm : mg "_law_named" = some (.ref f)) (ub : ∀ x ∈ bls, mg (PySem.Str.ofString x) = none) (k_BadCut : MkC P w K mg base C_BadCut "BadCut") (g_BadCut : mg "BadCut" = some (.ref C_BadCut)) (k_BadElement : MkC P w K mg base C_BadElement "BadElement") (g_BadElement : mg "BadElement" = some (.ref C_BadElement)) (k_BadFlat : MkC P w K mg base C_BadFlat "BadFlat") (g_BadFlat : mg "BadFlat" = some (.ref C_BadFlat)) (k_BadForms : MkC P w K mg base C_BadForms "BadForms") (g_BadForms : mg "BadForms" = some (.ref C_BadForms)) (k_BadGallery : MkC P w K mg base C_BadGallery "BadGallery") (g_BadGallery : mg "BadGallery" = some (.ref C_BadGallery)) (k_BadGraph : MkC P w K mg base C_BadGraph "BadGraph") (g_BadGraph : mg "BadGraph" = some (.ref C_BadGraph)) (k_BadHeights : MkC P w K mg base C_BadHeights "BadHeights") (g_BadHeights : mg "BadHeights" = some (.ref C_BadHeights)) (k_BadLabel : MkC P w K mg base C_BadLabel "BadLabel") (g_BadLabel : mg "BadLabel" = some (.ref C_BadLabel)) (k_BadNumber : MkC P w K mg base C_BadNumber "BadNumber") (g_BadNumber : mg "BadNumber" = some (.ref C_BadNumber)) (k_BadPlane : MkC P w K mg base C_BadPlane "BadPlane") (g_BadPlane : mg "BadPlane" = some (.ref C_BadPlane)) (k_BadPoint : MkC P w K mg base C_BadPoint "BadPoint") (g_BadPoint : mg "BadPoint" = some (.ref C_BadPoint)) (k_BadPrime : MkC P w K mg base C_BadPrime "BadPrime") (g_BadPrime : mg "BadPrime" = some (.ref C_BadPrime)) (k_BadRow : MkC P w K mg base C_BadRow "BadRow") (g_BadRow : mg "BadRow" = some (.ref C_BadRow)) (k_BadText : MkC P w K mg base C_BadText "BadText") (g_BadText : mg "BadText" = some (.ref C_BadText)) (k_BadWeights : MkC P w K mg base C_BadWeights "BadWeights") (g_BadWeights : mg "BadWeights" = some (.ref C_BadWeights)) (k_CutError : MkC P w K mg base C_CutError "CutError") (g_CutError : mg "CutError" = some (.ref C_CutError)) (k_NothingThere : MkC P w K mg base C_NothingThere "NothingThere") (g_NothingThere : mg "NothingThere" = some (.ref C_NothingThere)) (k_TooMany : MkC P w K mg base C_TooMany "TooMany") (g_TooMany : mg "TooMany" = some (.ref C_TooMany)) (k_Unlike : MkC P w K mg base C_Unlike "Unlike") (g_Unlike : mg "Unlike" = some (.ref C_Unlike)) (hs : specP 1 N__law_named.length false (m__law_named C_BadCut C_BadElement C_BadFlat C_BadForms C_BadGallery C_BadGraph C_BadHeights C_BadLabel C_BadNumber C_BadPlane C_BadPoint C_BadPrime C_BadRow C_BadText C_BadWeights C_CutError C_NothingThere C_TooMany C_Unlike) (pf_all [C_BadNumber, C_BadPlane, C_BadCut, C_BadText, C_BadRow, C_BadPoint, C_BadFlat, C_BadPrime, C_BadGallery, C_BadHeights, C_BadElement, C_BadWeights, C_BadForms, C_BadGraph, C_BadLabel, C_Unlike, C_NothingThere, C_TooMany, C_CutError])) : Cal P w K mg base 1 "_law_named" ["spot"] (spP K 1 false (pf_all [C_BadNumber, C_BadPlane, C_BadCut, C_BadText, C_BadRow, C_BadPoint, C_BadFlat, C_BadPrime, C_BadGallery, C_BadHeights, C_BadElement, C_BadWeights, C_BadForms, C_BadGraph, C_BadLabel, C_Unlike, C_NothingThere, C_TooMany, C_CutError])) [] :=
  ⟨f, fd, [], fnP_of Dd scope__law_named 1 rfl (pf_all [C_BadNumber, C_BadPlane, C_BadCut, C_BadText, C_BadRow, C_BadPoint, C_BadFlat, C_BadPrime, C_BadGallery, C_BadHeights, C_BadElement, C_BadWeights, C_BadForms, C_BadGraph, C_BadLabel, C_Unlike, C_NothingThere, C_TooMany, C_CutError]) false (fun cdv A outer s H E hr => ms__law_named ub k_BadCut g_BadCut k_BadElement g_BadElement k_BadFlat g_BadFlat k_BadForms g_BadForms k_BadGallery g_BadGallery k_BadGraph g_BadGraph k_BadHeights g_BadHeights k_BadLabel g_BadLabel k_BadNumber g_BadNumber k_BadPlane g_BadPlane k_BadPoint g_BadPoint k_BadPrime g_BadPrime k_BadRow g_BadRow k_BadText g_BadText k_BadWeights g_BadWeights k_CutError g_CutError k_NothingThere g_NothingThere k_TooMany g_TooMany k_Unlike g_Unlike f cdv A outer s H E hr) hs, hm, Dd.kp, .nil, Dd.bindsN fun _ _ _ _ _ _ us hl => match us, hl with | [_], _ => rfl⟩
abbrev st__law_kinds : Stmt := top 27
def N__law_kinds : List Str := ["e", "made"]
theorem scope__law_kinds : FnScope N__law_kinds ["e"] (defScope st__law_kinds) := ⟨rfl, rfl, rfl, by decide +kernel, rfl, by decide +kernel, by decide +kernel⟩
def m__law_kinds (K : PySem.W.Frag)  (C_BadCut : Addr) (C_BadElement : Addr) (C_BadFlat : Addr) (C_BadForms : Addr) (C_BadGallery : Addr) (C_BadGraph : Addr) (C_BadHeights : Addr) (C_BadLabel : Addr) (C_BadNumber : Addr) (C_BadPlane : Addr) (C_BadPoint : Addr) (C_BadPrime : Addr) (C_BadRow : Addr) (C_BadText : Addr) (C_BadWeights : Addr) (C_CutError : Addr) (C_NothingThere : Addr) (C_TooMany : Addr) (C_Unlike : Addr) : DS := mSeq (mSet 1 (dLst true (dCons (dCB (dIsX K) (dCons (dVar 0) (dCons (dC (.cls C_BadNumber)) (dNil)))) (dCons (dCB (dIsX K) (dCons (dVar 0) (dCons (dC (.cls C_BadPlane)) (dNil)))) (dCons (dCB (dIsX K) (dCons (dVar 0) (dCons (dC (.cls C_BadCut)) (dNil)))) (dCons (dCB (dIsX K) (dCons (dVar 0) (dCons (dC (.cls C_BadText)) (dNil)))) (dCons (dCB (dIsX K) (dCons (dVar 0) (dCons (dC (.cls C_BadRow)) (dNil)))) (dCons (dCB (dIsX K) (dCons (dVar 0) (dCons (dC (.cls C_BadPoint)) (dNil)))) (dNil))))))))) (mSeq (mSet 1 (dOp (dAdd true) (dVar 1) (dLst true (dCons (dCB (dIsX K) (dCons (dVar 0) (dCons (dC (.cls C_BadFlat)) (dNil)))) (dCons (dCB (dIsX K) (dCons (dVar 0) (dCons (dC (.cls C_BadPrime)) (dNil)))) (dCons (dCB (dIsX K) (dCons (dVar 0) (dCons (dC (.cls C_BadGallery)) (dNil)))) (dCons (dCB (dIsX K) (dCons (dVar 0) (dCons (dC (.cls C_BadHeights)) (dNil)))) (dCons (dCB (dIsX K) (dCons (dVar 0) (dCons (dC (.cls C_BadElement)) (dNil)))) (dCons (dCB (dIsX K) (dCons (dVar 0) (dCons (dC (.cls C_BadWeights)) (dNil)))) (dNil)))))))))) (mRet (dOp (dAdd true) (dVar 1) (dLst true (dCons (dCB (dIsX K) (dCons (dVar 0) (dCons (dC (.cls C_BadForms)) (dNil)))) (dCons (dCB (dIsX K) (dCons (dVar 0) (dCons (dC (.cls C_BadGraph)) (dNil)))) (dCons (dCB (dIsX K) (dCons (dVar 0) (dCons (dC (.cls C_BadLabel)) (dNil)))) (dCons (dCB (dIsX K) (dCons (dVar 0) (dCons (dC (.cls C_Unlike)) (dNil)))) (dCons (dCB (dIsX K) (dCons (dVar 0) (dCons (dC (.cls C_NothingThere)) (dNil)))) (dCons (dCB (dIsX K) (dCons (dVar 0) (dCons (dC (.cls C_TooMany)) (dNil)))) (dNil)))))))))))
theorem ms__law_kinds {C_BadCut : Addr} {C_BadElement : Addr} {C_BadFlat : Addr} {C_BadForms : Addr} {C_BadGallery : Addr} {C_BadGraph : Addr} {C_BadHeights : Addr} {C_BadLabel : Addr} {C_BadNumber : Addr} {C_BadPlane : Addr} {C_BadPoint : Addr} {C_BadPrime : Addr} {C_BadRow : Addr} {C_BadText : Addr} {C_BadWeights : Addr} {C_CutError : Addr} {C_NothingThere : Addr} {C_TooMany : Addr} {C_Unlike : Addr} (ub : ∀ x ∈ bls, mg (PySem.Str.ofString x) = none) (k_BadCut : MkC P w K mg base C_BadCut "BadCut") (g_BadCut : mg "BadCut" = some (.ref C_BadCut)) (k_BadElement : MkC P w K mg base C_BadElement "BadElement") (g_BadElement : mg "BadElement" = some (.ref C_BadElement)) (k_BadFlat : MkC P w K mg base C_BadFlat "BadFlat") (g_BadFlat : mg "BadFlat" = some (.ref C_BadFlat)) (k_BadForms : MkC P w K mg base C_BadForms "BadForms") (g_BadForms : mg "BadForms" = some (.ref C_BadForms)) (k_BadGallery : MkC P w K mg base C_BadGallery "BadGallery") (g_BadGallery : mg "BadGallery" = some (.ref C_BadGallery)) (k_BadGraph : MkC P w K mg base C_BadGraph "BadGraph") (g_BadGraph : mg "BadGraph" = some (.ref C_BadGraph)) (k_BadHeights : MkC P w K mg base C_BadHeights "BadHeights") (g_BadHeights : mg "BadHeights" = some (.ref C_BadHeights)) (k_BadLabel : MkC P w K mg base C_BadLabel "BadLabel") (g_BadLabel : mg "BadLabel" = some (.ref C_BadLabel)) (k_BadNumber : MkC P w K mg base C_BadNumber "BadNumber") (g_BadNumber : mg "BadNumber" = some (.ref C_BadNumber)) (k_BadPlane : MkC P w K mg base C_BadPlane "BadPlane") (g_BadPlane : mg "BadPlane" = some (.ref C_BadPlane)) (k_BadPoint : MkC P w K mg base C_BadPoint "BadPoint") (g_BadPoint : mg "BadPoint" = some (.ref C_BadPoint)) (k_BadPrime : MkC P w K mg base C_BadPrime "BadPrime") (g_BadPrime : mg "BadPrime" = some (.ref C_BadPrime)) (k_BadRow : MkC P w K mg base C_BadRow "BadRow") (g_BadRow : mg "BadRow" = some (.ref C_BadRow)) (k_BadText : MkC P w K mg base C_BadText "BadText") (g_BadText : mg "BadText" = some (.ref C_BadText)) (k_BadWeights : MkC P w K mg base C_BadWeights "BadWeights") (g_BadWeights : mg "BadWeights" = some (.ref C_BadWeights)) (k_CutError : MkC P w K mg base C_CutError "CutError") (g_CutError : mg "CutError" = some (.ref C_CutError)) (k_NothingThere : MkC P w K mg base C_NothingThere "NothingThere") (g_NothingThere : mg "NothingThere" = some (.ref C_NothingThere)) (k_TooMany : MkC P w K mg base C_TooMany "TooMany") (g_TooMany : mg "TooMany" = some (.ref C_TooMany)) (k_Unlike : MkC P w K mg base C_Unlike "Unlike") (g_Unlike : mg "Unlike" = some (.ref C_Unlike)) (f : Addr) (cdv : Value) (A : Around) (outer : List Env) (s : Shared) (H : Hp) (E : XK) (hr : RoomG 0 (A.deeper (envOfC "_law_kinds" (defScope st__law_kinds) s.heap.objs.size f cdv))) :
    MSs (cxOf (L2.CX P w) P w K mg base N__law_kinds "_law_kinds" (defScope st__law_kinds) f cdv A outer s H E) (fun cls d _ H => E cls d H) (defBody st__law_kinds) (m__law_kinds K C_BadCut C_BadElement C_BadFlat C_BadForms C_BadGallery C_BadGraph C_BadHeights C_BadLabel C_BadNumber C_BadPlane C_BadPoint C_BadPrime C_BadRow C_BadText C_BadWeights C_CutError C_NothingThere C_TooMany C_Unlike) :=
  mss_cons (ms_s 1 scope__law_kinds.nd (me_lst true (ma_cons (me_isX (ub "isinstance" (by decide)) (ma_cons (me_v 0) (ma_cons (me_cl g_BadNumber) (ma_nil)))) (ma_cons (me_isX (ub "isinstance" (by decide)) (ma_cons (me_v 0) (ma_cons (me_cl g_BadPlane) (ma_nil)))) (ma_cons (me_isX (ub "isinstance" (by decide)) (ma_cons (me_v 0) (ma_cons (me_cl g_BadCut) (ma_nil)))) (ma_cons (me_isX (ub "isinstance" (by decide)) (ma_cons (me_v 0) (ma_cons (me_cl g_BadText) (ma_nil)))) (ma_cons (me_isX (ub "isinstance" (by decide)) (ma_cons (me_v 0) (ma_cons (me_cl g_BadRow) (ma_nil)))) (ma_cons (me_isX (ub "isinstance" (by decide)) (ma_cons (me_v 0) (ma_cons (me_cl g_BadPoint) (ma_nil)))) (ma_nil))))))))) (mss_cons (ms_s 1 scope__law_kinds.nd (me_add true (me_v 1) (me_lst true (ma_cons (me_isX (ub "isinstance" (by decide)) (ma_cons (me_v 0) (ma_cons (me_cl g_BadFlat) (ma_nil)))) (ma_cons (me_isX (ub "isinstance" (by decide)) (ma_cons (me_v 0) (ma_cons (me_cl g_BadPrime) (ma_nil)))) (ma_cons (me_isX (ub "isinstance" (by decide)) (ma_cons (me_v 0) (ma_cons (me_cl g_BadGallery) (ma_nil)))) (ma_cons (me_isX (ub "isinstance" (by decide)) (ma_cons (me_v 0) (ma_cons (me_cl g_BadHeights) (ma_nil)))) (ma_cons (me_isX (ub "isinstance" (by decide)) (ma_cons (me_v 0) (ma_cons (me_cl g_BadElement) (ma_nil)))) (ma_cons (me_isX (ub "isinstance" (by decide)) (ma_cons (me_v 0) (ma_cons (me_cl g_BadWeights) (ma_nil)))) (ma_nil)))))))))) (mss_one (ms_ret (me_add true (me_v 1) (me_lst true (ma_cons (me_isX (ub "isinstance" (by decide)) (ma_cons (me_v 0) (ma_cons (me_cl g_BadForms) (ma_nil)))) (ma_cons (me_isX (ub "isinstance" (by decide)) (ma_cons (me_v 0) (ma_cons (me_cl g_BadGraph) (ma_nil)))) (ma_cons (me_isX (ub "isinstance" (by decide)) (ma_cons (me_v 0) (ma_cons (me_cl g_BadLabel) (ma_nil)))) (ma_cons (me_isX (ub "isinstance" (by decide)) (ma_cons (me_v 0) (ma_cons (me_cl g_Unlike) (ma_nil)))) (ma_cons (me_isX (ub "isinstance" (by decide)) (ma_cons (me_v 0) (ma_cons (me_cl g_NothingThere) (ma_nil)))) (ma_cons (me_isX (ub "isinstance" (by decide)) (ma_cons (me_v 0) (ma_cons (me_cl g_TooMany) (ma_nil)))) (ma_nil))))))))))))
theorem cal__law_kinds {C_BadCut : Addr} {C_BadElement : Addr} {C_BadFlat : Addr} {C_BadForms : Addr} {C_BadGallery : Addr} {C_BadGraph : Addr} {C_BadHeights : Addr} {C_BadLabel : Addr} {C_BadNumber : Addr} {C_BadPlane : Addr} {C_BadPoint : Addr} {C_BadPrime : Addr} {C_BadRow : Addr} {C_BadText : Addr} {C_BadWeights : Addr} {C_CutError : Addr} {C_NothingThere : Addr} {C_TooMany : Addr} {C_Unlike : Addr} {f : Addr} {fd : FuncData} (Dd : FunD K "_law_kinds" "_law_kinds" (defArgs st__law_kinds) (defBody st__law_kinds) (defScope st__law_kinds) [] [] f fd) (hm : mg "_law_kinds" = some (.ref f)) (ub : ∀ x ∈ bls, mg (PySem.Str.ofString x) = none) (k_BadCut : MkC P w K mg base C_BadCut "BadCut") (g_BadCut : mg "BadCut" = some (.ref C_BadCut)) (k_BadElement : MkC P w K mg base C_BadElement "BadElement") (g_BadElement : mg "BadElement" = some (.ref C_BadElement)) (k_BadFlat : MkC P w K mg base C_BadFlat "BadFlat") (g_BadFlat : mg "BadFlat" = some (.ref C_BadFlat)) (k_BadForms : MkC P w K mg base C_BadForms "BadForms") (g_BadForms : mg "BadForms" = some (.ref C_BadForms)) (k_BadGallery : MkC P w K mg base C_BadGallery "BadGallery") (g_BadGallery : mg "BadGallery" = some (.ref C_BadGallery)) (k_BadGraph : MkC P w K mg base C_BadGraph "BadGraph") (g_BadGraph : mg "BadGraph" = some (.ref C_BadGraph)) (k_BadHeights : MkC P w K mg base C_BadHeights "BadHeights") (g_BadHeights : mg "BadHeights" = some (.ref C_BadHeights)) (k_BadLabel : MkC P w K mg base C_BadLabel "BadLabel") (g_BadLabel : mg "BadLabel" = some (.ref C_BadLabel)) (k_BadNumber : MkC P w K mg base C_BadNumber "BadNumber") (g_BadNumber : mg "BadNumber" = some (.ref C_BadNumber)) (k_BadPlane : MkC P w K mg base C_BadPlane "BadPlane") (g_BadPlane : mg "BadPlane" = some (.ref C_BadPlane)) (k_BadPoint : MkC P w K mg base C_BadPoint "BadPoint") (g_BadPoint : mg "BadPoint" = some (.ref C_BadPoint)) (k_BadPrime : MkC P w K mg base C_BadPrime "BadPrime") (g_BadPrime : mg "BadPrime" = some (.ref C_BadPrime)) (k_BadRow : MkC P w K mg base C_BadRow "BadRow") (g_BadRow : mg "BadRow" = some (.ref C_BadRow)) (k_BadText : MkC P w K mg base C_BadText "BadText") (g_BadText : mg "BadText" = some (.ref C_BadText)) (k_BadWeights : MkC P w K mg base C_BadWeights "BadWeights") (g_BadWeights : mg "BadWeights" = some (.ref C_BadWeights)) (k_CutError : MkC P w K mg base C_CutError "CutError") (g_CutError : mg "CutError" = some (.ref C_CutError)) (k_NothingThere : MkC P w K mg base C_NothingThere "NothingThere") (g_NothingThere : mg "NothingThere" = some (.ref C_NothingThere)) (k_TooMany : MkC P w K mg base C_TooMany "TooMany") (g_TooMany : mg "TooMany" = some (.ref C_TooMany)) (k_Unlike : MkC P w K mg base C_Unlike "Unlike") (g_Unlike : mg "Unlike" = some (.ref C_Unlike)) (hs : specP 1 N__law_kinds.length false (m__law_kinds K C_BadCut C_BadElement C_BadFlat C_BadForms C_BadGallery C_BadGraph C_BadHeights C_BadLabel C_BadNumber C_BadPlane C_BadPoint C_BadPrime C_BadRow C_BadText C_BadWeights C_CutError C_NothingThere C_TooMany C_Unlike) (pf_kinds [C_BadNumber, C_BadPlane, C_BadCut, C_BadText, C_BadRow, C_BadPoint, C_BadFlat, C_BadPrime, C_BadGallery, C_BadHeights, C_BadElement, C_BadWeights, C_BadForms, C_BadGraph, C_BadLabel, C_Unlike, C_NothingThere, C_TooMany, C_CutError])) : Cal P w K mg base 1 "_law_kinds" ["e"] (spP K 1 false (pf_kinds [C_BadNumber, C_BadPlane, C_BadCut, C_BadText, C_BadRow, C_BadPoint, C_BadFlat, C_BadPrime, C_BadGallery, C_BadHeights, C_BadElement, C_BadWeights, C_BadForms, C_BadGraph, C_BadLabel, C_Unlike, C_NothingThere, C_TooMany, C_CutError])) [] :=
  ⟨f, fd, [], fnP_of Dd scope__law_kinds 1 rfl (pf_kinds [C_BadNumber, C_BadPlane, C_BadCut, C_BadText, C_BadRow, C_BadPoint, C_BadFlat, C_BadPrime, C_BadGallery, C_BadHeights, C_BadElement, C_BadWeights, C_BadForms, C_BadGraph, C_BadLabel, C_Unlike, C_NothingThere, C_TooMany, C_CutError]) false (fun cdv A outer s H E hr => ms__law_kinds ub k_BadCut g_BadCut k_BadElement g_BadElement k_BadFlat g_BadFlat k_BadForms g_BadForms k_BadGallery g_BadGallery k_BadGraph g_BadGraph k_BadHeights g_BadHeights k_BadLabel g_BadLabel k_BadNumber g_BadNumber k_BadPlane g_BadPlane k_BadPoint g_BadPoint k_BadPrime g_BadPrime k_BadRow g_BadRow k_BadText g_BadText k_BadWeights g_BadWeights k_CutError g_CutError k_NothingThere g_NothingThere k_TooMany g_TooMany k_Unlike g_Unlike f cdv A outer s H E hr) hs, hm, Dd.kp, .nil, Dd.bindsN fun _ _ _ _ _ _ us hl => match us, hl with | [_], _ => rfl⟩
abbrev st__law_caught : Stmt := top 28
def N__law_caught : List Str := ["at", "spot", "error"]
theorem scope__law_caught : FnScope N__law_caught ["at", "spot"] (defScope st__law_caught) := ⟨rfl, rfl, rfl, by decide +kernel, rfl, by decide +kernel, by decide +kernel⟩
def m__law_caught (K : PySem.W.Frag)  (C_BadCut : Addr) (C_BadElement : Addr) (C_BadFlat : Addr) (C_BadForms : Addr) (C_BadGallery : Addr) (C_BadGraph : Addr) (C_BadHeights : Addr) (C_BadLabel : Addr) (C_BadNumber : Addr) (C_BadPlane : Addr) (C_BadPoint : Addr) (C_BadPrime : Addr) (C_BadRow : Addr) (C_BadText : Addr) (C_BadWeights : Addr) (C_CutError : Addr) (C_NothingThere : Addr) (C_TooMany : Addr) (C_Unlike : Addr) : DS := mTry K (.ref C_CutError) 2 (mSeq (mIf (dTestB (dOp dEq (dVar 0) (dC (.int 0)))) (mRaise C_BadText "BadText" (dCons (dVar 1) (dNil))) (mNext)) (mSeq (mIf (dTestB (dOp dEq (dVar 0) (dC (.int 1)))) (mRaise C_Unlike "Unlike" (dCons (dVar 1) (dNil))) (mNext)) (mSeq (mIf (dTestB (dOp dEq (dVar 0) (dC (.int 2)))) (mRaise C_NothingThere "NothingThere" (dCons (dVar 1) (dNil))) (mNext)) (mSeq (mIf (dTestB (dOp dEq (dVar 0) (dC (.int 3)))) (mRaise C_TooMany "TooMany" (dCons (dVar 1) (dNil))) (mNext)) (mRaise C_BadRow "BadRow" (dCons (dVar 1) (dNil))))))) (fun xa xC xd => mRet (dTup (dCons (dXf "word" xa xC xd (dVar 2)) (dCons (dXf "place" xa xC xd (dVar 2)) (dNil)))))
theorem ms__law_caught {C_BadCut : Addr} {C_BadElement : Addr} {C_BadFlat : Addr} {C_BadForms : Addr} {C_BadGallery : Addr} {C_BadGraph : Addr} {C_BadHeights : Addr} {C_BadLabel : Addr} {C_BadNumber : Addr} {C_BadPlane : Addr} {C_BadPoint : Addr} {C_BadPrime : Addr} {C_BadRow : Addr} {C_BadText : Addr} {C_BadWeights : Addr} {C_CutError : Addr} {C_NothingThere : Addr} {C_TooMany : Addr} {C_Unlike : Addr} (ub : ∀ x ∈ bls, mg (PySem.Str.ofString x) = none) (k_BadCut : MkC P w K mg base C_BadCut "BadCut") (g_BadCut : mg "BadCut" = some (.ref C_BadCut)) (k_BadElement : MkC P w K mg base C_BadElement "BadElement") (g_BadElement : mg "BadElement" = some (.ref C_BadElement)) (k_BadFlat : MkC P w K mg base C_BadFlat "BadFlat") (g_BadFlat : mg "BadFlat" = some (.ref C_BadFlat)) (k_BadForms : MkC P w K mg base C_BadForms "BadForms") (g_BadForms : mg "BadForms" = some (.ref C_BadForms)) (k_BadGallery : MkC P w K mg base C_BadGallery "BadGallery") (g_BadGallery : mg "BadGallery" = some (.ref C_BadGallery)) (k_BadGraph : MkC P w K mg base C_BadGraph "BadGraph") (g_BadGraph : mg "BadGraph" = some (.ref C_BadGraph)) (k_BadHeights : MkC P w K mg base C_BadHeights "BadHeights") (g_BadHeights : mg "BadHeights" = some (.ref C_BadHeights)) (k_BadLabel : MkC P w K mg base C_BadLabel "BadLabel") (g_BadLabel : mg "BadLabel" = some (.ref C_BadLabel)) (k_BadNumber : MkC P w K mg base C_BadNumber "BadNumber") (g_BadNumber : mg "BadNumber" = some (.ref C_BadNumber)) (k_BadPlane : MkC P w K mg base C_BadPlane "BadPlane") (g_BadPlane : mg "BadPlane" = some (.ref C_BadPlane)) (k_BadPoint : MkC P w K mg base C_BadPoint "BadPoint") (g_BadPoint : mg "BadPoint" = some (.ref C_BadPoint)) (k_BadPrime : MkC P w K mg base C_BadPrime "BadPrime") (g_BadPrime : mg "BadPrime" = some (.ref C_BadPrime)) (k_BadRow : MkC P w K mg base C_BadRow "BadRow") (g_BadRow : mg "BadRow" = some (.ref C_BadRow)) (k_BadText : MkC P w K mg base C_BadText "BadText") (g_BadText : mg "BadText" = some (.ref C_BadText)) (k_BadWeights : MkC P w K mg base C_BadWeights "BadWeights") (g_BadWeights : mg "BadWeights" = some (.ref C_BadWeights)) (k_CutError : MkC P w K mg base C_CutError "CutError") (g_CutError : mg "CutError" = some (.ref C_CutError)) (k_NothingThere : MkC P w K mg base C_NothingThere "NothingThere") (g_NothingThere : mg "NothingThere" = some (.ref C_NothingThere)) (k_TooMany : MkC P w K mg base C_TooMany "TooMany") (g_TooMany : mg "TooMany" = some (.ref C_TooMany)) (k_Unlike : MkC P w K mg base C_Unlike "Unlike") (g_Unlike : mg "Unlike" = some (.ref C_Unlike)) (f : Addr) (cdv : Value) (A : Around) (outer : List Env) (s : Shared) (H : Hp) (E : XK) (hr : RoomG 0 (A.deeper (envOfC "_law_caught" (defScope st__law_caught) s.heap.objs.size f cdv))) :
    MSs (cxOf (L2.CX P w) P w K mg base N__law_caught "_law_caught" (defScope st__law_caught) f cdv A outer s H E) (fun cls d _ H => E cls d H) (defBody st__law_caught) (m__law_caught K C_BadCut C_BadElement C_BadFlat C_BadForms C_BadGallery C_BadGraph C_BadHeights C_BadLabel C_BadNumber C_BadPlane C_BadPoint C_BadPrime C_BadRow C_BadText C_BadWeights C_CutError C_NothingThere C_TooMany C_Unlike) :=
  mss_one (ms_try rfl rfl scope__law_caught.nd rfl rfl ⟨rfl, by decide +kernel, .inl g_CutError⟩ (takes_of rfl rfl rfl rfl) (fun _ _ _ tk' ps' => mss_cons (ms_if (mt_c (cd_eq hr.u64) (me_v 0) (me_int)) (mss_one (ms_raise rfl tk' k_BadText hr.d3 g_BadText (ma_cons (me_v 1) (ma_nil)))) (mss_nil)) (mss_cons (ms_if (mt_c (cd_eq hr.u64) (me_v 0) (me_int)) (mss_one (ms_raise rfl tk' k_Unlike hr.d3 g_Unlike (ma_cons (me_v 1) (ma_nil)))) (mss_nil)) (mss_cons (ms_if (mt_c (cd_eq hr.u64) (me_v 0) (me_int)) (mss_one (ms_raise rfl tk' k_NothingThere hr.d3 g_NothingThere (ma_cons (me_v 1) (ma_nil)))) (mss_nil)) (mss_cons (ms_if (mt_c (cd_eq hr.u64) (me_v 0) (me_int)) (mss_one (ms_raise rfl tk' k_TooMany hr.d3 g_TooMany (ma_cons (me_v 1) (ma_nil)))) (mss_nil)) (mss_one (ms_raise rfl tk' k_BadRow hr.d3 g_BadRow (ma_cons (me_v 1) (ma_nil)))))))) (fun xa _ xC xd _ xT xz xf => mss_one (ms_ret (me_tup (ma_cons (me_xw xT xz xf (me_v 2)) (ma_cons (me_xp xT xz xf (me_v 2)) (ma_nil)))))))
theorem cal__law_caught {C_BadCut : Addr} {C_BadElement : Addr} {C_BadFlat : Addr} {C_BadForms : Addr} {C_BadGallery : Addr} {C_BadGraph : Addr} {C_BadHeights : Addr} {C_BadLabel : Addr} {C_BadNumber : Addr} {C_BadPlane : Addr} {C_BadPoint : Addr} {C_BadPrime : Addr} {C_BadRow : Addr} {C_BadText : Addr} {C_BadWeights : Addr} {C_CutError : Addr} {C_NothingThere : Addr} {C_TooMany : Addr} {C_Unlike : Addr} {f : Addr} {fd : FuncData} (Dd : FunD K "_law_caught" "_law_caught" (defArgs st__law_caught) (defBody st__law_caught) (defScope st__law_caught) [] [] f fd) (hm : mg "_law_caught" = some (.ref f)) (ub : ∀ x ∈ bls, mg (PySem.Str.ofString x) = none) (k_BadCut : MkC P w K mg base C_BadCut "BadCut") (g_BadCut : mg "BadCut" = some (.ref C_BadCut)) (k_BadElement : MkC P w K mg base C_BadElement "BadElement") (g_BadElement : mg "BadElement" = some (.ref C_BadElement)) (k_BadFlat : MkC P w K mg base C_BadFlat "BadFlat") (g_BadFlat : mg "BadFlat" = some (.ref C_BadFlat)) (k_BadForms : MkC P w K mg base C_BadForms "BadForms") (g_BadForms : mg "BadForms" = some (.ref C_BadForms)) (k_BadGallery : MkC P w K mg base C_BadGallery "BadGallery") (g_BadGallery : mg "BadGallery" = some (.ref C_BadGallery)) (k_BadGraph : MkC P w K mg base C_BadGraph "BadGraph") (g_BadGraph : mg "BadGraph" = some (.ref C_BadGraph)) (k_BadHeights : MkC P w K mg base C_BadHeights "BadHeights") (g_BadHeights : mg "BadHeights" = some (.ref C_BadHeights)) (k_BadLabel : MkC P w K mg base C_BadLabel "BadLabel") (g_BadLabel : mg "BadLabel" = some (.ref C_BadLabel)) (k_BadNumber : MkC P w K mg base C_BadNumber "BadNumber") (g_BadNumber : mg "BadNumber" = some (.ref C_BadNumber)) (k_BadPlane : MkC P w K mg base C_BadPlane "BadPlane") (g_BadPlane : mg "BadPlane" = some (.ref C_BadPlane)) (k_BadPoint : MkC P w K mg base C_BadPoint "BadPoint") (g_BadPoint : mg "BadPoint" = some (.ref C_BadPoint)) (k_BadPrime : MkC P w K mg base C_BadPrime "BadPrime") (g_BadPrime : mg "BadPrime" = some (.ref C_BadPrime)) (k_BadRow : MkC P w K mg base C_BadRow "BadRow") (g_BadRow : mg "BadRow" = some (.ref C_BadRow)) (k_BadText : MkC P w K mg base C_BadText "BadText") (g_BadText : mg "BadText" = some (.ref C_BadText)) (k_BadWeights : MkC P w K mg base C_BadWeights "BadWeights") (g_BadWeights : mg "BadWeights" = some (.ref C_BadWeights)) (k_CutError : MkC P w K mg base C_CutError "CutError") (g_CutError : mg "CutError" = some (.ref C_CutError)) (k_NothingThere : MkC P w K mg base C_NothingThere "NothingThere") (g_NothingThere : mg "NothingThere" = some (.ref C_NothingThere)) (k_TooMany : MkC P w K mg base C_TooMany "TooMany") (g_TooMany : mg "TooMany" = some (.ref C_TooMany)) (k_Unlike : MkC P w K mg base C_Unlike "Unlike") (g_Unlike : mg "Unlike" = some (.ref C_Unlike)) (hs : specP 2 N__law_caught.length false (m__law_caught K C_BadCut C_BadElement C_BadFlat C_BadForms C_BadGallery C_BadGraph C_BadHeights C_BadLabel C_BadNumber C_BadPlane C_BadPoint C_BadPrime C_BadRow C_BadText C_BadWeights C_CutError C_NothingThere C_TooMany C_Unlike) pf_caught) : Cal P w K mg base 1 "_law_caught" ["at", "spot"] (spP K 2 false pf_caught) [] :=
  ⟨f, fd, [], fnP_of Dd scope__law_caught 2 rfl pf_caught false (fun cdv A outer s H E hr => ms__law_caught ub k_BadCut g_BadCut k_BadElement g_BadElement k_BadFlat g_BadFlat k_BadForms g_BadForms k_BadGallery g_BadGallery k_BadGraph g_BadGraph k_BadHeights g_BadHeights k_BadLabel g_BadLabel k_BadNumber g_BadNumber k_BadPlane g_BadPlane k_BadPoint g_BadPoint k_BadPrime g_BadPrime k_BadRow g_BadRow k_BadText g_BadText k_BadWeights g_BadWeights k_CutError g_CutError k_NothingThere g_NothingThere k_TooMany g_TooMany k_Unlike g_Unlike f cdv A outer s H E hr) hs, hm, Dd.kp, .nil, Dd.bindsN fun _ _ _ _ _ _ us hl => match us, hl with | [_, _], _ => rfl⟩
abbrev st_law : Stmt := top 29
def N_law : List Str := ["script", "deck", "names", "spot", "told", "bare", "named", "k", "error", "place", "words", "base", "j", "at", "word"]
theorem scope_law : FnScope N_law ["script"] (defScope st_law) := ⟨rfl, rfl, rfl, by decide +kernel, rfl, by decide +kernel, by decide +kernel⟩
def b_law_6 (K : PySem.W.Frag)  (C_BadCut : Addr) (C_BadElement : Addr) (C_BadFlat : Addr) (C_BadForms : Addr) (C_BadGallery : Addr) (C_BadGraph : Addr) (C_BadHeights : Addr) (C_BadLabel : Addr) (C_BadNumber : Addr) (C_BadPlane : Addr) (C_BadPoint : Addr) (C_BadPrime : Addr) (C_BadRow : Addr) (C_BadText : Addr) (C_BadWeights : Addr) (C_CutError : Addr) (C_NothingThere : Addr) (C_TooMany : Addr) (C_Unlike : Addr) : DS := mFor (dSeq (dLst true (dCons (dTup (dCons (dOp dIx (dVar 4) (dVar 7)) (dCons (dVar 3) (dNil)))) (dCons (dTup (dCons (dOp dIx (dVar 5) (dVar 7)) (dCons (dC .non) (dNil)))) (dCons (dTup (dCons (dOp dIx (dVar 6) (dVar 7)) (dCons (dVar 3) (dNil)))) (dNil)))))) (.tp [.nm 8, .nm 9]) (mSeq (mIf (dOr (dNot (dTest (dCB (dIsX K) (dCons (dVar 8) (dCons (dC (.cls C_CutError)) (dNil)))))) (dOr (dTest (dCB (dIsX K) (dCons (dVar 8) (dCons (dC (.ty "ValueError")) (dNil))))) (dNot (dTest (dCallP 2 pf__law_is false true [] (dCons (dCallP 1 (pf_kinds [C_BadNumber, C_BadPlane, C_BadCut, C_BadText, C_BadRow, C_BadPoint, C_BadFlat, C_BadPrime, C_BadGallery, C_BadHeights, C_BadElement, C_BadWeights, C_BadForms, C_BadGraph, C_BadLabel, C_Unlike, C_NothingThere, C_TooMany, C_CutError]) false true [] (dCons (dVar 8) (dNil))) (dCons (dLc true (dRng1 (dCons (dCB dLen (dCons (dVar 2) (dNil))) (dNil))) (.nm 12) (tYesD) (dOp dEq (dVar 12) (dVar 7)) [12]) (dNil)))))))) (mRet (dC (.bl false))) (mNext)) (mIf (dNot (dTest (dCallP 2 pf__law_is false true [] (dCons (dLst true (dCons (dXfl K "word" (dVar 8)) (dCons (dXfl K "place" (dVar 8)) (dNil)))) (dCons (dLst true (dCons (dOp dIx (dVar 2) (dVar 7)) (dCons (dVar 9) (dNil)))) (dNil)))))) (mRet (dC (.bl false))) (mNext)))
def s_law_0 (K : PySem.W.Frag)  (C_BadCut : Addr) (C_BadElement : Addr) (C_BadFlat : Addr) (C_BadForms : Addr) (C_BadGallery : Addr) (C_BadGraph : Addr) (C_BadHeights : Addr) (C_BadLabel : Addr) (C_BadNumber : Addr) (C_BadPlane : Addr) (C_BadPoint : Addr) (C_BadPrime : Addr) (C_BadRow : Addr) (C_BadText : Addr) (C_BadWeights : Addr) (C_CutError : Addr) (C_NothingThere : Addr) (C_TooMany : Addr) (C_Unlike : Addr) : DS := mSet 1 (dCallP 1 pf__law_deck true false [] (dCons (dVar 0) (dNil)))
def s_law_1 (K : PySem.W.Frag)  (C_BadCut : Addr) (C_BadElement : Addr) (C_BadFlat : Addr) (C_BadForms : Addr) (C_BadGallery : Addr) (C_BadGraph : Addr) (C_BadHeights : Addr) (C_BadLabel : Addr) (C_BadNumber : Addr) (C_BadPlane : Addr) (C_BadPoint : Addr) (C_BadPrime : Addr) (C_BadRow : Addr) (C_BadText : Addr) (C_BadWeights : Addr) (C_CutError : Addr) (C_NothingThere : Addr) (C_TooMany : Addr) (C_Unlike : Addr) : DS := mSet 2 (dLst true (dCons (dC (.str "BadNumber")) (dCons (dC (.str "BadPlane")) (dCons (dC (.str "BadCut")) (dCons (dC (.str "BadText")) (dCons (dC (.str "BadRow")) (dCons (dC (.str "BadPoint")) (dNil))))))))
def s_law_2 (K : PySem.W.Frag)  (C_BadCut : Addr) (C_BadElement : Addr) (C_BadFlat : Addr) (C_BadForms : Addr) (C_BadGallery : Addr) (C_BadGraph : Addr) (C_BadHeights : Addr) (C_BadLabel : Addr) (C_BadNumber : Addr) (C_BadPlane : Addr) (C_BadPoint : Addr) (C_BadPrime : Addr) (C_BadRow : Addr) (C_BadText : Addr) (C_BadWeights : Addr) (C_CutError : Addr) (C_NothingThere : Addr) (C_TooMany : Addr) (C_Unlike : Addr) : DS := mSet 2 (dOp (dAdd true) (dVar 2) (dLst true (dCons (dC (.str "BadFlat")) (dCons (dC (.str "BadPrime")) (dCons (dC (.str "BadGallery")) (dCons (dC (.str "BadHeights")) (dCons (dC (.str "BadElement")) (dCons (dC (.str "BadWeights")) (dNil)))))))))
def s_law_3 (K : PySem.W.Frag)  (C_BadCut : Addr) (C_BadElement : Addr) (C_BadFlat : Addr) (C_BadForms : Addr) (C_BadGallery : Addr) (C_BadGraph : Addr) (C_BadHeights : Addr) (C_BadLabel : Addr) (C_BadNumber : Addr) (C_BadPlane : Addr) (C_BadPoint : Addr) (C_BadPrime : Addr) (C_BadRow : Addr) (C_BadText : Addr) (C_BadWeights : Addr) (C_CutError : Addr) (C_NothingThere : Addr) (C_TooMany : Addr) (C_Unlike : Addr) : DS := mSet 2 (dOp (dAdd true) (dVar 2) (dLst true (dCons (dC (.str "BadForms")) (dCons (dC (.str "BadGraph")) (dCons (dC (.str "BadLabel")) (dCons (dC (.str "Unlike")) (dCons (dC (.str "NothingThere")) (dCons (dC (.str "TooMany")) (dNil)))))))))
def s_law_4 (K : PySem.W.Frag)  (C_BadCut : Addr) (C_BadElement : Addr) (C_BadFlat : Addr) (C_BadForms : Addr) (C_BadGallery : Addr) (C_BadGraph : Addr) (C_BadHeights : Addr) (C_BadLabel : Addr) (C_BadNumber : Addr) (C_BadPlane : Addr) (C_BadPoint : Addr) (C_BadPrime : Addr) (C_BadRow : Addr) (C_BadText : Addr) (C_BadWeights : Addr) (C_CutError : Addr) (C_NothingThere : Addr) (C_TooMany : Addr) (C_Unlike : Addr) : DS := mSet 3 (dOp dIx (dLst true (dCons (dC .non) (dCons (dOp dSub (dCallI 2 pf__law_draw false true (dVar 1) (dCons (dC (.int 100)) (dNil))) (dC (.int 50))) (dCons (dC (.str "ab")) (dCons (dTup (dCons (dC (.str "x")) (dCons (dC (.int 1)) (dNil)))) (dCons (dC (.int 0)) (dCons (dLst true (dNil)) (dCons (dC (.bl false)) (dNil))))))))) (dCallI 2 pf__law_draw false true (dVar 1) (dCons (dC (.int 7)) (dNil))))
def s_law_5 (K : PySem.W.Frag)  (C_BadCut : Addr) (C_BadElement : Addr) (C_BadFlat : Addr) (C_BadForms : Addr) (C_BadGallery : Addr) (C_BadGraph : Addr) (C_BadHeights : Addr) (C_BadLabel : Addr) (C_BadNumber : Addr) (C_BadPlane : Addr) (C_BadPoint : Addr) (C_BadPrime : Addr) (C_BadRow : Addr) (C_BadText : Addr) (C_BadWeights : Addr) (C_CutError : Addr) (C_NothingThere : Addr) (C_TooMany : Addr) (C_Unlike : Addr) : DS := mPar3 4 5 6 (dCons (dCallP 1 (pf_all [C_BadNumber, C_BadPlane, C_BadCut, C_BadText, C_BadRow, C_BadPoint, C_BadFlat, C_BadPrime, C_BadGallery, C_BadHeights, C_BadElement, C_BadWeights, C_BadForms, C_BadGraph, C_BadLabel, C_Unlike, C_NothingThere, C_TooMany, C_CutError]) false true [] (dCons (dVar 3) (dNil))) (dCons (dCallP 0 (pf_bare [C_BadNumber, C_BadPlane, C_BadCut, C_BadText, C_BadRow, C_BadPoint, C_BadFlat, C_BadPrime, C_BadGallery, C_BadHeights, C_BadElement, C_BadWeights, C_BadForms, C_BadGraph, C_BadLabel, C_Unlike, C_NothingThere, C_TooMany, C_CutError]) false true [] dNil) (dCons (dCallP 1 (pf_all [C_BadNumber, C_BadPlane, C_BadCut, C_BadText, C_BadRow, C_BadPoint, C_BadFlat, C_BadPrime, C_BadGallery, C_BadHeights, C_BadElement, C_BadWeights, C_BadForms, C_BadGraph, C_BadLabel, C_Unlike, C_NothingThere, C_TooMany, C_CutError]) false true [] (dCons (dVar 3) (dNil))) (dNil))))
def s_law_6 (K : PySem.W.Frag)  (C_BadCut : Addr) (C_BadElement : Addr) (C_BadFlat : Addr) (C_BadForms : Addr) (C_BadGallery : Addr) (C_BadGraph : Addr) (C_BadHeights : Addr) (C_BadLabel : Addr) (C_BadNumber : Addr) (C_BadPlane : Addr) (C_BadPoint : Addr) (C_BadPrime : Addr) (C_BadRow : Addr) (C_BadText : Addr) (C_BadWeights : Addr) (C_CutError : Addr) (C_NothingThere : Addr) (C_TooMany : Addr) (C_Unlike : Addr) : DS := mFor (dRng1 (dCons (dCB dLen (dCons (dVar 2) (dNil))) (dNil))) (.nm 7) (b_law_6 K C_BadCut C_BadElement C_BadFlat C_BadForms C_BadGallery C_BadGraph C_BadHeights C_BadLabel C_BadNumber C_BadPlane C_BadPoint C_BadPrime C_BadRow C_BadText C_BadWeights C_CutError C_NothingThere C_TooMany C_Unlike)
def s_law_7 (K : PySem.W.Frag)  (C_BadCut : Addr) (C_BadElement : Addr) (C_BadFlat : Addr) (C_BadForms : Addr) (C_BadGallery : Addr) (C_BadGraph : Addr) (C_BadHeights : Addr) (C_BadLabel : Addr) (C_BadNumber : Addr) (C_BadPlane : Addr) (C_BadPoint : Addr) (C_BadPrime : Addr) (C_BadRow : Addr) (C_BadText : Addr) (C_BadWeights : Addr) (C_CutError : Addr) (C_NothingThere : Addr) (C_TooMany : Addr) (C_Unlike : Addr) : DS := mSet 10 (dLst true (dCons (dC (.str "BadText")) (dCons (dC (.str "Unlike")) (dCons (dC (.str "NothingThere")) (dCons (dC (.str "TooMany")) (dCons (dC (.str "BadRow")) (dNil)))))))
def s_law_8 (K : PySem.W.Frag)  (C_BadCut : Addr) (C_BadElement : Addr) (C_BadFlat : Addr) (C_BadForms : Addr) (C_BadGallery : Addr) (C_BadGraph : Addr) (C_BadHeights : Addr) (C_BadLabel : Addr) (C_BadNumber : Addr) (C_BadPlane : Addr) (C_BadPoint : Addr) (C_BadPrime : Addr) (C_BadRow : Addr) (C_BadText : Addr) (C_BadWeights : Addr) (C_CutError : Addr) (C_NothingThere : Addr) (C_TooMany : Addr) (C_Unlike : Addr) : DS := mIf (dNot (dTest (dCallP 2 pf__law_is false true [] (dCons (dLc true (dRng1 (dCons (dC (.int 5)) (dNil))) (.nm 13) (tYesD) (dCallP 2 pf_caught false true [] (dCons (dVar 13) (dCons (dVar 3) (dNil)))) [13]) (dCons (dLc true (dSeq (dVar 10)) (.nm 14) (tYesD) (dTup (dCons (dVar 14) (dCons (dVar 3) (dNil)))) [14]) (dNil)))))) (mRet (dC (.bl false))) (mNext)
def s_law_9 (K : PySem.W.Frag)  (C_BadCut : Addr) (C_BadElement : Addr) (C_BadFlat : Addr) (C_BadForms : Addr) (C_BadGallery : Addr) (C_BadGraph : Addr) (C_BadHeights : Addr) (C_BadLabel : Addr) (C_BadNumber : Addr) (C_BadPlane : Addr) (C_BadPoint : Addr) (C_BadPrime : Addr) (C_BadRow : Addr) (C_BadText : Addr) (C_BadWeights : Addr) (C_CutError : Addr) (C_NothingThere : Addr) (C_TooMany : Addr) (C_Unlike : Addr) : DS := mSet 11 (dExv C_CutError "CutError" (dCons (dVar 3) (dNil)))
def s_law_10 (K : PySem.W.Frag)  (C_BadCut : Addr) (C_BadElement : Addr) (C_BadFlat : Addr) (C_BadForms : Addr) (C_BadGallery : Addr) (C_BadGraph : Addr) (C_BadHeights : Addr) (C_BadLabel : Addr) (C_BadNumber : Addr) (C_BadPlane : Addr) (C_BadPoint : Addr) (C_BadPrime : Addr) (C_BadRow : Addr) (C_BadText : Addr) (C_BadWeights : Addr) (C_CutError : Addr) (C_NothingThere : Addr) (C_TooMany : Addr) (C_Unlike : Addr) : DS := mIf (dNot (dTest (dCallP 2 pf__law_is false true [] (dCons (dLst true (dCons (dXfl K "word" (dVar 11)) (dCons (dXfl K "place" (dVar 11)) (dCons (dXfl K "place" (dExv C_CutError "CutError" dNil)) (dCons (dXfl K "place" (dExv C_CutError "CutError" (dCons (dVar 3) dNil))) (dNil)))))) (dCons (dLst true (dCons (dC (.str "CutError")) (dCons (dVar 3) (dCons (dC .non) (dCons (dVar 3) (dNil)))))) (dNil)))))) (mRet (dC (.bl false))) (mNext)
def s_law_11 (K : PySem.W.Frag)  (C_BadCut : Addr) (C_BadElement : Addr) (C_BadFlat : Addr) (C_BadForms : Addr) (C_BadGallery : Addr) (C_BadGraph : Addr) (C_BadHeights : Addr) (C_BadLabel : Addr) (C_BadNumber : Addr) (C_BadPlane : Addr) (C_BadPoint : Addr) (C_BadPrime : Addr) (C_BadRow : Addr) (C_BadText : Addr) (C_BadWeights : Addr) (C_CutError : Addr) (C_NothingThere : Addr) (C_TooMany : Addr) (C_Unlike : Addr) : DS := mRet (dAndV (dNotV (dCB (dIsX K) (dCons (dVar 11) (dCons (dC (.ty "ValueError")) (dNil))))) (dNotV (dCB (dAny false) (dCons (dCallP 1 (pf_kinds [C_BadNumber, C_BadPlane, C_BadCut, C_BadText, C_BadRow, C_BadPoint, C_BadFlat, C_BadPrime, C_BadGallery, C_BadHeights, C_BadElement, C_BadWeights, C_BadForms, C_BadGraph, C_BadLabel, C_Unlike, C_NothingThere, C_TooMany, C_CutError]) false true [] (dCons (dVar 11) (dNil))) (dNil)))))
def m_law (K : PySem.W.Frag)  (C_BadCut : Addr) (C_BadElement : Addr) (C_BadFlat : Addr) (C_BadForms : Addr) (C_BadGallery : Addr) (C_BadGraph : Addr) (C_BadHeights : Addr) (C_BadLabel : Addr) (C_BadNumber : Addr) (C_BadPlane : Addr) (C_BadPoint : Addr) (C_BadPrime : Addr) (C_BadRow : Addr) (C_BadText : Addr) (C_BadWeights : Addr) (C_CutError : Addr) (C_NothingThere : Addr) (C_TooMany : Addr) (C_Unlike : Addr) : DS := mSeq (s_law_0 K C_BadCut C_BadElement C_BadFlat C_BadForms C_BadGallery C_BadGraph C_BadHeights C_BadLabel C_BadNumber C_BadPlane C_BadPoint C_BadPrime C_BadRow C_BadText C_BadWeights C_CutError C_NothingThere C_TooMany C_Unlike) (mSeq (s_law_1 K C_BadCut C_BadElement C_BadFlat C_BadForms C_BadGallery C_BadGraph C_BadHeights C_BadLabel C_BadNumber C_BadPlane C_BadPoint C_BadPrime C_BadRow C_BadText C_BadWeights C_CutError C_NothingThere C_TooMany C_Unlike) (mSeq (s_law_2 K C_BadCut C_BadElement C_BadFlat C_BadForms C_BadGallery C_BadGraph C_BadHeights C_BadLabel C_BadNumber C_BadPlane C_BadPoint C_BadPrime C_BadRow C_BadText C_BadWeights C_CutError C_NothingThere C_TooMany C_Unlike) (mSeq (s_law_3 K C_BadCut C_BadElement C_BadFlat C_BadForms C_BadGallery C_BadGraph C_BadHeights C_BadLabel C_BadNumber C_BadPlane C_BadPoint C_BadPrime C_BadRow C_BadText C_BadWeights C_CutError C_NothingThere C_TooMany C_Unlike) (mSeq (s_law_4 K C_BadCut C_BadElement C_BadFlat C_BadForms C_BadGallery C_BadGraph C_BadHeights C_BadLabel C_BadNumber C_BadPlane C_BadPoint C_BadPrime C_BadRow C_BadText C_BadWeights C_CutError C_NothingThere C_TooMany C_Unlike) (mSeq (s_law_5 K C_BadCut C_BadElement C_BadFlat C_BadForms C_BadGallery C_BadGraph C_BadHeights C_BadLabel C_BadNumber C_BadPlane C_BadPoint C_BadPrime C_BadRow C_BadText C_BadWeights C_CutError C_NothingThere C_TooMany C_Unlike) (mSeq (s_law_6 K C_BadCut C_BadElement C_BadFlat C_BadForms C_BadGallery C_BadGraph C_BadHeights C_BadLabel C_BadNumber C_BadPlane C_BadPoint C_BadPrime C_BadRow C_BadText C_BadWeights C_CutError C_NothingThere C_TooMany C_Unlike) (mSeq (s_law_7 K C_BadCut C_BadElement C_BadFlat C_BadForms C_BadGallery C_BadGraph C_BadHeights C_BadLabel C_BadNumber C_BadPlane C_BadPoint C_BadPrime C_BadRow C_BadText C_BadWeights C_CutError C_NothingThere C_TooMany C_Unlike) (mSeq (s_law_8 K C_BadCut C_BadElement C_BadFlat C_BadForms C_BadGallery C_BadGraph C_BadHeights C_BadLabel C_BadNumber C_BadPlane C_BadPoint C_BadPrime C_BadRow C_BadText C_BadWeights C_CutError C_NothingThere C_TooMany C_Unlike) (mSeq (s_law_9 K C_BadCut C_BadElement C_BadFlat C_BadForms C_BadGallery C_BadGraph C_BadHeights C_BadLabel C_BadNumber C_BadPlane C_BadPoint C_BadPrime C_BadRow C_BadText C_BadWeights C_CutError C_NothingThere C_TooMany C_Unlike) (mSeq (s_law_10 K C_BadCut C_BadElement C_BadFlat C_BadForms C_BadGallery C_BadGraph C_BadHeights C_BadLabel C_BadNumber C_BadPlane C_BadPoint C_BadPrime C_BadRow C_BadText C_BadWeights C_CutError C_NothingThere C_TooMany C_Unlike) (s_law_11 K C_BadCut C_BadElement C_BadFlat C_BadForms C_BadGallery C_BadGraph C_BadHeights C_BadLabel C_BadNumber C_BadPlane C_BadPoint C_BadPrime C_BadRow C_BadText C_BadWeights C_CutError C_NothingThere C_TooMany C_Unlike)))))))))))
theorem ms_law {C_BadCut : Addr} {C_BadElement : Addr} {C_BadFlat : Addr} {C_BadForms : Addr} {C_BadGallery : Addr} {C_BadGraph : Addr} {C_BadHeights : Addr} {C_BadLabel : Addr} {C_BadNumber : Addr} {C_BadPlane : Addr} {C_BadPoint : Addr} {C_BadPrime : Addr} {C_BadRow : Addr} {C_BadText : Addr} {C_BadWeights : Addr} {C_CutError : Addr} {C_NothingThere : Addr} {C_TooMany : Addr} {C_Unlike : Addr} (ub : ∀ x ∈ bls, mg (PySem.Str.ofString x) = none) (c__law_deck : Cal P w K mg base 1 "_law_deck" ["script"] (spP K 1 true pf__law_deck) []) (c__law_draw : Cal P w K mg base 1 "_law_draw" ["deck", "bound"] (spI K 2 false pf__law_draw) []) (c__law_is : Cal P w K mg base 1 "_law_is" ["value", "due"] (spP K 2 false pf__law_is) []) (c__law_all : Cal P w K mg base 1 "_law_all" ["place"] (spP K 1 false (pf_all [C_BadNumber, C_BadPlane, C_BadCut, C_BadText, C_BadRow, C_BadPoint, C_BadFlat, C_BadPrime, C_BadGallery, C_BadHeights, C_BadElement, C_BadWeights, C_BadForms, C_BadGraph, C_BadLabel, C_Unlike, C_NothingThere, C_TooMany, C_CutError])) []) (c__law_bare : Cal P w K mg base 1 "_law_bare" [] (spP K 0 false (pf_bare [C_BadNumber, C_BadPlane, C_BadCut, C_BadText, C_BadRow, C_BadPoint, C_BadFlat, C_BadPrime, C_BadGallery, C_BadHeights, C_BadElement, C_BadWeights, C_BadForms, C_BadGraph, C_BadLabel, C_Unlike, C_NothingThere, C_TooMany, C_CutError])) []) (c__law_named : Cal P w K mg base 1 "_law_named" ["spot"] (spP K 1 false (pf_all [C_BadNumber, C_BadPlane, C_BadCut, C_BadText, C_BadRow, C_BadPoint, C_BadFlat, C_BadPrime, C_BadGallery, C_BadHeights, C_BadElement, C_BadWeights, C_BadForms, C_BadGraph, C_BadLabel, C_Unlike, C_NothingThere, C_TooMany, C_CutError])) []) (c__law_kinds : Cal P w K mg base 1 "_law_kinds" ["e"] (spP K 1 false (pf_kinds [C_BadNumber, C_BadPlane, C_BadCut, C_BadText, C_BadRow, C_BadPoint, C_BadFlat, C_BadPrime, C_BadGallery, C_BadHeights, C_BadElement, C_BadWeights, C_BadForms, C_BadGraph, C_BadLabel, C_Unlike, C_NothingThere, C_TooMany, C_CutError])) []) (c__law_caught : Cal P w K mg base 1 "_law_caught" ["at", "spot"] (spP K 2 false pf_caught) []) (k_BadCut : MkC P w K mg base C_BadCut "BadCut") (g_BadCut : mg "BadCut" = some (.ref C_BadCut)) (k_BadElement : MkC P w K mg base C_BadElement "BadElement") (g_BadElement : mg "BadElement" = some (.ref C_BadElement)) (k_BadFlat : MkC P w K mg base C_BadFlat "BadFlat") (g_BadFlat : mg "BadFlat" = some (.ref C_BadFlat)) (k_BadForms : MkC P w K mg base C_BadForms "BadForms") (g_BadForms : mg "BadForms" = some (.ref C_BadForms)) (k_BadGallery : MkC P w K mg base C_BadGallery "BadGallery") (g_BadGallery : mg "BadGallery" = some (.ref C_BadGallery)) (k_BadGraph : MkC P w K mg base C_BadGraph "BadGraph") (g_BadGraph : mg "BadGraph" = some (.ref C_BadGraph)) (k_BadHeights : MkC P w K mg base C_BadHeights "BadHeights") (g_BadHeights : mg "BadHeights" = some (.ref C_BadHeights)) (k_BadLabel : MkC P w K mg base C_BadLabel "BadLabel") (g_BadLabel : mg "BadLabel" = some (.ref C_BadLabel)) (k_BadNumber : MkC P w K mg base C_BadNumber "BadNumber") (g_BadNumber : mg "BadNumber" = some (.ref C_BadNumber)) (k_BadPlane : MkC P w K mg base C_BadPlane "BadPlane") (g_BadPlane : mg "BadPlane" = some (.ref C_BadPlane)) (k_BadPoint : MkC P w K mg base C_BadPoint "BadPoint") (g_BadPoint : mg "BadPoint" = some (.ref C_BadPoint)) (k_BadPrime : MkC P w K mg base C_BadPrime "BadPrime") (g_BadPrime : mg "BadPrime" = some (.ref C_BadPrime)) (k_BadRow : MkC P w K mg base C_BadRow "BadRow") (g_BadRow : mg "BadRow" = some (.ref C_BadRow)) (k_BadText : MkC P w K mg base C_BadText "BadText") (g_BadText : mg "BadText" = some (.ref C_BadText)) (k_BadWeights : MkC P w K mg base C_BadWeights "BadWeights") (g_BadWeights : mg "BadWeights" = some (.ref C_BadWeights)) (k_CutError : MkC P w K mg base C_CutError "CutError") (g_CutError : mg "CutError" = some (.ref C_CutError)) (k_NothingThere : MkC P w K mg base C_NothingThere "NothingThere") (g_NothingThere : mg "NothingThere" = some (.ref C_NothingThere)) (k_TooMany : MkC P w K mg base C_TooMany "TooMany") (g_TooMany : mg "TooMany" = some (.ref C_TooMany)) (k_Unlike : MkC P w K mg base C_Unlike "Unlike") (g_Unlike : mg "Unlike" = some (.ref C_Unlike)) (f : Addr) (cdv : Value) (A : Around) (outer : List Env) (s : Shared) (H : Hp) (E : XK) (hr : RoomG 1 (A.deeper (envOfC "law" (defScope st_law) s.heap.objs.size f cdv))) :
    MSs (cxOf (L2.CX P w) P w K mg base N_law "law" (defScope st_law) f cdv A outer s H E) (fun cls d _ H => E cls d H) (defBody st_law) (m_law K C_BadCut C_BadElement C_BadFlat C_BadForms C_BadGallery C_BadGraph C_BadHeights C_BadLabel C_BadNumber C_BadPlane C_BadPoint C_BadPrime C_BadRow C_BadText C_BadWeights C_CutError C_NothingThere C_TooMany C_Unlike) :=
  mss_cons (ms_s 1 scope_law.nd (me_cP false c__law_deck hr.at_ (takes_of rfl rfl rfl rfl) (ma_cons (me_v 0) (ma_nil)))) (mss_cons (ms_s 2 scope_law.nd (me_lst true (ma_cons (me_str) (ma_cons (me_str) (ma_cons (me_str) (ma_cons (me_str) (ma_cons (me_str) (ma_cons (me_str) (ma_nil))))))))) (mss_cons (ms_s 2 scope_law.nd (me_add true (me_v 2) (me_lst true (ma_cons (me_str) (ma_cons (me_str) (ma_cons (me_str) (ma_cons (me_str) (ma_cons (me_str) (ma_cons (me_str) (ma_nil)))))))))) (mss_cons (ms_s 2 scope_law.nd (me_add true (me_v 2) (me_lst true (ma_cons (me_str) (ma_cons (me_str) (ma_cons (me_str) (ma_cons (me_str) (ma_cons (me_str) (ma_cons (me_str) (ma_nil)))))))))) (mss_cons (ms_s 3 scope_law.nd (me_ix (me_lst true (ma_cons (me_non) (ma_cons (me_sub (me_cI true c__law_draw hr.at_ (takes_of rfl rfl rfl rfl) (me_v 1) (ma_cons (me_int) (ma_nil))) (me_int)) (ma_cons (me_str) (ma_cons (me_tup (ma_cons (me_str) (ma_cons (me_int) (ma_nil)))) (ma_cons (me_int) (ma_cons (me_lst true (ma_nil)) (ma_cons (me_bl) (ma_nil))))))))) (me_cI true c__law_draw hr.at_ (takes_of rfl rfl rfl rfl) (me_v 1) (ma_cons (me_int) (ma_nil))))) (mss_cons (ms_p3 4 5 6 scope_law.nd (ma_cons (me_cP true c__law_all hr.at_ (takes_of rfl rfl rfl rfl) (ma_cons (me_v 3) (ma_nil))) (ma_cons (me_cP0 true c__law_bare hr.at_ (takes_of rfl rfl rfl rfl)) (ma_cons (me_cP true c__law_named hr.at_ (takes_of rfl rfl rfl rfl) (ma_cons (me_v 3) (ma_nil))) (ma_nil))))) (mss_cons (ms_for (passes_of rfl) rfl (mi_rng1 (ub _ (by decide)) (ma_cons (me_bt bl_len (ub _ (by decide)) (ma_cons (me_v 2) (ma_nil))) (ma_nil))) (mg_n 7 scope_law.nd) (mss_one (ms_for (passes_of rfl) rfl (mi_seq (me_lst true (ma_cons (me_tup (ma_cons (me_ix (me_v 4) (me_v 7)) (ma_cons (me_v 3) (ma_nil)))) (ma_cons (me_tup (ma_cons (me_ix (me_v 5) (me_v 7)) (ma_cons (me_non) (ma_nil)))) (ma_cons (me_tup (ma_cons (me_ix (me_v 6) (me_v 7)) (ma_cons (me_v 3) (ma_nil)))) (ma_nil)))))) (mg_tup rfl (mgs_cons (mg_n 8 scope_law.nd) (mgs_cons (mg_n 9 scope_law.nd) (mgs_nil)))) (mss_cons (ms_if (MW.mt (mw_or (mt_not (mt_val (me_isX (ub "isinstance" (by decide)) (ma_cons (me_v 8) (ma_cons (me_cl g_CutError) (ma_nil)))))) (mw_or (mt_val (me_isX (ub "isinstance" (by decide)) (ma_cons (me_v 8) (ma_cons (me_ve (ub "ValueError" (by decide))) (ma_nil))))) (mw_or1 (mt_not (mt_val (me_cP true c__law_is hr.at_ (takes_of rfl rfl rfl rfl) (ma_cons (me_cP true c__law_kinds hr.at_ (takes_of rfl rfl rfl rfl) (ma_cons (me_v 8) (ma_nil))) (ma_cons (me_l true [("j", 12)] scope_law.nd (mi_rng1 (ub _ (by decide)) (ma_cons (me_bt bl_len (ub _ (by decide)) (ma_cons (me_v 2) (ma_nil))) (ma_nil))) (fun _ _ _ _ _ => mg_n 12 scope_law.nd) (fun _ _ _ _ _ => mts_nil) (fun _ _ _ _ _ => me_c (cd_eq hr.u64) (me_v 12) (me_v 7))) (ma_nil)))))))))) (mss_one (ms_ret (me_bl))) (mss_nil)) (mss_one (ms_if (mt_not (mt_val (me_cP true c__law_is hr.at_ (takes_of rfl rfl rfl rfl) (ma_cons (me_lst true (ma_cons (me_xfl (me_v 8)) (ma_cons (me_xfl (me_v 8)) (ma_nil)))) (ma_cons (me_lst true (ma_cons (me_ix (me_v 2) (me_v 7)) (ma_cons (me_v 9) (ma_nil)))) (ma_nil)))))) (mss_one (ms_ret (me_bl))) (mss_nil))))))) (mss_cons (ms_s 10 scope_law.nd (me_lst true (ma_cons (me_str) (ma_cons (me_str) (ma_cons (me_str) (ma_cons (me_str) (ma_cons (me_str) (ma_nil)))))))) (mss_cons (ms_if (mt_not (mt_val (me_cP true c__law_is hr.at_ (takes_of rfl rfl rfl rfl) (ma_cons (me_l true [("at", 13)] scope_law.nd (mi_rng1 (ub _ (by decide)) (ma_cons (me_int) (ma_nil))) (fun _ _ _ _ _ => mg_n 13 scope_law.nd) (fun _ _ _ _ _ => mts_nil) (fun _ _ _ _ _ => me_cP true c__law_caught hr.at_ takesF (ma_cons (me_v 13) (ma_cons (me_v 3) (ma_nil))))) (ma_cons (me_l true [("word", 14)] scope_law.nd (mi_seq (me_v 10)) (fun _ _ _ _ _ => mg_n 14 scope_law.nd) (fun _ _ _ _ _ => mts_nil) (fun _ _ _ _ _ => me_tup (ma_cons (me_v 14) (ma_cons (me_v 3) (ma_nil))))) (ma_nil)))))) (mss_one (ms_ret (me_bl))) (mss_nil)) (mss_cons (ms_s 11 scope_law.nd (me_exv k_CutError hr.d3 g_CutError (ma_cons (me_v 3) (ma_nil)))) (mss_cons (ms_if (mt_not (mt_val (me_cP true c__law_is hr.at_ (takes_of rfl rfl rfl rfl) (ma_cons (me_lst true (ma_cons (me_xfl (me_v 11)) (ma_cons (me_xfl (me_v 11)) (ma_cons (me_xfl (me_exv0 k_CutError hr.d3 g_CutError)) (ma_cons (me_xfl (me_exvK k_CutError hr.d3 g_CutError (me_v 3))) (ma_nil)))))) (ma_cons (me_lst true (ma_cons (me_str) (ma_cons (me_v 3) (ma_cons (me_non) (ma_cons (me_v 3) (ma_nil)))))) (ma_nil)))))) (mss_one (ms_ret (me_bl))) (mss_nil)) (mss_one (ms_ret (me_and (me_not (me_isX (ub "isinstance" (by decide)) (ma_cons (me_v 11) (ma_cons (me_ve (ub "ValueError" (by decide))) (ma_nil))))) (me_one (me_not (me_bt (bl_any rfl) (ub _ (by decide)) (ma_cons (me_cP true c__law_kinds hr.at_ (takes_of rfl rfl rfl rfl) (ma_cons (me_v 11) (ma_nil))) (ma_nil))))))))))))))))))
theorem cal_law {C_BadCut : Addr} {C_BadElement : Addr} {C_BadFlat : Addr} {C_BadForms : Addr} {C_BadGallery : Addr} {C_BadGraph : Addr} {C_BadHeights : Addr} {C_BadLabel : Addr} {C_BadNumber : Addr} {C_BadPlane : Addr} {C_BadPoint : Addr} {C_BadPrime : Addr} {C_BadRow : Addr} {C_BadText : Addr} {C_BadWeights : Addr} {C_CutError : Addr} {C_NothingThere : Addr} {C_TooMany : Addr} {C_Unlike : Addr} {f : Addr} {fd : FuncData} (Dd : FunD K "law" "law" (defArgs st_law) (defBody st_law) (defScope st_law) [] [] f fd) (hm : mg "law" = some (.ref f)) (ub : ∀ x ∈ bls, mg (PySem.Str.ofString x) = none) (c__law_deck : Cal P w K mg base 1 "_law_deck" ["script"] (spP K 1 true pf__law_deck) []) (c__law_draw : Cal P w K mg base 1 "_law_draw" ["deck", "bound"] (spI K 2 false pf__law_draw) []) (c__law_is : Cal P w K mg base 1 "_law_is" ["value", "due"] (spP K 2 false pf__law_is) []) (c__law_all : Cal P w K mg base 1 "_law_all" ["place"] (spP K 1 false (pf_all [C_BadNumber, C_BadPlane, C_BadCut, C_BadText, C_BadRow, C_BadPoint, C_BadFlat, C_BadPrime, C_BadGallery, C_BadHeights, C_BadElement, C_BadWeights, C_BadForms, C_BadGraph, C_BadLabel, C_Unlike, C_NothingThere, C_TooMany, C_CutError])) []) (c__law_bare : Cal P w K mg base 1 "_law_bare" [] (spP K 0 false (pf_bare [C_BadNumber, C_BadPlane, C_BadCut, C_BadText, C_BadRow, C_BadPoint, C_BadFlat, C_BadPrime, C_BadGallery, C_BadHeights, C_BadElement, C_BadWeights, C_BadForms, C_BadGraph, C_BadLabel, C_Unlike, C_NothingThere, C_TooMany, C_CutError])) []) (c__law_named : Cal P w K mg base 1 "_law_named" ["spot"] (spP K 1 false (pf_all [C_BadNumber, C_BadPlane, C_BadCut, C_BadText, C_BadRow, C_BadPoint, C_BadFlat, C_BadPrime, C_BadGallery, C_BadHeights, C_BadElement, C_BadWeights, C_BadForms, C_BadGraph, C_BadLabel, C_Unlike, C_NothingThere, C_TooMany, C_CutError])) []) (c__law_kinds : Cal P w K mg base 1 "_law_kinds" ["e"] (spP K 1 false (pf_kinds [C_BadNumber, C_BadPlane, C_BadCut, C_BadText, C_BadRow, C_BadPoint, C_BadFlat, C_BadPrime, C_BadGallery, C_BadHeights, C_BadElement, C_BadWeights, C_BadForms, C_BadGraph, C_BadLabel, C_Unlike, C_NothingThere, C_TooMany, C_CutError])) []) (c__law_caught : Cal P w K mg base 1 "_law_caught" ["at", "spot"] (spP K 2 false pf_caught) []) (k_BadCut : MkC P w K mg base C_BadCut "BadCut") (g_BadCut : mg "BadCut" = some (.ref C_BadCut)) (k_BadElement : MkC P w K mg base C_BadElement "BadElement") (g_BadElement : mg "BadElement" = some (.ref C_BadElement)) (k_BadFlat : MkC P w K mg base C_BadFlat "BadFlat") (g_BadFlat : mg "BadFlat" = some (.ref C_BadFlat)) (k_BadForms : MkC P w K mg base C_BadForms "BadForms") (g_BadForms : mg "BadForms" = some (.ref C_BadForms)) (k_BadGallery : MkC P w K mg base C_BadGallery "BadGallery") (g_BadGallery : mg "BadGallery" = some (.ref C_BadGallery)) (k_BadGraph : MkC P w K mg base C_BadGraph "BadGraph") (g_BadGraph : mg "BadGraph" = some (.ref C_BadGraph)) (k_BadHeights : MkC P w K mg base C_BadHeights "BadHeights") (g_BadHeights : mg "BadHeights" = some (.ref C_BadHeights)) (k_BadLabel : MkC P w K mg base C_BadLabel "BadLabel") (g_BadLabel : mg "BadLabel" = some (.ref C_BadLabel)) (k_BadNumber : MkC P w K mg base C_BadNumber "BadNumber") (g_BadNumber : mg "BadNumber" = some (.ref C_BadNumber)) (k_BadPlane : MkC P w K mg base C_BadPlane "BadPlane") (g_BadPlane : mg "BadPlane" = some (.ref C_BadPlane)) (k_BadPoint : MkC P w K mg base C_BadPoint "BadPoint") (g_BadPoint : mg "BadPoint" = some (.ref C_BadPoint)) (k_BadPrime : MkC P w K mg base C_BadPrime "BadPrime") (g_BadPrime : mg "BadPrime" = some (.ref C_BadPrime)) (k_BadRow : MkC P w K mg base C_BadRow "BadRow") (g_BadRow : mg "BadRow" = some (.ref C_BadRow)) (k_BadText : MkC P w K mg base C_BadText "BadText") (g_BadText : mg "BadText" = some (.ref C_BadText)) (k_BadWeights : MkC P w K mg base C_BadWeights "BadWeights") (g_BadWeights : mg "BadWeights" = some (.ref C_BadWeights)) (k_CutError : MkC P w K mg base C_CutError "CutError") (g_CutError : mg "CutError" = some (.ref C_CutError)) (k_NothingThere : MkC P w K mg base C_NothingThere "NothingThere") (g_NothingThere : mg "NothingThere" = some (.ref C_NothingThere)) (k_TooMany : MkC P w K mg base C_TooMany "TooMany") (g_TooMany : mg "TooMany" = some (.ref C_TooMany)) (k_Unlike : MkC P w K mg base C_Unlike "Unlike") (g_Unlike : mg "Unlike" = some (.ref C_Unlike)) (hs : specP 1 N_law.length false (m_law K C_BadCut C_BadElement C_BadFlat C_BadForms C_BadGallery C_BadGraph C_BadHeights C_BadLabel C_BadNumber C_BadPlane C_BadPoint C_BadPrime C_BadRow C_BadText C_BadWeights C_CutError C_NothingThere C_TooMany C_Unlike) pf_law) : Cal P w K mg base 2 "law" ["script"] (spP K 1 false pf_law) [] :=
  ⟨f, fd, [], fnP_of Dd scope_law 1 rfl pf_law false (fun cdv A outer s H E hr => ms_law ub c__law_deck c__law_draw c__law_is c__law_all c__law_bare c__law_named c__law_kinds c__law_caught k_BadCut g_BadCut k_BadElement g_BadElement k_BadFlat g_BadFlat k_BadForms g_BadForms k_BadGallery g_BadGallery k_BadGraph g_BadGraph k_BadHeights g_BadHeights k_BadLabel g_BadLabel k_BadNumber g_BadNumber k_BadPlane g_BadPlane k_BadPoint g_BadPoint k_BadPrime g_BadPrime k_BadRow g_BadRow k_BadText g_BadText k_BadWeights g_BadWeights k_CutError g_CutError k_NothingThere g_NothingThere k_TooMany g_TooMany k_Unlike g_Unlike f cdv A outer s H E hr) hs, hm, Dd.kp, .nil, Dd.bindsN fun _ _ _ _ _ _ us hl => match us, hl with | [_], _ => rfl⟩
end
end K00

set_option Elab.async false
set_option linter.all false
set_option maxRecDepth 100000
set_option maxHeartbeats 2000000
namespace K00
open PySem PySem.Spec PyProof.Rows L2 DL NU
/-! ### three lists put together -/
abbrev ch {α : Type} (f : α → DE) (as : List α) : DA := as.foldr (fun a m => dCons (f a) m) dNil
theorem ch_go {α : Type} {f : α → DE} {g : α → D} {r : RH} {M : MH} : ∀ {as : List α} {R : List D → MH → Prop}, (∀ a ∈ as, ∀ R : DK, R (g a) M → f a r M R) → R (as.map g) M → ch f as r M R
  | [], _, _, h => h
  | a :: as, R, hf, h => hf a (List.mem_cons_self ..) _ (ch_go (fun b hb => hf b (List.mem_cons_of_mem _ hb)) h)
theorem lst_go {α : Type} {f : α → DE} {g : α → D} {r : RH} {M : MH} {as : List α} {R : DK} (hf : ∀ a ∈ as, ∀ R : DK, R (g a) M → f a r M R) (hl : as.length ≤ sizeLine) (h : R (.lst (as.map g)) M) : dLst true (ch f as) r M R :=
  ch_go (g := g) hf ⟨by rw [List.length_map]; exact hl, h⟩
theorem var_go {i : Nat} {r : RH} {M : MH} {d : D} {R : DK} (e : r.sl[i]? = some (some d)) (h : R d M) : dVar i r M R := by
  unfold dVar
  rw [e]
  exact h
theorem add_go {α : Type} {f : α → DE} {g : α → D} {r : RH} {M : MH} {i : Nat} {xs : List D} {as : List α} {R : DK} (e : r.sl[i]? = some (some (.lst xs))) (hf : ∀ a ∈ as, ∀ R : DK, R (g a) M → f a r M R) (hl : as.length ≤ sizeLine) (hs : xs.length + as.length ≤ sizeLine)
    (h : R (.lst (xs ++ as.map g)) M) : dOp (dAdd true) (dVar i) (dLst true (ch f as)) r M R := by
  refine var_go e ?_
  refine lst_go (g := g) hf hl ?_
  rw [NU.addLL]
  exact ⟨by rw [List.length_map]; exact hs, h⟩
theorem three {α : Type} {f : α → DE} {g : α → D} {E : DEnds} {r : RH} {M : MH} {i : Nat} (a b c : List α) (hi : i < r.sl.length) (hf : ∀ x ∈ a ++ b ++ c, ∀ (r' : RH) (R : DK), (∀ j, j ≠ i → r'.sl[j]? = r.sl[j]?) → R (g x) M → f x r' M R)
    (hl : (a ++ b ++ c).length ≤ 100) (h : E.rt (.lst ((a ++ b ++ c).map g)) M) :
    mSeq (mSet i (dLst true (ch f a))) (mSeq (mSet i (dOp (dAdd true) (dVar i) (dLst true (ch f b)))) (mRet (dOp (dAdd true) (dVar i) (dLst true (ch f c))))) E r M := by
  have s100 : 100 ≤ sizeLine := by decide
  simp only [List.length_append] at hl
  have st : ∀ (r' : RH) (d : D), (∀ j, j ≠ i → r'.sl[j]? = r.sl[j]?) → ∀ j, j ≠ i → (r'.put i d).sl[j]? = r.sl[j]? := fun r' d e j hj => by
    show (r'.sl.set i (some d))[j]? = _
    rw [List.getElem?_set_ne (Ne.symm hj)]
    exact e j hj
  have gt : ∀ (r' : RH) (d : D), i < r'.sl.length → (r'.put i d).sl[i]? = some (some d) := fun r' d h => by
    show (r'.sl.set i (some d))[i]? = _
    rw [List.getElem?_set_self h]
  have e0 : ∀ j, j ≠ i → r.sl[j]? = r.sl[j]? := fun _ _ => rfl
  refine lst_go (g := g) (fun x hx R q => hf x (by simp [hx]) r R e0 q) (by omega) ?_
  have e1 := st r (.lst (a.map g)) e0
  refine add_go (g := g) (xs := a.map g) (gt r _ hi) (fun x hx R q => hf x (by simp [hx]) _ R e1 q) (by omega) (by rw [List.length_map]; omega) ?_
  have l1 : i < (r.put i (.lst (a.map g))).sl.length := by
    show i < (r.sl.set i _).length
    rw [List.length_set]; exact hi
  have e2 := st (r.put i (.lst (a.map g))) (.lst (a.map g ++ b.map g)) e1
  refine add_go (g := g) (xs := a.map g ++ b.map g) (gt _ _ l1) (fun x hx R q => hf x (by simp [hx]) _ R e2 q) (by omega) (by rw [List.length_append, List.length_map, List.length_map]; omega) ?_
  rw [← List.map_append, ← List.map_append]
  exact h
section
variable {K : PySem.W.Frag} {C_BadCut C_BadElement C_BadFlat C_BadForms C_BadGallery C_BadGraph C_BadHeights C_BadLabel C_BadNumber C_BadPlane C_BadPoint C_BadPrime C_BadRow C_BadText C_BadWeights C_CutError C_NothingThere C_TooMany C_Unlike : Addr}
theorem pl_er {cs : List Addr} {i : Nat} {p : D} (h : p.plain = true) : (er cs i p).plain = true := by
  show plainA [.str (wd i), p] = true
  simp [plainA, D.plain, h]
theorem pl_ers {cs : List Addr} {p : D} (h : p.plain = true) : ∀ is : List Nat, plainA (is.map fun i => er cs i p) = true
  | [] => rfl
  | i :: is => by
    show (D.plain (er cs i p) && plainA (is.map fun i => er cs i p)) = true
    rw [pl_er h, pl_ers h is]; rfl
theorem exv_v {C : Addr} {w : Str} {r : RH} {M : MH} {R : DK} {p : D} (e : r.sl[(0 : Nat)]? = some (some p)) (h : R (.err C ["word", "place"] [.str w, p]) M) : dExv C w (dCons (dVar 0) dNil) r M R := var_go e h
theorem exv_n {C : Addr} {w : Str} {r : RH} {M : MH} {R : DK} (h : R (.err C ["word", "place"] [.str w, .non]) M) : dExv C w dNil r M R := h
def six (cs : List Addr) (k : Nat) : List (Addr × Str) := (List.range' (6 * k) 6).map fun i => (cs.getD i 0, wd i)
theorem six_len (cs : List Addr) : (six cs 0 ++ six cs 1 ++ six cs 2).length ≤ 100 := by simp [six]
theorem six_eq (cs : List Addr) (g : Addr × Str → D) : (six cs 0 ++ six cs 1 ++ six cs 2).map g = (List.range 18).map fun i => g (cs.getD i 0, wd i) := rfl
theorem h__law_all : specP 1 N__law_all.length false (m__law_all C_BadCut C_BadElement C_BadFlat C_BadForms C_BadGallery C_BadGraph C_BadHeights C_BadLabel C_BadNumber C_BadPlane C_BadPoint C_BadPrime C_BadRow C_BadText C_BadWeights C_CutError C_NothingThere C_TooMany C_Unlike) (pf_all [C_BadNumber, C_BadPlane, C_BadCut, C_BadText, C_BadRow, C_BadPoint, C_BadFlat, C_BadPrime, C_BadGallery, C_BadHeights, C_BadElement, C_BadWeights, C_BadForms, C_BadGraph, C_BadLabel, C_Unlike, C_NothingThere, C_TooMany, C_CutError]) := by
  rintro ds R RE hl ⟨p, rfl, hp, hR⟩
  refine three (f := fun x : Addr × Str => dExv x.1 x.2 (dCons (dVar 0) dNil)) (g := fun x : Addr × Str => .err x.1 ["word", "place"] [.str x.2, p]) (i := 1) (six [C_BadNumber, C_BadPlane, C_BadCut, C_BadText, C_BadRow, C_BadPoint, C_BadFlat, C_BadPrime, C_BadGallery, C_BadHeights, C_BadElement, C_BadWeights, C_BadForms, C_BadGraph, C_BadLabel, C_Unlike, C_NothingThere, C_TooMany, C_CutError] 0) (six [C_BadNumber, C_BadPlane, C_BadCut, C_BadText, C_BadRow, C_BadPoint, C_BadFlat, C_BadPrime, C_BadGallery, C_BadHeights, C_BadElement, C_BadWeights, C_BadForms, C_BadGraph, C_BadLabel, C_Unlike, C_NothingThere, C_TooMany, C_CutError] 1) (six [C_BadNumber, C_BadPlane, C_BadCut, C_BadText, C_BadRow, C_BadPoint, C_BadFlat, C_BadPrime, C_BadGallery, C_BadHeights, C_BadElement, C_BadWeights, C_BadForms, C_BadGraph, C_BadLabel, C_Unlike, C_NothingThere, C_TooMany, C_CutError] 2) (show 1 < 2 from by decide) (fun x _ r' R e q => exv_v (by rw [e 0 (by decide)]; rfl) q) (six_len _) ?_
  rw [six_eq]
  exact ⟨pl_ers (cs := [C_BadNumber, C_BadPlane, C_BadCut, C_BadText, C_BadRow, C_BadPoint, C_BadFlat, C_BadPrime, C_BadGallery, C_BadHeights, C_BadElement, C_BadWeights, C_BadForms, C_BadGraph, C_BadLabel, C_Unlike, C_NothingThere, C_TooMany, C_CutError]) hp (List.range 18), hR⟩
theorem h__law_named : specP 1 N__law_named.length false (m__law_named C_BadCut C_BadElement C_BadFlat C_BadForms C_BadGallery C_BadGraph C_BadHeights C_BadLabel C_BadNumber C_BadPlane C_BadPoint C_BadPrime C_BadRow C_BadText C_BadWeights C_CutError C_NothingThere C_TooMany C_Unlike) (pf_all [C_BadNumber, C_BadPlane, C_BadCut, C_BadText, C_BadRow, C_BadPoint, C_BadFlat, C_BadPrime, C_BadGallery, C_BadHeights, C_BadElement, C_BadWeights, C_BadForms, C_BadGraph, C_BadLabel, C_Unlike, C_NothingThere, C_TooMany, C_CutError]) := by
  rintro ds R RE hl ⟨p, rfl, hp, hR⟩
  refine three (f := fun x : Addr × Str => dExv x.1 x.2 (dCons (dVar 0) dNil)) (g := fun x : Addr × Str => .err x.1 ["word", "place"] [.str x.2, p]) (i := 1) (six [C_BadNumber, C_BadPlane, C_BadCut, C_BadText, C_BadRow, C_BadPoint, C_BadFlat, C_BadPrime, C_BadGallery, C_BadHeights, C_BadElement, C_BadWeights, C_BadForms, C_BadGraph, C_BadLabel, C_Unlike, C_NothingThere, C_TooMany, C_CutError] 0) (six [C_BadNumber, C_BadPlane, C_BadCut, C_BadText, C_BadRow, C_BadPoint, C_BadFlat, C_BadPrime, C_BadGallery, C_BadHeights, C_BadElement, C_BadWeights, C_BadForms, C_BadGraph, C_BadLabel, C_Unlike, C_NothingThere, C_TooMany, C_CutError] 1) (six [C_BadNumber, C_BadPlane, C_BadCut, C_BadText, C_BadRow, C_BadPoint, C_BadFlat, C_BadPrime, C_BadGallery, C_BadHeights, C_BadElement, C_BadWeights, C_BadForms, C_BadGraph, C_BadLabel, C_Unlike, C_NothingThere, C_TooMany, C_CutError] 2) (show 1 < 2 from by decide) (fun x _ r' R e q => exv_v (by rw [e 0 (by decide)]; rfl) q) (six_len _) ?_
  rw [six_eq]
  exact ⟨pl_ers (cs := [C_BadNumber, C_BadPlane, C_BadCut, C_BadText, C_BadRow, C_BadPoint, C_BadFlat, C_BadPrime, C_BadGallery, C_BadHeights, C_BadElement, C_BadWeights, C_BadForms, C_BadGraph, C_BadLabel, C_Unlike, C_NothingThere, C_TooMany, C_CutError]) hp (List.range 18), hR⟩
theorem h__law_bare : specP 0 N__law_bare.length false (m__law_bare C_BadCut C_BadElement C_BadFlat C_BadForms C_BadGallery C_BadGraph C_BadHeights C_BadLabel C_BadNumber C_BadPlane C_BadPoint C_BadPrime C_BadRow C_BadText C_BadWeights C_CutError C_NothingThere C_TooMany C_Unlike) (pf_bare [C_BadNumber, C_BadPlane, C_BadCut, C_BadText, C_BadRow, C_BadPoint, C_BadFlat, C_BadPrime, C_BadGallery, C_BadHeights, C_BadElement, C_BadWeights, C_BadForms, C_BadGraph, C_BadLabel, C_Unlike, C_NothingThere, C_TooMany, C_CutError]) := by
  rintro ds R RE hl ⟨rfl, hR⟩
  refine three (f := fun x : Addr × Str => dExv x.1 x.2 dNil) (g := fun x : Addr × Str => .err x.1 ["word", "place"] [.str x.2, .non]) (i := 0) (six [C_BadNumber, C_BadPlane, C_BadCut, C_BadText, C_BadRow, C_BadPoint, C_BadFlat, C_BadPrime, C_BadGallery, C_BadHeights, C_BadElement, C_BadWeights, C_BadForms, C_BadGraph, C_BadLabel, C_Unlike, C_NothingThere, C_TooMany, C_CutError] 0) (six [C_BadNumber, C_BadPlane, C_BadCut, C_BadText, C_BadRow, C_BadPoint, C_BadFlat, C_BadPrime, C_BadGallery, C_BadHeights, C_BadElement, C_BadWeights, C_BadForms, C_BadGraph, C_BadLabel, C_Unlike, C_NothingThere, C_TooMany, C_CutError] 1) (six [C_BadNumber, C_BadPlane, C_BadCut, C_BadText, C_BadRow, C_BadPoint, C_BadFlat, C_BadPrime, C_BadGallery, C_BadHeights, C_BadElement, C_BadWeights, C_BadForms, C_BadGraph, C_BadLabel, C_Unlike, C_NothingThere, C_TooMany, C_CutError] 2) (show 0 < 1 from by decide) (fun x _ r' R e q => exv_n q) (six_len _) ?_
  rw [six_eq]
  exact ⟨pl_ers (cs := [C_BadNumber, C_BadPlane, C_BadCut, C_BadText, C_BadRow, C_BadPoint, C_BadFlat, C_BadPrime, C_BadGallery, C_BadHeights, C_BadElement, C_BadWeights, C_BadForms, C_BadGraph, C_BadLabel, C_Unlike, C_NothingThere, C_TooMany, C_CutError]) (p := .non) rfl (List.range 18), hR⟩
theorem isX_go {C D' : Addr} {ns : List Str} {ds : List D} {r : RH} {M : MH} {R : DK} {b : Bool} (e : r.sl[(0 : Nat)]? = some (some (.err C ns ds))) (T : ExcC K C) (k : PySem.W.kitOne K (.ref C) (.ref D') = some b) (h : R (.bl b) M) :
    dCB (dIsX K) (dCons (dVar 0) (dCons (dC (.cls D')) dNil)) r M R := var_go e ⟨T, _, rfl, b, k, h⟩
theorem pl_bls (f : Nat → Bool) : ∀ is : List Nat, plainA (is.map fun i => D.bl (f i)) = true
  | [] => rfl
  | i :: is => pl_bls f is
def sixK (k : Nat) : List Nat := List.range' (6 * k) 6
theorem h__law_kinds (kf : KF K [C_BadNumber, C_BadPlane, C_BadCut, C_BadText, C_BadRow, C_BadPoint, C_BadFlat, C_BadPrime, C_BadGallery, C_BadHeights, C_BadElement, C_BadWeights, C_BadForms, C_BadGraph, C_BadLabel, C_Unlike, C_NothingThere, C_TooMany, C_CutError]) : specP 1 N__law_kinds.length false (m__law_kinds K C_BadCut C_BadElement C_BadFlat C_BadForms C_BadGallery C_BadGraph C_BadHeights C_BadLabel C_BadNumber C_BadPlane C_BadPoint C_BadPrime C_BadRow C_BadText C_BadWeights C_CutError C_NothingThere C_TooMany C_Unlike) (pf_kinds [C_BadNumber, C_BadPlane, C_BadCut, C_BadText, C_BadRow, C_BadPoint, C_BadFlat, C_BadPrime, C_BadGallery, C_BadHeights, C_BadElement, C_BadWeights, C_BadForms, C_BadGraph, C_BadLabel, C_Unlike, C_NothingThere, C_TooMany, C_CutError]) := by
  rintro ds R RE hl ⟨i, p, hi, hp, rfl, hR⟩
  refine three (f := fun j : Nat => dCB (dIsX K) (dCons (dVar 0) (dCons (dC (.cls (([C_BadNumber, C_BadPlane, C_BadCut, C_BadText, C_BadRow, C_BadPoint, C_BadFlat, C_BadPrime, C_BadGallery, C_BadHeights, C_BadElement, C_BadWeights, C_BadForms, C_BadGraph, C_BadLabel, C_Unlike, C_NothingThere, C_TooMany, C_CutError] : List Addr).getD j 0))) dNil))) (g := fun j : Nat => .bl (i == j)) (i := 1) (sixK 0) (sixK 1) (sixK 2) (show 1 < 2 from by decide)
    (fun j hj r' R e q => ?_) (show 18 ≤ 100 from by decide) ⟨pl_bls _ (List.range 18), hR⟩
  have hj2 : j < 18 := List.mem_range.mp (show j ∈ List.range 18 from hj)
  refine isX_go (by rw [e 0 (by decide)]; rfl) (kf.ec i hi) (kf.ki i j hi (by omega)) ?_
  have e18 : (j == 18) = false := by simp; omega
  rw [e18, Bool.or_false]
  exact q
end
end K00

set_option Elab.async false
set_option linter.all false
set_option maxRecDepth 100000
set_option maxHeartbeats 2000000
namespace K00
open PySem PySem.Spec PyProof.Rows L2 DL NU
section
variable {K : PySem.W.Frag} {C_BadCut C_BadElement C_BadFlat C_BadForms C_BadGallery C_BadGraph C_BadHeights C_BadLabel C_BadNumber C_BadPlane C_BadPoint C_BadPrime C_BadRow C_BadText C_BadWeights C_CutError C_NothingThere C_TooMany C_Unlike : Addr}
theorem h__law_caught (kf : KF K [C_BadNumber, C_BadPlane, C_BadCut, C_BadText, C_BadRow, C_BadPoint, C_BadFlat, C_BadPrime, C_BadGallery, C_BadHeights, C_BadElement, C_BadWeights, C_BadForms, C_BadGraph, C_BadLabel, C_Unlike, C_NothingThere, C_TooMany, C_CutError]) : specP 2 N__law_caught.length false (m__law_caught K C_BadCut C_BadElement C_BadFlat C_BadForms C_BadGallery C_BadGraph C_BadHeights C_BadLabel C_BadNumber C_BadPlane C_BadPoint C_BadPrime C_BadRow C_BadText C_BadWeights C_CutError C_NothingThere C_TooMany C_Unlike) pf_caught := by
  rintro ds R RE hl ⟨k, p, hk, hp, rfl, hR⟩
  have h5 : k = 0 ∨ k = 1 ∨ k = 2 ∨ k = 3 ∨ k = 4 := by omega
  have pl : ∀ w : Str, D.plain (.tup [.str w, p]) = true := fun w => by simp [D.plain, plainA, hp]
  rcases h5 with rfl | rfl | rfl | rfl | rfl
  · simp -implicitDefEqProofs only [m__law_caught, N__law_caught, mTry, mRaise, Nat.zero_add, Nat.reduceAdd, dRng1, dRng2, NU.xf_place, NU.xf_word, mSeq, mPar, mSet, mAsg, mWhile, mFor, mIf, mRet, mRetN, mNext, mPut, mDrop, dCons, dNil, dCB, dAbs, dInt, dVar, dC, slP, dOp, dUn, dNeg, dSub, dMd, dFd, dI, dI0, dCmpI, dLt, dLe, dGt, dGe, dTest, dTestB, dTru, dTup, dLst, dCallP, dCallI, dAndV, dOrV, dNotV, dAnd, dOr, dNot, dIf, RH.put, List.length, List.map, List.getElem?_cons_zero, List.getElem?_cons_succ, List.cons_append, List.nil_append, List.append_nil, List.set, Nat.reduceSub, List.replicate, prepA, nw, NU.p_int, NU.p_bl, NU.p_non, NU.p_str, D.plain, plainA, Bool.and_true, Bool.true_and, if_true, Bool.or_false, Bool.false_or, resK, rdS, rdL, bindP, bindPs, Bool.false_eq_true, false_imp_iff, true_and, and_true, dSeq, wipeD, dTuple, dLc, rB, NU.p_iT, NU.p_iL, NU.p_rT, NU.p_rL, NU.p_R', if_false, dChain, rdI, rdB, dPart, dNoPart, dSl, NU.ixK_s, NU.ixT, NU.ixL, NU.ixS, NU.ix_r0, NU.ix_r1, NU.at_0, NU.at_1, NU.atI_last', NU.addI, NU.addIB, NU.addTT, NU.addLL, NU.addSS, NU.mulI, NU.mulL, NU.mulT, NU.eqI, NU.neI, NU.eqS, NU.lenT, NU.lenL, NU.slT, NU.slL, NU.cut_init, NU.anyB, NU.anyIL, NU.anyIT, NU.maxL, NU.max2, NU.sumL, NU.isi_non_int, NU.isi_non_bool, NU.isi_non_tuple, NU.isi_non_list, NU.isi_non_str, NU.isi_non_dict, NU.isi_bl_int, NU.isi_bl_bool, NU.isi_bl_tuple, NU.isi_bl_list, NU.isi_bl_str, NU.isi_bl_dict, NU.isi_int_int, NU.isi_int_bool, NU.isi_int_tuple, NU.isi_int_list, NU.isi_int_str, NU.isi_int_dict, NU.isi_str_int, NU.isi_str_bool, NU.isi_str_tuple, NU.isi_str_list, NU.isi_str_str, NU.isi_str_dict, NU.isi_tup_int, NU.isi_tup_bool, NU.isi_tup_tuple, NU.isi_tup_list, NU.isi_tup_str, NU.isi_tup_dict, NU.isi_lst_int, NU.isi_lst_bool, NU.isi_lst_tuple, NU.isi_lst_list, NU.isi_lst_str, NU.isi_lst_dict, NU.isi_scr_int, NU.isi_scr_bool, NU.isi_scr_tuple, NU.isi_scr_list, NU.isi_scr_str, NU.isi_scr_dict, NU.eq_iT, NU.ix_1, NU.ix_0, NU.len_1, NU.len_0, NU.sl_1, NU.app_1, NU.app_0, NU.tyL_1, NU.tyL_0, NU.tuple_1, dMth]
    refine ⟨p, .inl rfl, true, kf.ex 3 (by decide), fun _ => ⟨kf.xp 3 (by decide), fun a dd => ?_⟩, fun z => (by cases z)⟩
    exact ⟨by decide, pl _, hR⟩
  · simp -implicitDefEqProofs only [m__law_caught, N__law_caught, mTry, mRaise, Nat.zero_add, Nat.reduceAdd, dRng1, dRng2, NU.xf_place, NU.xf_word, mSeq, mPar, mSet, mAsg, mWhile, mFor, mIf, mRet, mRetN, mNext, mPut, mDrop, dCons, dNil, dCB, dAbs, dInt, dVar, dC, slP, dOp, dUn, dNeg, dSub, dMd, dFd, dI, dI0, dCmpI, dLt, dLe, dGt, dGe, dTest, dTestB, dTru, dTup, dLst, dCallP, dCallI, dAndV, dOrV, dNotV, dAnd, dOr, dNot, dIf, RH.put, List.length, List.map, List.getElem?_cons_zero, List.getElem?_cons_succ, List.cons_append, List.nil_append, List.append_nil, List.set, Nat.reduceSub, List.replicate, prepA, nw, NU.p_int, NU.p_bl, NU.p_non, NU.p_str, D.plain, plainA, Bool.and_true, Bool.true_and, if_true, Bool.or_false, Bool.false_or, resK, rdS, rdL, bindP, bindPs, Bool.false_eq_true, false_imp_iff, true_and, and_true, dSeq, wipeD, dTuple, dLc, rB, NU.p_iT, NU.p_iL, NU.p_rT, NU.p_rL, NU.p_R', if_false, dChain, rdI, rdB, dPart, dNoPart, dSl, NU.ixK_s, NU.ixT, NU.ixL, NU.ixS, NU.ix_r0, NU.ix_r1, NU.at_0, NU.at_1, NU.atI_last', NU.addI, NU.addIB, NU.addTT, NU.addLL, NU.addSS, NU.mulI, NU.mulL, NU.mulT, NU.eqI, NU.neI, NU.eqS, NU.lenT, NU.lenL, NU.slT, NU.slL, NU.cut_init, NU.anyB, NU.anyIL, NU.anyIT, NU.maxL, NU.max2, NU.sumL, NU.isi_non_int, NU.isi_non_bool, NU.isi_non_tuple, NU.isi_non_list, NU.isi_non_str, NU.isi_non_dict, NU.isi_bl_int, NU.isi_bl_bool, NU.isi_bl_tuple, NU.isi_bl_list, NU.isi_bl_str, NU.isi_bl_dict, NU.isi_int_int, NU.isi_int_bool, NU.isi_int_tuple, NU.isi_int_list, NU.isi_int_str, NU.isi_int_dict, NU.isi_str_int, NU.isi_str_bool, NU.isi_str_tuple, NU.isi_str_list, NU.isi_str_str, NU.isi_str_dict, NU.isi_tup_int, NU.isi_tup_bool, NU.isi_tup_tuple, NU.isi_tup_list, NU.isi_tup_str, NU.isi_tup_dict, NU.isi_lst_int, NU.isi_lst_bool, NU.isi_lst_tuple, NU.isi_lst_list, NU.isi_lst_str, NU.isi_lst_dict, NU.isi_scr_int, NU.isi_scr_bool, NU.isi_scr_tuple, NU.isi_scr_list, NU.isi_scr_str, NU.isi_scr_dict, NU.eq_iT, NU.ix_1, NU.ix_0, NU.len_1, NU.len_0, NU.sl_1, NU.app_1, NU.app_0, NU.tyL_1, NU.tyL_0, NU.tuple_1, dMth]
    refine ⟨p, .inl rfl, true, kf.ex 15 (by decide), fun _ => ⟨kf.xp 15 (by decide), fun a dd => ?_⟩, fun z => (by cases z)⟩
    exact ⟨by decide, pl _, hR⟩
  · simp -implicitDefEqProofs only [m__law_caught, N__law_caught, mTry, mRaise, Nat.zero_add, Nat.reduceAdd, dRng1, dRng2, NU.xf_place, NU.xf_word, mSeq, mPar, mSet, mAsg, mWhile, mFor, mIf, mRet, mRetN, mNext, mPut, mDrop, dCons, dNil, dCB, dAbs, dInt, dVar, dC, slP, dOp, dUn, dNeg, dSub, dMd, dFd, dI, dI0, dCmpI, dLt, dLe, dGt, dGe, dTest, dTestB, dTru, dTup, dLst, dCallP, dCallI, dAndV, dOrV, dNotV, dAnd, dOr, dNot, dIf, RH.put, List.length, List.map, List.getElem?_cons_zero, List.getElem?_cons_succ, List.cons_append, List.nil_append, List.append_nil, List.set, Nat.reduceSub, List.replicate, prepA, nw, NU.p_int, NU.p_bl, NU.p_non, NU.p_str, D.plain, plainA, Bool.and_true, Bool.true_and, if_true, Bool.or_false, Bool.false_or, resK, rdS, rdL, bindP, bindPs, Bool.false_eq_true, false_imp_iff, true_and, and_true, dSeq, wipeD, dTuple, dLc, rB, NU.p_iT, NU.p_iL, NU.p_rT, NU.p_rL, NU.p_R', if_false, dChain, rdI, rdB, dPart, dNoPart, dSl, NU.ixK_s, NU.ixT, NU.ixL, NU.ixS, NU.ix_r0, NU.ix_r1, NU.at_0, NU.at_1, NU.atI_last', NU.addI, NU.addIB, NU.addTT, NU.addLL, NU.addSS, NU.mulI, NU.mulL, NU.mulT, NU.eqI, NU.neI, NU.eqS, NU.lenT, NU.lenL, NU.slT, NU.slL, NU.cut_init, NU.anyB, NU.anyIL, NU.anyIT, NU.maxL, NU.max2, NU.sumL, NU.isi_non_int, NU.isi_non_bool, NU.isi_non_tuple, NU.isi_non_list, NU.isi_non_str, NU.isi_non_dict, NU.isi_bl_int, NU.isi_bl_bool, NU.isi_bl_tuple, NU.isi_bl_list, NU.isi_bl_str, NU.isi_bl_dict, NU.isi_int_int, NU.isi_int_bool, NU.isi_int_tuple, NU.isi_int_list, NU.isi_int_str, NU.isi_int_dict, NU.isi_str_int, NU.isi_str_bool, NU.isi_str_tuple, NU.isi_str_list, NU.isi_str_str, NU.isi_str_dict, NU.isi_tup_int, NU.isi_tup_bool, NU.isi_tup_tuple, NU.isi_tup_list, NU.isi_tup_str, NU.isi_tup_dict, NU.isi_lst_int, NU.isi_lst_bool, NU.isi_lst_tuple, NU.isi_lst_list, NU.isi_lst_str, NU.isi_lst_dict, NU.isi_scr_int, NU.isi_scr_bool, NU.isi_scr_tuple, NU.isi_scr_list, NU.isi_scr_str, NU.isi_scr_dict, NU.eq_iT, NU.ix_1, NU.ix_0, NU.len_1, NU.len_0, NU.sl_1, NU.app_1, NU.app_0, NU.tyL_1, NU.tyL_0, NU.tuple_1, dMth]
    refine ⟨p, .inl rfl, true, kf.ex 16 (by decide), fun _ => ⟨kf.xp 16 (by decide), fun a dd => ?_⟩, fun z => (by cases z)⟩
    exact ⟨by decide, pl _, hR⟩
  · simp -implicitDefEqProofs only [m__law_caught, N__law_caught, mTry, mRaise, Nat.zero_add, Nat.reduceAdd, dRng1, dRng2, NU.xf_place, NU.xf_word, mSeq, mPar, mSet, mAsg, mWhile, mFor, mIf, mRet, mRetN, mNext, mPut, mDrop, dCons, dNil, dCB, dAbs, dInt, dVar, dC, slP, dOp, dUn, dNeg, dSub, dMd, dFd, dI, dI0, dCmpI, dLt, dLe, dGt, dGe, dTest, dTestB, dTru, dTup, dLst, dCallP, dCallI, dAndV, dOrV, dNotV, dAnd, dOr, dNot, dIf, RH.put, List.length, List.map, List.getElem?_cons_zero, List.getElem?_cons_succ, List.cons_append, List.nil_append, List.append_nil, List.set, Nat.reduceSub, List.replicate, prepA, nw, NU.p_int, NU.p_bl, NU.p_non, NU.p_str, D.plain, plainA, Bool.and_true, Bool.true_and, if_true, Bool.or_false, Bool.false_or, resK, rdS, rdL, bindP, bindPs, Bool.false_eq_true, false_imp_iff, true_and, and_true, dSeq, wipeD, dTuple, dLc, rB, NU.p_iT, NU.p_iL, NU.p_rT, NU.p_rL, NU.p_R', if_false, dChain, rdI, rdB, dPart, dNoPart, dSl, NU.ixK_s, NU.ixT, NU.ixL, NU.ixS, NU.ix_r0, NU.ix_r1, NU.at_0, NU.at_1, NU.atI_last', NU.addI, NU.addIB, NU.addTT, NU.addLL, NU.addSS, NU.mulI, NU.mulL, NU.mulT, NU.eqI, NU.neI, NU.eqS, NU.lenT, NU.lenL, NU.slT, NU.slL, NU.cut_init, NU.anyB, NU.anyIL, NU.anyIT, NU.maxL, NU.max2, NU.sumL, NU.isi_non_int, NU.isi_non_bool, NU.isi_non_tuple, NU.isi_non_list, NU.isi_non_str, NU.isi_non_dict, NU.isi_bl_int, NU.isi_bl_bool, NU.isi_bl_tuple, NU.isi_bl_list, NU.isi_bl_str, NU.isi_bl_dict, NU.isi_int_int, NU.isi_int_bool, NU.isi_int_tuple, NU.isi_int_list, NU.isi_int_str, NU.isi_int_dict, NU.isi_str_int, NU.isi_str_bool, NU.isi_str_tuple, NU.isi_str_list, NU.isi_str_str, NU.isi_str_dict, NU.isi_tup_int, NU.isi_tup_bool, NU.isi_tup_tuple, NU.isi_tup_list, NU.isi_tup_str, NU.isi_tup_dict, NU.isi_lst_int, NU.isi_lst_bool, NU.isi_lst_tuple, NU.isi_lst_list, NU.isi_lst_str, NU.isi_lst_dict, NU.isi_scr_int, NU.isi_scr_bool, NU.isi_scr_tuple, NU.isi_scr_list, NU.isi_scr_str, NU.isi_scr_dict, NU.eq_iT, NU.ix_1, NU.ix_0, NU.len_1, NU.len_0, NU.sl_1, NU.app_1, NU.app_0, NU.tyL_1, NU.tyL_0, NU.tuple_1, dMth]
    refine ⟨p, .inl rfl, true, kf.ex 17 (by decide), fun _ => ⟨kf.xp 17 (by decide), fun a dd => ?_⟩, fun z => (by cases z)⟩
    exact ⟨by decide, pl _, hR⟩
  · simp -implicitDefEqProofs only [m__law_caught, N__law_caught, mTry, mRaise, Nat.zero_add, Nat.reduceAdd, dRng1, dRng2, NU.xf_place, NU.xf_word, mSeq, mPar, mSet, mAsg, mWhile, mFor, mIf, mRet, mRetN, mNext, mPut, mDrop, dCons, dNil, dCB, dAbs, dInt, dVar, dC, slP, dOp, dUn, dNeg, dSub, dMd, dFd, dI, dI0, dCmpI, dLt, dLe, dGt, dGe, dTest, dTestB, dTru, dTup, dLst, dCallP, dCallI, dAndV, dOrV, dNotV, dAnd, dOr, dNot, dIf, RH.put, List.length, List.map, List.getElem?_cons_zero, List.getElem?_cons_succ, List.cons_append, List.nil_append, List.append_nil, List.set, Nat.reduceSub, List.replicate, prepA, nw, NU.p_int, NU.p_bl, NU.p_non, NU.p_str, D.plain, plainA, Bool.and_true, Bool.true_and, if_true, Bool.or_false, Bool.false_or, resK, rdS, rdL, bindP, bindPs, Bool.false_eq_true, false_imp_iff, true_and, and_true, dSeq, wipeD, dTuple, dLc, rB, NU.p_iT, NU.p_iL, NU.p_rT, NU.p_rL, NU.p_R', if_false, dChain, rdI, rdB, dPart, dNoPart, dSl, NU.ixK_s, NU.ixT, NU.ixL, NU.ixS, NU.ix_r0, NU.ix_r1, NU.at_0, NU.at_1, NU.atI_last', NU.addI, NU.addIB, NU.addTT, NU.addLL, NU.addSS, NU.mulI, NU.mulL, NU.mulT, NU.eqI, NU.neI, NU.eqS, NU.lenT, NU.lenL, NU.slT, NU.slL, NU.cut_init, NU.anyB, NU.anyIL, NU.anyIT, NU.maxL, NU.max2, NU.sumL, NU.isi_non_int, NU.isi_non_bool, NU.isi_non_tuple, NU.isi_non_list, NU.isi_non_str, NU.isi_non_dict, NU.isi_bl_int, NU.isi_bl_bool, NU.isi_bl_tuple, NU.isi_bl_list, NU.isi_bl_str, NU.isi_bl_dict, NU.isi_int_int, NU.isi_int_bool, NU.isi_int_tuple, NU.isi_int_list, NU.isi_int_str, NU.isi_int_dict, NU.isi_str_int, NU.isi_str_bool, NU.isi_str_tuple, NU.isi_str_list, NU.isi_str_str, NU.isi_str_dict, NU.isi_tup_int, NU.isi_tup_bool, NU.isi_tup_tuple, NU.isi_tup_list, NU.isi_tup_str, NU.isi_tup_dict, NU.isi_lst_int, NU.isi_lst_bool, NU.isi_lst_tuple, NU.isi_lst_list, NU.isi_lst_str, NU.isi_lst_dict, NU.isi_scr_int, NU.isi_scr_bool, NU.isi_scr_tuple, NU.isi_scr_list, NU.isi_scr_str, NU.isi_scr_dict, NU.eq_iT, NU.ix_1, NU.ix_0, NU.len_1, NU.len_0, NU.sl_1, NU.app_1, NU.app_0, NU.tyL_1, NU.tyL_0, NU.tuple_1, dMth]
    refine ⟨p, .inl rfl, true, kf.ex 4 (by decide), fun _ => ⟨kf.xp 4 (by decide), fun a dd => ?_⟩, fun z => (by cases z)⟩
    exact ⟨by decide, pl _, hR⟩
end
end K00

set_option Elab.async false
set_option linter.all false
set_option maxRecDepth 100000
set_option maxHeartbeats 2000000
namespace K00
open PySem PySem.Spec PyProof.Rows L2 DL NU
/-- a place that is told -/
structure Sp (p : D) : Prop where
  pl : p.plain = true
  gd : Gd 3 20 p
theorem g_str {n b : Nat} {w : Str} (h : (py (.str w)).showable = true) (l : (py (.str w)).canLay0 = true) (hb : (py (.str w)).bulk ≤ b) : Gd n b (.str w) := ⟨rfl, l, Nat.zero_le _, h, hb⟩
theorem is_go {d : D} {R : D → Prop} {RE : Addr → D → Str → Prop} (h : Gd 60 8000 d) (k : R (.bl true)) : pf__law_is [d, d] R RE := ⟨d, d, rfl, h, h, .inl ⟨rfl, k⟩⟩
theorem prepA2 {M : MH} {d e : D} (h : d.plain = true) (g : e.plain = true) : prepA M [d, e] = some ([d, e], false) := by
  simp only [prepA, prep1_plain h, prep1_plain g]
  rfl
theorem prepA1 {M : MH} {d : D} (h : d.plain = true) : prepA M [d] = some ([d], false) := by
  simp only [prepA, prep1_plain h]
  rfl
theorem lawis_go {A B : DE} {v : D} {r : RH} {M : MH} {R : DK} (hA : ∀ R : DK, R v M → A r M R) (hB : ∀ R : DK, R v M → B r M R) (g : Gd 60 8000 v) (h : R (.bl true) M) : dCallP 2 pf__law_is false true [] (dCons A (dCons B dNil)) r M R := by
  refine hA _ (hB _ ?_)
  have e := prepA2 (M := M) (dat_plain g.dat) (dat_plain g.dat)
  simp only [dNil]
  rw [e]
  exact ⟨rfl, is_go g ⟨(fun z => Bool.noConfusion z), h⟩⟩
/-- a call of a def of one argument that changes nothing -/
theorem call1 {pf : PF} {A : DE} {v w : D} {r : RH} {M : MH} {R : DK} (hA : ∀ R : DK, R v M → A r M R) (hv : v.plain = true) (hp : ∀ (Q : D → Prop) RE, Q w → pf [v] Q RE) (h : R w M) : dCallP 1 pf false true [] (dCons A dNil) r M R := by
  refine hA _ ?_
  have e := prepA1 (M := M) hv
  simp only [dNil]
  rw [e]
  exact ⟨rfl, hp _ _ ⟨(fun z => Bool.noConfusion z), h⟩⟩
theorem call0 {pf : PF} {w : D} {r : RH} {M : MH} {R : DK} (hp : ∀ (Q : D → Prop) RE, Q w → pf [] Q RE) (h : R w M) : dCallP 0 pf false true [] dNil r M R := by
  exact ⟨rfl, hp _ _ ⟨(fun z => Bool.noConfusion z), h⟩⟩
def nmL : List D := (List.range 18).map fun i => .str (wd i)
def erL (cs : List Addr) (p : D) : D := .lst ((List.range 18).map fun i => er cs i p)
def sixW (k : Nat) : List Str := (List.range' (6 * k) 6).map wd
section
variable {K : PySem.W.Frag} {C_BadCut C_BadElement C_BadFlat C_BadForms C_BadGallery C_BadGraph C_BadHeights C_BadLabel C_BadNumber C_BadPlane C_BadPoint C_BadPrime C_BadRow C_BadText C_BadWeights C_CutError C_NothingThere C_TooMany C_Unlike : Addr}
theorem st0 {u : DS} {E : DEnds} {ex : SL → Addr → D → Str → MH → Prop} {z1 z2 z3 z4 z5 z6 z7 z8 z9 z10 z11 z12 z13 z14 : Option D} {ns : List Int} (hn : ns.length ≤ 63) (k : ∀ dk0, Dk dk0 → u E { sl := [(some (.scr (ns.map D.int))), (some (.loc 0)), z2, z3, z4, z5, z6, z7, z8, z9, z10, z11, z12, z13, z14], ex := ex } [.lst dk0]) : mSeq (s_law_0 K C_BadCut C_BadElement C_BadFlat C_BadForms C_BadGallery C_BadGraph C_BadHeights C_BadLabel C_BadNumber C_BadPlane C_BadPoint C_BadPrime C_BadRow C_BadText C_BadWeights C_CutError C_NothingThere C_TooMany C_Unlike) u E { sl := [(some (.scr (ns.map D.int))), z1, z2, z3, z4, z5, z6, z7, z8, z9, z10, z11, z12, z13, z14], ex := ex } [] := by
  simp -implicitDefEqProofs only [s_law_0, NU.p_scr, Nat.zero_add, Nat.reduceAdd, dRng1, dRng2, NU.xf_place, NU.xf_word, mSeq, mPar, mSet, mAsg, mWhile, mFor, mIf, mRet, mRetN, mNext, mPut, mDrop, dCons, dNil, dCB, dAbs, dInt, dVar, dC, slP, dOp, dUn, dNeg, dSub, dMd, dFd, dI, dI0, dCmpI, dLt, dLe, dGt, dGe, dTest, dTestB, dTru, dTup, dLst, dCallP, dCallI, dAndV, dOrV, dNotV, dAnd, dOr, dNot, dIf, RH.put, List.length, List.map, List.getElem?_cons_zero, List.getElem?_cons_succ, List.cons_append, List.nil_append, List.append_nil, List.set, Nat.reduceSub, List.replicate, prepA, nw, NU.p_int, NU.p_bl, NU.p_non, NU.p_str, D.plain, plainA, Bool.and_true, Bool.true_and, if_true, Bool.or_false, Bool.false_or, resK, rdS, rdL, bindP, bindPs, Bool.false_eq_true, false_imp_iff, true_and, and_true, dSeq, wipeD, dTuple, dLc, rB, NU.p_iT, NU.p_iL, NU.p_rT, NU.p_rL, NU.p_R', if_false, dChain, rdI, rdB, dPart, dNoPart, dSl, NU.ixK_s, NU.ixT, NU.ixL, NU.ixS, NU.ix_r0, NU.ix_r1, NU.at_0, NU.at_1, NU.atI_last', NU.addI, NU.addIB, NU.addTT, NU.addLL, NU.addSS, NU.mulI, NU.mulL, NU.mulT, NU.eqI, NU.neI, NU.eqS, NU.lenT, NU.lenL, NU.slT, NU.slL, NU.cut_init, NU.anyB, NU.anyIL, NU.anyIT, NU.maxL, NU.max2, NU.sumL, NU.isi_non_int, NU.isi_non_bool, NU.isi_non_tuple, NU.isi_non_list, NU.isi_non_str, NU.isi_non_dict, NU.isi_bl_int, NU.isi_bl_bool, NU.isi_bl_tuple, NU.isi_bl_list, NU.isi_bl_str, NU.isi_bl_dict, NU.isi_int_int, NU.isi_int_bool, NU.isi_int_tuple, NU.isi_int_list, NU.isi_int_str, NU.isi_int_dict, NU.isi_str_int, NU.isi_str_bool, NU.isi_str_tuple, NU.isi_str_list, NU.isi_str_str, NU.isi_str_dict, NU.isi_tup_int, NU.isi_tup_bool, NU.isi_tup_tuple, NU.isi_tup_list, NU.isi_tup_str, NU.isi_tup_dict, NU.isi_lst_int, NU.isi_lst_bool, NU.isi_lst_tuple, NU.isi_lst_list, NU.isi_lst_str, NU.isi_lst_dict, NU.isi_scr_int, NU.isi_scr_bool, NU.isi_scr_tuple, NU.isi_scr_list, NU.isi_scr_str, NU.isi_scr_dict, NU.eq_iT, NU.ix_1, NU.ix_0, NU.len_1, NU.len_0, NU.sl_1, NU.app_1, NU.app_0, NU.tyL_1, NU.tyL_0, NU.tuple_1, dMth]
  exact ⟨ns, rfl, hn, fun dk0 hd0 => k dk0 hd0⟩
theorem st1 {u : DS} {E : DEnds} {ex : SL → Addr → D → Str → MH → Prop} {z0 z1 z2 z3 z4 z5 z6 z7 z8 z9 z10 z11 z12 z13 z14 : Option D} {M : MH} (k :  u E { sl := [z0, z1, (some (.lst ((sixW 0).map D.str))), z3, z4, z5, z6, z7, z8, z9, z10, z11, z12, z13, z14], ex := ex } M) : mSeq (s_law_1 K C_BadCut C_BadElement C_BadFlat C_BadForms C_BadGallery C_BadGraph C_BadHeights C_BadLabel C_BadNumber C_BadPlane C_BadPoint C_BadPrime C_BadRow C_BadText C_BadWeights C_CutError C_NothingThere C_TooMany C_Unlike) u E { sl := [z0, z1, z2, z3, z4, z5, z6, z7, z8, z9, z10, z11, z12, z13, z14], ex := ex } M := by
  exact lst_go (f := fun w : Str => dC (.str w)) (g := D.str) (as := sixW 0) (fun a _ R q => q) (by decide) k
theorem st2 {u : DS} {E : DEnds} {ex : SL → Addr → D → Str → MH → Prop} {z0 z1 z3 z4 z5 z6 z7 z8 z9 z10 z11 z12 z13 z14 : Option D} {M : MH} (k :  u E { sl := [z0, z1, (some (.lst ((sixW 0).map D.str ++ (sixW 1).map D.str))), z3, z4, z5, z6, z7, z8, z9, z10, z11, z12, z13, z14], ex := ex } M) : mSeq (s_law_2 K C_BadCut C_BadElement C_BadFlat C_BadForms C_BadGallery C_BadGraph C_BadHeights C_BadLabel C_BadNumber C_BadPlane C_BadPoint C_BadPrime C_BadRow C_BadText C_BadWeights C_CutError C_NothingThere C_TooMany C_Unlike) u E { sl := [z0, z1, (some (.lst ((sixW 0).map D.str))), z3, z4, z5, z6, z7, z8, z9, z10, z11, z12, z13, z14], ex := ex } M := by
  unfold s_law_2 mSeq mSet
  refine add_go (f := fun w : Str => dC (.str w)) (g := D.str) (i := 2) (xs := (sixW 0).map D.str) (as := sixW 1) (by rfl) (fun a _ R q => q) (by decide) (by decide) ?_
  exact k
theorem st3 {u : DS} {E : DEnds} {ex : SL → Addr → D → Str → MH → Prop} {z0 z1 z3 z4 z5 z6 z7 z8 z9 z10 z11 z12 z13 z14 : Option D} {M : MH} (k :  u E { sl := [z0, z1, (some (.lst nmL)), z3, z4, z5, z6, z7, z8, z9, z10, z11, z12, z13, z14], ex := ex } M) : mSeq (s_law_3 K C_BadCut C_BadElement C_BadFlat C_BadForms C_BadGallery C_BadGraph C_BadHeights C_BadLabel C_BadNumber C_BadPlane C_BadPoint C_BadPrime C_BadRow C_BadText C_BadWeights C_CutError C_NothingThere C_TooMany C_Unlike) u E { sl := [z0, z1, (some (.lst ((sixW 0).map D.str ++ (sixW 1).map D.str))), z3, z4, z5, z6, z7, z8, z9, z10, z11, z12, z13, z14], ex := ex } M := by
  unfold s_law_3 mSeq mSet
  refine add_go (f := fun w : Str => dC (.str w)) (g := D.str) (i := 2) (xs := (sixW 0).map D.str ++ (sixW 1).map D.str) (as := sixW 2) (by rfl) (fun a _ R q => q) (by decide) (by decide) ?_
  exact k
theorem sp_at {v j : Int} (h0 : 0 ≤ j) (h7 : j < 7) (v0 : 0 ≤ v) (v1 : v < 100) : ∃ p, atI [D.non, .int (v - 50), .str "ab", .tup [.str "x", .int 1], .int 0, .lst [], .bl false] j = some p ∧ Sp p := by
  have h : j = 0 ∨ j = 1 ∨ j = 2 ∨ j = 3 ∨ j = 4 ∨ j = 5 ∨ j = 6 := by omega
  rcases h with rfl | rfl | rfl | rfl | rfl | rfl | rfl
  · exact ⟨_, rfl, rfl, g_non⟩
  · exact ⟨_, rfl, rfl, g_int (sm_mono (n := 10) (show (v - 50).natAbs < 2 ^ 10 by omega) (by decide))⟩
  · exact ⟨_, rfl, rfl, g_str (by decide +kernel) (by decide +kernel) (by decide +kernel)⟩
  · exact ⟨_, rfl, rfl, (g_tup (n := 2) (gA_cons (b := 5) (g_str (by decide +kernel) (by decide +kernel) (by decide +kernel)) (gA_cons (b := 0) (b' := 0) (g_int (by decide +kernel)) gA_nil))).mono (by decide) (by decide)⟩
  · exact ⟨_, rfl, rfl, g_int (by decide +kernel)⟩
  · exact ⟨_, rfl, rfl, (g_lst (n := 2) (b := 0) gA_nil).mono (by decide) (by decide)⟩
  · exact ⟨_, rfl, rfl, g_bl⟩
theorem st4 {u : DS} {E : DEnds} {ex : SL → Addr → D → Str → MH → Prop} {z0 z2 z3 z4 z5 z6 z7 z8 z9 z10 z11 z12 z13 z14 : Option D} {dk0 : List D} (hd : Dk dk0) (k : ∀ (p : D) dk1, Sp p → Dk dk1 → u E { sl := [z0, (some (.loc 0)), z2, (some p), z4, z5, z6, z7, z8, z9, z10, z11, z12, z13, z14], ex := ex } [.lst dk1]) : mSeq (s_law_4 K C_BadCut C_BadElement C_BadFlat C_BadForms C_BadGallery C_BadGraph C_BadHeights C_BadLabel C_BadNumber C_BadPlane C_BadPoint C_BadPrime C_BadRow C_BadText C_BadWeights C_CutError C_NothingThere C_TooMany C_Unlike) u E { sl := [z0, (some (.loc 0)), z2, z3, z4, z5, z6, z7, z8, z9, z10, z11, z12, z13, z14], ex := ex } [.lst dk0] := by
  simp -implicitDefEqProofs only [s_law_4, dLst, Nat.zero_add, Nat.reduceAdd, dRng1, dRng2, NU.xf_place, NU.xf_word, mSeq, mPar, mSet, mAsg, mWhile, mFor, mIf, mRet, mRetN, mNext, mPut, mDrop, dCons, dNil, dCB, dAbs, dInt, dVar, dC, slP, dOp, dUn, dNeg, dSub, dMd, dFd, dI, dI0, dCmpI, dLt, dLe, dGt, dGe, dTest, dTestB, dTru, dTup, dLst, dCallP, dCallI, dAndV, dOrV, dNotV, dAnd, dOr, dNot, dIf, RH.put, List.length, List.map, List.getElem?_cons_zero, List.getElem?_cons_succ, List.cons_append, List.nil_append, List.append_nil, List.set, Nat.reduceSub, List.replicate, prepA, nw, NU.p_int, NU.p_bl, NU.p_non, NU.p_str, D.plain, plainA, Bool.and_true, Bool.true_and, if_true, Bool.or_false, Bool.false_or, resK, rdS, rdL, bindP, bindPs, Bool.false_eq_true, false_imp_iff, true_and, and_true, dSeq, wipeD, dTuple, dLc, rB, NU.p_iT, NU.p_iL, NU.p_rT, NU.p_rL, NU.p_R', if_false, dChain, rdI, rdB, dPart, dNoPart, dSl, NU.ixK_s, NU.ixT, NU.ixL, NU.ixS, NU.ix_r0, NU.ix_r1, NU.at_0, NU.at_1, NU.atI_last', NU.addI, NU.addIB, NU.addTT, NU.addLL, NU.addSS, NU.mulI, NU.mulL, NU.mulT, NU.eqI, NU.neI, NU.eqS, NU.lenT, NU.lenL, NU.slT, NU.slL, NU.cut_init, NU.anyB, NU.anyIL, NU.anyIT, NU.maxL, NU.max2, NU.sumL, NU.isi_non_int, NU.isi_non_bool, NU.isi_non_tuple, NU.isi_non_list, NU.isi_non_str, NU.isi_non_dict, NU.isi_bl_int, NU.isi_bl_bool, NU.isi_bl_tuple, NU.isi_bl_list, NU.isi_bl_str, NU.isi_bl_dict, NU.isi_int_int, NU.isi_int_bool, NU.isi_int_tuple, NU.isi_int_list, NU.isi_int_str, NU.isi_int_dict, NU.isi_str_int, NU.isi_str_bool, NU.isi_str_tuple, NU.isi_str_list, NU.isi_str_str, NU.isi_str_dict, NU.isi_tup_int, NU.isi_tup_bool, NU.isi_tup_tuple, NU.isi_tup_list, NU.isi_tup_str, NU.isi_tup_dict, NU.isi_lst_int, NU.isi_lst_bool, NU.isi_lst_tuple, NU.isi_lst_list, NU.isi_lst_str, NU.isi_lst_dict, NU.isi_scr_int, NU.isi_scr_bool, NU.isi_scr_tuple, NU.isi_scr_list, NU.isi_scr_str, NU.isi_scr_dict, NU.eq_iT, NU.ix_1, NU.ix_0, NU.len_1, NU.len_0, NU.sl_1, NU.app_1, NU.app_0, NU.tyL_1, NU.tyL_0, NU.tuple_1, dMth]
  refine draw_go rfl (by decide) (by decide +kernel) hd fun v dk1 v0 v1 hd1 => ?_
  simp -implicitDefEqProofs only [dLst, Nat.zero_add, Nat.reduceAdd, dRng1, dRng2, NU.xf_place, NU.xf_word, mSeq, mPar, mSet, mAsg, mWhile, mFor, mIf, mRet, mRetN, mNext, mPut, mDrop, dCons, dNil, dCB, dAbs, dInt, dVar, dC, slP, dOp, dUn, dNeg, dSub, dMd, dFd, dI, dI0, dCmpI, dLt, dLe, dGt, dGe, dTest, dTestB, dTru, dTup, dLst, dCallP, dCallI, dAndV, dOrV, dNotV, dAnd, dOr, dNot, dIf, RH.put, List.length, List.map, List.getElem?_cons_zero, List.getElem?_cons_succ, List.cons_append, List.nil_append, List.append_nil, List.set, Nat.reduceSub, List.replicate, prepA, nw, NU.p_int, NU.p_bl, NU.p_non, NU.p_str, D.plain, plainA, Bool.and_true, Bool.true_and, if_true, Bool.or_false, Bool.false_or, resK, rdS, rdL, bindP, bindPs, Bool.false_eq_true, false_imp_iff, true_and, and_true, dSeq, wipeD, dTuple, dLc, rB, NU.p_iT, NU.p_iL, NU.p_rT, NU.p_rL, NU.p_R', if_false, dChain, rdI, rdB, dPart, dNoPart, dSl, NU.ixK_s, NU.ixT, NU.ixL, NU.ixS, NU.ix_r0, NU.ix_r1, NU.at_0, NU.at_1, NU.atI_last', NU.addI, NU.addIB, NU.addTT, NU.addLL, NU.addSS, NU.mulI, NU.mulL, NU.mulT, NU.eqI, NU.neI, NU.eqS, NU.lenT, NU.lenL, NU.slT, NU.slL, NU.cut_init, NU.anyB, NU.anyIL, NU.anyIT, NU.maxL, NU.max2, NU.sumL, NU.isi_non_int, NU.isi_non_bool, NU.isi_non_tuple, NU.isi_non_list, NU.isi_non_str, NU.isi_non_dict, NU.isi_bl_int, NU.isi_bl_bool, NU.isi_bl_tuple, NU.isi_bl_list, NU.isi_bl_str, NU.isi_bl_dict, NU.isi_int_int, NU.isi_int_bool, NU.isi_int_tuple, NU.isi_int_list, NU.isi_int_str, NU.isi_int_dict, NU.isi_str_int, NU.isi_str_bool, NU.isi_str_tuple, NU.isi_str_list, NU.isi_str_str, NU.isi_str_dict, NU.isi_tup_int, NU.isi_tup_bool, NU.isi_tup_tuple, NU.isi_tup_list, NU.isi_tup_str, NU.isi_tup_dict, NU.isi_lst_int, NU.isi_lst_bool, NU.isi_lst_tuple, NU.isi_lst_list, NU.isi_lst_str, NU.isi_lst_dict, NU.isi_scr_int, NU.isi_scr_bool, NU.isi_scr_tuple, NU.isi_scr_list, NU.isi_scr_str, NU.isi_scr_dict, NU.eq_iT, NU.ix_1, NU.ix_0, NU.len_1, NU.len_0, NU.sl_1, NU.app_1, NU.app_0, NU.tyL_1, NU.tyL_0, NU.tuple_1, dMth]
  refine ⟨by decide, by decide, by decide, draw_go rfl (by decide) (by decide +kernel) hd1 fun j dk2 j0 j7 hd2 => ?_⟩
  obtain ⟨p, e, hp⟩ := sp_at j0 j7 v0 v1
  simp -implicitDefEqProofs only [dIx, rdS, e, Nat.zero_add, Nat.reduceAdd, dRng1, dRng2, NU.xf_place, NU.xf_word, mSeq, mPar, mSet, mAsg, mWhile, mFor, mIf, mRet, mRetN, mNext, mPut, mDrop, dCons, dNil, dCB, dAbs, dInt, dVar, dC, slP, dOp, dUn, dNeg, dSub, dMd, dFd, dI, dI0, dCmpI, dLt, dLe, dGt, dGe, dTest, dTestB, dTru, dTup, dLst, dCallP, dCallI, dAndV, dOrV, dNotV, dAnd, dOr, dNot, dIf, RH.put, List.length, List.map, List.getElem?_cons_zero, List.getElem?_cons_succ, List.cons_append, List.nil_append, List.append_nil, List.set, Nat.reduceSub, List.replicate, prepA, nw, NU.p_int, NU.p_bl, NU.p_non, NU.p_str, D.plain, plainA, Bool.and_true, Bool.true_and, if_true, Bool.or_false, Bool.false_or, resK, rdS, rdL, bindP, bindPs, Bool.false_eq_true, false_imp_iff, true_and, and_true, dSeq, wipeD, dTuple, dLc, rB, NU.p_iT, NU.p_iL, NU.p_rT, NU.p_rL, NU.p_R', if_false, dChain, rdI, rdB, dPart, dNoPart, dSl, NU.ixK_s, NU.ixT, NU.ixL, NU.ixS, NU.ix_r0, NU.ix_r1, NU.at_0, NU.at_1, NU.atI_last', NU.addI, NU.addIB, NU.addTT, NU.addLL, NU.addSS, NU.mulI, NU.mulL, NU.mulT, NU.eqI, NU.neI, NU.eqS, NU.lenT, NU.lenL, NU.slT, NU.slL, NU.cut_init, NU.anyB, NU.anyIL, NU.anyIT, NU.maxL, NU.max2, NU.sumL, NU.isi_non_int, NU.isi_non_bool, NU.isi_non_tuple, NU.isi_non_list, NU.isi_non_str, NU.isi_non_dict, NU.isi_bl_int, NU.isi_bl_bool, NU.isi_bl_tuple, NU.isi_bl_list, NU.isi_bl_str, NU.isi_bl_dict, NU.isi_int_int, NU.isi_int_bool, NU.isi_int_tuple, NU.isi_int_list, NU.isi_int_str, NU.isi_int_dict, NU.isi_str_int, NU.isi_str_bool, NU.isi_str_tuple, NU.isi_str_list, NU.isi_str_str, NU.isi_str_dict, NU.isi_tup_int, NU.isi_tup_bool, NU.isi_tup_tuple, NU.isi_tup_list, NU.isi_tup_str, NU.isi_tup_dict, NU.isi_lst_int, NU.isi_lst_bool, NU.isi_lst_tuple, NU.isi_lst_list, NU.isi_lst_str, NU.isi_lst_dict, NU.isi_scr_int, NU.isi_scr_bool, NU.isi_scr_tuple, NU.isi_scr_list, NU.isi_scr_str, NU.isi_scr_dict, NU.eq_iT, NU.ix_1, NU.ix_0, NU.len_1, NU.len_0, NU.sl_1, NU.app_1, NU.app_0, NU.tyL_1, NU.tyL_0, NU.tuple_1, dMth]
  exact k p dk2 hp hd2
theorem st5 {u : DS} {E : DEnds} {ex : SL → Addr → D → Str → MH → Prop} {z0 z1 z2 z4 z5 z6 z7 z8 z9 z10 z11 z12 z13 z14 : Option D} {M : MH} {p : D} (hp : Sp p) (k :  u E { sl := [z0, z1, z2, (some p), (some (erL [C_BadNumber, C_BadPlane, C_BadCut, C_BadText, C_BadRow, C_BadPoint, C_BadFlat, C_BadPrime, C_BadGallery, C_BadHeights, C_BadElement, C_BadWeights, C_BadForms, C_BadGraph, C_BadLabel, C_Unlike, C_NothingThere, C_TooMany, C_CutError] p)), (some (erL [C_BadNumber, C_BadPlane, C_BadCut, C_BadText, C_BadRow, C_BadPoint, C_BadFlat, C_BadPrime, C_BadGallery, C_BadHeights, C_BadElement, C_BadWeights, C_BadForms, C_BadGraph, C_BadLabel, C_Unlike, C_NothingThere, C_TooMany, C_CutError] .non)), (some (erL [C_BadNumber, C_BadPlane, C_BadCut, C_BadText, C_BadRow, C_BadPoint, C_BadFlat, C_BadPrime, C_BadGallery, C_BadHeights, C_BadElement, C_BadWeights, C_BadForms, C_BadGraph, C_BadLabel, C_Unlike, C_NothingThere, C_TooMany, C_CutError] p)), z7, z8, z9, z10, z11, z12, z13, z14], ex := ex } M) : mSeq (s_law_5 K C_BadCut C_BadElement C_BadFlat C_BadForms C_BadGallery C_BadGraph C_BadHeights C_BadLabel C_BadNumber C_BadPlane C_BadPoint C_BadPrime C_BadRow C_BadText C_BadWeights C_CutError C_NothingThere C_TooMany C_Unlike) u E { sl := [z0, z1, z2, (some p), z4, z5, z6, z7, z8, z9, z10, z11, z12, z13, z14], ex := ex } M := by
  exact call1 (v := p) (fun R q => q) hp.pl (fun Q RE q => ⟨p, rfl, hp.pl, q⟩) (call0 (fun Q RE q => ⟨rfl, q⟩) (call1 (v := p) (fun R q => q) hp.pl (fun Q RE q => ⟨p, rfl, hp.pl, q⟩) k))
end
end K00

set_option Elab.async false
set_option linter.all false
set_option maxRecDepth 100000
set_option maxHeartbeats 2000000
namespace K00
open PySem PySem.Spec PyProof.Rows L2 DL NU
section
variable {K : PySem.W.Frag} {C_BadCut C_BadElement C_BadFlat C_BadForms C_BadGallery C_BadGraph C_BadHeights C_BadLabel C_BadNumber C_BadPlane C_BadPoint C_BadPrime C_BadRow C_BadText C_BadWeights C_CutError C_NothingThere C_TooMany C_Unlike : Addr}
theorem vX {i : Nat} {C D' : Addr} {ns : List Str} {ds : List D} {r : RH} {M : MH} {R : DK} {b : Bool} (e : r.sl[i]? = some (some (.err C ns ds))) (T : ExcC K C) (k : PySem.W.kitOne K (.ref C) (.ref D') = some b) (h : R (.bl b) M) :
    dCB (dIsX K) (dCons (dVar i) (dCons (dC (.cls D')) dNil)) r M R := var_go e ⟨T, _, rfl, b, k, h⟩
theorem tX {i : Nat} {C D' : Addr} {ns : List Str} {ds : List D} {r : RH} {M : MH} {R : Bool → MH → Prop} {b : Bool} (e : r.sl[i]? = some (some (.err C ns ds))) (T : ExcC K C) (k : PySem.W.kitOne K (.ref C) (.ref D') = some b) (h : R b M) :
    dTest (dCB (dIsX K) (dCons (dVar i) (dCons (dC (.cls D')) dNil))) r M R := var_go e ⟨T, _, rfl, b, k, h⟩
theorem vXT {i : Nat} {C : Addr} {n : String} {ns : List Str} {ds : List D} {r : RH} {M : MH} {R : DK} {b : Bool} (e : r.sl[i]? = some (some (.err C ns ds))) (T : ExcC K C) (k : PySem.W.kitOne K (.ref C) (.type n) = some b) (h : R (.bl b) M) :
    dCB (dIsX K) (dCons (dVar i) (dCons (dC (.ty n)) dNil)) r M R := var_go e ⟨T, _, rfl, b, k, h⟩
theorem tXT {i : Nat} {C : Addr} {n : String} {ns : List Str} {ds : List D} {r : RH} {M : MH} {R : Bool → MH → Prop} {b : Bool} (e : r.sl[i]? = some (some (.err C ns ds))) (T : ExcC K C) (k : PySem.W.kitOne K (.ref C) (.type n) = some b) (h : R b M) :
    dTest (dCB (dIsX K) (dCons (dVar i) (dCons (dC (.ty n)) dNil))) r M R := vXT e T k h
/-- its place, its word -/
theorem xw_go {me : DE} {C : Addr} {w : Str} {p : D} {r : RH} {M : MH} {R : DK} (X : XP K C) (h : ∀ R : DK, R (.err C ["word", "place"] [.str w, p]) M → me r M R) (q : R (.str w) M) : dXfl K "word" me r M R := h _ ⟨X.xf, X.nw, q⟩
theorem xp_go {me : DE} {C : Addr} {w : Str} {p : D} {r : RH} {M : MH} {R : DK} (X : XP K C) (h : ∀ R : DK, R (.err C ["word", "place"] [.str w, p]) M → me r M R) (q : R p M) : dXfl K "place" me r M R := h _ ⟨X.xf, X.np, q⟩
theorem g_wd : ∀ i, i < 19 → Gd 0 20 (.str (wd i)) := by
  intro i hi
  have key : ((List.range 19).all fun i => (py (.str (wd i))).showable && ((py (.str (wd i))).canLay0 && decide ((py (.str (wd i))).bulk ≤ 20))) = true := by decide +kernel
  have k1 := List.all_eq_true.mp key i (List.mem_range.mpr hi)
  obtain ⟨h1, h2⟩ := Bool.and_eq_true_iff.mp k1
  obtain ⟨h3, h4⟩ := Bool.and_eq_true_iff.mp h2
  exact g_str h1 h3 (of_decide_eq_true h4)
theorem kinds_go {i : Nat} {p : D} {s : Nat} {r : RH} {M : MH} {R : DK} (hi : i < 19) (hp : p.plain = true) (e : r.sl[s]? = some (some (er [C_BadNumber, C_BadPlane, C_BadCut, C_BadText, C_BadRow, C_BadPoint, C_BadFlat, C_BadPrime, C_BadGallery, C_BadHeights, C_BadElement, C_BadWeights, C_BadForms, C_BadGraph, C_BadLabel, C_Unlike, C_NothingThere, C_TooMany, C_CutError] i p))) (h : R (.lst ((List.range 18).map fun j => .bl (i == j))) M) :
    dCallP 1 (pf_kinds [C_BadNumber, C_BadPlane, C_BadCut, C_BadText, C_BadRow, C_BadPoint, C_BadFlat, C_BadPrime, C_BadGallery, C_BadHeights, C_BadElement, C_BadWeights, C_BadForms, C_BadGraph, C_BadLabel, C_Unlike, C_NothingThere, C_TooMany, C_CutError]) false true [] (dCons (dVar s) dNil) r M R := call1 (fun R q => var_go e q) (pl_er hp) (fun Q RE q => ⟨i, p, hi, hp, rfl, q⟩) h
theorem len_nm {r : RH} {M : MH} {R : DK} (e : r.sl[(2 : Nat)]? = some (some (.lst nmL))) (h : R (.int 18) M) : dCB dLen (dCons (dVar 2) dNil) r M R := var_go e h
theorem lc_go {i : Nat} {r : RH} {M : MH} {R : DK} (hl : 12 < r.sl.length) (e2 : r.sl[(2 : Nat)]? = some (some (.lst nmL))) (e7 : r.sl[(7 : Nat)]? = some (some (.int (i : Int)))) (h : R (.lst ((List.range 18).map fun j => .bl (i == j))) M) :
    dLc true (dRng1 (dCons (dCB dLen (dCons (dVar 2) dNil)) dNil)) (.nm 12) tYesD (dOp dEq (dVar 12) (dVar 7)) [12] r M R := by
  refine len_nm e2 ⟨⟨by decide, by decide⟩, ?_⟩
  show (rng 0 18).length ≤ sizeLine ∧ _
  refine ⟨by decide, ?_⟩
  show lcD (.nm 12) tYesD _ _ [] M ((List.range 18).map fun (j : Nat) => D.int (0 + (j : Int))) [] M _
  refine lcD_mapE (fun j : Nat => D.int (0 + (j : Int))) (fun j : Nat => D.bl (i == j)) (List.range 18) src_nil (fun j _ R' q => ?_) h
  refine var_go (d := .int (0 + (j : Int))) ?_ (var_go (d := .int (i : Int)) ?_ ?_)
  · show ((r.sl.set 12 none).set 12 _)[12]? = _
    rw [List.getElem?_set_self (by rw [List.length_set]; exact hl)]
  · show ((r.sl.set 12 none).set 12 _)[7]? = _
    rw [List.getElem?_set_ne (by decide), List.getElem?_set_ne (by decide)]
    exact e7
  · have eb : (i == j) = decide ((0 + (j : Int)) = (i : Int)) := by
      rw [Bool.eq_iff_iff]
      simp
      omega
    rw [eb] at q
    exact NU.eqI.mpr q
theorem ix_er {s k : Nat} {cs : List Addr} {q : D} {r : RH} {M : MH} {R : DK} (e4 : r.sl[s]? = some (some (erL cs q))) (e7 : r.sl[(7 : Nat)]? = some (some (.int (k : Int)))) (hk : k < 18) (h : R (er cs k q) M) : dOp dIx (dVar s) (dVar 7) r M R := by
  refine var_go e4 (var_go e7 ?_)
  have e : atI ((List.range 18).map fun i => er cs i q) (k : Int) = some (er cs k q) := by
    rw [atI_nat', List.getElem?_map, List.getElem?_range hk]; rfl
  simp only [erL, dIx, rdS, rdL, e]
  exact h
theorem ix_nm {k : Nat} {r : RH} {M : MH} {R : DK} (e2 : r.sl[(2 : Nat)]? = some (some (.lst nmL))) (e7 : r.sl[(7 : Nat)]? = some (some (.int (k : Int)))) (hk : k < 18) (h : R (.str (wd k)) M) : dOp dIx (dVar 2) (dVar 7) r M R := by
  refine var_go e2 (var_go e7 ?_)
  have e : atI nmL (k : Int) = some (.str (wd k)) := by
    unfold nmL
    rw [atI_nat', List.getElem?_map, List.getElem?_range hk]; rfl
  simp only [dIx, rdS, rdL, e]
  exact h
theorem g_kinds (k : Nat) : Gd 60 8000 (.lst ((List.range 18).map fun j => .bl (k == j))) :=
  (g_lst (n := 0) (gA_map (b := 0) (List.range 18) fun j _ => g_bl)).mono (by decide) (by rw [List.length_range]; decide)
theorem g_two {k : Nat} {q : D} (hk : k < 19) (hq : Sp q) : Gd 60 8000 (.lst [.str (wd k), q]) :=
  (g_lst (n := 3) (gA_cons (b := 20) ((g_wd k hk).mono (by decide) (by decide)) (gA_cons (b := 20) (b' := 0) hq.gd gA_nil))).mono (by decide) (by decide)
theorem body_go (kf : KF K [C_BadNumber, C_BadPlane, C_BadCut, C_BadText, C_BadRow, C_BadPoint, C_BadFlat, C_BadPrime, C_BadGallery, C_BadHeights, C_BadElement, C_BadWeights, C_BadForms, C_BadGraph, C_BadLabel, C_Unlike, C_NothingThere, C_TooMany, C_CutError]) {k : Nat} {q : D} {E : DEnds} {r : RH} {M : MH} (hk : k < 18) (hq : Sp q) (hl : 12 < r.sl.length) (e2 : r.sl[(2 : Nat)]? = some (some (.lst nmL))) (e7 : r.sl[(7 : Nat)]? = some (some (.int (k : Int))))
    (e8 : r.sl[(8 : Nat)]? = some (some (er [C_BadNumber, C_BadPlane, C_BadCut, C_BadText, C_BadRow, C_BadPoint, C_BadFlat, C_BadPrime, C_BadGallery, C_BadHeights, C_BadElement, C_BadWeights, C_BadForms, C_BadGraph, C_BadLabel, C_Unlike, C_NothingThere, C_TooMany, C_CutError] k q))) (e9 : r.sl[(9 : Nat)]? = some (some q)) (h : E.nx r M) : (mSeq (mIf (dOr (dNot (dTest (dCB (dIsX K) (dCons (dVar 8) (dCons (dC (.cls C_CutError)) (dNil)))))) (dOr (dTest (dCB (dIsX K) (dCons (dVar 8) (dCons (dC (.ty "ValueError")) (dNil))))) (dNot (dTest (dCallP 2 pf__law_is false true [] (dCons (dCallP 1 (pf_kinds [C_BadNumber, C_BadPlane, C_BadCut, C_BadText, C_BadRow, C_BadPoint, C_BadFlat, C_BadPrime, C_BadGallery, C_BadHeights, C_BadElement, C_BadWeights, C_BadForms, C_BadGraph, C_BadLabel, C_Unlike, C_NothingThere, C_TooMany, C_CutError]) false true [] (dCons (dVar 8) (dNil))) (dCons (dLc true (dRng1 (dCons (dCB dLen (dCons (dVar 2) (dNil))) (dNil))) (.nm 12) (tYesD) (dOp dEq (dVar 12) (dVar 7)) [12]) (dNil)))))))) (mRet (dC (.bl false))) (mNext)) (mIf (dNot (dTest (dCallP 2 pf__law_is false true [] (dCons (dLst true (dCons (dXfl K "word" (dVar 8)) (dCons (dXfl K "place" (dVar 8)) (dNil)))) (dCons (dLst true (dCons (dOp dIx (dVar 2) (dVar 7)) (dCons (dVar 9) (dNil)))) (dNil)))))) (mRet (dC (.bl false))) (mNext))) E r M := by
  have k1 : PySem.W.kitOne K (.ref (([C_BadNumber, C_BadPlane, C_BadCut, C_BadText, C_BadRow, C_BadPoint, C_BadFlat, C_BadPrime, C_BadGallery, C_BadHeights, C_BadElement, C_BadWeights, C_BadForms, C_BadGraph, C_BadLabel, C_Unlike, C_NothingThere, C_TooMany, C_CutError] : List Addr).getD k 0)) (.ref C_CutError) = some true := by
    have := kf.ki k 18 (by omega) (by decide)
    rw [show (k == 18 || 18 == 18) = true by simp] at this
    exact this
  simp only [mSeq, mIf, dOr, dNot, dTest]
  refine vX e8 (kf.ec k (by omega)) k1 ?_
  simp only [dTru, Bool.not_true, Bool.false_eq_true, if_false]
  refine vXT e8 (kf.ec k (by omega)) (kf.kb k (by omega)) ?_
  simp only [dTru, Bool.not_true, Bool.false_eq_true, if_false]
  refine lawis_go (fun R q' => kinds_go (by omega) hq.pl e8 q') (fun R q' => lc_go hl e2 e7 q') (g_kinds k) ?_
  simp only [dTru, Bool.not_true, Bool.false_eq_true, if_false, mNext]
  refine lawis_go (v := .lst [.str (wd k), q]) (fun R q' => ?_) (fun R q' => ?_) (g_two (by omega) hq) ?_
  · exact xw_go (kf.xp k (by omega)) (fun R h' => var_go e8 h') (xp_go (kf.xp k (by omega)) (fun R h' => var_go e8 h') ⟨(show 2 ≤ sizeLine from by decide), q'⟩)
  · exact ix_nm e2 e7 hk (var_go e9 ⟨(show 2 ≤ sizeLine from by decide), q'⟩)
  · simp only [dTru, Bool.not_true, Bool.false_eq_true, if_false, mNext]
    exact h
end
end K00

set_option Elab.async false
set_option linter.all false
set_option maxRecDepth 100000
set_option maxHeartbeats 2000000
namespace K00
open PySem PySem.Spec PyProof.Rows L2 DL NU
theorem pair_go {A B : DE} {x y : D} {r : RH} {M : MH} {R : DK} (hA : ∀ R : DK, R x M → A r M R) (hB : ∀ R : DK, R y M → B r M R) (q : R (.tup [x, y]) M) : dTup (dCons A (dCons B dNil)) r M R := hA _ (hB _ ⟨(show 2 ≤ sizeLine from by decide), q⟩)
theorem cons_go {A : DE} {mr : DA} {d : D} {r : RH} {M : MH} {R : List D → MH → Prop} (h : ∀ R : DK, R d M → A r M R) (q : mr r M fun ds M2 => R (d :: ds) M2) : dCons A mr r M R := h _ q
theorem lstx_go {mas : DA} {r : RH} {M : MH} {R : DK} (h : mas r M fun ds M1 => ds.length ≤ sizeLine ∧ R (.lst ds) M1) : dLst true mas r M R := h
theorem sp_non : Sp .non := ⟨rfl, g_non⟩
section
variable {K : PySem.W.Frag} {C_BadCut C_BadElement C_BadFlat C_BadForms C_BadGallery C_BadGraph C_BadHeights C_BadLabel C_BadNumber C_BadPlane C_BadPoint C_BadPrime C_BadRow C_BadText C_BadWeights C_CutError C_NothingThere C_TooMany C_Unlike : Addr}
theorem b6 (kf : KF K [C_BadNumber, C_BadPlane, C_BadCut, C_BadText, C_BadRow, C_BadPoint, C_BadFlat, C_BadPrime, C_BadGallery, C_BadHeights, C_BadElement, C_BadWeights, C_BadForms, C_BadGraph, C_BadLabel, C_Unlike, C_NothingThere, C_TooMany, C_CutError]) {E : DEnds} {ex : SL → Addr → D → Str → MH → Prop} {z0 z1 z8 z9 z10 z11 z12 z13 z14 : Option D} {M : MH} {p : D} {k : Nat} (hk : k < 18) (hp : Sp p) (h : ∀ w8 w9, E.nx { sl := [z0, z1, (some (.lst nmL)), (some p), (some (erL [C_BadNumber, C_BadPlane, C_BadCut, C_BadText, C_BadRow, C_BadPoint, C_BadFlat, C_BadPrime, C_BadGallery, C_BadHeights, C_BadElement, C_BadWeights, C_BadForms, C_BadGraph, C_BadLabel, C_Unlike, C_NothingThere, C_TooMany, C_CutError] p)), (some (erL [C_BadNumber, C_BadPlane, C_BadCut, C_BadText, C_BadRow, C_BadPoint, C_BadFlat, C_BadPrime, C_BadGallery, C_BadHeights, C_BadElement, C_BadWeights, C_BadForms, C_BadGraph, C_BadLabel, C_Unlike, C_NothingThere, C_TooMany, C_CutError] .non)), (some (erL [C_BadNumber, C_BadPlane, C_BadCut, C_BadText, C_BadRow, C_BadPoint, C_BadFlat, C_BadPrime, C_BadGallery, C_BadHeights, C_BadElement, C_BadWeights, C_BadForms, C_BadGraph, C_BadLabel, C_Unlike, C_NothingThere, C_TooMany, C_CutError] p)), (some (.int (k : Int))), w8, w9, z10, z11, z12, z13, z14], ex := ex } M) : b_law_6 K C_BadCut C_BadElement C_BadFlat C_BadForms C_BadGallery C_BadGraph C_BadHeights C_BadLabel C_BadNumber C_BadPlane C_BadPoint C_BadPrime C_BadRow C_BadText C_BadWeights C_CutError C_NothingThere C_TooMany C_Unlike E { sl := [z0, z1, (some (.lst nmL)), (some p), (some (erL [C_BadNumber, C_BadPlane, C_BadCut, C_BadText, C_BadRow, C_BadPoint, C_BadFlat, C_BadPrime, C_BadGallery, C_BadHeights, C_BadElement, C_BadWeights, C_BadForms, C_BadGraph, C_BadLabel, C_Unlike, C_NothingThere, C_TooMany, C_CutError] p)), (some (erL [C_BadNumber, C_BadPlane, C_BadCut, C_BadText, C_BadRow, C_BadPoint, C_BadFlat, C_BadPrime, C_BadGallery, C_BadHeights, C_BadElement, C_BadWeights, C_BadForms, C_BadGraph, C_BadLabel, C_Unlike, C_NothingThere, C_TooMany, C_CutError] .non)), (some (erL [C_BadNumber, C_BadPlane, C_BadCut, C_BadText, C_BadRow, C_BadPoint, C_BadFlat, C_BadPrime, C_BadGallery, C_BadHeights, C_BadElement, C_BadWeights, C_BadForms, C_BadGraph, C_BadLabel, C_Unlike, C_NothingThere, C_TooMany, C_CutError] p)), (some (.int (k : Int))), z8, z9, z10, z11, z12, z13, z14], ex := ex } M := by
  unfold b_law_6 mFor dSeq
  refine lstx_go (cons_go (d := .tup [er [C_BadNumber, C_BadPlane, C_BadCut, C_BadText, C_BadRow, C_BadPoint, C_BadFlat, C_BadPrime, C_BadGallery, C_BadHeights, C_BadElement, C_BadWeights, C_BadForms, C_BadGraph, C_BadLabel, C_Unlike, C_NothingThere, C_TooMany, C_CutError] k p, p]) (fun R q => pair_go (fun R q => ix_er (s := 4) (by rfl) (by rfl) hk q) (fun R q => var_go (by rfl) q) q)
    (cons_go (d := .tup [er [C_BadNumber, C_BadPlane, C_BadCut, C_BadText, C_BadRow, C_BadPoint, C_BadFlat, C_BadPrime, C_BadGallery, C_BadHeights, C_BadElement, C_BadWeights, C_BadForms, C_BadGraph, C_BadLabel, C_Unlike, C_NothingThere, C_TooMany, C_CutError] k .non, .non]) (fun R q => pair_go (fun R q => ix_er (s := 5) (by rfl) (by rfl) hk q) (fun R q => q) q)
    (cons_go (d := .tup [er [C_BadNumber, C_BadPlane, C_BadCut, C_BadText, C_BadRow, C_BadPoint, C_BadFlat, C_BadPrime, C_BadGallery, C_BadHeights, C_BadElement, C_BadWeights, C_BadForms, C_BadGraph, C_BadLabel, C_Unlike, C_NothingThere, C_TooMany, C_CutError] k p, p]) (fun R q => pair_go (fun R q => ix_er (s := 6) (by rfl) (by rfl) hk q) (fun R q => var_go (by rfl) q) q) ⟨(show 3 ≤ sizeLine from by decide), ?_⟩)))
  refine body_go kf hk hp (show 12 < 15 from by decide) (by rfl) (by rfl) (by rfl) (by rfl) ⟨src_nil, ?_⟩
  refine body_go kf hk sp_non (show 12 < 15 from by decide) (by rfl) (by rfl) (by rfl) (by rfl) ⟨src_nil, ?_⟩
  refine body_go kf hk hp (show 12 < 15 from by decide) (by rfl) (by rfl) (by rfl) (by rfl) ⟨src_nil, ?_⟩
  exact h _ _
theorem st6 {u : DS} {E : DEnds} {ex : SL → Addr → D → Str → MH → Prop} {z0 z1 z7 z8 z9 z10 z11 z12 z13 z14 : Option D} (kf : KF K [C_BadNumber, C_BadPlane, C_BadCut, C_BadText, C_BadRow, C_BadPoint, C_BadFlat, C_BadPrime, C_BadGallery, C_BadHeights, C_BadElement, C_BadWeights, C_BadForms, C_BadGraph, C_BadLabel, C_Unlike, C_NothingThere, C_TooMany, C_CutError]) {M : MH} {p : D} (hp : Sp p) (k : ∀ w7 w8 w9, u E { sl := [z0, z1, (some (.lst nmL)), (some p), (some (erL [C_BadNumber, C_BadPlane, C_BadCut, C_BadText, C_BadRow, C_BadPoint, C_BadFlat, C_BadPrime, C_BadGallery, C_BadHeights, C_BadElement, C_BadWeights, C_BadForms, C_BadGraph, C_BadLabel, C_Unlike, C_NothingThere, C_TooMany, C_CutError] p)), (some (erL [C_BadNumber, C_BadPlane, C_BadCut, C_BadText, C_BadRow, C_BadPoint, C_BadFlat, C_BadPrime, C_BadGallery, C_BadHeights, C_BadElement, C_BadWeights, C_BadForms, C_BadGraph, C_BadLabel, C_Unlike, C_NothingThere, C_TooMany, C_CutError] .non)), (some (erL [C_BadNumber, C_BadPlane, C_BadCut, C_BadText, C_BadRow, C_BadPoint, C_BadFlat, C_BadPrime, C_BadGallery, C_BadHeights, C_BadElement, C_BadWeights, C_BadForms, C_BadGraph, C_BadLabel, C_Unlike, C_NothingThere, C_TooMany, C_CutError] p)), w7, w8, w9, z10, z11, z12, z13, z14], ex := ex } M) : mSeq (s_law_6 K C_BadCut C_BadElement C_BadFlat C_BadForms C_BadGallery C_BadGraph C_BadHeights C_BadLabel C_BadNumber C_BadPlane C_BadPoint C_BadPrime C_BadRow C_BadText C_BadWeights C_CutError C_NothingThere C_TooMany C_Unlike) u E { sl := [z0, z1, (some (.lst nmL)), (some p), (some (erL [C_BadNumber, C_BadPlane, C_BadCut, C_BadText, C_BadRow, C_BadPoint, C_BadFlat, C_BadPrime, C_BadGallery, C_BadHeights, C_BadElement, C_BadWeights, C_BadForms, C_BadGraph, C_BadLabel, C_Unlike, C_NothingThere, C_TooMany, C_CutError] p)), (some (erL [C_BadNumber, C_BadPlane, C_BadCut, C_BadText, C_BadRow, C_BadPoint, C_BadFlat, C_BadPrime, C_BadGallery, C_BadHeights, C_BadElement, C_BadWeights, C_BadForms, C_BadGraph, C_BadLabel, C_Unlike, C_NothingThere, C_TooMany, C_CutError] .non)), (some (erL [C_BadNumber, C_BadPlane, C_BadCut, C_BadText, C_BadRow, C_BadPoint, C_BadFlat, C_BadPrime, C_BadGallery, C_BadHeights, C_BadElement, C_BadWeights, C_BadForms, C_BadGraph, C_BadLabel, C_Unlike, C_NothingThere, C_TooMany, C_CutError] p)), z7, z8, z9, z10, z11, z12, z13, z14], ex := ex } M := by
  unfold s_law_6 mSeq mFor dRng1
  refine cons_go (d := .int 18) (fun R q => len_nm (by rfl) q) ?_
  refine ⟨⟨by decide, by decide⟩, ?_⟩
  show forD (.nm 7) _ _ [] M ((List.range 18).map fun (j : Nat) => D.int (0 + (j : Int))) _ M
  refine forD_ind (fun j : Nat => D.int (0 + (j : Int))) (fun xs r M' => (∀ j ∈ xs, j < 18) ∧ M' = M ∧ ∃ w7 w8 w9, r = { sl := [z0, z1, (some (.lst nmL)), (some p), (some (erL [C_BadNumber, C_BadPlane, C_BadCut, C_BadText, C_BadRow, C_BadPoint, C_BadFlat, C_BadPrime, C_BadGallery, C_BadHeights, C_BadElement, C_BadWeights, C_BadForms, C_BadGraph, C_BadLabel, C_Unlike, C_NothingThere, C_TooMany, C_CutError] p)), (some (erL [C_BadNumber, C_BadPlane, C_BadCut, C_BadText, C_BadRow, C_BadPoint, C_BadFlat, C_BadPrime, C_BadGallery, C_BadHeights, C_BadElement, C_BadWeights, C_BadForms, C_BadGraph, C_BadLabel, C_Unlike, C_NothingThere, C_TooMany, C_CutError] .non)), (some (erL [C_BadNumber, C_BadPlane, C_BadCut, C_BadText, C_BadRow, C_BadPoint, C_BadFlat, C_BadPrime, C_BadGallery, C_BadHeights, C_BadElement, C_BadWeights, C_BadForms, C_BadGraph, C_BadLabel, C_Unlike, C_NothingThere, C_TooMany, C_CutError] p)), w7, w8, w9, z10, z11, z12, z13, z14], ex := ex }) ?_ ?_ ?_ (List.range 18) _ M ⟨fun j hj => List.mem_range.mp hj, rfl, _, _, _, rfl⟩
  · rintro r M' ⟨_, rfl, w7, w8, w9, rfl⟩
    exact k w7 w8 w9
  · rintro j xs r M' KK ⟨hx, rfl, w7, w8, w9, rfl⟩ hK
    refine ⟨_, rfl, ?_⟩
    have e0 : (0 + (j : Int)) = (j : Int) := by omega
    show b_law_6 K C_BadCut C_BadElement C_BadFlat C_BadForms C_BadGallery C_BadGraph C_BadHeights C_BadLabel C_BadNumber C_BadPlane C_BadPoint C_BadPrime C_BadRow C_BadText C_BadWeights C_CutError C_NothingThere C_TooMany C_Unlike _ { sl := [z0, z1, (some (.lst nmL)), (some p), (some (erL [C_BadNumber, C_BadPlane, C_BadCut, C_BadText, C_BadRow, C_BadPoint, C_BadFlat, C_BadPrime, C_BadGallery, C_BadHeights, C_BadElement, C_BadWeights, C_BadForms, C_BadGraph, C_BadLabel, C_Unlike, C_NothingThere, C_TooMany, C_CutError] p)), (some (erL [C_BadNumber, C_BadPlane, C_BadCut, C_BadText, C_BadRow, C_BadPoint, C_BadFlat, C_BadPrime, C_BadGallery, C_BadHeights, C_BadElement, C_BadWeights, C_BadForms, C_BadGraph, C_BadLabel, C_Unlike, C_NothingThere, C_TooMany, C_CutError] .non)), (some (erL [C_BadNumber, C_BadPlane, C_BadCut, C_BadText, C_BadRow, C_BadPoint, C_BadFlat, C_BadPrime, C_BadGallery, C_BadHeights, C_BadElement, C_BadWeights, C_BadForms, C_BadGraph, C_BadLabel, C_Unlike, C_NothingThere, C_TooMany, C_CutError] p)), (some (.int (0 + (j : Int)))), w8, w9, z10, z11, z12, z13, z14], ex := ex } _
    rw [e0]
    exact b6 kf (hx j (List.mem_cons_self ..)) hp fun y8 y9 => hK _ _ ⟨fun i hi => hx i (List.mem_cons_of_mem _ hi), rfl, _, _, _, rfl⟩
  · rintro xs r M' ⟨_, rfl, _⟩
    exact src_nil
end
end K00

set_option Elab.async false
set_option linter.all false
set_option maxRecDepth 100000
set_option maxHeartbeats 2000000
namespace K00
open PySem PySem.Spec PyProof.Rows L2 DL NU
theorem g_wo : ∀ i, i < 5 → Gd 0 20 (.str (wo.getD i "")) := by
  intro i hi
  have key : ((List.range 5).all fun i => (py (.str (wo.getD i ""))).showable && ((py (.str (wo.getD i ""))).canLay0 && decide ((py (.str (wo.getD i ""))).bulk ≤ 20))) = true := by decide +kernel
  have k1 := List.all_eq_true.mp key i (List.mem_range.mpr hi)
  obtain ⟨h1, h2⟩ := Bool.and_eq_true_iff.mp k1
  obtain ⟨h3, h4⟩ := Bool.and_eq_true_iff.mp h2
  exact g_str h1 h3 (of_decide_eq_true h4)
def caL (p : D) : List D := (List.range 5).map fun i => .tup [.str (wo.getD i ""), p]
theorem g_caL {p : D} (hp : Sp p) : Gd 60 8000 (.lst (caL p)) :=
  (g_lst (n := 4) (gA_map (b := 100) (List.range 5) fun i hi => (g_tup (n := 3) (gA_cons (b := 20) ((g_wo i (List.mem_range.mp hi)).mono (by decide) (by decide)) (gA_cons (b := 20) (b' := 0) hp.gd gA_nil))).mono (by decide) (by decide))).mono (by decide) (by rw [List.length_range]; decide)
def baL (p : D) : List D := [.str (wd 18), p, .non, p]
theorem g_baL {p : D} (hp : Sp p) : Gd 60 8000 (.lst (baL p)) :=
  (g_lst (n := 3) (gA_cons (b := 20) ((g_wd 18 (by decide)).mono (by decide) (by decide)) (gA_cons (b := 20) hp.gd (gA_cons (b := 20) g_non (gA_cons (b := 20) (b' := 0) hp.gd gA_nil))))).mono (by decide) (by decide)
section
variable {K : PySem.W.Frag} {C_BadCut C_BadElement C_BadFlat C_BadForms C_BadGallery C_BadGraph C_BadHeights C_BadLabel C_BadNumber C_BadPlane C_BadPoint C_BadPrime C_BadRow C_BadText C_BadWeights C_CutError C_NothingThere C_TooMany C_Unlike : Addr}
theorem s13 {r : RH} {x : D} (hl : 14 < r.sl.length) : ((r.sl.set 13 none).set 13 (some x))[(13 : Nat)]? = some (some x) := by rw [List.getElem?_set_self (by rw [List.length_set]; omega)]
theorem s13o {r : RH} {x : Option D} {j : Nat} (h : 13 ≠ j) : ((r.sl.set 13 none).set 13 x)[j]? = r.sl[j]? := by rw [List.getElem?_set_ne h, List.getElem?_set_ne h]
theorem s14 {r : RH} {x : D} (hl : 14 < r.sl.length) : ((r.sl.set 14 none).set 14 (some x))[(14 : Nat)]? = some (some x) := by rw [List.getElem?_set_self (by rw [List.length_set]; omega)]
theorem s14o {r : RH} {x : Option D} {j : Nat} (h : 14 ≠ j) : ((r.sl.set 14 none).set 14 x)[j]? = r.sl[j]? := by rw [List.getElem?_set_ne h, List.getElem?_set_ne h]
theorem caught_go {k : Nat} {p : D} {r : RH} {M : MH} {R : DK} (hk : k < 5) (hp : p.plain = true) (e13 : r.sl[(13 : Nat)]? = some (some (.int (k : Int)))) (e3 : r.sl[(3 : Nat)]? = some (some p)) (h : R (.tup [.str (wo.getD k ""), p]) M) :
    dCallP 2 pf_caught false true [] (dCons (dVar 13) (dCons (dVar 3) dNil)) r M R := by
  unfold dCallP
  refine cons_go (d := .int (k : Int)) (fun R q => var_go e13 q) (cons_go (d := p) (fun R q => var_go e3 q) ?_)
  have e := prepA2 (M := M) (d := .int (k : Int)) (e := p) rfl hp
  simp only [dNil]
  rw [e]
  exact ⟨rfl, k, p, hk, hp, rfl, (fun z => Bool.noConfusion z), h⟩
theorem lc13 {p : D} {r : RH} {M : MH} {R : DK} (hl : 14 < r.sl.length) (hp : p.plain = true) (e3 : r.sl[(3 : Nat)]? = some (some p)) (h : R (.lst (caL p)) M) :
    dLc true (dRng1 (dCons (dC (.int 5)) dNil)) (.nm 13) tYesD (dCallP 2 pf_caught false true [] (dCons (dVar 13) (dCons (dVar 3) dNil))) [13] r M R := by
  refine ⟨⟨by decide, by decide⟩, ?_⟩
  show (rng 0 5).length ≤ sizeLine ∧ _
  refine ⟨by decide, ?_⟩
  show lcD (.nm 13) tYesD _ _ [] M ((List.range 5).map fun (j : Nat) => D.int (0 + (j : Int))) [] M _
  refine lcD_mapE (fun j : Nat => D.int (0 + (j : Int))) (fun i : Nat => D.tup [.str (wo.getD i ""), p]) (List.range 5) src_nil (fun j hj R' q => ?_) h
  refine caught_go (k := j) (p := p) (List.mem_range.mp hj) hp ?_ ?_ q
  · have e0 : (0 + (j : Int)) = (j : Int) := by omega
    rw [e0]
    exact s13 hl
  · exact (s13o (by decide)).trans e3
theorem lc14 {p : D} {r : RH} {M : MH} {R : DK} (hl : 14 < r.sl.length) (e10 : r.sl[(10 : Nat)]? = some (some (.lst (wo.map D.str)))) (e3 : r.sl[(3 : Nat)]? = some (some p)) (h : R (.lst (caL p)) M) :
    dLc true (dSeq (dVar 10)) (.nm 14) tYesD (dTup (dCons (dVar 14) (dCons (dVar 3) dNil))) [14] r M R := by
  unfold dLc dSeq
  refine var_go e10 ?_
  refine ⟨by decide, ?_⟩
  refine lcD_mapE D.str (fun w : Str => D.tup [.str w, p]) wo src_nil (fun w hw R' q => ?_) h
  exact pair_go (fun R q => var_go (s14 hl) q) (fun R q => var_go ((s14o (by decide)).trans e3) q) q
theorem st7 {u : DS} {E : DEnds} {ex : SL → Addr → D → Str → MH → Prop} {z0 z1 z2 z3 z4 z5 z6 z7 z8 z9 z10 z11 z12 z13 z14 : Option D} {M : MH} (k :  u E { sl := [z0, z1, z2, z3, z4, z5, z6, z7, z8, z9, (some (.lst (wo.map D.str))), z11, z12, z13, z14], ex := ex } M) : mSeq (s_law_7 K C_BadCut C_BadElement C_BadFlat C_BadForms C_BadGallery C_BadGraph C_BadHeights C_BadLabel C_BadNumber C_BadPlane C_BadPoint C_BadPrime C_BadRow C_BadText C_BadWeights C_CutError C_NothingThere C_TooMany C_Unlike) u E { sl := [z0, z1, z2, z3, z4, z5, z6, z7, z8, z9, z10, z11, z12, z13, z14], ex := ex } M := by
  exact lst_go (f := fun w : Str => dC (.str w)) (g := D.str) (as := wo) (fun a _ R q => q) (by decide) k
theorem st8 {u : DS} {E : DEnds} {ex : SL → Addr → D → Str → MH → Prop} {z0 z1 z2 z4 z5 z6 z7 z8 z9 z11 z12 z13 z14 : Option D} {M : MH} {p : D} (hp : Sp p) (k :  u E { sl := [z0, z1, z2, (some p), z4, z5, z6, z7, z8, z9, (some (.lst (wo.map D.str))), z11, z12, z13, z14], ex := ex } M) : mSeq (s_law_8 K C_BadCut C_BadElement C_BadFlat C_BadForms C_BadGallery C_BadGraph C_BadHeights C_BadLabel C_BadNumber C_BadPlane C_BadPoint C_BadPrime C_BadRow C_BadText C_BadWeights C_CutError C_NothingThere C_TooMany C_Unlike) u E { sl := [z0, z1, z2, (some p), z4, z5, z6, z7, z8, z9, (some (.lst (wo.map D.str))), z11, z12, z13, z14], ex := ex } M := by
  unfold s_law_8
  simp only [mSeq, mIf, dNot, dTest]
  refine lawis_go (fun R q => lc13 (show 14 < 15 by decide) hp.pl (by rfl) q) (fun R q => lc14 (show 14 < 15 by decide) (by rfl) (by rfl) q) (g_caL hp) ?_
  simp only [dTru, Bool.not_true, Bool.false_eq_true, if_false, mNext]
  exact k
theorem st9 {u : DS} {E : DEnds} {ex : SL → Addr → D → Str → MH → Prop} {z0 z1 z2 z4 z5 z6 z7 z8 z9 z10 z11 z12 z13 z14 : Option D} {M : MH} {p : D} (k :  u E { sl := [z0, z1, z2, (some p), z4, z5, z6, z7, z8, z9, z10, (some (er [C_BadNumber, C_BadPlane, C_BadCut, C_BadText, C_BadRow, C_BadPoint, C_BadFlat, C_BadPrime, C_BadGallery, C_BadHeights, C_BadElement, C_BadWeights, C_BadForms, C_BadGraph, C_BadLabel, C_Unlike, C_NothingThere, C_TooMany, C_CutError] 18 p)), z12, z13, z14], ex := ex } M) : mSeq (s_law_9 K C_BadCut C_BadElement C_BadFlat C_BadForms C_BadGallery C_BadGraph C_BadHeights C_BadLabel C_BadNumber C_BadPlane C_BadPoint C_BadPrime C_BadRow C_BadText C_BadWeights C_CutError C_NothingThere C_TooMany C_Unlike) u E { sl := [z0, z1, z2, (some p), z4, z5, z6, z7, z8, z9, z10, z11, z12, z13, z14], ex := ex } M := by
  exact k
theorem st10 {u : DS} {E : DEnds} {ex : SL → Addr → D → Str → MH → Prop} {z0 z1 z2 z4 z5 z6 z7 z8 z9 z10 z12 z13 z14 : Option D} (kf : KF K [C_BadNumber, C_BadPlane, C_BadCut, C_BadText, C_BadRow, C_BadPoint, C_BadFlat, C_BadPrime, C_BadGallery, C_BadHeights, C_BadElement, C_BadWeights, C_BadForms, C_BadGraph, C_BadLabel, C_Unlike, C_NothingThere, C_TooMany, C_CutError]) {M : MH} {p : D} (hp : Sp p) (k :  u E { sl := [z0, z1, z2, (some p), z4, z5, z6, z7, z8, z9, z10, (some (er [C_BadNumber, C_BadPlane, C_BadCut, C_BadText, C_BadRow, C_BadPoint, C_BadFlat, C_BadPrime, C_BadGallery, C_BadHeights, C_BadElement, C_BadWeights, C_BadForms, C_BadGraph, C_BadLabel, C_Unlike, C_NothingThere, C_TooMany, C_CutError] 18 p)), z12, z13, z14], ex := ex } M) : mSeq (s_law_10 K C_BadCut C_BadElement C_BadFlat C_BadForms C_BadGallery C_BadGraph C_BadHeights C_BadLabel C_BadNumber C_BadPlane C_BadPoint C_BadPrime C_BadRow C_BadText C_BadWeights C_CutError C_NothingThere C_TooMany C_Unlike) u E { sl := [z0, z1, z2, (some p), z4, z5, z6, z7, z8, z9, z10, (some (er [C_BadNumber, C_BadPlane, C_BadCut, C_BadText, C_BadRow, C_BadPoint, C_BadFlat, C_BadPrime, C_BadGallery, C_BadHeights, C_BadElement, C_BadWeights, C_BadForms, C_BadGraph, C_BadLabel, C_Unlike, C_NothingThere, C_TooMany, C_CutError] 18 p)), z12, z13, z14], ex := ex } M := by
  unfold s_law_10
  simp only [mSeq, mIf, dNot, dTest]
  have X := kf.xp 18 (by decide)
  refine lawis_go (v := .lst (baL p)) (fun R q => ?_) (fun R q => ?_) (g_baL hp) ?_
  · exact lstx_go (cons_go (fun R q => xw_go (w := wd 18) (p := p) X (fun R h => var_go (by rfl) h) q) (cons_go (fun R q => xp_go (w := wd 18) (p := p) X (fun R h => var_go (by rfl) h) q)
      (cons_go (fun R q => xp_go (w := wd 18) (p := .non) X (fun R h => h) q) (cons_go (fun R q => xp_go (w := wd 18) (p := p) X (fun R h => h) q) ⟨(show 4 ≤ sizeLine from by decide), q⟩))))
  · exact lstx_go (cons_go (fun R q => q) (cons_go (fun R q => var_go (by rfl) q) (cons_go (fun R q => q) (cons_go (fun R q => var_go (by rfl) q) ⟨(show 4 ≤ sizeLine from by decide), q⟩))))
  · simp only [dTru, Bool.not_true, Bool.false_eq_true, if_false, mNext]
    exact k
theorem st11 (kf : KF K [C_BadNumber, C_BadPlane, C_BadCut, C_BadText, C_BadRow, C_BadPoint, C_BadFlat, C_BadPrime, C_BadGallery, C_BadHeights, C_BadElement, C_BadWeights, C_BadForms, C_BadGraph, C_BadLabel, C_Unlike, C_NothingThere, C_TooMany, C_CutError]) {E : DEnds} {ex : SL → Addr → D → Str → MH → Prop} {z0 z1 z2 z3 z4 z5 z6 z7 z8 z9 z10 z12 z13 z14 : Option D} {M : MH} {p : D} (hp : Sp p) (k : E.rt (.bl true) M) : s_law_11 K C_BadCut C_BadElement C_BadFlat C_BadForms C_BadGallery C_BadGraph C_BadHeights C_BadLabel C_BadNumber C_BadPlane C_BadPoint C_BadPrime C_BadRow C_BadText C_BadWeights C_CutError C_NothingThere C_TooMany C_Unlike E { sl := [z0, z1, z2, z3, z4, z5, z6, z7, z8, z9, z10, (some (er [C_BadNumber, C_BadPlane, C_BadCut, C_BadText, C_BadRow, C_BadPoint, C_BadFlat, C_BadPrime, C_BadGallery, C_BadHeights, C_BadElement, C_BadWeights, C_BadForms, C_BadGraph, C_BadLabel, C_Unlike, C_NothingThere, C_TooMany, C_CutError] 18 p)), z12, z13, z14], ex := ex } M := by
  unfold s_law_11 mRet
  simp only [dAndV, dNotV]
  refine vXT (b := false) (ns := ["word", "place"]) (ds := [.str (wd 18), p]) (by rfl) (kf.ec 18 (by decide)) (kf.kb 18 (by decide)) ?_
  simp only [Bool.not_false, if_true]
  unfold dCB
  refine cons_go (d := .lst ((List.range 18).map fun j => .bl (18 == j))) (fun R q => kinds_go (i := 18) (p := p) (by decide) hp.pl (by rfl) q) ?_
  exact k
theorem h_law (kf : KF K [C_BadNumber, C_BadPlane, C_BadCut, C_BadText, C_BadRow, C_BadPoint, C_BadFlat, C_BadPrime, C_BadGallery, C_BadHeights, C_BadElement, C_BadWeights, C_BadForms, C_BadGraph, C_BadLabel, C_Unlike, C_NothingThere, C_TooMany, C_CutError]) : specP 1 N_law.length false (m_law K C_BadCut C_BadElement C_BadFlat C_BadForms C_BadGallery C_BadGraph C_BadHeights C_BadLabel C_BadNumber C_BadPlane C_BadPoint C_BadPrime C_BadRow C_BadText C_BadWeights C_CutError C_NothingThere C_TooMany C_Unlike) pf_law := by
  rintro ds R RE hl ⟨ns, rfl, hn, hR⟩
  show m_law K C_BadCut C_BadElement C_BadFlat C_BadForms C_BadGallery C_BadGraph C_BadHeights C_BadLabel C_BadNumber C_BadPlane C_BadPoint C_BadPrime C_BadRow C_BadText C_BadWeights C_CutError C_NothingThere C_TooMany C_Unlike _ { sl := [some (.scr (ns.map D.int)), none, none, none, none, none, none, none, none, none, none, none, none, none, none], ex := fun _ C p w _ => D.plain p = true ∧ RE C p w } []
  unfold m_law
  refine st0 hn fun dk0 h0 => ?_
  refine st1 ?_
  refine st2 ?_
  refine st3 ?_
  refine st4 h0 fun p dk1 hp h1 => ?_
  refine st5 hp ?_
  refine st6 kf hp fun w7 w8 w9 => ?_
  refine st7 ?_
  refine st8 hp ?_
  refine st9 ?_
  refine st10 kf hp ?_
  exact st11 kf hp ⟨rfl, hR⟩
end
end K00

set_option Elab.async false
set_option linter.all false
set_option maxRecDepth 100000
set_option maxHeartbeats 0
namespace K00
open PySem PySem.Spec PyProof.Rows L2 DL NU
/-! ### the head -/
def initOf : Stmt → Stmt
  | .ClassDef (body := b) .. => b.getD 0 (.Pass ⟨0, 0, 0, 0⟩)
  | s => s
abbrev in_CutError : Stmt := initOf (top 1)
abbrev in_BadNumber : Stmt := initOf (top 2)
abbrev in_BadPlane : Stmt := initOf (top 3)
abbrev in_BadCut : Stmt := initOf (top 4)
abbrev in_BadText : Stmt := initOf (top 5)
abbrev in_BadRow : Stmt := initOf (top 6)
abbrev in_BadPoint : Stmt := initOf (top 7)
abbrev in_BadFlat : Stmt := initOf (top 8)
abbrev in_BadPrime : Stmt := initOf (top 9)
abbrev in_BadGallery : Stmt := initOf (top 10)
abbrev in_BadHeights : Stmt := initOf (top 11)
abbrev in_BadElement : Stmt := initOf (top 12)
abbrev in_BadWeights : Stmt := initOf (top 13)
abbrev in_BadForms : Stmt := initOf (top 14)
abbrev in_BadGraph : Stmt := initOf (top 15)
abbrev in_BadLabel : Stmt := initOf (top 16)
abbrev in_Unlike : Stmt := initOf (top 17)
abbrev in_NothingThere : Stmt := initOf (top 18)
abbrev in_TooMany : Stmt := initOf (top 19)
def sd_CutError : SupD := ⟨"CutError", "CutError.__init__", defArgs in_CutError, defBody in_CutError, defScope in_CutError⟩
def sd_BadNumber : SupD := ⟨"BadNumber", "BadNumber.__init__", defArgs in_BadNumber, defBody in_BadNumber, defScope in_BadNumber⟩
def sd_BadPlane : SupD := ⟨"BadPlane", "BadPlane.__init__", defArgs in_BadPlane, defBody in_BadPlane, defScope in_BadPlane⟩
def sd_BadCut : SupD := ⟨"BadCut", "BadCut.__init__", defArgs in_BadCut, defBody in_BadCut, defScope in_BadCut⟩
def sd_BadText : SupD := ⟨"BadText", "BadText.__init__", defArgs in_BadText, defBody in_BadText, defScope in_BadText⟩
def sd_BadRow : SupD := ⟨"BadRow", "BadRow.__init__", defArgs in_BadRow, defBody in_BadRow, defScope in_BadRow⟩
def sd_BadPoint : SupD := ⟨"BadPoint", "BadPoint.__init__", defArgs in_BadPoint, defBody in_BadPoint, defScope in_BadPoint⟩
def sd_BadFlat : SupD := ⟨"BadFlat", "BadFlat.__init__", defArgs in_BadFlat, defBody in_BadFlat, defScope in_BadFlat⟩
def sd_BadPrime : SupD := ⟨"BadPrime", "BadPrime.__init__", defArgs in_BadPrime, defBody in_BadPrime, defScope in_BadPrime⟩
def sd_BadGallery : SupD := ⟨"BadGallery", "BadGallery.__init__", defArgs in_BadGallery, defBody in_BadGallery, defScope in_BadGallery⟩
def sd_BadHeights : SupD := ⟨"BadHeights", "BadHeights.__init__", defArgs in_BadHeights, defBody in_BadHeights, defScope in_BadHeights⟩
def sd_BadElement : SupD := ⟨"BadElement", "BadElement.__init__", defArgs in_BadElement, defBody in_BadElement, defScope in_BadElement⟩
def sd_BadWeights : SupD := ⟨"BadWeights", "BadWeights.__init__", defArgs in_BadWeights, defBody in_BadWeights, defScope in_BadWeights⟩
def sd_BadForms : SupD := ⟨"BadForms", "BadForms.__init__", defArgs in_BadForms, defBody in_BadForms, defScope in_BadForms⟩
def sd_BadGraph : SupD := ⟨"BadGraph", "BadGraph.__init__", defArgs in_BadGraph, defBody in_BadGraph, defScope in_BadGraph⟩
def sd_BadLabel : SupD := ⟨"BadLabel", "BadLabel.__init__", defArgs in_BadLabel, defBody in_BadLabel, defScope in_BadLabel⟩
def sd_Unlike : SupD := ⟨"Unlike", "Unlike.__init__", defArgs in_Unlike, defBody in_Unlike, defScope in_Unlike⟩
def sd_NothingThere : SupD := ⟨"NothingThere", "NothingThere.__init__", defArgs in_NothingThere, defBody in_NothingThere, defScope in_NothingThere⟩
def sd_TooMany : SupD := ⟨"TooMany", "TooMany.__init__", defArgs in_TooMany, defBody in_TooMany, defScope in_TooMany⟩
def dd__law_deck : He.DefD := ⟨("_law_deck", none), "_law_deck", "_law_deck", defArgs st__law_deck, defBody st__law_deck, defScope st__law_deck, [], []⟩
def dd__law_draw : He.DefD := ⟨("_law_draw", none), "_law_draw", "_law_draw", defArgs st__law_draw, defBody st__law_draw, defScope st__law_draw, [], []⟩
def dd__law_is : He.DefD := ⟨("_law_is", none), "_law_is", "_law_is", defArgs st__law_is, defBody st__law_is, defScope st__law_is, [], []⟩
def dd__law_all : He.DefD := ⟨("_law_all", none), "_law_all", "_law_all", defArgs st__law_all, defBody st__law_all, defScope st__law_all, [], []⟩
def dd__law_bare : He.DefD := ⟨("_law_bare", none), "_law_bare", "_law_bare", defArgs st__law_bare, defBody st__law_bare, defScope st__law_bare, [], []⟩
def dd__law_named : He.DefD := ⟨("_law_named", none), "_law_named", "_law_named", defArgs st__law_named, defBody st__law_named, defScope st__law_named, [], []⟩
def dd__law_kinds : He.DefD := ⟨("_law_kinds", none), "_law_kinds", "_law_kinds", defArgs st__law_kinds, defBody st__law_kinds, defScope st__law_kinds, [], []⟩
def dd__law_caught : He.DefD := ⟨("_law_caught", none), "_law_caught", "_law_caught", defArgs st__law_caught, defBody st__law_caught, defScope st__law_caught, [], []⟩
def dd_law : He.DefD := ⟨("law", none), "law", "law", defArgs st_law, defBody st_law, defScope st_law, [], []⟩
def hx : HkX where
  file := P.main.file
  fa := .glo "_law_deck" :: .glo "_law_draw" :: .glo "_law_is" :: .glo "_law_all" :: .glo "_law_bare" :: .glo "_law_named" :: .glo "_law_kinds" :: .glo "_law_caught" :: .glo "law" :: .glo "CutError" :: .glo "BadNumber" :: .glo "BadPlane" :: .glo "BadCut" :: .glo "BadText" :: .glo "BadRow" :: .glo "BadPoint" :: .glo "BadFlat" :: .glo "BadPrime" :: .glo "BadGallery" :: .glo "BadHeights" :: .glo "BadElement" :: .glo "BadWeights" :: .glo "BadForms" :: .glo "BadGraph" :: .glo "BadLabel" :: .glo "Unlike" :: .glo "NothingThere" :: .glo "TooMany" :: .free "ValueError" :: .free "abs" :: .free "any" :: .free "int" :: .free "isinstance" :: .free "len" :: .free "list" :: .free "range" :: .free "repr" :: .free "super" :: []
  fn := dd__law_deck :: dd__law_draw :: dd__law_is :: dd__law_all :: dd__law_bare :: dd__law_named :: dd__law_kinds :: dd__law_caught :: dd_law :: []
  sx := [sd_CutError, sd_BadNumber, sd_BadPlane, sd_BadCut, sd_BadText, sd_BadRow, sd_BadPoint, sd_BadFlat, sd_BadPrime, sd_BadGallery, sd_BadHeights, sd_BadElement, sd_BadWeights, sd_BadForms, sd_BadGraph, sd_BadLabel, sd_Unlike, sd_NothingThere, sd_TooMany]
  ex := [⟨"CutError", "CutError"⟩, ⟨"BadNumber", "CutError"⟩, ⟨"BadPlane", "CutError"⟩, ⟨"BadCut", "CutError"⟩, ⟨"BadText", "CutError"⟩, ⟨"BadRow", "CutError"⟩, ⟨"BadPoint", "CutError"⟩, ⟨"BadFlat", "CutError"⟩, ⟨"BadPrime", "CutError"⟩, ⟨"BadGallery", "CutError"⟩, ⟨"BadHeights", "CutError"⟩, ⟨"BadElement", "CutError"⟩, ⟨"BadWeights", "CutError"⟩, ⟨"BadForms", "CutError"⟩, ⟨"BadGraph", "CutError"⟩, ⟨"BadLabel", "CutError"⟩, ⟨"Unlike", "CutError"⟩, ⟨"NothingThere", "CutError"⟩, ⟨"TooMany", "CutError"⟩]
  mm := ([("CutError", "CutError", true), ("BadNumber", "BadNumber", true), ("BadPlane", "BadPlane", true), ("BadCut", "BadCut", true), ("BadText", "BadText", true), ("BadRow", "BadRow", true), ("BadPoint", "BadPoint", true), ("BadFlat", "BadFlat", true), ("BadPrime", "BadPrime", true), ("BadGallery", "BadGallery", true), ("BadHeights", "BadHeights", true), ("BadElement", "BadElement", true), ("BadWeights", "BadWeights", true), ("BadForms", "BadForms", true), ("BadGraph", "BadGraph", true), ("BadLabel", "BadLabel", true), ("Unlike", "Unlike", true), ("NothingThere", "NothingThere", true), ("TooMany", "TooMany", true)] : List (Str × Str × Bool)) ++ (al19.take 18).map fun x => (x, ("CutError" : Str), true)
  ts := []
  ki := al19.flatMap fun x => al19.map fun y => (x, y, x == y || y == "CutError")
  kb := al19.map fun x => (x, "ValueError", false)
  ec := al19
abbrev R : PySem.W.OpenRow := PySem.W.OpenLaw.row PySem.Challenge.rw_planecuts_k00_errors_apart
abbrev hk : PySem.W.Hook := hookX 4 hx
def ob (s : PySem.W.SharedT) : AlX := obsXG 4 hx (HandSHeadRun.getT s)
theorem ob_eq (s : PySem.W.SharedT) : ob s = hk.obs s.abs := obsXG_eq (HandSHeadRun.getT_eq s)
def loose : List PySem.Str := "CutError" :: "BadNumber" :: "BadPlane" :: "BadCut" :: "BadText" :: "BadRow" :: "BadPoint" :: "BadFlat" :: "BadPrime" :: "BadGallery" :: "BadHeights" :: "BadElement" :: "BadWeights" :: "BadForms" :: "BadGraph" :: "BadLabel" :: "Unlike" :: "NothingThere" :: "TooMany" :: "_law_deck" :: "_law_draw" :: "_law_is" :: "_law_all" :: "_law_bare" :: "_law_named" :: "_law_kinds" :: "_law_caught" :: []
theorem run (w : World) : HandSHeadRun.RunEq R (PySem.W.view R.prog [29]) hk ob 20000 loose w := by
  intro os
  kernel_rfl
def cls19 : List Str := ["CutError", "BadNumber", "BadPlane", "BadCut", "BadText", "BadRow", "BadPoint", "BadFlat", "BadPrime", "BadGallery", "BadHeights", "BadElement", "BadWeights", "BadForms", "BadGraph", "BadLabel", "Unlike", "NothingThere", "TooMany"]
theorem wd_mem {i : Nat} (hi : i < 19) : wd i ∈ al19 := by
  have key : ((List.range 19).all fun i => decide (wd i ∈ al19)) = true := by decide +kernel
  exact of_decide_eq_true (List.all_eq_true.mp key i (List.mem_range.mpr hi))
theorem wd_key {i j : Nat} (hi : i < 19) (hj : j < 19) : (wd i == wd j || wd j == "CutError") = (i == j || j == 18) := by
  have key : ((List.range 19).all fun i => (List.range 19).all fun j => decide ((wd i == wd j || wd j == "CutError") = (i == j || j == 18))) = true := by decide +kernel
  exact of_decide_eq_true (List.all_eq_true.mp (List.all_eq_true.mp key i (List.mem_range.mpr hi)) j (List.mem_range.mpr hj))
theorem ga_get {f : Str → Addr} {i : Nat} (hi : i < 19) : (al19.map f).getD i 0 = f (wd i) := by
  have hl : i < al19.length := hi
  simp [wd, List.getD, List.getElem?_eq_getElem hl]
theorem al_cls {i : Nat} (hi : i < 19) : wd i ∈ cls19 := by
  have key : ((List.range 19).all fun i => decide (wd i ∈ cls19)) = true := by decide +kernel
  exact of_decide_eq_true (List.all_eq_true.mp key i (List.mem_range.mpr hi))
theorem kf_of {K : PySem.W.Frag} (c : SaysX hx K) : KF K (al19.map (He.ga K)) where
  ki := fun i j hi hj => by
    rw [ga_get hi, ga_get hj, ← wd_key hi hj]
    exact c.kit (p := (wd i, wd j, (wd i == wd j || wd j == "CutError"))) (List.mem_flatMap.mpr ⟨wd i, wd_mem hi, List.mem_map.mpr ⟨wd j, wd_mem hj, rfl⟩⟩)
  kb := fun i hi => by
    rw [ga_get hi]
    exact c.kitB (p := (wd i, "ValueError", false)) (List.mem_map.mpr ⟨wd i, wd_mem hi, rfl⟩)
  ec := fun i hi => by
    rw [ga_get hi]
    exact c.excC (wd_mem hi)
  xp := fun i hi => by
    rw [ga_get hi]
    have m : (⟨wd i, "CutError"⟩ : ExcF) ∈ cls19.map fun x => (⟨x, "CutError"⟩ : ExcF) := List.mem_map.mpr ⟨wd i, al_cls hi, rfl⟩
    obtain ⟨n, hn⟩ := List.mem_iff_getElem?.mp m
    obtain ⟨E, _, _⟩ := c.exc n (e := ⟨wd i, "CutError"⟩) hn
    exact ⟨E.xf, E.ox.np, E.ox.nw⟩
  ex := fun i hi => by
    rw [ga_get (by omega), ga_get (by decide)]
    have m0 : wd i ∈ al19.take 18 := by
      have key : ((List.range 18).all fun i => decide (wd i ∈ al19.take 18)) = true := by decide +kernel
      exact of_decide_eq_true (List.all_eq_true.mp key i (List.mem_range.mpr hi))
    have m : ((wd i, ("CutError" : Str), true) : Str × Str × Bool) ∈ hx.mm := List.mem_append_right _ (List.mem_map.mpr ⟨wd i, m0, rfl⟩)
    obtain ⟨n, hn⟩ := List.mem_iff_getElem?.mp m
    exact c.exm n hn
theorem facts {w : World} {K : PySem.W.Frag} {h : Heap} {mg : Str → Option Value} {f : Addr} (X : K.In h) (G : h.Ns mainGlobals mg) (hfa : mg ("law" : Str) = some (.ref f)) (c : SaysX hx K) :
    ∃ fd : FuncData, (∀ (s : Shared) (v : Value), BindsTo s fd ⟨[v], []⟩ [("script", v)]) ∧ ∀ base : Heap, K.In base → base.Ns mainGlobals mg → FnG P w K mg base 2 f fd ["script"] (spP K 1 false pf_law) := by
  obtain ⟨fd__law_deck, F__law_deck⟩ := c.d.def_ 0 (d := dd__law_deck) rfl
  obtain ⟨fd__law_draw, F__law_draw⟩ := c.d.def_ 1 (d := dd__law_draw) rfl
  obtain ⟨fd__law_is, F__law_is⟩ := c.d.def_ 2 (d := dd__law_is) rfl
  obtain ⟨fd__law_all, F__law_all⟩ := c.d.def_ 3 (d := dd__law_all) rfl
  obtain ⟨fd__law_bare, F__law_bare⟩ := c.d.def_ 4 (d := dd__law_bare) rfl
  obtain ⟨fd__law_named, F__law_named⟩ := c.d.def_ 5 (d := dd__law_named) rfl
  obtain ⟨fd__law_kinds, F__law_kinds⟩ := c.d.def_ 6 (d := dd__law_kinds) rfl
  obtain ⟨fd__law_caught, F__law_caught⟩ := c.d.def_ 7 (d := dd__law_caught) rfl
  obtain ⟨fd_law, F_law⟩ := c.d.def_ 8 (d := dd_law) rfl
  have g__law_deck : mg "_law_deck" = some (.ref (He.ga K "_law_deck")) := He.glo_ok X G (c.d.fact 0 (f := .glo "_law_deck") rfl)
  have g__law_draw : mg "_law_draw" = some (.ref (He.ga K "_law_draw")) := He.glo_ok X G (c.d.fact 1 (f := .glo "_law_draw") rfl)
  have g__law_is : mg "_law_is" = some (.ref (He.ga K "_law_is")) := He.glo_ok X G (c.d.fact 2 (f := .glo "_law_is") rfl)
  have g__law_all : mg "_law_all" = some (.ref (He.ga K "_law_all")) := He.glo_ok X G (c.d.fact 3 (f := .glo "_law_all") rfl)
  have g__law_bare : mg "_law_bare" = some (.ref (He.ga K "_law_bare")) := He.glo_ok X G (c.d.fact 4 (f := .glo "_law_bare") rfl)
  have g__law_named : mg "_law_named" = some (.ref (He.ga K "_law_named")) := He.glo_ok X G (c.d.fact 5 (f := .glo "_law_named") rfl)
  have g__law_kinds : mg "_law_kinds" = some (.ref (He.ga K "_law_kinds")) := He.glo_ok X G (c.d.fact 6 (f := .glo "_law_kinds") rfl)
  have g__law_caught : mg "_law_caught" = some (.ref (He.ga K "_law_caught")) := He.glo_ok X G (c.d.fact 7 (f := .glo "_law_caught") rfl)
  have g_law : mg "law" = some (.ref (He.ga K "law")) := He.glo_ok X G (c.d.fact 8 (f := .glo "law") rfl)
  have g_CutError : mg "CutError" = some (.ref (He.ga K "CutError")) := He.glo_ok X G (c.d.fact 9 (f := .glo "CutError") rfl)
  have g_BadNumber : mg "BadNumber" = some (.ref (He.ga K "BadNumber")) := He.glo_ok X G (c.d.fact 10 (f := .glo "BadNumber") rfl)
  have g_BadPlane : mg "BadPlane" = some (.ref (He.ga K "BadPlane")) := He.glo_ok X G (c.d.fact 11 (f := .glo "BadPlane") rfl)
  have g_BadCut : mg "BadCut" = some (.ref (He.ga K "BadCut")) := He.glo_ok X G (c.d.fact 12 (f := .glo "BadCut") rfl)
  have g_BadText : mg "BadText" = some (.ref (He.ga K "BadText")) := He.glo_ok X G (c.d.fact 13 (f := .glo "BadText") rfl)
  have g_BadRow : mg "BadRow" = some (.ref (He.ga K "BadRow")) := He.glo_ok X G (c.d.fact 14 (f := .glo "BadRow") rfl)
  have g_BadPoint : mg "BadPoint" = some (.ref (He.ga K "BadPoint")) := He.glo_ok X G (c.d.fact 15 (f := .glo "BadPoint") rfl)
  have g_BadFlat : mg "BadFlat" = some (.ref (He.ga K "BadFlat")) := He.glo_ok X G (c.d.fact 16 (f := .glo "BadFlat") rfl)
  have g_BadPrime : mg "BadPrime" = some (.ref (He.ga K "BadPrime")) := He.glo_ok X G (c.d.fact 17 (f := .glo "BadPrime") rfl)
  have g_BadGallery : mg "BadGallery" = some (.ref (He.ga K "BadGallery")) := He.glo_ok X G (c.d.fact 18 (f := .glo "BadGallery") rfl)
  have g_BadHeights : mg "BadHeights" = some (.ref (He.ga K "BadHeights")) := He.glo_ok X G (c.d.fact 19 (f := .glo "BadHeights") rfl)
  have g_BadElement : mg "BadElement" = some (.ref (He.ga K "BadElement")) := He.glo_ok X G (c.d.fact 20 (f := .glo "BadElement") rfl)
  have g_BadWeights : mg "BadWeights" = some (.ref (He.ga K "BadWeights")) := He.glo_ok X G (c.d.fact 21 (f := .glo "BadWeights") rfl)
  have g_BadForms : mg "BadForms" = some (.ref (He.ga K "BadForms")) := He.glo_ok X G (c.d.fact 22 (f := .glo "BadForms") rfl)
  have g_BadGraph : mg "BadGraph" = some (.ref (He.ga K "BadGraph")) := He.glo_ok X G (c.d.fact 23 (f := .glo "BadGraph") rfl)
  have g_BadLabel : mg "BadLabel" = some (.ref (He.ga K "BadLabel")) := He.glo_ok X G (c.d.fact 24 (f := .glo "BadLabel") rfl)
  have g_Unlike : mg "Unlike" = some (.ref (He.ga K "Unlike")) := He.glo_ok X G (c.d.fact 25 (f := .glo "Unlike") rfl)
  have g_NothingThere : mg "NothingThere" = some (.ref (He.ga K "NothingThere")) := He.glo_ok X G (c.d.fact 26 (f := .glo "NothingThere") rfl)
  have g_TooMany : mg "TooMany" = some (.ref (He.ga K "TooMany")) := He.glo_ok X G (c.d.fact 27 (f := .glo "TooMany") rfl)
  have u_ValueError : mg "ValueError" = none := He.free_ok X G (c.d.fact 28 (f := .free "ValueError") rfl)
  have u_abs : mg "abs" = none := He.free_ok X G (c.d.fact 29 (f := .free "abs") rfl)
  have u_any : mg "any" = none := He.free_ok X G (c.d.fact 30 (f := .free "any") rfl)
  have u_int : mg "int" = none := He.free_ok X G (c.d.fact 31 (f := .free "int") rfl)
  have u_isinstance : mg "isinstance" = none := He.free_ok X G (c.d.fact 32 (f := .free "isinstance") rfl)
  have u_len : mg "len" = none := He.free_ok X G (c.d.fact 33 (f := .free "len") rfl)
  have u_list : mg "list" = none := He.free_ok X G (c.d.fact 34 (f := .free "list") rfl)
  have u_range : mg "range" = none := He.free_ok X G (c.d.fact 35 (f := .free "range") rfl)
  have u_repr : mg "repr" = none := He.free_ok X G (c.d.fact 36 (f := .free "repr") rfl)
  have u_super : mg "super" = none := He.free_ok X G (c.d.fact 37 (f := .free "super") rfl)
  have ub : ∀ x ∈ bls, mg (PySem.Str.ofString x) = none := by
    intro x hx
    simp only [bls, List.mem_cons, List.not_mem_nil, or_false] at hx
    rcases hx with rfl | rfl | rfl | rfl | rfl | rfl | rfl | rfl | rfl <;> assumption
  obtain ⟨fs_CutError, S_CutError⟩ := c.sup (P := P) rfl 0 (d := sd_CutError) rfl
  obtain ⟨E_CutError, n_CutError, o_CutError⟩ := c.exc 0 (e := ⟨"CutError", "CutError"⟩) rfl
  have B_CutError : BindS sd_CutError := ⟨fun _ _ _ _ _ _ _ _ _ _ _ => ⟨_, rfl, rfl⟩, fun _ _ _ _ _ _ _ _ _ _ => ⟨_, rfl, rfl⟩, fun _ _ _ _ _ _ _ _ _ _ _ => ⟨_, rfl, rfl⟩⟩
  have C_CutError : EX.SupSc (defArgs in_CutError) (defScope in_CutError) := ⟨⟨_, rfl, rfl⟩, rfl, rfl, rfl, rfl, rfl, by decide +kernel, rfl, rfl⟩
  have m_CutError : PySem.W.exmOne K (.ref (He.ga K "CutError")) (.ref (He.ga K "CutError")) = some true := c.exm 0 (p := ("CutError", "CutError", true)) rfl
  obtain ⟨fs_BadNumber, S_BadNumber⟩ := c.sup (P := P) rfl 1 (d := sd_BadNumber) rfl
  obtain ⟨E_BadNumber, n_BadNumber, o_BadNumber⟩ := c.exc 1 (e := ⟨"BadNumber", "CutError"⟩) rfl
  have B_BadNumber : BindS sd_BadNumber := ⟨fun _ _ _ _ _ _ _ _ _ _ _ => ⟨_, rfl, rfl⟩, fun _ _ _ _ _ _ _ _ _ _ => ⟨_, rfl, rfl⟩, fun _ _ _ _ _ _ _ _ _ _ _ => ⟨_, rfl, rfl⟩⟩
  have C_BadNumber : EX.SupSc (defArgs in_BadNumber) (defScope in_BadNumber) := ⟨⟨_, rfl, rfl⟩, rfl, rfl, rfl, rfl, rfl, by decide +kernel, rfl, rfl⟩
  have m_BadNumber : PySem.W.exmOne K (.ref (He.ga K "BadNumber")) (.ref (He.ga K "BadNumber")) = some true := c.exm 1 (p := ("BadNumber", "BadNumber", true)) rfl
  obtain ⟨fs_BadPlane, S_BadPlane⟩ := c.sup (P := P) rfl 2 (d := sd_BadPlane) rfl
  obtain ⟨E_BadPlane, n_BadPlane, o_BadPlane⟩ := c.exc 2 (e := ⟨"BadPlane", "CutError"⟩) rfl
  have B_BadPlane : BindS sd_BadPlane := ⟨fun _ _ _ _ _ _ _ _ _ _ _ => ⟨_, rfl, rfl⟩, fun _ _ _ _ _ _ _ _ _ _ => ⟨_, rfl, rfl⟩, fun _ _ _ _ _ _ _ _ _ _ _ => ⟨_, rfl, rfl⟩⟩
  have C_BadPlane : EX.SupSc (defArgs in_BadPlane) (defScope in_BadPlane) := ⟨⟨_, rfl, rfl⟩, rfl, rfl, rfl, rfl, rfl, by decide +kernel, rfl, rfl⟩
  have m_BadPlane : PySem.W.exmOne K (.ref (He.ga K "BadPlane")) (.ref (He.ga K "BadPlane")) = some true := c.exm 2 (p := ("BadPlane", "BadPlane", true)) rfl
  obtain ⟨fs_BadCut, S_BadCut⟩ := c.sup (P := P) rfl 3 (d := sd_BadCut) rfl
  obtain ⟨E_BadCut, n_BadCut, o_BadCut⟩ := c.exc 3 (e := ⟨"BadCut", "CutError"⟩) rfl
  have B_BadCut : BindS sd_BadCut := ⟨fun _ _ _ _ _ _ _ _ _ _ _ => ⟨_, rfl, rfl⟩, fun _ _ _ _ _ _ _ _ _ _ => ⟨_, rfl, rfl⟩, fun _ _ _ _ _ _ _ _ _ _ _ => ⟨_, rfl, rfl⟩⟩
  have C_BadCut : EX.SupSc (defArgs in_BadCut) (defScope in_BadCut) := ⟨⟨_, rfl, rfl⟩, rfl, rfl, rfl, rfl, rfl, by decide +kernel, rfl, rfl⟩
  have m_BadCut : PySem.W.exmOne K (.ref (He.ga K "BadCut")) (.ref (He.ga K "BadCut")) = some true := c.exm 3 (p := ("BadCut", "BadCut", true)) rfl
  obtain ⟨fs_BadText, S_BadText⟩ := c.sup (P := P) rfl 4 (d := sd_BadText) rfl
  obtain ⟨E_BadText, n_BadText, o_BadText⟩ := c.exc 4 (e := ⟨"BadText", "CutError"⟩) rfl
  have B_BadText : BindS sd_BadText := ⟨fun _ _ _ _ _ _ _ _ _ _ _ => ⟨_, rfl, rfl⟩, fun _ _ _ _ _ _ _ _ _ _ => ⟨_, rfl, rfl⟩, fun _ _ _ _ _ _ _ _ _ _ _ => ⟨_, rfl, rfl⟩⟩
  have C_BadText : EX.SupSc (defArgs in_BadText) (defScope in_BadText) := ⟨⟨_, rfl, rfl⟩, rfl, rfl, rfl, rfl, rfl, by decide +kernel, rfl, rfl⟩
  have m_BadText : PySem.W.exmOne K (.ref (He.ga K "BadText")) (.ref (He.ga K "BadText")) = some true := c.exm 4 (p := ("BadText", "BadText", true)) rfl
  obtain ⟨fs_BadRow, S_BadRow⟩ := c.sup (P := P) rfl 5 (d := sd_BadRow) rfl
  obtain ⟨E_BadRow, n_BadRow, o_BadRow⟩ := c.exc 5 (e := ⟨"BadRow", "CutError"⟩) rfl
  have B_BadRow : BindS sd_BadRow := ⟨fun _ _ _ _ _ _ _ _ _ _ _ => ⟨_, rfl, rfl⟩, fun _ _ _ _ _ _ _ _ _ _ => ⟨_, rfl, rfl⟩, fun _ _ _ _ _ _ _ _ _ _ _ => ⟨_, rfl, rfl⟩⟩
  have C_BadRow : EX.SupSc (defArgs in_BadRow) (defScope in_BadRow) := ⟨⟨_, rfl, rfl⟩, rfl, rfl, rfl, rfl, rfl, by decide +kernel, rfl, rfl⟩
  have m_BadRow : PySem.W.exmOne K (.ref (He.ga K "BadRow")) (.ref (He.ga K "BadRow")) = some true := c.exm 5 (p := ("BadRow", "BadRow", true)) rfl
  obtain ⟨fs_BadPoint, S_BadPoint⟩ := c.sup (P := P) rfl 6 (d := sd_BadPoint) rfl
  obtain ⟨E_BadPoint, n_BadPoint, o_BadPoint⟩ := c.exc 6 (e := ⟨"BadPoint", "CutError"⟩) rfl
  have B_BadPoint : BindS sd_BadPoint := ⟨fun _ _ _ _ _ _ _ _ _ _ _ => ⟨_, rfl, rfl⟩, fun _ _ _ _ _ _ _ _ _ _ => ⟨_, rfl, rfl⟩, fun _ _ _ _ _ _ _ _ _ _ _ => ⟨_, rfl, rfl⟩⟩
  have C_BadPoint : EX.SupSc (defArgs in_BadPoint) (defScope in_BadPoint) := ⟨⟨_, rfl, rfl⟩, rfl, rfl, rfl, rfl, rfl, by decide +kernel, rfl, rfl⟩
  have m_BadPoint : PySem.W.exmOne K (.ref (He.ga K "BadPoint")) (.ref (He.ga K "BadPoint")) = some true := c.exm 6 (p := ("BadPoint", "BadPoint", true)) rfl
  obtain ⟨fs_BadFlat, S_BadFlat⟩ := c.sup (P := P) rfl 7 (d := sd_BadFlat) rfl
  obtain ⟨E_BadFlat, n_BadFlat, o_BadFlat⟩ := c.exc 7 (e := ⟨"BadFlat", "CutError"⟩) rfl
  have B_BadFlat : BindS sd_BadFlat := ⟨fun _ _ _ _ _ _ _ _ _ _ _ => ⟨_, rfl, rfl⟩, fun _ _ _ _ _ _ _ _ _ _ => ⟨_, rfl, rfl⟩, fun _ _ _ _ _ _ _ _ _ _ _ => ⟨_, rfl, rfl⟩⟩
  have C_BadFlat : EX.SupSc (defArgs in_BadFlat) (defScope in_BadFlat) := ⟨⟨_, rfl, rfl⟩, rfl, rfl, rfl, rfl, rfl, by decide +kernel, rfl, rfl⟩
  have m_BadFlat : PySem.W.exmOne K (.ref (He.ga K "BadFlat")) (.ref (He.ga K "BadFlat")) = some true := c.exm 7 (p := ("BadFlat", "BadFlat", true)) rfl
  obtain ⟨fs_BadPrime, S_BadPrime⟩ := c.sup (P := P) rfl 8 (d := sd_BadPrime) rfl
  obtain ⟨E_BadPrime, n_BadPrime, o_BadPrime⟩ := c.exc 8 (e := ⟨"BadPrime", "CutError"⟩) rfl
  have B_BadPrime : BindS sd_BadPrime := ⟨fun _ _ _ _ _ _ _ _ _ _ _ => ⟨_, rfl, rfl⟩, fun _ _ _ _ _ _ _ _ _ _ => ⟨_, rfl, rfl⟩, fun _ _ _ _ _ _ _ _ _ _ _ => ⟨_, rfl, rfl⟩⟩
  have C_BadPrime : EX.SupSc (defArgs in_BadPrime) (defScope in_BadPrime) := ⟨⟨_, rfl, rfl⟩, rfl, rfl, rfl, rfl, rfl, by decide +kernel, rfl, rfl⟩
  have m_BadPrime : PySem.W.exmOne K (.ref (He.ga K "BadPrime")) (.ref (He.ga K "BadPrime")) = some true := c.exm 8 (p := ("BadPrime", "BadPrime", true)) rfl
  obtain ⟨fs_BadGallery, S_BadGallery⟩ := c.sup (P := P) rfl 9 (d := sd_BadGallery) rfl
  obtain ⟨E_BadGallery, n_BadGallery, o_BadGallery⟩ := c.exc 9 (e := ⟨"BadGallery", "CutError"⟩) rfl
  have B_BadGallery : BindS sd_BadGallery := ⟨fun _ _ _ _ _ _ _ _ _ _ _ => ⟨_, rfl, rfl⟩, fun _ _ _ _ _ _ _ _ _ _ => ⟨_, rfl, rfl⟩, fun _ _ _ _ _ _ _ _ _ _ _ => ⟨_, rfl, rfl⟩⟩
  have C_BadGallery : EX.SupSc (defArgs in_BadGallery) (defScope in_BadGallery) := ⟨⟨_, rfl, rfl⟩, rfl, rfl, rfl, rfl, rfl, by decide +kernel, rfl, rfl⟩
  have m_BadGallery : PySem.W.exmOne K (.ref (He.ga K "BadGallery")) (.ref (He.ga K "BadGallery")) = some true := c.exm 9 (p := ("BadGallery", "BadGallery", true)) rfl
  obtain ⟨fs_BadHeights, S_BadHeights⟩ := c.sup (P := P) rfl 10 (d := sd_BadHeights) rfl
  obtain ⟨E_BadHeights, n_BadHeights, o_BadHeights⟩ := c.exc 10 (e := ⟨"BadHeights", "CutError"⟩) rfl
  have B_BadHeights : BindS sd_BadHeights := ⟨fun _ _ _ _ _ _ _ _ _ _ _ => ⟨_, rfl, rfl⟩, fun _ _ _ _ _ _ _ _ _ _ => ⟨_, rfl, rfl⟩, fun _ _ _ _ _ _ _ _ _ _ _ => ⟨_, rfl, rfl⟩⟩
  have C_BadHeights : EX.SupSc (defArgs in_BadHeights) (defScope in_BadHeights) := ⟨⟨_, rfl, rfl⟩, rfl, rfl, rfl, rfl, rfl, by decide +kernel, rfl, rfl⟩
  have m_BadHeights : PySem.W.exmOne K (.ref (He.ga K "BadHeights")) (.ref (He.ga K "BadHeights")) = some true := c.exm 10 (p := ("BadHeights", "BadHeights", true)) rfl
  obtain ⟨fs_BadElement, S_BadElement⟩ := c.sup (P := P) rfl 11 (d := sd_BadElement) rfl
  obtain ⟨E_BadElement, n_BadElement, o_BadElement⟩ := c.exc 11 (e := ⟨"BadElement", "CutError"⟩) rfl
  have B_BadElement : BindS sd_BadElement := ⟨fun _ _ _ _ _ _ _ _ _ _ _ => ⟨_, rfl, rfl⟩, fun _ _ _ _ _ _ _ _ _ _ => ⟨_, rfl, rfl⟩, fun _ _ _ _ _ _ _ _ _ _ _ => ⟨_, rfl, rfl⟩⟩
  have C_BadElement : EX.SupSc (defArgs in_BadElement) (defScope in_BadElement) := ⟨⟨_, rfl, rfl⟩, rfl, rfl, rfl, rfl, rfl, by decide +kernel, rfl, rfl⟩
  have m_BadElement : PySem.W.exmOne K (.ref (He.ga K "BadElement")) (.ref (He.ga K "BadElement")) = some true := c.exm 11 (p := ("BadElement", "BadElement", true)) rfl
  obtain ⟨fs_BadWeights, S_BadWeights⟩ := c.sup (P := P) rfl 12 (d := sd_BadWeights) rfl
  obtain ⟨E_BadWeights, n_BadWeights, o_BadWeights⟩ := c.exc 12 (e := ⟨"BadWeights", "CutError"⟩) rfl
  have B_BadWeights : BindS sd_BadWeights := ⟨fun _ _ _ _ _ _ _ _ _ _ _ => ⟨_, rfl, rfl⟩, fun _ _ _ _ _ _ _ _ _ _ => ⟨_, rfl, rfl⟩, fun _ _ _ _ _ _ _ _ _ _ _ => ⟨_, rfl, rfl⟩⟩
  have C_BadWeights : EX.SupSc (defArgs in_BadWeights) (defScope in_BadWeights) := ⟨⟨_, rfl, rfl⟩, rfl, rfl, rfl, rfl, rfl, by decide +kernel, rfl, rfl⟩
  have m_BadWeights : PySem.W.exmOne K (.ref (He.ga K "BadWeights")) (.ref (He.ga K "BadWeights")) = some true := c.exm 12 (p := ("BadWeights", "BadWeights", true)) rfl
  obtain ⟨fs_BadForms, S_BadForms⟩ := c.sup (P := P) rfl 13 (d := sd_BadForms) rfl
  obtain ⟨E_BadForms, n_BadForms, o_BadForms⟩ := c.exc 13 (e := ⟨"BadForms", "CutError"⟩) rfl
  have B_BadForms : BindS sd_BadForms := ⟨fun _ _ _ _ _ _ _ _ _ _ _ => ⟨_, rfl, rfl⟩, fun _ _ _ _ _ _ _ _ _ _ => ⟨_, rfl, rfl⟩, fun _ _ _ _ _ _ _ _ _ _ _ => ⟨_, rfl, rfl⟩⟩
  have C_BadForms : EX.SupSc (defArgs in_BadForms) (defScope in_BadForms) := ⟨⟨_, rfl, rfl⟩, rfl, rfl, rfl, rfl, rfl, by decide +kernel, rfl, rfl⟩
  have m_BadForms : PySem.W.exmOne K (.ref (He.ga K "BadForms")) (.ref (He.ga K "BadForms")) = some true := c.exm 13 (p := ("BadForms", "BadForms", true)) rfl
  obtain ⟨fs_BadGraph, S_BadGraph⟩ := c.sup (P := P) rfl 14 (d := sd_BadGraph) rfl
  obtain ⟨E_BadGraph, n_BadGraph, o_BadGraph⟩ := c.exc 14 (e := ⟨"BadGraph", "CutError"⟩) rfl
  have B_BadGraph : BindS sd_BadGraph := ⟨fun _ _ _ _ _ _ _ _ _ _ _ => ⟨_, rfl, rfl⟩, fun _ _ _ _ _ _ _ _ _ _ => ⟨_, rfl, rfl⟩, fun _ _ _ _ _ _ _ _ _ _ _ => ⟨_, rfl, rfl⟩⟩
  have C_BadGraph : EX.SupSc (defArgs in_BadGraph) (defScope in_BadGraph) := ⟨⟨_, rfl, rfl⟩, rfl, rfl, rfl, rfl, rfl, by decide +kernel, rfl, rfl⟩
  have m_BadGraph : PySem.W.exmOne K (.ref (He.ga K "BadGraph")) (.ref (He.ga K "BadGraph")) = some true := c.exm 14 (p := ("BadGraph", "BadGraph", true)) rfl
  obtain ⟨fs_BadLabel, S_BadLabel⟩ := c.sup (P := P) rfl 15 (d := sd_BadLabel) rfl
  obtain ⟨E_BadLabel, n_BadLabel, o_BadLabel⟩ := c.exc 15 (e := ⟨"BadLabel", "CutError"⟩) rfl
  have B_BadLabel : BindS sd_BadLabel := ⟨fun _ _ _ _ _ _ _ _ _ _ _ => ⟨_, rfl, rfl⟩, fun _ _ _ _ _ _ _ _ _ _ => ⟨_, rfl, rfl⟩, fun _ _ _ _ _ _ _ _ _ _ _ => ⟨_, rfl, rfl⟩⟩
  have C_BadLabel : EX.SupSc (defArgs in_BadLabel) (defScope in_BadLabel) := ⟨⟨_, rfl, rfl⟩, rfl, rfl, rfl, rfl, rfl, by decide +kernel, rfl, rfl⟩
  have m_BadLabel : PySem.W.exmOne K (.ref (He.ga K "BadLabel")) (.ref (He.ga K "BadLabel")) = some true := c.exm 15 (p := ("BadLabel", "BadLabel", true)) rfl
  obtain ⟨fs_Unlike, S_Unlike⟩ := c.sup (P := P) rfl 16 (d := sd_Unlike) rfl
  obtain ⟨E_Unlike, n_Unlike, o_Unlike⟩ := c.exc 16 (e := ⟨"Unlike", "CutError"⟩) rfl
  have B_Unlike : BindS sd_Unlike := ⟨fun _ _ _ _ _ _ _ _ _ _ _ => ⟨_, rfl, rfl⟩, fun _ _ _ _ _ _ _ _ _ _ => ⟨_, rfl, rfl⟩, fun _ _ _ _ _ _ _ _ _ _ _ => ⟨_, rfl, rfl⟩⟩
  have C_Unlike : EX.SupSc (defArgs in_Unlike) (defScope in_Unlike) := ⟨⟨_, rfl, rfl⟩, rfl, rfl, rfl, rfl, rfl, by decide +kernel, rfl, rfl⟩
  have m_Unlike : PySem.W.exmOne K (.ref (He.ga K "Unlike")) (.ref (He.ga K "Unlike")) = some true := c.exm 16 (p := ("Unlike", "Unlike", true)) rfl
  obtain ⟨fs_NothingThere, S_NothingThere⟩ := c.sup (P := P) rfl 17 (d := sd_NothingThere) rfl
  obtain ⟨E_NothingThere, n_NothingThere, o_NothingThere⟩ := c.exc 17 (e := ⟨"NothingThere", "CutError"⟩) rfl
  have B_NothingThere : BindS sd_NothingThere := ⟨fun _ _ _ _ _ _ _ _ _ _ _ => ⟨_, rfl, rfl⟩, fun _ _ _ _ _ _ _ _ _ _ => ⟨_, rfl, rfl⟩, fun _ _ _ _ _ _ _ _ _ _ _ => ⟨_, rfl, rfl⟩⟩
  have C_NothingThere : EX.SupSc (defArgs in_NothingThere) (defScope in_NothingThere) := ⟨⟨_, rfl, rfl⟩, rfl, rfl, rfl, rfl, rfl, by decide +kernel, rfl, rfl⟩
  have m_NothingThere : PySem.W.exmOne K (.ref (He.ga K "NothingThere")) (.ref (He.ga K "NothingThere")) = some true := c.exm 17 (p := ("NothingThere", "NothingThere", true)) rfl
  obtain ⟨fs_TooMany, S_TooMany⟩ := c.sup (P := P) rfl 18 (d := sd_TooMany) rfl
  obtain ⟨E_TooMany, n_TooMany, o_TooMany⟩ := c.exc 18 (e := ⟨"TooMany", "CutError"⟩) rfl
  have B_TooMany : BindS sd_TooMany := ⟨fun _ _ _ _ _ _ _ _ _ _ _ => ⟨_, rfl, rfl⟩, fun _ _ _ _ _ _ _ _ _ _ => ⟨_, rfl, rfl⟩, fun _ _ _ _ _ _ _ _ _ _ _ => ⟨_, rfl, rfl⟩⟩
  have C_TooMany : EX.SupSc (defArgs in_TooMany) (defScope in_TooMany) := ⟨⟨_, rfl, rfl⟩, rfl, rfl, rfl, rfl, rfl, by decide +kernel, rfl, rfl⟩
  have m_TooMany : PySem.W.exmOne K (.ref (He.ga K "TooMany")) (.ref (He.ga K "TooMany")) = some true := c.exm 18 (p := ("TooMany", "TooMany", true)) rfl
  have xp_CutError : XP K (He.ga K "CutError") := ⟨E_CutError.xf, E_CutError.ox.np, E_CutError.ox.nw⟩
  have up_BadNumber : PySem.W.ks_superIn K (He.ga K "BadNumber") (He.ga K "BadNumber") "__init__" = some (some (.ref (spAd K "CutError"))) := o_BadNumber.resolve_left (by decide)
  have xp_BadNumber : XP K (He.ga K "BadNumber") := ⟨E_BadNumber.xf, E_BadNumber.ox.np, E_BadNumber.ox.nw⟩
  have up_BadPlane : PySem.W.ks_superIn K (He.ga K "BadPlane") (He.ga K "BadPlane") "__init__" = some (some (.ref (spAd K "CutError"))) := o_BadPlane.resolve_left (by decide)
  have xp_BadPlane : XP K (He.ga K "BadPlane") := ⟨E_BadPlane.xf, E_BadPlane.ox.np, E_BadPlane.ox.nw⟩
  have up_BadCut : PySem.W.ks_superIn K (He.ga K "BadCut") (He.ga K "BadCut") "__init__" = some (some (.ref (spAd K "CutError"))) := o_BadCut.resolve_left (by decide)
  have xp_BadCut : XP K (He.ga K "BadCut") := ⟨E_BadCut.xf, E_BadCut.ox.np, E_BadCut.ox.nw⟩
  have up_BadText : PySem.W.ks_superIn K (He.ga K "BadText") (He.ga K "BadText") "__init__" = some (some (.ref (spAd K "CutError"))) := o_BadText.resolve_left (by decide)
  have xp_BadText : XP K (He.ga K "BadText") := ⟨E_BadText.xf, E_BadText.ox.np, E_BadText.ox.nw⟩
  have up_BadRow : PySem.W.ks_superIn K (He.ga K "BadRow") (He.ga K "BadRow") "__init__" = some (some (.ref (spAd K "CutError"))) := o_BadRow.resolve_left (by decide)
  have xp_BadRow : XP K (He.ga K "BadRow") := ⟨E_BadRow.xf, E_BadRow.ox.np, E_BadRow.ox.nw⟩
  have up_BadPoint : PySem.W.ks_superIn K (He.ga K "BadPoint") (He.ga K "BadPoint") "__init__" = some (some (.ref (spAd K "CutError"))) := o_BadPoint.resolve_left (by decide)
  have xp_BadPoint : XP K (He.ga K "BadPoint") := ⟨E_BadPoint.xf, E_BadPoint.ox.np, E_BadPoint.ox.nw⟩
  have up_BadFlat : PySem.W.ks_superIn K (He.ga K "BadFlat") (He.ga K "BadFlat") "__init__" = some (some (.ref (spAd K "CutError"))) := o_BadFlat.resolve_left (by decide)
  have xp_BadFlat : XP K (He.ga K "BadFlat") := ⟨E_BadFlat.xf, E_BadFlat.ox.np, E_BadFlat.ox.nw⟩
  have up_BadPrime : PySem.W.ks_superIn K (He.ga K "BadPrime") (He.ga K "BadPrime") "__init__" = some (some (.ref (spAd K "CutError"))) := o_BadPrime.resolve_left (by decide)
  have xp_BadPrime : XP K (He.ga K "BadPrime") := ⟨E_BadPrime.xf, E_BadPrime.ox.np, E_BadPrime.ox.nw⟩
  have up_BadGallery : PySem.W.ks_superIn K (He.ga K "BadGallery") (He.ga K "BadGallery") "__init__" = some (some (.ref (spAd K "CutError"))) := o_BadGallery.resolve_left (by decide)
  have xp_BadGallery : XP K (He.ga K "BadGallery") := ⟨E_BadGallery.xf, E_BadGallery.ox.np, E_BadGallery.ox.nw⟩
  have up_BadHeights : PySem.W.ks_superIn K (He.ga K "BadHeights") (He.ga K "BadHeights") "__init__" = some (some (.ref (spAd K "CutError"))) := o_BadHeights.resolve_left (by decide)
  have xp_BadHeights : XP K (He.ga K "BadHeights") := ⟨E_BadHeights.xf, E_BadHeights.ox.np, E_BadHeights.ox.nw⟩
  have up_BadElement : PySem.W.ks_superIn K (He.ga K "BadElement") (He.ga K "BadElement") "__init__" = some (some (.ref (spAd K "CutError"))) := o_BadElement.resolve_left (by decide)
  have xp_BadElement : XP K (He.ga K "BadElement") := ⟨E_BadElement.xf, E_BadElement.ox.np, E_BadElement.ox.nw⟩
  have up_BadWeights : PySem.W.ks_superIn K (He.ga K "BadWeights") (He.ga K "BadWeights") "__init__" = some (some (.ref (spAd K "CutError"))) := o_BadWeights.resolve_left (by decide)
  have xp_BadWeights : XP K (He.ga K "BadWeights") := ⟨E_BadWeights.xf, E_BadWeights.ox.np, E_BadWeights.ox.nw⟩
  have up_BadForms : PySem.W.ks_superIn K (He.ga K "BadForms") (He.ga K "BadForms") "__init__" = some (some (.ref (spAd K "CutError"))) := o_BadForms.resolve_left (by decide)
  have xp_BadForms : XP K (He.ga K "BadForms") := ⟨E_BadForms.xf, E_BadForms.ox.np, E_BadForms.ox.nw⟩
  have up_BadGraph : PySem.W.ks_superIn K (He.ga K "BadGraph") (He.ga K "BadGraph") "__init__" = some (some (.ref (spAd K "CutError"))) := o_BadGraph.resolve_left (by decide)
  have xp_BadGraph : XP K (He.ga K "BadGraph") := ⟨E_BadGraph.xf, E_BadGraph.ox.np, E_BadGraph.ox.nw⟩
  have up_BadLabel : PySem.W.ks_superIn K (He.ga K "BadLabel") (He.ga K "BadLabel") "__init__" = some (some (.ref (spAd K "CutError"))) := o_BadLabel.resolve_left (by decide)
  have xp_BadLabel : XP K (He.ga K "BadLabel") := ⟨E_BadLabel.xf, E_BadLabel.ox.np, E_BadLabel.ox.nw⟩
  have up_Unlike : PySem.W.ks_superIn K (He.ga K "Unlike") (He.ga K "Unlike") "__init__" = some (some (.ref (spAd K "CutError"))) := o_Unlike.resolve_left (by decide)
  have xp_Unlike : XP K (He.ga K "Unlike") := ⟨E_Unlike.xf, E_Unlike.ox.np, E_Unlike.ox.nw⟩
  have up_NothingThere : PySem.W.ks_superIn K (He.ga K "NothingThere") (He.ga K "NothingThere") "__init__" = some (some (.ref (spAd K "CutError"))) := o_NothingThere.resolve_left (by decide)
  have xp_NothingThere : XP K (He.ga K "NothingThere") := ⟨E_NothingThere.xf, E_NothingThere.ox.np, E_NothingThere.ox.nw⟩
  have up_TooMany : PySem.W.ks_superIn K (He.ga K "TooMany") (He.ga K "TooMany") "__init__" = some (some (.ref (spAd K "CutError"))) := o_TooMany.resolve_left (by decide)
  have xp_TooMany : XP K (He.ga K "TooMany") := ⟨E_TooMany.xf, E_TooMany.ox.np, E_TooMany.ox.nw⟩
  have kf : KF K [He.ga K "BadNumber", He.ga K "BadPlane", He.ga K "BadCut", He.ga K "BadText", He.ga K "BadRow", He.ga K "BadPoint", He.ga K "BadFlat", He.ga K "BadPrime", He.ga K "BadGallery", He.ga K "BadHeights", He.ga K "BadElement", He.ga K "BadWeights", He.ga K "BadForms", He.ga K "BadGraph", He.ga K "BadLabel", He.ga K "Unlike", He.ga K "NothingThere", He.ga K "TooMany", He.ga K "CutError"] := kf_of c
  have e := hfa.symm.trans g_law
  cases e
  have bnd := FunD.bindsA (ps := ["script"]) F_law fun _ _ _ _ _ _ us hl => match us, hl with | [_], _ => rfl
  refine ⟨fd_law, fun s v => bnd s [v] rfl, fun base KB GB => ?_⟩
  have k_CutError : MkC P w K mg base (He.ga K "CutError") "CutError" := mkC_low S_CutError E_CutError B_CutError u_super C_CutError (fun env => rfl) (by decide +kernel)
  have k_BadNumber : MkC P w K mg base (He.ga K "BadNumber") "BadNumber" := mkC_high S_BadNumber E_BadNumber B_BadNumber up_BadNumber S_CutError B_CutError u_super C_BadNumber (fun env => rfl) C_CutError (fun env => rfl) (by decide +kernel)
  have k_BadPlane : MkC P w K mg base (He.ga K "BadPlane") "BadPlane" := mkC_high S_BadPlane E_BadPlane B_BadPlane up_BadPlane S_CutError B_CutError u_super C_BadPlane (fun env => rfl) C_CutError (fun env => rfl) (by decide +kernel)
  have k_BadCut : MkC P w K mg base (He.ga K "BadCut") "BadCut" := mkC_high S_BadCut E_BadCut B_BadCut up_BadCut S_CutError B_CutError u_super C_BadCut (fun env => rfl) C_CutError (fun env => rfl) (by decide +kernel)
  have k_BadText : MkC P w K mg base (He.ga K "BadText") "BadText" := mkC_high S_BadText E_BadText B_BadText up_BadText S_CutError B_CutError u_super C_BadText (fun env => rfl) C_CutError (fun env => rfl) (by decide +kernel)
  have k_BadRow : MkC P w K mg base (He.ga K "BadRow") "BadRow" := mkC_high S_BadRow E_BadRow B_BadRow up_BadRow S_CutError B_CutError u_super C_BadRow (fun env => rfl) C_CutError (fun env => rfl) (by decide +kernel)
  have k_BadPoint : MkC P w K mg base (He.ga K "BadPoint") "BadPoint" := mkC_high S_BadPoint E_BadPoint B_BadPoint up_BadPoint S_CutError B_CutError u_super C_BadPoint (fun env => rfl) C_CutError (fun env => rfl) (by decide +kernel)
  have k_BadFlat : MkC P w K mg base (He.ga K "BadFlat") "BadFlat" := mkC_high S_BadFlat E_BadFlat B_BadFlat up_BadFlat S_CutError B_CutError u_super C_BadFlat (fun env => rfl) C_CutError (fun env => rfl) (by decide +kernel)
  have k_BadPrime : MkC P w K mg base (He.ga K "BadPrime") "BadPrime" := mkC_high S_BadPrime E_BadPrime B_BadPrime up_BadPrime S_CutError B_CutError u_super C_BadPrime (fun env => rfl) C_CutError (fun env => rfl) (by decide +kernel)
  have k_BadGallery : MkC P w K mg base (He.ga K "BadGallery") "BadGallery" := mkC_high S_BadGallery E_BadGallery B_BadGallery up_BadGallery S_CutError B_CutError u_super C_BadGallery (fun env => rfl) C_CutError (fun env => rfl) (by decide +kernel)
  have k_BadHeights : MkC P w K mg base (He.ga K "BadHeights") "BadHeights" := mkC_high S_BadHeights E_BadHeights B_BadHeights up_BadHeights S_CutError B_CutError u_super C_BadHeights (fun env => rfl) C_CutError (fun env => rfl) (by decide +kernel)
  have k_BadElement : MkC P w K mg base (He.ga K "BadElement") "BadElement" := mkC_high S_BadElement E_BadElement B_BadElement up_BadElement S_CutError B_CutError u_super C_BadElement (fun env => rfl) C_CutError (fun env => rfl) (by decide +kernel)
  have k_BadWeights : MkC P w K mg base (He.ga K "BadWeights") "BadWeights" := mkC_high S_BadWeights E_BadWeights B_BadWeights up_BadWeights S_CutError B_CutError u_super C_BadWeights (fun env => rfl) C_CutError (fun env => rfl) (by decide +kernel)
  have k_BadForms : MkC P w K mg base (He.ga K "BadForms") "BadForms" := mkC_high S_BadForms E_BadForms B_BadForms up_BadForms S_CutError B_CutError u_super C_BadForms (fun env => rfl) C_CutError (fun env => rfl) (by decide +kernel)
  have k_BadGraph : MkC P w K mg base (He.ga K "BadGraph") "BadGraph" := mkC_high S_BadGraph E_BadGraph B_BadGraph up_BadGraph S_CutError B_CutError u_super C_BadGraph (fun env => rfl) C_CutError (fun env => rfl) (by decide +kernel)
  have k_BadLabel : MkC P w K mg base (He.ga K "BadLabel") "BadLabel" := mkC_high S_BadLabel E_BadLabel B_BadLabel up_BadLabel S_CutError B_CutError u_super C_BadLabel (fun env => rfl) C_CutError (fun env => rfl) (by decide +kernel)
  have k_Unlike : MkC P w K mg base (He.ga K "Unlike") "Unlike" := mkC_high S_Unlike E_Unlike B_Unlike up_Unlike S_CutError B_CutError u_super C_Unlike (fun env => rfl) C_CutError (fun env => rfl) (by decide +kernel)
  have k_NothingThere : MkC P w K mg base (He.ga K "NothingThere") "NothingThere" := mkC_high S_NothingThere E_NothingThere B_NothingThere up_NothingThere S_CutError B_CutError u_super C_NothingThere (fun env => rfl) C_CutError (fun env => rfl) (by decide +kernel)
  have k_TooMany : MkC P w K mg base (He.ga K "TooMany") "TooMany" := mkC_high S_TooMany E_TooMany B_TooMany up_TooMany S_CutError B_CutError u_super C_TooMany (fun env => rfl) C_CutError (fun env => rfl) (by decide +kernel)
  have c__law_deck := cal__law_deck (w := w) (base := base) F__law_deck g__law_deck ub h__law_deck
  have c__law_draw := cal__law_draw (w := w) (base := base) F__law_draw g__law_draw ub h__law_draw
  have c__law_is := cal__law_is (w := w) (base := base) F__law_is g__law_is ub h__law_is
  have c__law_all := cal__law_all (w := w) (base := base) F__law_all g__law_all ub k_BadCut g_BadCut k_BadElement g_BadElement k_BadFlat g_BadFlat k_BadForms g_BadForms k_BadGallery g_BadGallery k_BadGraph g_BadGraph k_BadHeights g_BadHeights k_BadLabel g_BadLabel k_BadNumber g_BadNumber k_BadPlane g_BadPlane k_BadPoint g_BadPoint k_BadPrime g_BadPrime k_BadRow g_BadRow k_BadText g_BadText k_BadWeights g_BadWeights k_CutError g_CutError k_NothingThere g_NothingThere k_TooMany g_TooMany k_Unlike g_Unlike h__law_all
  have c__law_bare := cal__law_bare (w := w) (base := base) F__law_bare g__law_bare ub k_BadCut g_BadCut k_BadElement g_BadElement k_BadFlat g_BadFlat k_BadForms g_BadForms k_BadGallery g_BadGallery k_BadGraph g_BadGraph k_BadHeights g_BadHeights k_BadLabel g_BadLabel k_BadNumber g_BadNumber k_BadPlane g_BadPlane k_BadPoint g_BadPoint k_BadPrime g_BadPrime k_BadRow g_BadRow k_BadText g_BadText k_BadWeights g_BadWeights k_CutError g_CutError k_NothingThere g_NothingThere k_TooMany g_TooMany k_Unlike g_Unlike h__law_bare
  have c__law_named := cal__law_named (w := w) (base := base) F__law_named g__law_named ub k_BadCut g_BadCut k_BadElement g_BadElement k_BadFlat g_BadFlat k_BadForms g_BadForms k_BadGallery g_BadGallery k_BadGraph g_BadGraph k_BadHeights g_BadHeights k_BadLabel g_BadLabel k_BadNumber g_BadNumber k_BadPlane g_BadPlane k_BadPoint g_BadPoint k_BadPrime g_BadPrime k_BadRow g_BadRow k_BadText g_BadText k_BadWeights g_BadWeights k_CutError g_CutError k_NothingThere g_NothingThere k_TooMany g_TooMany k_Unlike g_Unlike h__law_named
  have c__law_kinds := cal__law_kinds (w := w) (base := base) F__law_kinds g__law_kinds ub k_BadCut g_BadCut k_BadElement g_BadElement k_BadFlat g_BadFlat k_BadForms g_BadForms k_BadGallery g_BadGallery k_BadGraph g_BadGraph k_BadHeights g_BadHeights k_BadLabel g_BadLabel k_BadNumber g_BadNumber k_BadPlane g_BadPlane k_BadPoint g_BadPoint k_BadPrime g_BadPrime k_BadRow g_BadRow k_BadText g_BadText k_BadWeights g_BadWeights k_CutError g_CutError k_NothingThere g_NothingThere k_TooMany g_TooMany k_Unlike g_Unlike (h__law_kinds kf)
  have c__law_caught := cal__law_caught (w := w) (base := base) F__law_caught g__law_caught ub k_BadCut g_BadCut k_BadElement g_BadElement k_BadFlat g_BadFlat k_BadForms g_BadForms k_BadGallery g_BadGallery k_BadGraph g_BadGraph k_BadHeights g_BadHeights k_BadLabel g_BadLabel k_BadNumber g_BadNumber k_BadPlane g_BadPlane k_BadPoint g_BadPoint k_BadPrime g_BadPrime k_BadRow g_BadRow k_BadText g_BadText k_BadWeights g_BadWeights k_CutError g_CutError k_NothingThere g_NothingThere k_TooMany g_TooMany k_Unlike g_Unlike (h__law_caught kf)
  exact fnP_of F_law scope_law 1 rfl pf_law false (fun cdv A outer s H E hr => ms_law ub c__law_deck c__law_draw c__law_is c__law_all c__law_bare c__law_named c__law_kinds c__law_caught k_BadCut g_BadCut k_BadElement g_BadElement k_BadFlat g_BadFlat k_BadForms g_BadForms k_BadGallery g_BadGallery k_BadGraph g_BadGraph k_BadHeights g_BadHeights k_BadLabel g_BadLabel k_BadNumber g_BadNumber k_BadPlane g_BadPlane k_BadPoint g_BadPoint k_BadPrime g_BadPrime k_BadRow g_BadRow k_BadText g_BadText k_BadWeights g_BadWeights k_CutError g_CutError k_NothingThere g_NothingThere k_TooMany g_TooMany k_Unlike g_Unlike (He.ga K "law") cdv A outer s H E hr) (h_law kf)
end K00
open PySem PySem.W PySem.Calls PyProof.Rows
theorem PySem.Challenge.cw_planecuts_k00_errors_apart_holds : PySem.Challenge.rw_planecuts_k00_errors_apart.Holds := by
  w_on; o_law
  refine HandSHeadRun.head_any (r := OpenLaw.row PySem.Challenge.rw_planecuts_k00_errors_apart) (q := view (OpenLaw.row PySem.Challenge.rw_planecuts_k00_errors_apart).prog [29]) (H := K00.hk) (ob := K00.ob) (M := 20000) (loose := K00.loose) (d := HandSHeadRun.topDef (OpenLaw.row PySem.Challenge.rw_planecuts_k00_errors_apart).prog 29) (kwd := []) K00.ob_eq
    (by kernel_rfl) (fun s => by kernel_rfl) K00.run (by kernel_rfl) (by kernel_rfl) (by kernel_rfl) (by rfl) (by first | assumption | decide +kernel) (by decide +kernel) ⟨rfl, rfl, rfl, rfl, rfl, by decide +kernel⟩ ?hw ?hc
  case hw => w_witness2
  case hc =>
    refine DL.walk_ofG (l := PySem.Challenge.rw_planecuts_k00_errors_apart) (n := 63) (k := 2) (x := "script") (m := K00.pf_law) rfl (by decide) (by kernel_rfl) (DL.roomCaller.mono (by decide)) ?F ?m
    case F =>
      intro w mg fa h Y G hmg0
      obtain ⟨K, KX, c⟩ := Y
      have hmg : mg ("law" : PySem.Str) = some (.ref fa) := by
        have e : (HandSHeadRun.topDef (OpenLaw.row PySem.Challenge.rw_planecuts_k00_errors_apart).prog 29).name = ("law" : PySem.Str) := by kernel_rfl
        rw [← e]
        exact hmg0
      obtain ⟨fd, hb, hF⟩ := K00.facts (w := w) KX G hmg c
      exact ⟨K, fd, KX, hb, hF⟩
    case m => exact fun ns hl _ => ⟨ns, rfl, hl, rfl⟩


