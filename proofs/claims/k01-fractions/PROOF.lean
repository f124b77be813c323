import PyProof.Rows.All
import Wide.All
import OpenK.AllK
import Wide.FinOn
import HandS.ForMost
import HandS.ForExc
import HandS.Evl
import HandS.Wide
import HandS.TupAny
import HandS.IsInst
import HandS.Deep
import HandS.SortInts
import HandS.Defaults
import HandS.ExcOwn
import HandS.TryMany
import HandS.Style
import HandS.ExcSuper
import HandS.ExcInit
import HandS.ExcValue
import KE.KSuper
import KE.KExcInit
import HandS.ExcField
import HandS.Walk
import HandS.Zip
import HandS.Ends
import HandS.EndBits
import HandS.HeadEnd
import HandS.Head0
import HandS.Head1
import HandS.Head2
import HandS.HeadHook1
import HandS.HeadHook2
import PySem.Challenge.RW_planecuts_k01_fractions
set_option Elab.async false
set_option linter.all false
set_option maxRecDepth 100000
set_option maxHeartbeats 2000000
/-! # A pure layer over the hand layer: data trees, a small store of mutable things, readings over these -/
namespace DL
open PySem PySem.Spec L2
open Evl (Ex)

/-- data: trees; loc k: the k-th mutable thing of the store -/
inductive D where
  | non | bl (b : Bool) | int (i : Int) | str (x : Str) | tup (xs : List D) | lst (xs : List D) | scr (xs : List D) | loc (k : Nat) | ty (n : String) | cls (a : Addr)
/-- what stands in the store -/
inductive MO where
  | dead | lst (xs : List D) | frz (xs : List D)
abbrev MH := List MO
abbrev SL := List (Option D)
/-- the names' values; what is wanted of an exception: the values, its class, its place, its word, the store -/
structure RH where
  sl : SL
  ex : SL → Addr → D → Str → MH → Prop
  xd : Option (Addr × D × Str) := none
def live : Option MO → Prop
  | some (.lst _) => True
  | _ => False

mutual
def Rel (K : PySem.W.Frag) (F : Hp) (al : List Addr) : D → V → Prop
  | .non, v => v = .non
  | .bl b, v => v = .bl b
  | .int i, v => v = .int i
  | .str x, v => v = .str x
  | .tup ds, v => ∃ a xs, v = .ref a ∧ SqT K F a xs ∧ RelA K F al ds xs
  | .lst ds, v => ∃ a xs, v = .ref a ∧ F a = some (.lst xs) ∧ RelA K F al ds xs
  | .scr ds, v => ∃ a xs, v = .ref a ∧ SqL K F a xs ∧ RelA K F al ds xs
  | .loc k, v => ∃ a, al[k]? = some a ∧ v = .ref a
  | .ty n, v => v = .ty n
  | .cls a, v => v = .ref a
def RelA (K : PySem.W.Frag) (F : Hp) (al : List Addr) : List D → List V → Prop
  | [], xs => xs = []
  | d :: ds, xs => ∃ y ys, xs = y :: ys ∧ Rel K F al d y ∧ RelA K F al ds ys
end

def Pre (a b : List Addr) : Prop := ∀ (k : Nat) (x : Addr), a[k]? = some x → b[k]? = some x
theorem Pre.refl (a : List Addr) : Pre a a := fun _ _ h => h
theorem Pre.trans {a b c : List Addr} (h : Pre a b) (g : Pre b c) : Pre a c := fun k x e => g k x (h k x e)
theorem Pre.app (a b : List Addr) : Pre a (a ++ b) := fun k x e => by
  rw [List.getElem?_append_left (List.getElem?_eq_some_iff.mp e).1]
  exact e

section
variable {K : PySem.W.Frag} {F F' : Hp} {al al' : List Addr}
mutual
theorem Rel.mono (e : Ex F F') (p : Pre al al') : ∀ {d : D} {v : V}, Rel K F al d v → Rel K F' al' d v
  | .non, _, h => h
  | .bl _, _, h => h
  | .int _, _, h => h
  | .str _, _, h => h
  | .tup _, _, ⟨a, xs, h1, h2, h3⟩ => ⟨a, xs, h1, Evl.ex_t e h2, RelA.mono e p h3⟩
  | .lst _, _, ⟨a, xs, h1, h2, h3⟩ => ⟨a, xs, h1, e _ _ h2, RelA.mono e p h3⟩
  | .scr _, _, ⟨a, xs, h1, h2, h3⟩ => ⟨a, xs, h1, Evl.ex_l e h2, RelA.mono e p h3⟩
  | .loc _, _, ⟨a, h1, h2⟩ => ⟨a, p _ _ h1, h2⟩
  | .ty _, _, h => h
  | .cls _, _, h => h
theorem RelA.mono (e : Ex F F') (p : Pre al al') : ∀ {ds : List D} {xs : List V}, RelA K F al ds xs → RelA K F' al' ds xs
  | [], _, h => h
  | _ :: _, _, ⟨y, ys, h1, h2, h3⟩ => ⟨y, ys, h1, Rel.mono e p h2, RelA.mono e p h3⟩
end
theorem RelA.length : ∀ {ds : List D} {xs : List V}, RelA K F al ds xs → xs.length = ds.length
  | [], _, h => by cases h; rfl
  | _ :: _, _, ⟨y, ys, h1, _, h3⟩ => by subst h1; simp [RelA.length h3]
theorem RelA.app : ∀ {ds es : List D} {xs ys : List V}, RelA K F al ds xs → RelA K F al es ys → RelA K F al (ds ++ es) (xs ++ ys)
  | [], _, _, _, h, g => by cases h; exact g
  | _ :: _, _, _, _, ⟨y, ys, h1, h2, h3⟩, g => ⟨y, ys ++ _, by rw [h1]; rfl, h2, RelA.app h3 g⟩
theorem RelA.one {d : D} {v : V} (h : Rel K F al d v) : RelA K F al [d] [v] := ⟨v, [], rfl, h, rfl⟩
theorem RelA.get : ∀ {ds : List D} {xs : List V} {i : Nat} {d : D}, RelA K F al ds xs → ds[i]? = some d → ∃ v, xs[i]? = some v ∧ Rel K F al d v
  | _ :: _, _, 0, _, ⟨y, ys, h1, h2, _⟩, e => by
    simp at e; subst e; subst h1; exact ⟨y, rfl, h2⟩
  | _ :: _, _, i + 1, _, ⟨y, ys, h1, _, h3⟩, e => by
    obtain ⟨v, e1, r⟩ := RelA.get (i := i) h3 (by simpa using e)
    subst h1
    exact ⟨v, by simpa using e1, r⟩
theorem RelA.drop : ∀ {ds : List D} {xs : List V} (n : Nat), RelA K F al ds xs → RelA K F al (ds.drop n) (xs.drop n)
  | _, _, 0, h => h
  | [], _, _ + 1, h => by cases h; rfl
  | _ :: _, _, n + 1, ⟨y, ys, h1, _, h3⟩ => by subst h1; exact RelA.drop n h3
theorem RelA.take : ∀ {ds : List D} {xs : List V} (n : Nat), RelA K F al ds xs → RelA K F al (ds.take n) (xs.take n)
  | _, _, 0, h => by simp [RelA]
  | [], _, _ + 1, h => by cases h; rfl
  | _ :: _, _, n + 1, ⟨y, ys, h1, h2, h3⟩ => by subst h1; exact ⟨y, _, rfl, h2, RelA.take n h3⟩
theorem RelA.set {d : D} {v : V} (r : Rel K F al d v) : ∀ {ds : List D} {xs : List V} (i : Nat), RelA K F al ds xs → RelA K F al (ds.set i d) (xs.set i v)
  | [], _, _, h => by cases h; rfl
  | _ :: _, _, 0, ⟨y, ys, h1, _, h3⟩ => by subst h1; exact ⟨v, ys, rfl, r, h3⟩
  | _ :: _, _, i + 1, ⟨y, ys, h1, h2, h3⟩ => by subst h1; exact ⟨y, _, rfl, h2, RelA.set r i h3⟩
theorem RelA.rep : ∀ {ds : List D} {xs : List V} (n : Nat), RelA K F al ds xs → RelA K F al (List.replicate n ds).flatten (List.replicate n xs).flatten
  | _, _, 0, _ => rfl
  | ds, xs, n + 1, h => by
    rw [List.replicate_succ, List.replicate_succ, List.flatten_cons, List.flatten_cons]
    exact RelA.app h (RelA.rep n h)
theorem RelA.rev : ∀ {ds : List D} {xs : List V}, RelA K F al ds xs → RelA K F al ds.reverse xs.reverse
  | [], _, h => by cases h; rfl
  | _ :: _, _, ⟨y, ys, h1, h2, h3⟩ => by
    subst h1
    rw [List.reverse_cons, List.reverse_cons]
    exact RelA.app (RelA.rev h3) (RelA.one h2)
end

/-! ### no place of the store within -/
mutual
def D.plain : D → Bool
  | .tup ds => plainA ds
  | .lst ds => plainA ds
  | .scr ds => plainA ds
  | .loc _ => false
  | .ty _ => true
  | .cls _ => true
  | .non => true
  | .bl _ => true
  | .int _ => true
  | .str _ => true
def plainA : List D → Bool
  | [] => true
  | d :: ds => D.plain d && plainA ds
end
section
variable {K : PySem.W.Frag} {F : Hp} {al al' : List Addr}
mutual
theorem Rel.plain : ∀ {d : D} {v : V}, D.plain d = true → Rel K F al d v → Rel K F al' d v
  | .non, _, _, h => h
  | .bl _, _, _, h => h
  | .int _, _, _, h => h
  | .str _, _, _, h => h
  | .tup _, _, p, ⟨a, xs, h1, h2, h3⟩ => ⟨a, xs, h1, h2, RelA.plain p h3⟩
  | .lst _, _, p, ⟨a, xs, h1, h2, h3⟩ => ⟨a, xs, h1, h2, RelA.plain p h3⟩
  | .scr _, _, p, ⟨a, xs, h1, h2, h3⟩ => ⟨a, xs, h1, h2, RelA.plain p h3⟩
  | .loc _, _, p, _ => by cases p
  | .ty _, _, _, h => h
  | .cls _, _, _, h => h
theorem RelA.plain : ∀ {ds : List D} {xs : List V}, plainA ds = true → RelA K F al ds xs → RelA K F al' ds xs
  | [], _, _, h => h
  | _ :: _, _, p, ⟨y, ys, h1, h2, h3⟩ => by
    have p' := Bool.and_eq_true_iff.mp p
    exact ⟨y, ys, h1, Rel.plain p'.1 h2, RelA.plain p'.2 h3⟩
end
end
def MO.plain : MO → Bool
  | .dead => true
  | .lst ds => plainA ds
  | .frz ds => plainA ds

/-! ### the state -/
/-- what is said of one thing of the store -/
def MAt (K : PySem.W.Frag) (F : Hp) (al : List Addr) (H : Hp) (a : Addr) : MO → Prop
  | .dead => True
  | .frz ds => ∃ xs, F a = some (.lst xs) ∧ RelA K F al ds xs
  | .lst ds => F a = none ∧ ∃ xs, H a = some (.lst xs) ∧ RelA K F al ds xs
structure HR (K : PySem.W.Frag) (F : Hp) (al : List Addr) (H : Hp) (M : MH) : Prop where
  ext : Ex F H
  len : al.length = M.length
  trk : ∀ (k : Nat) (a : Addr), al[k]? = some a → H a ≠ none
  inj : ∀ (k j : Nat) (a : Addr), al[k]? = some a → al[j]? = some a → live M[k]? → k = j
  mem : ∀ (k : Nat) (a : Addr) (o : MO), al[k]? = some a → M[k]? = some o → MAt K F al H a o
/-- a step of the state -/
structure Stp (K : PySem.W.Frag) (F : Hp) (al : List Addr) (H : Hp) (M : MH) (F' : Hp) (al' : List Addr) (H' : Hp) (M' : MH) : Prop where
  ex : Ex F F'
  pre : Pre al al'
  hr : HR K F' al' H' M'
  fr : ∀ (b : Addr) (o : HO), H b = some o → (∀ k : Nat, al[k]? = some b → ¬ live M[k]?) → H' b = some o
  old : ∀ k : Nat, k < M.length → live M'[k]? → live M[k]?
  new : ∀ (k : Nat) (a : Addr), al'[k]? = some a → M.length ≤ k → H a = none
  le : M.length ≤ M'.length
  fzn : ∀ a : Addr, F a = none → F' a = none ∨ H a = none ∨ ∃ k : Nat, al[k]? = some a ∧ live M[k]?
section
variable {K : PySem.W.Frag} {F F' F2 : Hp} {al al' al2 : List Addr} {H H' H2 : Hp} {M M' M2 : MH}
theorem Stp.refl (h : HR K F al H M) : Stp K F al H M F al H M :=
  ⟨fun _ _ e => e, Pre.refl _, h, fun _ _ e _ => e, fun _ _ l => l, fun k a e l => by
    have := (List.getElem?_eq_some_iff.mp e).1
    have := h.len
    omega, Nat.le_refl _, fun _ e => .inl e⟩
theorem Stp.trans (h0 : HR K F al H M) (a : Stp K F al H M F' al' H' M') (b : Stp K F' al' H' M' F2 al2 H2 M2) : Stp K F al H M F2 al2 H2 M2 where
  ex := a.ex.trans b.ex
  pre := a.pre.trans b.pre
  hr := b.hr
  fr := fun c o e n => b.fr c o (a.fr c o e n) fun k q l => by
    by_cases hk : k < M.length
    · have l' := a.old k hk l
      have hk' : k < al.length := by rw [h0.len]; exact hk
      have e1 : al[k]? = some al[k] := by simp [hk']
      have e2 := a.pre k _ e1
      rw [q] at e2
      exact n k (e1.trans e2.symm) l'
    · have := a.new k c q (by omega)
      rw [this] at e; cases e
  old := fun k hk l => a.old k hk (b.old k (Nat.lt_of_lt_of_le hk a.le) l)
  new := fun k c q l => by
    by_cases hk : k < M'.length
    · have hk' : k < al'.length := by rw [a.hr.len]; exact hk
      have e1 : al'[k]? = some al'[k] := by simp [hk']
      have e2 := b.pre k _ e1
      rw [q] at e2
      exact a.new k c (e1.trans e2.symm) l
    · have h1 := b.new k c q (by omega)
      cases e : H c with
      | none => rfl
      | some o =>
        exfalso
        have e' : H' c = some o := a.fr c o e fun j qj lj => by
          have hlt : j < M.length := by
            have := (List.getElem?_eq_some_iff.mp qj).1
            rw [h0.len] at this; exact this
          have q2 := b.pre j c (a.pre j c qj)
          -- a place that lives has its object
          have t := a.hr.trk j c (a.pre j c qj)
          exact t h1
        rw [h1] at e'; cases e'
  le := Nat.le_trans a.le b.le
  fzn := fun c e => by
    rcases a.fzn c e with e1 | e1 | e1
    · rcases b.fzn c e1 with e2 | e2 | ⟨k, e2, l⟩
      · exact .inl e2
      · by_cases hl : ∃ k : Nat, al[k]? = some c ∧ live M[k]?
        · exact .inr (.inr hl)
        · cases q : H c with
          | none => exact .inr (.inl rfl)
          | some o =>
            have := a.fr c o q fun k e3 l => hl ⟨k, e3, l⟩
            rw [this] at e2; cases e2
      · by_cases hk : k < M.length
        · have hk' : k < al.length := by rw [h0.len]; exact hk
          have e3 : al[k]? = some al[k] := by simp [hk']
          have e4 := a.pre k _ e3
          rw [e2] at e4
          exact .inr (.inr ⟨k, e3.trans e4.symm, a.old k hk l⟩)
        · exact .inr (.inl (a.new k c e2 (by omega)))
    · exact .inr (.inl e1)
    · exact .inr (.inr e1)
end
/-! ### the names' values -/
def ES (K : PySem.W.Frag) (F : Hp) (al : List Addr) (s : L2.St) (r : SL) : Prop := s.length = r.length ∧ ∀ (i : Nat) (d : D), r[i]? = some (some d) → ∃ v, s[i]? = some (some v) ∧ Rel K F al d v
theorem ES.mono {K : PySem.W.Frag} {F F' : Hp} {al al' : List Addr} {s : L2.St} {r : SL} (h : ES K F al s r) (e : Ex F F') (p : Pre al al') : ES K F' al' s r :=
  ⟨h.1, fun i d q => let ⟨v, a, b⟩ := h.2 i d q; ⟨v, a, b.mono e p⟩⟩
/-- an exception's own dict -/
def XD (K : PySem.W.Frag) (F : Hp) (al : List Addr) (H : Hp) (dx : Option Addr) (p : D) (w : Str) : Prop :=
  ∃ (d : Addr) (fs : List (Str × V)) (v : V), dx = some d ∧ H d = some (.xd fs) ∧ fs.lookup ("place" : Str) = some v ∧ Rel K F al p v ∧ fs.lookup ("word" : Str) = some (.str w)
theorem XD.step {K : PySem.W.Frag} {F F' : Hp} {al al' : List Addr} {H H' : Hp} {M M' : MH} {dx : Option Addr} {p : D} {w : Str} (h : XD K F al H dx p w) (h0 : HR K F al H M) (a : Stp K F al H M F' al' H' M') : XD K F' al' H' dx p w := by
  obtain ⟨d, fs, v, e1, e2, e3, e4, e5⟩ := h
  refine ⟨d, fs, v, e1, a.fr d _ e2 fun k ek l => ?_, e3, e4.mono a.ex a.pre, e5⟩
  cases hm : M[k]? with
  | none => rw [hm] at l; exact l
  | some o =>
    rw [hm] at l
    cases o with
    | lst ds =>
      obtain ⟨_, xs, e6, _⟩ := h0.mem k d _ ek hm
      rw [e2] at e6; cases e6
    | _ => exact l
/-- the names' values, and what is wanted of an exception; the one that was caught -/
structure ER (K : PySem.W.Frag) (W : WX) (F : Hp) (al : List Addr) (H : Hp) (M : MH) (s : L2.St) (r : RH) : Prop where
  es : ES K F al s r.sl
  xe : ∀ (C : Addr) (dx : Option Addr) (p : D) (w : Str) (s' : L2.St) (sl : SL) (H' : Hp) (F' : Hp) (al' : List Addr) (M' : MH), Stp K F al H M F' al' H' M' → ES K F' al' s' sl → XD K F' al' H' dx p w → r.ex sl C p w M' → W (.ref C) dx s' H'
  xd : ∀ (d : Addr) (p : D) (w : Str), r.xd = some (d, p, w) → XD K F al H (some d) p w
theorem ER.step {K : PySem.W.Frag} {W : WX} {F F' : Hp} {al al' : List Addr} {H H' : Hp} {M M' : MH} {s : L2.St} {r : RH} (h : ER K W F al H M s r) (h0 : HR K F al H M) (a : Stp K F al H M F' al' H' M') : ER K W F' al' H' M' s r :=
  ⟨h.es.mono a.ex a.pre, fun C dx p w s' sl H2 F2 al2 M2 b => h.xe C dx p w s' sl H2 F2 al2 M2 (a.trans h0 b), fun d p w e => (h.xd d p w e).step h0 a⟩
end DL

set_option Elab.async false
set_option linter.all false
set_option maxRecDepth 100000
set_option maxHeartbeats 2000000
namespace DL
open PySem PySem.Spec L2
open Evl (Ex)

/-! ### readings over data -/
abbrev DK := D → MH → Prop
abbrev DE := RH → MH → DK → Prop
abbrev DT := RH → MH → (Bool → MH → Prop) → Prop
abbrev DA := RH → MH → (List D → MH → Prop) → Prop
structure DEnds where
  nx : RH → MH → Prop
  rt : DK
  bk : RH → MH → Prop
  ct : RH → MH → Prop
abbrev DS := DEnds → RH → MH → Prop

def lE (K : PySem.W.Frag) (W : WX) (m : DE) : TE := fun s H Q => ∃ F al r M, ∃ R : DK, ER K W F al H M s r ∧ HR K F al H M ∧ m r M R ∧ ∀ v H' F' al' d M', Stp K F al H M F' al' H' M' → Rel K F' al' d v → R d M' → Q v H'
def lT (K : PySem.W.Frag) (W : WX) (m : DT) : TT := fun s H Q => ∃ F al r M, ∃ R : Bool → MH → Prop, ER K W F al H M s r ∧ HR K F al H M ∧ m r M R ∧ ∀ b H' F' al' M', Stp K F al H M F' al' H' M' → R b M' → Q b H'
def lA (K : PySem.W.Frag) (W : WX) (m : DA) : TA := fun s H Q => ∃ F al r M, ∃ R : List D → MH → Prop, ER K W F al H M s r ∧ HR K F al H M ∧ m r M R ∧ ∀ vs H' F' al' ds M', Stp K F al H M F' al' H' M' → RelA K F' al' ds vs → R ds M' → Q vs H'
/-- behind a statement -/
def Aft (K : PySem.W.Frag) (W : WX) (F : Hp) (al : List Addr) (H : Hp) (M : MH) (P : RH → MH → Prop) (Q : L2.St → Hp → Prop) : Prop :=
  ∀ s' H' F' al' r' M', Stp K F al H M F' al' H' M' → ER K W F' al' H' M' s' r' → P r' M' → Q s' H'
def lS (K : PySem.W.Frag) (W : WX) (m : DS) : TS := fun D s H => ∃ F al r M, ∃ E : DEnds, ER K W F al H M s r ∧ HR K F al H M ∧ m E r M ∧ Aft K W F al H M E.nx D.nx ∧ Aft K W F al H M E.bk D.bk ∧ Aft K W F al H M E.ct D.ct ∧
  ∀ v H' F' al' d M', Stp K F al H M F' al' H' M' → Rel K F' al' d v → E.rt d M' → D.rt v H'
theorem Aft.trans {K : PySem.W.Frag} {W : WX} {F F' : Hp} {al al' : List Addr} {H H' : Hp} {M M' : MH} {P : RH → MH → Prop} {Q : L2.St → Hp → Prop} (h0 : HR K F al H M) (a : Stp K F al H M F' al' H' M') (h : Aft K W F al H M P Q) : Aft K W F' al' H' M' P Q :=
  fun s' H2 F2 al2 r' M2 b e p => h s' H2 F2 al2 r' M2 (a.trans h0 b) e p

def ME (X : Cx) (W : WX) (e : Expr) (m : DE) : Prop := PE X e (lE X.K W m)
def MT (X : Cx) (W : WX) (e : Expr) (m : DT) : Prop := PT X e (lT X.K W m)
def MW (X : Cx) (W : WX) (e : Expr) (m : DT) : Prop := PW X e (lT X.K W m)
def MA (X : Cx) (W : WX) (es : List Expr) (m : DA) : Prop := PA X es (lA X.K W m)
def MS (X : Cx) (W : WX) (st : Stmt) (m : DS) : Prop := PS X st (lS X.K W m)
def MSs (X : Cx) (W : WX) (st : List Stmt) (m : DS) : Prop := PSs X st (lS X.K W m)

section
variable {X : Cx} {e : Expr} {es : List Expr} {st : Stmt} {sts : List Stmt}
theorem PE.imp {t t' : TE} (h : PE X e t) (i : ∀ s H Q, t' s H Q → t s H Q) : PE X e t' := ⟨fun pins s σ H Q I q => h.run pins s σ H Q I (i _ _ _ q)⟩
theorem PT.imp {t t' : TT} (h : PT X e t) (i : ∀ s H Q, t' s H Q → t s H Q) : PT X e t' := ⟨fun pins s σ H Q I q => h.run pins s σ H Q I (i _ _ _ q)⟩
theorem PW.imp {t t' : TT} (h : PW X e t) (i : ∀ s H Q, t' s H Q → t s H Q) : PW X e t' := ⟨fun wh pins s σ H Q I q => h.run wh pins s σ H Q I (i _ _ _ q)⟩
theorem PA.imp {t t' : TA} (h : PA X es t) (i : ∀ s H Q, t' s H Q → t s H Q) : PA X es t' := ⟨fun pos pins s σ H Q I q => h.run pos pins s σ H Q I (i _ _ _ q)⟩
theorem PS.imp {t t' : TS} (h : PS X st t) (i : ∀ D s H, t' D s H → t D s H) : PS X st t' := ⟨fun pins s σ H D I q => h.run pins s σ H D I (i _ _ _ q)⟩
theorem PSs.imp {t t' : TS} (h : PSs X sts t) (i : ∀ D s H, t' D s H → t D s H) : PSs X sts t' := ⟨fun pins s σ H D I q => h.run pins s σ H D I (i _ _ _ q)⟩
end

/-! ### the ends of a reading by values -/
def Out (K : PySem.W.Frag) (F : Hp) (al : List Addr) (H : Hp) (M : MH) (R : DK) (Q : VK) : Prop :=
  ∀ v H' F' al' d M', Stp K F al H M F' al' H' M' → Rel K F' al' d v → R d M' → Q v H'
/-- a new list: data for ever, or a new thing of the store -/
def nw : Bool → List D → MH → DK → Prop
  | true, ds, M, R => R (.lst ds) M
  | false, ds, M, R => R (.loc M.length) (M ++ [.lst ds])
section
variable {K : PySem.W.Frag} {F : Hp} {al : List Addr} {H : Hp} {M : MH} {R : DK} {Q : VK} {p : Addr} {ds : List D} {xs : List V} {fz : Bool}
theorem Out.pure {d : D} {v : V} (k : Out K F al H M R Q) (h : HR K F al H M) (r : Rel K F al d v) (q : R d M) : Q v H := k v H F al d M (Stp.refl h) r q
theorem Out.pq {d : D} {v : V} (k : Out K F al H M R Q) (h : HR K F al H M) (q : R d M) (r : Rel K F al d v) : Q v H := Out.pure k h r q
theorem MAt.mono {F' H' : Hp} {al' : List Addr} {a : Addr} : ∀ {o : MO}, MAt K F al H a o → Ex F F' → Pre al al' → (∀ u, F a = none → H a = some u → H' a = some u) → (F a = none → F' a = none) → MAt K F' al' H' a o
  | .dead, _, _, _, _, _ => trivial
  | .frz _, ⟨xs, e, r⟩, x, p, _, _ => ⟨xs, x _ _ e, r.mono x p⟩
  | .lst _, ⟨n, xs, e, r⟩, x, p, hh, hf => ⟨hf n, xs, hh _ n e, r.mono x p⟩
/-- a fresh object, data for ever -/
theorem HR.newF {o : HO} (h : HR K F al H M) (hp : H p = none) : Stp K F al H M (upd F p o) al (upd H p o) M := by
  have fp : F p = none := Evl.fresh_back h.ext hp
  have ne : ∀ (k : Nat) (a : Addr), al[k]? = some a → a ≠ p := fun k a e z => h.trk k a e (by rw [z]; exact hp)
  refine ⟨Evl.Ex.new fp, Pre.refl _, ⟨?_, h.len, ?_, h.inj, ?_⟩, fun b u e _ => by rw [upd_ne (ne_of_none e hp)]; exact e, fun _ _ l => l, fun k a e l => ?_, Nat.le_refl _, fun a e => ?_⟩
  · intro a u e
    by_cases ha : a = p
    · subst ha; rw [upd_same] at e ⊢; exact e
    · rw [upd_ne ha] at e ⊢; exact h.ext a u e
  · intro k a e
    rw [upd_ne (ne k a e)]; exact h.trk k a e
  · intro k a u e1 e2
    refine (h.mem k a u e1 e2).mono (Evl.Ex.new fp) (Pre.refl _) (fun w _ q => ?_) (fun q => ?_)
    · rw [upd_ne (ne k a e1)]; exact q
    · rw [upd_ne (ne k a e1)]; exact q
  · have := (List.getElem?_eq_some_iff.mp e).1
    have := h.len
    omega
  · by_cases ha : a = p
    · subst ha; exact .inr (.inl hp)
    · rw [upd_ne ha]; exact .inl e
theorem app_get {α : Type} {l : List α} {x y : α} {k : Nat} (e : (l ++ [x])[k]? = some y) : (l[k]? = some y ∧ k < l.length) ∨ (k = l.length ∧ x = y) := by
  by_cases hk : k < l.length
  · rw [List.getElem?_append_left hk] at e
    exact .inl ⟨e, hk⟩
  · rw [List.getElem?_append_right (by omega)] at e
    have h0 : k - l.length = 0 := by
      cases hn : k - l.length with
      | zero => rfl
      | succ n => rw [hn] at e; simp at e
    rw [h0] at e
    simp at e
    exact .inr ⟨by omega, e⟩
/-- a fresh list, a new thing of the store -/
theorem HR.newM (h : HR K F al H M) (hp : H p = none) (r : RelA K F al ds xs) : Stp K F al H M F (al ++ [p]) (upd H p (.lst xs)) (M ++ [.lst ds]) := by
  have fp : F p = none := Evl.fresh_back h.ext hp
  have ne : ∀ (k : Nat) (a : Addr), al[k]? = some a → a ≠ p := fun k a e z => h.trk k a e (by rw [z]; exact hp)
  have lm : ∀ k, k < M.length → (M ++ [MO.lst ds])[k]? = M[k]? := fun k hk => List.getElem?_append_left hk
  refine ⟨fun _ _ e => e, Pre.app _ _, ⟨?_, by simp [h.len], ?_, ?_, ?_⟩, fun b u e _ => by rw [upd_ne (ne_of_none e hp)]; exact e, fun k hk l => by rw [lm k hk] at l; exact l, fun k a e l => ?_, by simp, fun _ e => .inl e⟩
  · intro a u e
    have ha : a ≠ p := fun z => by rw [z, fp] at e; cases e
    rw [upd_ne ha]; exact h.ext a u e
  · intro k a e
    rcases app_get e with ⟨e, _⟩ | ⟨_, e⟩
    · rw [upd_ne (ne k a e)]; exact h.trk k a e
    · subst e; rw [upd_same]; simp
  · intro k j a e1 e2 l
    rcases app_get e1 with ⟨e1, k1⟩ | ⟨k1, e1⟩
    · rcases app_get e2 with ⟨e2, k2⟩ | ⟨k2, e2⟩
      · rw [lm k (by have := h.len; omega)] at l
        exact h.inj k j a e1 e2 l
      · subst e2; exact absurd rfl (ne k _ e1)
    · rcases app_get e2 with ⟨e2, k2⟩ | ⟨k2, e2⟩
      · subst e1; exact absurd rfl (ne j _ e2)
      · omega
  · intro k a u e1 e2
    rcases app_get e1 with ⟨e1, k1⟩ | ⟨k1, e1⟩
    · rw [lm k (by have := h.len; omega)] at e2
      refine (h.mem k a u e1 e2).mono (fun _ _ e => e) (Pre.app _ _) (fun w _ q => ?_) (fun q => q)
      rw [upd_ne (ne k a e1)]; exact q
    · subst e1
      rcases app_get e2 with ⟨e2, k2⟩ | ⟨k2, e2⟩
      · have := h.len; omega
      · subst e2
        exact ⟨fp, xs, upd_same, r.mono (fun _ _ e => e) (Pre.app _ _)⟩
  · rcases app_get e with ⟨e, k1⟩ | ⟨k1, e⟩
    · have := h.len; omega
    · subst e; exact hp
theorem Out.new (k : Out K F al H M R Q) (h : HR K F al H M) (hp : H p = none) (r : RelA K F al ds xs) (q : nw fz ds M R) : Q (.ref p) (upd H p (.lst xs)) := by
  have fp : F p = none := Evl.fresh_back h.ext hp
  cases fz with
  | true => exact k _ _ _ _ (.lst ds) _ (h.newF (o := .lst xs) hp) ⟨p, xs, rfl, upd_same, r.mono (Evl.Ex.new fp) (Pre.refl _)⟩ q
  | false =>
    refine k _ _ _ _ (.loc M.length) _ (h.newM hp r) ⟨p, ?_, rfl⟩ q
    have e : M.length = al.length := h.len.symm
    rw [e, List.getElem?_append_right (Nat.le_refl _)]
    simp
theorem Out.newT (k : Out K F al H M R Q) (h : HR K F al H M) (hp : H p = none) (r : RelA K F al ds xs) (q : R (.tup ds) M) : Q (.ref p) (upd H p (.tup xs)) := by
  have fp : F p = none := Evl.fresh_back h.ext hp
  exact k _ _ _ _ (.tup ds) _ (h.newF (o := .tup xs) hp) ⟨p, xs, rfl, Evl.st_of upd_same, r.mono (Evl.Ex.new fp) (Pre.refl _)⟩ q
end

/-! ### what is read -/
/-- a list's items (also of the script); a list's that is ours; a tuple's; either's -/
def rdL (M : MH) : D → Option (List D)
  | .lst ds => some ds
  | .scr ds => some ds
  | .loc k => match M[k]? with
    | some (.lst ds) => some ds
    | some (.frz ds) => some ds
    | _ => none
  | _ => none
def rdW (M : MH) : D → Option (List D)
  | .lst ds => some ds
  | .loc k => match M[k]? with
    | some (.lst ds) => some ds
    | some (.frz ds) => some ds
    | _ => none
  | _ => none
def rdT : D → Option (List D)
  | .tup ds => some ds
  | _ => none
def rdS (M : MH) : D → Option (List D)
  | .tup ds => some ds
  | d => rdL M d
section
variable {K : PySem.W.Frag} {F : Hp} {al : List Addr} {H : Hp} {M : MH} {d : D} {v : V} {ds : List D}
theorem HR.rdW_ (h : HR K F al H M) (r : Rel K F al d v) (e : rdW M d = some ds) : ∃ a xs, v = .ref a ∧ H a = some (.lst xs) ∧ RelA K F al ds xs := by
  cases d with
  | lst es =>
    simp only [rdW, Option.some.injEq] at e
    subst e
    obtain ⟨a, xs, r1, r2, r3⟩ := r
    exact ⟨a, xs, r1, h.ext _ _ r2, r3⟩
  | loc k =>
    obtain ⟨a, r1, r2⟩ := r
    simp only [rdW] at e
    split at e
    · rename_i es hm
      cases e
      obtain ⟨_, xs, r3, r4⟩ := h.mem k a _ r1 hm
      exact ⟨a, xs, r2, r3, r4⟩
    · rename_i es hm
      cases e
      obtain ⟨xs, r3, r4⟩ := h.mem k a _ r1 hm
      exact ⟨a, xs, r2, h.ext _ _ r3, r4⟩
    · cases e
  | _ => cases e
theorem HR.rdL_ (h : HR K F al H M) (r : Rel K F al d v) (e : rdL M d = some ds) : ∃ a xs, v = .ref a ∧ SqL K H a xs ∧ RelA K F al ds xs := by
  cases d with
  | scr es =>
    simp only [rdL, Option.some.injEq] at e
    subst e
    obtain ⟨a, xs, r1, r2, r3⟩ := r
    exact ⟨a, xs, r1, Evl.ex_l h.ext r2, r3⟩
  | lst es =>
    obtain ⟨a, xs, r1, r2, r3⟩ := h.rdW_ r (show rdW M (.lst es) = some ds from e)
    exact ⟨a, xs, r1, SqL.of r2, r3⟩
  | loc k =>
    obtain ⟨a, xs, r1, r2, r3⟩ := h.rdW_ r (show rdW M (.loc k) = some ds from e)
    exact ⟨a, xs, r1, SqL.of r2, r3⟩
  | _ => cases e
theorem HR.rdT_ (h : HR K F al H M) (r : Rel K F al d v) (e : rdT d = some ds) : ∃ a xs, v = .ref a ∧ SqT K H a xs ∧ RelA K F al ds xs := by
  cases d with
  | tup es =>
    simp only [rdT, Option.some.injEq] at e
    subst e
    obtain ⟨a, xs, r1, r2, r3⟩ := r
    exact ⟨a, xs, r1, Evl.ex_t h.ext r2, r3⟩
  | _ => cases e
theorem HR.rdS_ (h : HR K F al H M) (r : Rel K F al d v) (e : rdS M d = some ds) : ∃ a xs, v = .ref a ∧ (SqL K H a xs ∨ SqT K H a xs) ∧ RelA K F al ds xs := by
  cases d with
  | tup es =>
    obtain ⟨a, xs, r1, r2, r3⟩ := h.rdT_ r (show rdT (.tup es) = some ds from e)
    exact ⟨a, xs, r1, .inr r2, r3⟩
  | lst es =>
    obtain ⟨a, xs, r1, r2, r3⟩ := h.rdL_ r (show rdL M (.lst es) = some ds from e)
    exact ⟨a, xs, r1, .inl r2, r3⟩
  | scr es =>
    obtain ⟨a, xs, r1, r2, r3⟩ := h.rdL_ r (show rdL M (.scr es) = some ds from e)
    exact ⟨a, xs, r1, .inl r2, r3⟩
  | loc k =>
    obtain ⟨a, xs, r1, r2, r3⟩ := h.rdL_ r (show rdL M (.loc k) = some ds from e)
    exact ⟨a, xs, r1, .inl r2, r3⟩
  | _ => cases e
end

/-! ### plain data as the library's data -/
mutual
def py : D → PyData
  | .non => .none
  | .bl b => .bool b
  | .int i => .int i
  | .str x => .str x
  | .tup ds => .tuple (pyA ds)
  | .lst ds => .list (pyA ds)
  | .scr ds => .list (pyA ds)
  | .loc _ => .none
  | .ty _ => .none
  | .cls _ => .none
def pyA : List D → List PyData
  | [] => []
  | d :: ds => py d :: pyA ds
end
/-! data proper: no place, no class -/
mutual
def D.dat : D → Bool
  | .tup ds => datA ds
  | .lst ds => datA ds
  | .scr ds => datA ds
  | .loc _ => false
  | .ty _ => false
  | .cls _ => false
  | .non => true
  | .bl _ => true
  | .int _ => true
  | .str _ => true
def datA : List D → Bool
  | [] => true
  | d :: ds => D.dat d && datA ds
end
section
variable {K : PySem.W.Frag} {F H : Hp} {al : List Addr}
mutual
theorem Rel.dp (e : Ex F H) : ∀ {d : D} {v : V}, D.dat d = true → Rel K F al d v → Dp K H v (py d)
  | .non, _, _, h => by cases h; exact .non
  | .bl _, _, _, h => by cases h; exact .bl _
  | .int _, _, _, h => by cases h; exact .int _
  | .str _, _, _, h => by cases h; exact .str _
  | .tup _, _, p, ⟨a, xs, h1, h2, h3⟩ => by subst h1; exact .tup (Evl.ex_t e h2) (RelA.dp e p h3)
  | .lst _, _, p, ⟨a, xs, h1, h2, h3⟩ => by subst h1; exact .lst (SqL.of (e _ _ h2)) (RelA.dp e p h3)
  | .scr _, _, p, ⟨a, xs, h1, h2, h3⟩ => by subst h1; exact .lst (Evl.ex_l e h2) (RelA.dp e p h3)
  | .loc _, _, p, _ => by cases p
  | .ty _, _, p, _ => by cases p
  | .cls _, _, p, _ => by cases p
theorem RelA.dp (e : Ex F H) : ∀ {ds : List D} {xs : List V}, datA ds = true → RelA K F al ds xs → DpAll K H xs (pyA ds)
  | [], _, _, h => by cases h; exact .nil
  | _ :: _, _, p, ⟨y, ys, h1, h2, h3⟩ => by
    have p' := Bool.and_eq_true_iff.mp p
    subst h1
    exact .cons (Rel.dp e p'.1 h2) (RelA.dp e p'.2 h3)
end
end
/-- the data that a value is now -/
def pyM (M : MH) : D → Option PyData
  | .loc k => match M[k]? with
    | some (.lst ds) => if datA ds then some (.list (pyA ds)) else none
    | some (.frz ds) => if datA ds then some (.list (pyA ds)) else none
    | _ => none
  | d => if D.dat d then some (py d) else none
theorem HR.pyM_ {K : PySem.W.Frag} {F : Hp} {al : List Addr} {H : Hp} {M : MH} {d : D} {v : V} {p : PyData} (h : HR K F al H M) (r : Rel K F al d v) (e : pyM M d = some p) : Dp K H v p := by
  have key : ∀ d, (if D.dat d then some (py d) else none) = some p → Rel K F al d v → Dp K H v p := fun d e r => by
    split at e
    · rename_i hp; cases e; exact Rel.dp h.ext hp r
    · cases e
  cases d with
  | loc k =>
    simp only [pyM] at e
    obtain ⟨a, r1, r2⟩ := r
    subst r2
    split at e
    · rename_i ds hm
      split at e
      · rename_i hp
        cases e
        obtain ⟨_, xs, e1, r3⟩ := h.mem k a _ r1 hm
        exact .lst (SqL.of e1) (RelA.dp h.ext hp r3)
      · cases e
    · rename_i ds hm
      split at e
      · rename_i hp
        cases e
        obtain ⟨xs, e1, r3⟩ := h.mem k a _ r1 hm
        exact .lst (SqL.of (h.ext _ _ e1)) (RelA.dp h.ext hp r3)
      · cases e
    · cases e
  | non => exact key .non e r
  | bl b => exact key (.bl b) e r
  | int i => exact key (.int i) e r
  | str x => exact key (.str x) e r
  | tup ds => exact key (.tup ds) e r
  | lst ds => exact key (.lst ds) e r
  | scr ds => exact key (.scr ds) e r
  | ty n => exact key (.ty n) e r
  | cls n => exact key (.cls n) e r
end DL

set_option Elab.async false
set_option linter.all false
set_option maxRecDepth 100000
set_option maxHeartbeats 2000000
namespace DL
open PySem PySem.Spec L2
open Evl (Ex)
open PyProof.Rows (b2i)

/-! ### operations by values, over data -/
def Sim1 (K : PySem.W.Frag) (r : V → Hp → VK → Prop) (m : D → MH → DK → Prop) : Prop :=
  ∀ (F : Hp) (al : List Addr) (H : Hp) (M : MH) (x : V) (d : D) (R : DK) (Q : VK), HR K F al H M → Rel K F al d x → m d M R → Out K F al H M R Q → r x H Q
def Sim2 (K : PySem.W.Frag) (r : R2) (m : D → D → MH → DK → Prop) : Prop :=
  ∀ (F : Hp) (al : List Addr) (H : Hp) (M : MH) (x y : V) (d e : D) (R : DK) (Q : VK), HR K F al H M → Rel K F al d x → Rel K F al e y → m d e M R → Out K F al H M R Q → r x y H Q
def SimC (K : PySem.W.Frag) (r : List V → Hp → VK → Prop) (m : List D → MH → DK → Prop) : Prop :=
  ∀ (F : Hp) (al : List Addr) (H : Hp) (M : MH) (xs : List V) (ds : List D) (R : DK) (Q : VK), HR K F al H M → RelA K F al ds xs → m ds M R → Out K F al H M R Q → r xs H Q
theorem Out.step {K : PySem.W.Frag} {F F' : Hp} {al al' : List Addr} {H H' : Hp} {M M' : MH} {R : DK} {Q : VK} (h0 : HR K F al H M) (k : Out K F al H M R Q) (a : Stp K F al H M F' al' H' M') : Out K F' al' H' M' R Q :=
  fun v H2 F2 al2 d M2 b r q => k v H2 F2 al2 d M2 (a.trans h0 b) r q

section
variable {X : Cx} {W : WX} {a b c e : Expr} {es : List Expr} {ma mb mc me : DE} {mas : DA} {pos : Pos}

/-! ### names, constants -/
def dVar (i : Nat) : DE := fun r M R => match r.sl[i]? with
  | some (some d) => R d M
  | _ => False
def dC (d : D) : DE := fun _ M R => R d M
theorem me_var {i : Nat} {x : Str} (hN : X.N[i]? = some x) (hv : Vis X.env.scope x) (hd : (x == ("__debug__" : Str)) = false := by decide) (hcd : (x == ("__classdict__" : Str)) = false := by decide) : ME X W (.Name x pos) (dVar i) := by
  refine PE.imp (pe_var hN hv hd hcd) ?_
  rintro s H Q ⟨F, al, r, M, R, er, hr, hm, k⟩
  unfold dVar at hm
  split at hm
  · rename_i d hd
    obtain ⟨v, e, rv⟩ := er.es.2 i d hd
    exact ⟨v, e, Out.pure k hr rv hm⟩
  · exact hm.elim
theorem lE_C {K : PySem.W.Frag} {d : D} {v : V} (h : ∀ F al, Rel K F al d v) : ∀ s H Q, lE K W (dC d) s H Q → tC v s H Q := by
  rintro s H Q ⟨F, al, r, M, R, er, hr, hm, k⟩
  exact Out.pure k hr (h F al) hm
theorem me_int {i j} : ME X W (.Constant (.int i) j pos) (dC (.int i)) := PE.imp pe_int (lE_C fun _ _ => rfl)
theorem me_bl {i j} : ME X W (.Constant (.bool i) j pos) (dC (.bl i)) := PE.imp pe_bl (lE_C fun _ _ => rfl)
theorem me_non {j} : ME X W (.Constant .none j pos) (dC .non) := PE.imp pe_non (lE_C fun _ _ => rfl)
theorem me_str {x j} : ME X W (.Constant (.str x) j pos) (dC (.str x)) := PE.imp pe_str (lE_C fun _ _ => rfl)
/-- a constant of the module: a tuple, an int, a text -/
theorem me_glob {x : Str} {v : V} {u : Value} {d : D} (hg : Gl X x) (hm : X.mg x = some u) (r : RelV v u) (hd : ∀ F al, Rel X.K F al d v) (hdb : (x == ("__debug__" : Str)) = false := by decide) : ME X W (.Name x pos) (dC d) :=
  PE.imp (pe_glob hg hm r hdb) (lE_C hd)
/-- a built-in class as a value; an own class -/
theorem me_ty {x : Str} {n : String} (hg : Gl X x) (hm : X.mg x = none) (hv : bootBuiltins x = some (.type n)) (hn : x ≠ "__name__" := by decide) (hdb : (x == ("__debug__" : Str)) = false := by decide) : ME X W (.Name x pos) (dC (.ty n)) :=
  PE.imp (pe_bltn (v := .ty n) hg hm hv rfl hn hdb) (lE_C fun _ _ => rfl)
theorem me_cls {x : Str} {c : Addr} (hg : Gl X x) (hm : X.mg x = some (.ref c)) (hdb : (x == ("__debug__" : Str)) = false := by decide) : ME X W (.Name x pos) (dC (.cls c)) :=
  PE.imp (pe_glob (v := .ref c) hg hm rfl hdb) (lE_C fun _ _ => rfl)

/-! ### operators -/
def dOp (m2 : D → D → MH → DK → Prop) (ma mb : DE) : DE := fun r M R => ma r M fun d M1 => mb r M1 fun e M2 => m2 d e M2 R
def dUn (m1 : D → MH → DK → Prop) (ma : DE) : DE := fun r M R => ma r M fun d M1 => m1 d M1 R
theorem sim_op {K : PySem.W.Frag} {r : R2} {m2 : D → D → MH → DK → Prop} (hs : Sim2 K r m2) : ∀ s H Q, lE K W (dOp m2 ma mb) s H Q → tOp r (lE K W ma) (lE K W mb) s H Q := by
  rintro s H Q ⟨F, al, r, M, R, er, hr, hm, k⟩
  refine ⟨F, al, r, M, _, er, hr, hm, fun x H1 F1 al1 d M1 s1 r1 hm1 => ?_⟩
  refine ⟨F1, al1, r, M1, _, er.step hr s1, s1.hr, hm1, fun y H2 F2 al2 e M2 s2 r2 hm2 => ?_⟩
  exact hs F2 al2 H2 M2 x y d e R Q s2.hr (r1.mono s2.ex s2.pre) r2 hm2 (Out.step hr k (s1.trans hr s2))
theorem me_op {op : Operator} {r : R2} {m2 : D → D → MH → DK → Prop} (ho : OpR X (binaryOp op) r) (hs : Sim2 X.K r m2) (ha : ME X W a ma) (hb : ME X W b mb) : ME X W (.BinOp a op b pos) (dOp m2 ma mb) := PE.imp (pe_op ho ha hb) (sim_op hs)
/-- a comparison by values -/
def CmpD (X : Cx) (op : CmpOp) (m2 : D → D → MH → DK → Prop) : Prop := ∃ r, OpR X (compareOp op) r ∧ Sim2 X.K r m2
theorem me_cmp0 {op : CmpOp} {r : R2} {m2 : D → D → MH → DK → Prop} (ho : OpR X (compareOp op) r) (hs : Sim2 X.K r m2) (ha : ME X W a ma) (hb : ME X W b mb) (hm : behindInMarks op b = false) : ME X W (.Compare a [op] [b] pos) (dOp m2 ma mb) := PE.imp (pe_cmpR ho ha hb hm) (sim_op hs)
theorem me_cmp {op : CmpOp} {m2 : D → D → MH → DK → Prop} (h : CmpD X op m2) (ha : ME X W a ma) (hb : ME X W b mb) (hm : behindInMarks op b = false) : ME X W (.Compare a [op] [b] pos) (dOp m2 ma mb) :=
  let ⟨_, ho, hs⟩ := h
  me_cmp0 ho hs ha hb hm
theorem me_un {op : UnaryOp} {r : V → Hp → VK → Prop} {m1 : D → MH → DK → Prop} (ho : UnR X (unaryOp op) r) (hs : Sim1 X.K r m1) (ha : ME X W a ma) : ME X W (.UnaryOp op a pos) (dUn m1 ma) := by
  refine PE.imp (pe_un ho ha) ?_
  rintro s H Q ⟨F, al, r, M, R, er, hr, hm, k⟩
  refine ⟨F, al, r, M, _, er, hr, hm, fun x H1 F1 al1 d M1 s1 r1 hm1 => ?_⟩
  exact hs F1 al1 H1 M1 x d R Q s1.hr r1 hm1 (Out.step hr k s1)

/-- of ints -/
def dI (C : Int → Int → Prop) (g : Int → Int → D) : D → D → MH → DK → Prop
  | .int i, .int j, M, R => C i j ∧ R (g i j) M
  | _, _, _, _ => False
theorem sim_I {K : PySem.W.Frag} {C : Int → Int → Prop} {g : Int → Int → D} {g' : Int → Int → V} (hg : ∀ i j F al, Rel K F al (g i j) (g' i j)) : Sim2 K (rI C g') (dI C g) := by
  intro F al H M x y d e R Q h rx ry hm k
  cases d <;> try exact hm.elim
  cases e <;> try exact hm.elim
  rename_i i j
  cases rx; cases ry
  exact ⟨i, j, rfl, rfl, hm.1, Out.pure k h (hg i j F al) hm.2⟩
def dI0 (g : Int → Int → D) : D → D → MH → DK → Prop
  | .int i, .int j, M, R => R (g i j) M
  | _, _, _, _ => False
theorem sim_I0 {K : PySem.W.Frag} {g : Int → Int → D} {g' : Int → Int → V} (hg : ∀ i j F al, Rel K F al (g i j) (g' i j)) : Sim2 K (rI0 g') (dI0 g) := by
  intro F al H M x y d e R Q h rx ry hm k
  cases d <;> try exact hm.elim
  cases e <;> try exact hm.elim
  rename_i i j
  cases rx; cases ry
  exact ⟨i, j, rfl, rfl, Out.pure k h (hg i j F al) hm⟩
/-- + : ints, texts, tuples, lists -/
def dAdd (fz : Bool) : D → D → MH → DK → Prop
  | .int i, .int j, M, R => R (.int (i + j)) M
  | .str x, .str y, M, R => x.length + y.length ≤ sizeLine ∧ R (.str (x ++ y)) M
  | .tup xs, .tup ys, M, R => xs.length + ys.length ≤ sizeLine ∧ R (.tup (xs ++ ys)) M
  | .bl p, .bl q, M, R => R (.int (b2i p + b2i q)) M
  | .int i, .bl q, M, R => R (.int (i + b2i q)) M
  | d, e, M, R => match rdW M d, rdW M e with
    | some xs, some ys => xs.length + ys.length ≤ sizeLine ∧ nw fz (xs ++ ys) M R
    | _, _ => False
def rAddA (K : PySem.W.Frag) : R2 := fun x y H Q => (fun x y H Q => (fun x y H Q => (fun x y H Q => (fun x y H Q => rI0 (fun i j => .int (i + j)) x y H Q ∨ ∃ i j, x = .str i ∧ y = .str j ∧ i.length + j.length ≤ sizeLine ∧ Q (.str (i ++ j)) H) x y H Q ∨ rCatA K x y H Q) x y H Q ∨ rCat x y H Q) x y H Q ∨
  ∃ p q, x = .bl p ∧ y = .bl q ∧ Q (.int (b2i p + b2i q)) H) x y H Q ∨ ∃ i q, x = .int i ∧ y = .bl q ∧ Q (.int (i + b2i q)) H
theorem op_add_bb : OpR X (binaryOp .Add) (fun x y H Q => ∃ p q, x = .bl p ∧ y = .bl q ∧ Q (.int (b2i p + b2i q)) H) := by
  intro pins s σ H x y v u Q I rx ry h
  obtain ⟨p, q, rfl, rfl, hq⟩ := h
  cases rx; cases ry
  exact PyProof.Rows.add_bool ⟨.int _, H, I.tok _, ⟨_, rfl⟩, hq⟩
theorem op_sub_bb : OpR X (binaryOp .Sub) (fun x y H Q => ∃ p q, x = .bl p ∧ y = .bl q ∧ Q (.int (b2i p - b2i q)) H) := by
  intro pins s σ H x y v u Q I rx ry h
  obtain ⟨p, q, rfl, rfl, hq⟩ := h
  cases rx; cases ry
  exact PyProof.Rows.sub_bool ⟨.int _, H, I.tok _, ⟨_, rfl⟩, hq⟩
theorem op_addA : OpR X (binaryOp .Add) (rAddA X.K) := OpR.or (OpR.or (OpR.or (OpR.or (OpR.or op_add op_add_str) op_catA) op_cat) op_add_bb) op_add_ib
theorem sim_add {K : PySem.W.Frag} {fz : Bool} : Sim2 K (rAddA K) (dAdd fz) := by
  intro F al H M x y d e R Q h rx ry hm k
  have lists : ∀ (xs ys : List D), rdW M d = some xs → rdW M e = some ys → xs.length + ys.length ≤ sizeLine → nw fz (xs ++ ys) M R → rCat x y H Q := by
    intro xs ys e1 e2 hl hn
    obtain ⟨a, us, rfl, ha, ra⟩ := h.rdW_ rx e1
    obtain ⟨b, vs, rfl, hb, rb⟩ := h.rdW_ ry e2
    exact ⟨a, b, us, vs, rfl, rfl, ha, hb, by rw [ra.length, rb.length]; exact hl, fun p hp => Out.new k h hp (ra.app rb) hn⟩
  unfold dAdd at hm
  split at hm
  · cases rx; cases ry
    exact .inl (.inl (.inl (.inl (.inl ⟨_, _, rfl, rfl, Out.pq k h hm rfl⟩))))
  · cases rx; cases ry
    exact .inl (.inl (.inl (.inl (.inr ⟨_, _, rfl, rfl, hm.1, Out.pq k h hm.2 rfl⟩))))
  · rename_i xs ys
    obtain ⟨a, us, rfl, ha, ra⟩ := h.rdT_ rx (show rdT (.tup xs) = some xs from rfl)
    obtain ⟨b, vs, rfl, hb, rb⟩ := h.rdT_ ry (show rdT (.tup ys) = some ys from rfl)
    refine .inl (.inl (.inl (.inr ⟨a, b, us, vs, rfl, rfl, ha, hb, by rw [ra.length, rb.length]; exact hm.1, fun z => ?_, fun _ z => ?_, fun _ _ p hp => Out.newT k h hp (ra.app rb) hm.2⟩)))
    · subst z
      have : xs = [] := List.eq_nil_of_length_eq_zero (by rw [← ra.length]; rfl)
      subst this
      exact Out.pure k h ry hm.2
    · subst z
      have : ys = [] := List.eq_nil_of_length_eq_zero (by rw [← rb.length]; rfl)
      subst this
      exact Out.pure k h rx (by have := hm.2; rwa [List.append_nil] at this)
  · cases rx; cases ry
    exact .inl (.inr ⟨_, _, rfl, rfl, Out.pq k h hm rfl⟩)
  · cases rx; cases ry
    exact .inr ⟨_, _, rfl, rfl, Out.pq k h hm rfl⟩
  · split at hm
    · rename_i xs ys e1 e2
      exact .inl (.inl (.inr (lists xs ys e1 e2 hm.1 hm.2)))
    · exact hm.elim
theorem me_add (fz : Bool) (ha : ME X W a ma) (hb : ME X W b mb) : ME X W (.BinOp a .Add b pos) (dOp (dAdd fz) ma mb) := me_op op_addA sim_add ha hb
/-- - : ints, truth values -/
def dSub : D → D → MH → DK → Prop
  | .int i, .int j, M, R => R (.int (i - j)) M
  | .bl p, .bl q, M, R => R (.int (b2i p - b2i q)) M
  | _, _, _, _ => False
theorem me_sub (ha : ME X W a ma) (hb : ME X W b mb) : ME X W (.BinOp a .Sub b pos) (dOp dSub ma mb) := by
  refine me_op (OpR.or op_sub op_sub_bb) ?_ ha hb
  intro F al H M x y d e R Q h rx ry hm k
  unfold dSub at hm
  split at hm
  · cases rx; cases ry
    exact .inl ⟨_, _, rfl, rfl, Out.pq k h hm rfl⟩
  · cases rx; cases ry
    exact .inr ⟨_, _, rfl, rfl, Out.pq k h hm rfl⟩
  · exact hm.elim
/-- * : ints; a list or a tuple and an int -/
def dMul (fz : Bool) : D → D → MH → DK → Prop
  | .int i, .int j, M, R => IntMulOk i j ∧ R (.int (i * j)) M
  | d, .int k, M, R => match rdW M d with
    | some xs => (0 ≤ k ∧ k < 2 ^ 62 ∧ xs.length * k.toNat ≤ sizeLine) ∧ nw fz (List.replicate k.toNat xs).flatten M R
    | none => False
  | _, _, _, _ => False
theorem op_mulG : OpR X (binaryOp .Mult) (rI IntMulOk fun i j => .int (i * j)) := opI fun _ _ _ _ _ _ _ hc q => PyProof.Rows.mul_int q hc
theorem me_mul (fz : Bool) (ha : ME X W a ma) (hb : ME X W b mb) : ME X W (.BinOp a .Mult b pos) (dOp (dMul fz) ma mb) := by
  refine me_op (OpR.or op_mulG op_rep) ?_ ha hb
  intro F al H M x y d e R Q h rx ry hm k
  unfold dMul at hm
  split at hm
  · cases rx; cases ry
    exact .inl ⟨_, _, rfl, rfl, hm.1, Out.pq k h hm.2 rfl⟩
  · split at hm
    · rename_i xs e1
      obtain ⟨a, us, rfl, ha, ra⟩ := h.rdW_ rx e1
      cases ry
      exact .inr ⟨a, _, us, rfl, rfl, ha, by omega, by omega, by rw [ra.length]; exact hm.1.2.2, fun p hp => Out.new k h hp (ra.rep _) hm.2⟩
    · exact hm.elim
  · exact hm.elim
def CFd (i j : Int) : Prop := j ≠ 0 ∧ Builtin.divisionGoesByPylong i j = false
theorem op_fdivG : OpR X (binaryOp .FloorDiv) (rI CFd fun i j => .int (i.fdiv j)) := opI fun _ _ _ _ _ _ _ hc q => PyProof.Rows.floordiv_int hc.1 q (.inl hc.2)
theorem me_fdiv (ha : ME X W a ma) (hb : ME X W b mb) : ME X W (.BinOp a .FloorDiv b pos) (dOp (dI CFd fun i j => .int (i.fdiv j)) ma mb) := me_op op_fdivG (sim_I fun _ _ _ _ => rfl) ha hb
theorem me_mod (ha : ME X W a ma) (hb : ME X W b mb) : ME X W (.BinOp a .Mod b pos) (dOp (dI (fun _ j => j ≠ 0) fun i j => .int (i.fmod j)) ma mb) := me_op op_modN (sim_I fun _ _ _ _ => rfl) ha hb
theorem me_pow (ha : ME X W a ma) (hb : ME X W b mb) : ME X W (.BinOp a .Pow b pos) (dOp (dI CPow fun i j => .int (i ^ j.toNat)) ma mb) := me_op op_pow (sim_I fun _ _ _ _ => rfl) ha hb
def dNeg : D → MH → DK → Prop
  | .int i, M, R => R (.int (-i)) M
  | _, _, _ => False
theorem me_neg (ha : ME X W a ma) : ME X W (.UnaryOp .USub a pos) (dUn dNeg ma) := by
  refine me_un un_neg ?_ ha
  intro F al H M x d R Q h rx hm k
  cases d <;> try exact hm.elim
  cases rx
  exact ⟨_, rfl, Out.pq k h hm rfl⟩

/-! ### comparisons -/
def dCmpI (g : Int → Int → Bool) : D → D → MH → DK → Prop := dI0 fun i j => .bl (g i j)
theorem cd_lt : CmpD X .Lt (dCmpI fun i j => decide (i < j)) := ⟨_, op_lt, (sim_I0 fun _ _ _ _ => rfl)⟩
theorem cd_le : CmpD X .LtE (dCmpI fun i j => decide (i ≤ j)) := ⟨_, op_le, (sim_I0 fun _ _ _ _ => rfl)⟩
theorem cd_gt : CmpD X .Gt (dCmpI fun i j => decide (j < i)) := ⟨_, op_gt, (sim_I0 fun _ _ _ _ => rfl)⟩
theorem cd_ge : CmpD X .GtE (dCmpI fun i j => decide (j ≤ i)) := ⟨_, op_ge, (sim_I0 fun _ _ _ _ => rfl)⟩
/-- == and != of data -/
def dEq : D → D → MH → DK → Prop := fun d e M R => match d, e with
  | .str x, .str y => R (.bl (decide (x = y))) M
  | d, e => match pyM M d, pyM M e with
    | some p, some q => (SeqAt.shaped p = true ∧ SeqAt.shaped q = true) ∧ R (.bl (PyData.eqv p q)) M
    | _, _ => False
def dNe : D → D → MH → DK → Prop := fun d e M R => match pyM M d, pyM M e with
  | some p, some q => (SeqAt.shaped p = true ∧ SeqAt.shaped q = true) ∧ R (.bl (!PyData.eqv p q)) M
  | _, _ => False
theorem cd_eq (hu : X.A.units + 64 < cLine) : CmpD X .Eq dEq := by
  refine ⟨_, OpR.or op_eq (op_eqD hu), ?_⟩
  intro F al H M x y d e R Q h rx ry hm k
  unfold dEq at hm
  split at hm
  · rename_i p q
    cases rx
    cases ry
    refine .inl ⟨rfl, ?_⟩
    have e : decide (V.str p = V.str q) = decide (p = q) := by simp
    rw [e]
    exact Out.pq k h hm rfl
  · split at hm
    · rename_i p q e1 e2
      exact .inr ⟨p, q, h.pyM_ rx e1, h.pyM_ ry e2, hm.1.1, hm.1.2, Out.pq k h hm.2 rfl⟩
    · exact hm.elim
theorem cd_ne (hu : X.A.units + 64 < cLine) : CmpD X .NotEq dNe := by
  refine ⟨_, (op_neD hu), ?_⟩
  intro F al H M x y d e R Q h rx ry hm k
  unfold dNe at hm
  split at hm
  · rename_i p q e1 e2
    exact ⟨p, q, h.pyM_ rx e1, h.pyM_ ry e2, hm.1.1, hm.1.2, Out.pq k h hm.2 rfl⟩
  · exact hm.elim
/-- in, not in: of a list, of a tuple -/
def rInT (K : PySem.W.Frag) (ng : Bool) : R2 := fun x y H Q => ∃ d ds, Dp K H x d ∧ Dp K H y (.tuple ds) ∧ SeqAt.shaped d = true ∧ SeqAt.shaped (.tuple ds) = true ∧ Q (.bl (ng ^^ (ds.any fun z => PyData.eqv z d))) H
theorem room_in {A : Around} {ds : List PyData} {d : PyData} (sd : SeqAt.shaped d = true) (hu : A.units + 65 < cLine) : A.units + 1 + min (PyData.depthAll ds) d.depth < cLine := by
  have := SeqAt.depth_of_shaped sd
  omega
theorem op_inT (hu : X.A.units + 65 < cLine) : OpR X (compareOp .In) (rInT X.K false) := by
  intro pins s σ H x y v u Q I rx ry h
  obtain ⟨d, ds, hd, he, sd, se, q⟩ := h
  obtain ⟨as, r1⟩ := Dp.reads I d x v hd rx
  obtain ⟨bs, r2⟩ := Dp.reads I (.tuple ds) y u he ry
  rw [Bool.false_xor] at q
  exact SeqAt.in_tuple_reads r2 r1 (SeqAt.canLay_of_shaped se) (SeqAt.canLay_of_shaped sd) (room_in sd hu) ⟨.bl _, H, I, rfl, q⟩
theorem op_notInT (hu : X.A.units + 65 < cLine) : OpR X (compareOp .NotIn) (rInT X.K true) := by
  intro pins s σ H x y v u Q I rx ry h
  obtain ⟨d, ds, hd, he, sd, se, q⟩ := h
  obtain ⟨as, r1⟩ := Dp.reads I d x v hd rx
  obtain ⟨bs, r2⟩ := Dp.reads I (.tuple ds) y u he ry
  rw [Bool.true_xor] at q
  exact SeqAt.notIn_tuple_reads r2 r1 (SeqAt.canLay_of_shaped se) (SeqAt.canLay_of_shaped sd) (room_in sd hu) ⟨.bl _, H, I, rfl, q⟩
def dIn (ng : Bool) : D → D → MH → DK → Prop := fun d e M R => match pyM M d, pyM M e with
  | some p, some (.list qs) => (SeqAt.shaped p = true ∧ SeqAt.shaped (.list qs) = true) ∧ R (.bl (ng ^^ (qs.any fun z => PyData.eqv z p))) M
  | some p, some (.tuple qs) => (SeqAt.shaped p = true ∧ SeqAt.shaped (.tuple qs) = true) ∧ R (.bl (ng ^^ (qs.any fun z => PyData.eqv z p))) M
  | _, _ => False
theorem cd_in (hu : X.A.units + 65 < cLine) : CmpD X .In (dIn false) := by
  refine ⟨_, (OpR.or (op_inD hu) (op_inT hu)), ?_⟩
  intro F al H M x y d e R Q h rx ry hm k
  unfold dIn at hm
  split at hm
  · rename_i p q e1 e2
    exact .inl ⟨p, q, h.pyM_ rx e1, h.pyM_ ry e2, hm.1.1, hm.1.2, Out.pq (d := .bl _) k h (by have := hm.2; rwa [Bool.false_xor] at this) rfl⟩
  · rename_i p q e1 e2
    exact .inr ⟨p, q, h.pyM_ rx e1, h.pyM_ ry e2, hm.1.1, hm.1.2, Out.pq k h hm.2 rfl⟩
  · exact hm.elim
theorem cd_notIn (hu : X.A.units + 65 < cLine) : CmpD X .NotIn (dIn true) := by
  refine ⟨_, (OpR.or (op_notInD hu) (op_notInT hu)), ?_⟩
  intro F al H M x y d e R Q h rx ry hm k
  unfold dIn at hm
  split at hm
  · rename_i p q e1 e2
    exact .inl ⟨p, q, h.pyM_ rx e1, h.pyM_ ry e2, hm.1.1, hm.1.2, Out.pq (d := .bl _) k h (by have := hm.2; rwa [Bool.true_xor] at this) rfl⟩
  · rename_i p q e1 e2
    exact .inr ⟨p, q, h.pyM_ rx e1, h.pyM_ ry e2, hm.1.1, hm.1.2, Out.pq k h hm.2 rfl⟩
  · exact hm.elim
/-- is None -/
def isNon : D → Bool
  | .non => true
  | _ => false
def dIsN (ng : Bool) : D → D → MH → DK → Prop := fun d e M R => match e with
  | .non => R (.bl (ng ^^ isNon d)) M
  | _ => False
theorem isN_of {K : PySem.W.Frag} {F : Hp} {al : List Addr} {d : D} {x : V} (r : Rel K F al d x) : decide (x = .non) = isNon d := by
  cases d with
  | tup ds => obtain ⟨a, xs, rfl, _⟩ := r; rfl
  | lst ds => obtain ⟨a, xs, rfl, _⟩ := r; rfl
  | scr ds => obtain ⟨a, xs, rfl, _⟩ := r; rfl
  | loc k => obtain ⟨a, _, rfl⟩ := r; rfl
  | _ => cases r; rfl
theorem cd_isN : CmpD X .Is (dIsN false) := by
  refine ⟨_, op_isN, ?_⟩
  intro F al H M x y d e R Q h rx ry hm k
  unfold dIsN at hm
  cases e <;> try exact hm.elim
  cases ry
  exact ⟨rfl, Out.pq (d := .bl (isNon d)) k h (by rwa [Bool.false_xor] at hm) (by rw [isN_of rx]; rfl)⟩
theorem cd_notN : CmpD X .IsNot (dIsN true) := by
  refine ⟨_, op_notN, ?_⟩
  intro F al H M x y d e R Q h rx ry hm k
  unfold dIsN at hm
  cases e <;> try exact hm.elim
  cases ry
  exact ⟨rfl, Out.pq (d := .bl (!isNon d)) k h (by rwa [Bool.true_xor] at hm) (by rw [isN_of rx]; rfl)⟩

/-! ### tests -/
def dTru : D → MH → (Bool → Prop) → Prop
  | .non, _, R => R false
  | .bl b, _, R => R b
  | .int i, _, R => R (i != 0)
  | .str x, _, R => x.length ≤ sizeLine ∧ R ((x.length : Int) != 0)
  | d, M, R => match rdS M d with
    | some ds => R (!ds.isEmpty)
    | none => False
theorem isEmptyA {K : PySem.W.Frag} {F : Hp} {al : List Addr} {ds : List D} {xs : List V} (r : RelA K F al ds xs) : xs.isEmpty = ds.isEmpty := by
  cases ds with
  | nil => cases r; rfl
  | cons d ds => obtain ⟨y, ys, rfl, _⟩ := r; rfl
theorem HR.tru {K : PySem.W.Frag} {F : Hp} {al : List Addr} {H : Hp} {M : MH} {d : D} {v : V} {R : Bool → Prop} (h : HR K F al H M) (r : Rel K F al d v) (q : dTru d M R) : ∃ k, TruV K v H k ∧ R k := by
  have seq : ∀ ds, rdS M d = some ds → R (!ds.isEmpty) → ∃ k, TruV K v H k ∧ R k := by
    intro ds e q
    obtain ⟨a, xs, rfl, hx, ra⟩ := h.rdS_ r e
    refine ⟨!xs.isEmpty, ?_, by rw [isEmptyA ra]; exact q⟩
    rcases hx with hx | hx
    · exact .inl ⟨xs, hx, rfl⟩
    · exact .inr (.inl ⟨xs, hx, rfl⟩)
  cases d with
  | non => cases r; exact ⟨_, rfl, q⟩
  | bl b => cases r; exact ⟨_, rfl, q⟩
  | int i => cases r; exact ⟨_, rfl, q⟩
  | str x => cases r; exact ⟨_, ⟨q.1, rfl⟩, q.2⟩
  | tup ds => exact seq ds rfl q
  | lst ds => exact seq ds rfl q
  | scr ds => exact seq ds rfl q
  | loc j =>
    have q' : match rdS M (.loc j) with | some ds => R (!ds.isEmpty) | none => False := q
    split at q'
    · rename_i ds e; exact seq ds e q'
    · exact q'.elim
  | ty n => exact q.elim
  | cls a => exact q.elim
def dTest (ma : DE) : DT := fun r M R => ma r M fun d M1 => dTru d M1 fun b => R b M1
theorem mt_val (ha : ME X W a ma) (he : ∀ whole, isTrue a X.env whole = (do let v ← whole; standAt a.pos; holding [v] (truthy v)) := by intro _; rfl) : MT X W a (dTest ma) := by
  refine PT.imp (pt_truth ha he) ?_
  rintro s H Q ⟨F, al, r, M, R, er, hr, hm, k⟩
  refine ⟨F, al, r, M, _, er, hr, hm, fun x H1 F1 al1 d M1 s1 r1 hm1 => ?_⟩
  obtain ⟨c, hc, q⟩ := s1.hr.tru r1 hm1
  exact ⟨c, hc, k _ _ _ _ _ s1 q⟩
/-- a comparison as a test -/
def dTestB (ma : DE) : DT := fun r M R => ma r M fun d M1 => match d with
  | .bl b => R b M1
  | _ => False
theorem lT_B {K : PySem.W.Frag} : ∀ s H Q, lT K W (dTestB ma) s H Q → tTest (lE K W ma) s H Q := by
  rintro s H Q ⟨F, al, r, M, R, er, hr, hm, k⟩
  refine ⟨F, al, r, M, _, er, hr, hm, fun x H1 F1 al1 d M1 s1 r1 hm1 => ?_⟩
  split at hm1
  · cases r1
    exact ⟨_, rfl, k _ _ _ _ _ s1 hm1⟩
  · exact hm1.elim
theorem lT_B2 {K : PySem.W.Frag} {t : TE} (h : ∀ s H Q, lE K W ma s H Q → t s H Q) : ∀ s H Q, lT K W (dTestB ma) s H Q → tTest t s H Q := by
  rintro s H Q ⟨F, al, r, M, R, er, hr, hm, k⟩
  refine h s H _ ⟨F, al, r, M, _, er, hr, hm, fun x H1 F1 al1 d M1 s1 r1 hm1 => ?_⟩
  split at hm1
  · cases r1
    exact ⟨_, rfl, k _ _ _ _ _ s1 hm1⟩
  · exact hm1.elim
theorem mt_cmp {op : CmpOp} {m2 : D → D → MH → DK → Prop} (h : CmpD X op m2) (ha : ME X W a ma) (hb : ME X W b mb) (hm : behindInMarks op b = false) : MT X W (.Compare a [op] [b] pos) (dTestB (dOp m2 ma mb)) :=
  let ⟨_, ho, hs⟩ := h
  PT.imp (pt_cmpR ho ha hb hm) (lT_B2 (sim_op hs))
/-- a op b op' c -/
def dChain (m2 m2' : D → D → MH → DK → Prop) (ma mb mc : DE) : DE := fun r M R => ma r M fun d M1 => mb r M1 fun e M2 => m2 d e M2 fun z M3 => match z with
  | .bl c => if c = true then mc r M3 fun f M4 => m2' e f M4 R else R (.bl false) M3
  | _ => False
theorem sim_chain {K : PySem.W.Frag} {ra rb : R2} {m2 m2' : D → D → MH → DK → Prop} (hs : Sim2 K ra m2) (hs' : Sim2 K rb m2') : ∀ s H Q, lE K W (dChain m2 m2' ma mb mc) s H Q → tChain ra rb (lE K W ma) (lE K W mb) (lE K W mc) s H Q := by
  rintro s H Q ⟨F, al, r, M, R, er, hr, hm, k⟩
  refine ⟨F, al, r, M, _, er, hr, hm, fun x H1 F1 al1 d M1 s1 r1 hm1 => ?_⟩
  refine ⟨F1, al1, r, M1, _, er.step hr s1, s1.hr, hm1, fun y H2 F2 al2 e M2 s2 r2 hm2 => ?_⟩
  refine hs F2 al2 H2 M2 x y d e _ _ s2.hr (r1.mono s2.ex s2.pre) r2 hm2 (fun z H3 F3 al3 dz M3 s3 r3 hm3 => ?_)
  have s13 := (s1.trans hr s2).trans hr s3
  split at hm3
  · rename_i c
    cases r3
    refine ⟨c, rfl, ?_⟩
    cases c with
    | true => exact ⟨F3, al3, r, M3, _, er.step hr s13, s3.hr, hm3, fun w H4 F4 al4 f M4 s4 r4 hm4 => hs' F4 al4 H4 M4 y w e f R Q s4.hr ((r2.mono s3.ex s3.pre).mono s4.ex s4.pre) r4 hm4 (Out.step hr k (s13.trans hr s4))⟩
    | false => exact k _ _ _ _ (.bl false) _ s13 rfl hm3
  · exact hm3.elim
theorem me_chain {op op' : CmpOp} {m2 m2' : D → D → MH → DK → Prop} (h : CmpD X op m2) (h' : CmpD X op' m2') (ha : ME X W a ma) (hb : ME X W b mb) (hc : ME X W c mc)
    (hm : lastMarks [op, op'] [b, c] = false := by with_unfolding_all rfl) : ME X W (.Compare a [op, op'] [b, c] pos) (dChain m2 m2' ma mb mc) :=
  let ⟨_, ho, hs⟩ := h
  let ⟨_, ho', hs'⟩ := h'
  PE.imp (pe_chain ho ho' ha hb hc hm) (sim_chain hs hs')
theorem mt_chain {op op' : CmpOp} {m2 m2' : D → D → MH → DK → Prop} (h : CmpD X op m2) (h' : CmpD X op' m2') (ha : ME X W a ma) (hb : ME X W b mb) (hc : ME X W c mc)
    (hm : lastMarks [op, op'] [b, c] = false := by with_unfolding_all rfl) : MT X W (.Compare a [op, op'] [b, c] pos) (dTestB (dChain m2 m2' ma mb mc)) :=
  let ⟨_, ho, hs⟩ := h
  let ⟨_, ho', hs'⟩ := h'
  PT.imp (pt_chain ho ho' ha hb hc hm) (lT_B2 (sim_chain hs hs'))
def dAnd (t u : DT) : DT := fun r M R => t r M fun b M1 => if b = true then u r M1 R else R false M1
def dOr (t u : DT) : DT := fun r M R => t r M fun b M1 => if b = true then R true M1 else u r M1 R
def dNot (t : DT) : DT := fun r M R => t r M fun b M1 => R (!b) M1
variable {tA tB' : DT} {rest : List Expr}
theorem mw_and1 (ha : MT X W a tA) : MW X W (.BoolOp .And [a] pos) tA := pw_and1 ha
theorem mw_or1 (ha : MT X W a tA) : MW X W (.BoolOp .Or [a] pos) tA := pw_or1 ha
theorem lT_and {K : PySem.W.Frag} : ∀ s H Q, lT K W (dAnd tA tB') s H Q → tAnd (lT K W tA) (lT K W tB') s H Q := by
  rintro s H Q ⟨F, al, r, M, R, er, hr, hm, k⟩
  refine ⟨F, al, r, M, _, er, hr, hm, fun c H1 F1 al1 M1 s1 hm1 => ?_⟩
  cases c with
  | true => exact ⟨F1, al1, r, M1, R, er.step hr s1, s1.hr, hm1, fun b H2 F2 al2 M2 s2 q => k b H2 F2 al2 M2 (s1.trans hr s2) q⟩
  | false => exact k _ _ _ _ _ s1 hm1
theorem lT_or {K : PySem.W.Frag} : ∀ s H Q, lT K W (dOr tA tB') s H Q → tOr (lT K W tA) (lT K W tB') s H Q := by
  rintro s H Q ⟨F, al, r, M, R, er, hr, hm, k⟩
  refine ⟨F, al, r, M, _, er, hr, hm, fun c H1 F1 al1 M1 s1 hm1 => ?_⟩
  cases c with
  | false => exact ⟨F1, al1, r, M1, R, er.step hr s1, s1.hr, hm1, fun b H2 F2 al2 M2 s2 q => k b H2 F2 al2 M2 (s1.trans hr s2) q⟩
  | true => exact k _ _ _ _ _ s1 hm1
theorem mw_and (ha : MT X W a tA) (hb : MW X W (.BoolOp .And (b :: rest) pos) tB') : MW X W (.BoolOp .And (a :: b :: rest) pos) (dAnd tA tB') := PW.imp (pw_and ha hb) lT_and
theorem mw_or (ha : MT X W a tA) (hb : MW X W (.BoolOp .Or (b :: rest) pos) tB') : MW X W (.BoolOp .Or (a :: b :: rest) pos) (dOr tA tB') := PW.imp (pw_or ha hb) lT_or
theorem MW.mt (h : MW X W e tA) : MT X W e tA := PW.pt h
theorem mt_not (ha : MT X W a tA) : MT X W (.UnaryOp .Not a pos) (dNot tA) := by
  refine PT.imp (pt_not ha) ?_
  rintro s H Q ⟨F, al, r, M, R, er, hr, hm, k⟩
  exact ⟨F, al, r, M, _, er, hr, hm, fun c H1 F1 al1 M1 s1 hm1 => k _ _ _ _ _ s1 hm1⟩
/-- and, or, not as values: all but the last are truth values -/
def dAndV (ma mb : DE) : DE := fun r M R => ma r M fun d M1 => match d with
  | .bl b => if b = true then mb r M1 R else R (.bl false) M1
  | _ => False
def dOrV (ma mb : DE) : DE := fun r M R => ma r M fun d M1 => match d with
  | .bl b => if b = true then R (.bl true) M1 else mb r M1 R
  | _ => False
def dNotV (ma : DE) : DE := fun r M R => ma r M fun d M1 => match d with
  | .bl b => R (.bl (!b)) M1
  | _ => False
theorem me_one {op} (ha : ME X W a ma) : ME X W (.BoolOp op [a] pos) ma := pe_one ha
theorem me_and (ha : ME X W a ma) (hb : ME X W (.BoolOp .And (b :: rest) pos) mb) : ME X W (.BoolOp .And (a :: b :: rest) pos) (dAndV ma mb) := by
  refine PE.imp (pe_and ha hb) ?_
  rintro s H Q ⟨F, al, r, M, R, er, hr, hm, k⟩
  refine ⟨F, al, r, M, _, er, hr, hm, fun x H1 F1 al1 d M1 s1 r1 hm1 => ?_⟩
  cases d <;> try exact hm1.elim
  rename_i c
  cases r1
  refine ⟨c, rfl, ?_⟩
  cases c with
  | true => exact ⟨F1, al1, r, M1, R, er.step hr s1, s1.hr, hm1, Out.step hr k s1⟩
  | false => exact k _ _ _ _ (.bl false) _ s1 rfl hm1
theorem me_or (ha : ME X W a ma) (hb : ME X W (.BoolOp .Or (b :: rest) pos) mb) : ME X W (.BoolOp .Or (a :: b :: rest) pos) (dOrV ma mb) := by
  refine PE.imp (pe_or ha hb) ?_
  rintro s H Q ⟨F, al, r, M, R, er, hr, hm, k⟩
  refine ⟨F, al, r, M, _, er, hr, hm, fun x H1 F1 al1 d M1 s1 r1 hm1 => ?_⟩
  cases d <;> try exact hm1.elim
  rename_i c
  cases r1
  refine ⟨c, rfl, ?_⟩
  cases c with
  | false => exact ⟨F1, al1, r, M1, R, er.step hr s1, s1.hr, hm1, Out.step hr k s1⟩
  | true => exact k _ _ _ _ (.bl true) _ s1 rfl hm1
theorem me_not (ha : ME X W a ma) : ME X W (.UnaryOp .Not a pos) (dNotV ma) := by
  refine PE.imp (pe_not ha) ?_
  rintro s H Q ⟨F, al, r, M, R, er, hr, hm, k⟩
  refine ⟨F, al, r, M, _, er, hr, hm, fun x H1 F1 al1 d M1 s1 r1 hm1 => ?_⟩
  cases d <;> try exact hm1.elim
  rename_i c
  cases r1
  exact ⟨c, rfl, k _ _ _ _ (.bl (!c)) _ s1 rfl hm1⟩
def dIf (t : DT) (ma mb : DE) : DE := fun r M R => t r M fun c M1 => if c = true then ma r M1 R else mb r M1 R
theorem me_ifExp (hc : MT X W c tA) (ha : ME X W a ma) (hb : ME X W b mb) : ME X W (.IfExp c a b pos) (dIf tA ma mb) := by
  refine PE.imp (pe_ifExp hc ha hb) ?_
  rintro s H Q ⟨F, al, r, M, R, er, hr, hm, k⟩
  refine ⟨F, al, r, M, _, er, hr, hm, fun c H1 F1 al1 M1 s1 hm1 => ?_⟩
  cases c with
  | true => exact ⟨F1, al1, r, M1, R, er.step hr s1, s1.hr, hm1, Out.step hr k s1⟩
  | false => exact ⟨F1, al1, r, M1, R, er.step hr s1, s1.hr, hm1, Out.step hr k s1⟩

/-! ### argument lists, displays -/
def dNil : DA := fun _ M R => R [] M
def dCons (ma : DE) (mr : DA) : DA := fun r M R => ma r M fun d M1 => mr r M1 fun ds M2 => R (d :: ds) M2
theorem ma_nil : MA X W [] dNil := by
  refine PA.imp pa_nil ?_
  rintro s H Q ⟨F, al, r, M, R, er, hr, hm, k⟩
  exact k _ _ _ _ [] _ (Stp.refl hr) rfl hm
theorem ma_cons (ha : ME X W a ma) (hs : MA X W es mas) (he : starEach (a :: es) X.env = (false, eval a X.env) :: starEach es X.env := by rfl) : MA X W (a :: es) (dCons ma mas) := by
  refine PA.imp (pa_cons ha hs he) ?_
  rintro s H Q ⟨F, al, r, M, R, er, hr, hm, k⟩
  refine ⟨F, al, r, M, _, er, hr, hm, fun x H1 F1 al1 d M1 s1 r1 hm1 => ?_⟩
  refine ⟨F1, al1, r, M1, _, er.step hr s1, s1.hr, hm1, fun xs H2 F2 al2 ds M2 s2 r2 hm2 => ?_⟩
  exact k _ _ _ _ (d :: ds) _ (s1.trans hr s2) ⟨x, xs, rfl, r1.mono s2.ex s2.pre, r2⟩ hm2
def dTup (mas : DA) : DE := fun r M R => mas r M fun ds M1 => ds.length ≤ sizeLine ∧ R (.tup ds) M1
def dLst (fz : Bool) (mas : DA) : DE := fun r M R => mas r M fun ds M1 => ds.length ≤ sizeLine ∧ nw fz ds M1 R
theorem me_tup {k} (h : MA X W es mas) : ME X W (.Tuple es k pos) (dTup mas) := by
  refine PE.imp (pe_tup h) ?_
  rintro s H Q ⟨F, al, r, M, R, er, hr, hm, k⟩
  refine ⟨F, al, r, M, _, er, hr, hm, fun xs H1 F1 al1 ds M1 s1 r1 hm1 => ?_⟩
  exact ⟨by rw [r1.length]; exact hm1.1, fun p hp => Out.newT (Out.step hr k s1) s1.hr hp r1 hm1.2⟩
theorem me_lst (fz : Bool) (h : MA X W es mas) : ME X W (.List es pos) (dLst fz mas) := by
  refine PE.imp (pe_lst h) ?_
  rintro s H Q ⟨F, al, r, M, R, er, hr, hm, k⟩
  refine ⟨F, al, r, M, _, er, hr, hm, fun xs H1 F1 al1 ds M1 s1 r1 hm1 => ?_⟩
  exact ⟨by rw [r1.length]; exact hm1.1, fun p hp => Out.new (Out.step hr k s1) s1.hr hp r1 hm1.2⟩

/-! ### subscripts, slices -/
def dIx : D → D → MH → DK → Prop := fun d e M R => match d, e with
  | .str z, .int i => z.length ≤ sizeLine ∧ (match atI z.cps.toList i with
    | some c => R (.str ⟨#[c]⟩) M
    | none => False)
  | d, .int i => match rdS M d with
    | some ds => (match atI ds i with
      | some x => R x M
      | none => False)
    | none => False
  | _, _ => False
theorem atI_rel {K : PySem.W.Frag} {F : Hp} {al : List Addr} {ds : List D} {xs : List V} {i : Int} {d : D} (r : RelA K F al ds xs) (e : atI ds i = some d) : ∃ v, atI xs i = some v ∧ Rel K F al d v := by
  unfold atI at e ⊢
  rw [r.length]
  cases h : ixN ds.length i with
  | none => rw [h] at e; cases e
  | some j =>
    rw [h] at e
    exact r.get e
theorem me_ix (ha : ME X W a ma) (hb : ME X W b mb) (hs : PlainIx b := by intro _ _; rfl) : ME X W (.Subscript a b pos) (dOp dIx ma mb) := by
  refine PE.imp (pe_ix ix_seq ha hb hs) (sim_op ?_)
  intro F al H M x y d e R Q h rx ry hm k
  unfold dIx at hm
  split at hm
  · rename_i z i
    cases rx; cases ry
    obtain ⟨h1, h2⟩ := hm
    split at h2
    · rename_i c hc
      exact .inr (.inr ⟨_, _, c, rfl, rfl, h1, hc, Out.pq k h h2 rfl⟩)
    · exact h2.elim
  · split at hm
    · rename_i ds e1
      split at hm
      · rename_i w hw
        cases ry
        obtain ⟨a, xs, rfl, hx, ra⟩ := h.rdS_ rx e1
        obtain ⟨v, hv, rv⟩ := atI_rel ra hw
        rcases hx with hx | hx
        · exact .inl ⟨a, xs, _, v, rfl, rfl, hx, hv, Out.pure k h rv hm⟩
        · exact .inr (.inl ⟨a, xs, _, v, rfl, rfl, hx, hv, Out.pure k h rv hm⟩)
      · exact hm.elim
    · exact hm.elim
  · exact hm.elim
/-- a part of a slice -/
abbrev DO' := RH → MH → (Option Int → MH → Prop) → Prop
def lO (K : PySem.W.Frag) (W : WX) (m : DO') : TO := fun s H Q => ∃ F al r M, ∃ R : Option Int → MH → Prop, ER K W F al H M s r ∧ HR K F al H M ∧ m r M R ∧ ∀ o H' F' al' M', Stp K F al H M F' al' H' M' → R o M' → Q o H'
def MO' (X : Cx) (W : WX) (e : Option Expr) (m : DO') : Prop := PO X e (lO X.K W m)
theorem PO.imp {eo : Option Expr} {t t' : TO} (h : PO X eo t) (i : ∀ s H Q, t' s H Q → t s H Q) : PO X eo t' := ⟨fun pins s σ H Q I q => h.run pins s σ H Q I (i _ _ _ q)⟩
def dNoPart : DO' := fun _ M R => R none M
def dPart (ma : DE) : DO' := fun r M R => ma r M fun d M1 => match d with
  | .int i => R (some i) M1
  | _ => False
theorem mo_none : MO' X W none dNoPart := by
  refine PO.imp po_none ?_
  rintro s H Q ⟨F, al, r, M, R, er, hr, hm, k⟩
  exact k _ _ _ _ _ (Stp.refl hr) hm
theorem mo_some (ha : ME X W a ma) : MO' X W (some a) (dPart ma) := by
  refine PO.imp (po_some ha) ?_
  rintro s H Q ⟨F, al, r, M, R, er, hr, hm, k⟩
  refine ⟨F, al, r, M, _, er, hr, hm, fun x H1 F1 al1 d M1 s1 r1 hm1 => ?_⟩
  cases d <;> try exact hm1.elim
  cases r1
  exact ⟨_, rfl, k _ _ _ _ _ s1 hm1⟩
def cutD {α : Type} (xs : List α) (lo hi : Option Int) : List α := (xs.drop (HT.sIx xs.length 0 lo)).take (HT.sIx xs.length xs.length hi - HT.sIx xs.length 0 lo)
theorem cutD_rel {K : PySem.W.Frag} {F : Hp} {al : List Addr} {ds : List D} {xs : List V} (lo hi : Option Int) (r : RelA K F al ds xs) : RelA K F al (cutD ds lo hi) (cutV xs lo hi) := by
  unfold cutD cutV
  rw [r.length]
  exact RelA.take _ (RelA.drop _ r)
def dSlV (fz : Bool) (lo hi : Option Int) : D → MH → DK → Prop := fun d M R => match d with
  | .tup ds => R (.tup (cutD ds lo hi)) M
  | .str z => z.length ≤ sizeLine ∧ R (.str (cutS z lo hi)) M
  | d => match rdL M d with
    | some ds => nw fz (cutD ds lo hi) M R
    | none => False
def dSl (fz : Bool) (ma : DE) (ml mh : DO') : DE := fun r M R => ma r M fun d M1 => ml r M1 fun l M2 => mh r M2 fun u M3 => dSlV fz l u d M3 R
theorem cut_whole {α : Type} {xs : List α} {lo hi : Option Int} (h : HT.sIx xs.length 0 lo = 0 ∧ HT.sIx xs.length xs.length hi = xs.length) : cutD xs lo hi = xs := by
  unfold cutD
  rw [h.1, h.2, List.drop_zero, Nat.sub_zero, List.take_length]
theorem me_slice {lo hi : Option Expr} {p2 : Pos} {ml mh : DO'} (fz : Bool) (ha : ME X W a ma) (hl : MO' X W lo ml) (hu : MO' X W hi mh) : ME X W (.Subscript a (.Slice lo hi none p2) pos) (dSl fz ma ml mh) := by
  refine PE.imp (pe_slice (SlR.or (SlR.or sl_list sl_tupA) sl_str) ha hl hu) ?_
  rintro s H Q ⟨F, al, r, M, R, er, hr, hm, k⟩
  refine ⟨F, al, r, M, _, er, hr, hm, fun x H1 F1 al1 d M1 s1 r1 hm1 => ?_⟩
  refine ⟨F1, al1, r, M1, _, er.step hr s1, s1.hr, hm1, fun l H2 F2 al2 M2 s2 hm2 => ?_⟩
  have s12 := s1.trans hr s2
  refine ⟨F2, al2, r, M2, _, er.step hr s12, s2.hr, hm2, fun u H3 F3 al3 M3 s3 hm3 => ?_⟩
  have s13 := s12.trans hr s3
  have k' := Out.step hr k s13
  have h := s3.hr
  have rx := (r1.mono s2.ex s2.pre).mono s3.ex s3.pre
  unfold dSlV at hm3
  split at hm3
  · rename_i ds
    obtain ⟨a, xs, rfl, hx, ra⟩ := h.rdT_ rx (show rdT (.tup ds) = some ds from rfl)
    refine .inl (.inr ⟨a, xs, rfl, hx, fun w => ?_, fun _ p hp => Out.newT k' h hp (cutD_rel l u ra) hm3⟩)
    rw [ra.length] at w
    rw [cut_whole w] at hm3
    exact Out.pure k' h rx hm3
  · cases rx
    exact .inr ⟨_, rfl, hm3.1, Out.pq k' h hm3.2 rfl⟩
  · split at hm3
    · rename_i ds e1
      obtain ⟨a, xs, rfl, hx, ra⟩ := h.rdL_ rx e1
      exact .inl (.inl ⟨a, xs, rfl, hx, fun p hp => Out.new k' h hp (cutD_rel l u ra) hm3⟩)
    · exact hm3.elim
end
end DL

set_option Elab.async false
set_option linter.all false
set_option maxRecDepth 100000
set_option maxHeartbeats 2000000
namespace DL
open PySem PySem.Spec L2
open Evl (Ex)
open PyProof.Rows (b2i)

/-! ### any, all over truth values, ints, None -/
def truS : V → Option Bool
  | .non => some false
  | .bl b => some b
  | .int i => some (i != 0)
  | _ => none
def truD : D → Option Bool
  | .non => some false
  | .bl b => some b
  | .int i => some (i != 0)
  | _ => none
theorem truthy_of {prog : Program} {w : World} {A : Around} {E : Value → Shared → Prop} {s : Shared} {x : V} {u : Value} {b : Bool} {Q : Bool → Shared → Prop} (r : RelV x u) (e : truS x = some b) (q : Q b s) : wpAny (model prog w) A (truthy u) Q E s := by
  cases x with
  | non => cases r; cases e; exact PyProof.Rows.truthy_none q
  | bl c => cases r; cases e; exact wpAny_truthy_bool q
  | int i => obtain ⟨t, rfl⟩ := r; cases e; exact PySem.P.truthy_int q
  | _ => cases e
/-- the answers, one for each -/
def truths : List V → Option (List Bool)
  | [] => some []
  | x :: xs => match truS x, truths xs with
    | some b, some bs => some (b :: bs)
    | _, _ => none
theorem truths_get : ∀ {xs : List V} {bs : List Bool} {us : List Value} {i : Nat} {u : Value}, truths xs = some bs → Vals xs us → us[i]? = some u → ∃ x, RelV x u ∧ truS x = some (bs.getD i false)
  | [], _, _, _, _, _, .nil, h => by simp at h
  | x :: xs, bs, _, i, u, e, .cons r t, h => by
    unfold truths at e
    split at e
    · rename_i b cs e1 e2
      cases e
      cases i with
      | zero => simp at h; subst h; exact ⟨x, r, e1⟩
      | succ i => exact truths_get (i := i) e2 t (by simpa using h)
    · cases e
theorem truths_len : ∀ {xs : List V} {bs : List Bool}, truths xs = some bs → bs.length = xs.length
  | [], _, e => by cases e; rfl
  | x :: xs, bs, e => by
    unfold truths at e
    split at e
    · rename_i b cs e1 e2
      cases e
      simp [truths_len e2]
    · cases e
theorem truth_list {prog : Program} {w : World} {A : Around} {xs : List V} {bs : List Bool} {its : List Value} (e : truths xs = some bs) (r : Vals xs its) :
    TruthOf prog w A (fun i v => its.toArray[i]? = some v) (fun i => bs.getD i false) := fun i v s Q E hv hq => by
  have hv' : its[i]? = some v := by simpa using hv
  obtain ⟨x, rx, ex⟩ := truths_get e r hv'
  exact truthy_of rx ex hq
section
variable {X : Cx}
def rAnyS (K : PySem.W.Frag) (all : Bool) : List V → Hp → VK → Prop := fun vs H Q => ∃ (a : Addr) (xs : List V) (bs : List Bool), vs = [V.ref a] ∧ (SqL K H a xs ∨ SqT K H a xs) ∧ truths xs = some bs ∧ Q (.bl (if all then bs.all id else bs.any id)) H
theorem iter_tup {prog : Program} {w : World} {A : Around} {E : Value → Shared → Prop} {s : Shared} {l : Addr} {items : Array Value} {Q : Value → Shared → Prop} (hl : s.heap.IsTuple l items)
    (h : ∀ s₂ : Shared, s₂ = { s with heap := s.heap.push { cls := .type "tuple_iterator", data := .fields #[.ref l, .int 0 0] } } →
      (s₂.heap.IsTupleIter s.heap.objs.size l 0 ∧ s₂.heap.IsTuple l items) → l ≠ s.heap.objs.size → Q (.ref s.heap.objs.size) s₂) : wpAny (model prog w) A (pyIter (.ref l)) Q E s := by
  have hlt : l < s.heap.objs.size := by obtain ⟨_, e, _⟩ := hl; exact Heap.lt_size e
  exact wpAny_pyIter_tuple hl (h _ rfl ⟨⟨_, Heap.get?_push_size _ rfl, rfl, rfl⟩, hl.at fun o e => Heap.get?_push_of_some _ e⟩ (Nat.ne_of_lt hlt))
theorem cr_anyS (hc : X.calm = true) : CallR X (.builtin "any") (rAnyS X.K false) := by
  intro pins s σ H vs us Q I r h
  obtain ⟨a, xs, bs, rfl, hs, hb, q⟩ := h
  rw [Vals.ref1 r]
  have fin : ∀ (s' : Shared) (n : Nat), n = bs.length → (∃ h' tk, s' = { s with heap := h', toks := tk } ∧ ∀ b o, s.heap.get? b = some o → h'.get? b = some o) → EP X pins σ Q (.bool ((List.range n).any fun i => bs.getD i false)) s' := by
    rintro s' n rfl ⟨h', tk, rfl, hk⟩
    exact ⟨.bl _, H, I.kept hk, (by show Value.bool _ = Value.bool _; rw [any_range]; rfl), q⟩
  rcases hs with hs | hs
  · obtain ⟨its, rv, hl, _⟩ := I.list hs
    refine call_any_walk (iter_any hl.isList fun s₂ e2 st hne => ?_)
    subst e2
    refine ⟨_, _, _, _, _, _, _, rfl, Walks.list (A := X.A.in1) (I.ok.hd hc) _ a hne its.toArray, st, truth_list hb rv, fun h' tk hk => ?_⟩
    refine fin _ _ (by rw [List.size_toArray, ← rv.length, truths_len hb]) ⟨h', tk, rfl, fun b o eo => hk b o (fun hmem => ?_) (Heap.get?_push_of_some _ eo)⟩
    rcases List.mem_cons.mp hmem with e1 | hmem
    · exact absurd (e1 ▸ Heap.lt_size eo) (Nat.lt_irrefl _)
    · cases hmem
  · obtain ⟨its, rv, ht, _⟩ := I.tuple hs
    refine call_any_walk (iter_tup ht fun s₂ e2 st hne => ?_)
    subst e2
    refine ⟨_, _, _, _, _, _, _, rfl, Walks.tuple (A := X.A.in1) (I.ok.hd hc) _ a hne its.toArray, st, truth_list hb rv, fun h' tk hk => ?_⟩
    refine fin _ _ (by rw [List.size_toArray, ← rv.length, truths_len hb]) ⟨h', tk, rfl, fun b o eo => hk b o (fun hmem => ?_) (Heap.get?_push_of_some _ eo)⟩
    rcases List.mem_cons.mp hmem with e1 | hmem
    · exact absurd (e1 ▸ Heap.lt_size eo) (Nat.lt_irrefl _)
    · cases hmem
theorem cr_allS (hc : X.calm = true) : CallR X (.builtin "all") (rAnyS X.K true) := by
  intro pins s σ H vs us Q I r h
  obtain ⟨a, xs, bs, rfl, hs, hb, q⟩ := h
  rw [Vals.ref1 r]
  have fin : ∀ (s' : Shared) (n : Nat), n = bs.length → (∃ h' tk, s' = { s with heap := h', toks := tk } ∧ ∀ b o, s.heap.get? b = some o → h'.get? b = some o) → EP X pins σ Q (.bool ((List.range n).all fun i => bs.getD i false)) s' := by
    rintro s' n rfl ⟨h', tk, rfl, hk⟩
    exact ⟨.bl _, H, I.kept hk, (by show Value.bool _ = Value.bool _; rw [all_range]; rfl), q⟩
  rcases hs with hs | hs
  · obtain ⟨its, rv, hl, _⟩ := I.list hs
    refine call_all_walk (iter_any hl.isList fun s₂ e2 st hne => ?_)
    subst e2
    refine ⟨_, _, _, _, _, _, _, rfl, Walks.list (A := X.A.in1) (I.ok.hd hc) _ a hne its.toArray, st, truth_list hb rv, fun h' tk hk => ?_⟩
    refine fin _ _ (by rw [List.size_toArray, ← rv.length, truths_len hb]) ⟨h', tk, rfl, fun b o eo => hk b o (fun hmem => ?_) (Heap.get?_push_of_some _ eo)⟩
    rcases List.mem_cons.mp hmem with e1 | hmem
    · exact absurd (e1 ▸ Heap.lt_size eo) (Nat.lt_irrefl _)
    · cases hmem
  · obtain ⟨its, rv, ht, _⟩ := I.tuple hs
    refine call_all_walk (iter_tup ht fun s₂ e2 st hne => ?_)
    subst e2
    refine ⟨_, _, _, _, _, _, _, rfl, Walks.tuple (A := X.A.in1) (I.ok.hd hc) _ a hne its.toArray, st, truth_list hb rv, fun h' tk hk => ?_⟩
    refine fin _ _ (by rw [List.size_toArray, ← rv.length, truths_len hb]) ⟨h', tk, rfl, fun b o eo => hk b o (fun hmem => ?_) (Heap.get?_push_of_some _ eo)⟩
    rcases List.mem_cons.mp hmem with e1 | hmem
    · exact absurd (e1 ▸ Heap.lt_size eo) (Nat.lt_irrefl _)
    · cases hmem

/-! ### repr -/
mutual
theorem dp_noDict {K : PySem.W.Frag} {H : Hp} : ∀ (d : PyData) (x : V), Dp K H x d → d.hasDict = false
  | .none, _, _ => rfl
  | .bool _, _, _ => rfl
  | .int _, _, _ => rfl
  | .str _, _, _ => rfl
  | .list ds, _, .lst _ h => dp_noDictA ds _ h
  | .tuple ds, _, .tup _ h => dp_noDictA ds _ h
theorem dp_noDictA {K : PySem.W.Frag} {H : Hp} : ∀ (ds : List PyData) (xs : List V), DpAll K H xs ds → PyData.hasDictAll ds = false
  | [], _, _ => rfl
  | d :: ds, _, .cons h1 h2 => by
    show (d.hasDict || PyData.hasDictAll ds) = false
    rw [dp_noDict d _ h1, dp_noDictA ds _ h2]; rfl
end
theorem call_repr_D (hg : X.A.guards = some []) (hu : X.A.units + 66 < cLine) : CallR X (.builtin "repr") (fun xs H Q => ∃ x d, xs = [x] ∧ Dp X.K H x d ∧ d.showable = true ∧ SeqAt.shaped d = true ∧ d.shown.length ≤ sizeLine ∧ Q (.str d.shown) H) := by
  intro pins s σ H xs us Q I r h
  obtain ⟨x, d, rfl, hd, hs, hp, hz, q⟩ := h
  cases r with
  | cons rx rt =>
    cases rt
    rename_i u
    have hdep := SeqAt.depth_of_shaped hp
    have leaf : ∀ s' : Shared, (∃ tk, s' = { s with toks := tk }) → ∀ z : Str, ∀ t, z = d.shown → EP X pins σ Q (.str z t) s' := by
      rintro s' ⟨tk, rfl⟩ z t rfl
      exact ⟨.str _, H, I.tok _, ⟨t, rfl⟩, q⟩
    have nest : ∀ a, u = .ref a → d.hasDict = false → wpAny (model X.prog X.w) X.A (call (.builtin "repr") [u]) (EP X pins σ Q) X.xe s := by
      rintro a rfl hn
      obtain ⟨as, r1⟩ := Dp.reads I d x _ hd rx
      exact repr_of_reads' r1 hs (fun z => by rw [hn] at z; cases z) hg (by omega) (fun _ _ e => e) (fun h' t tk hk => ⟨.str _, H, I.kept hk, ⟨t, rfl⟩, q⟩) hz
    have nod : ∀ (d : PyData) (x : V), Dp X.K H x d → d.hasDict = false := fun d x h => dp_noDict d x h
    cases hd with
    | non => cases rx; exact PySem.P.repr_of_none (leaf _ ⟨_, rfl⟩ _ _ rfl)
    | bl b => cases rx; exact PySem.P.repr_of_bool (leaf _ ⟨_, rfl⟩ _ _ (by cases b <;> rfl))
    | int i => obtain ⟨t, rfl⟩ := rx; exact PySem.P.repr_of_int (of_decide_eq_true hs) (leaf _ ⟨_, rfl⟩ _ _ rfl)
    | str y => obtain ⟨t, rfl⟩ := rx; exact PySem.P.repr_of_str (leaf _ ⟨_, rfl⟩ _ _ rfl) hz
    | lst h1 h2 => cases rx; exact nest _ rfl (nod _ _ (.lst h1 h2))
    | tup h1 h2 => cases rx; exact nest _ rfl (nod _ _ (.tup h1 h2))
end
end DL

set_option Elab.async false
set_option linter.all false
set_option maxRecDepth 100000
set_option maxHeartbeats 2000000
namespace DL
open PySem PySem.Spec L2
open Evl (Ex)
open PyProof.Rows (b2i)

/-! ### built-in functions and classes, called by name -/
def BltD (X : Cx) (x : Str) (mc : List D → MH → DK → Prop) : Prop :=
  ∃ r, SimC X.K r mc ∧ ((∃ id, bootBuiltins x = some (.builtin id) ∧ CallR X (.builtin id) r) ∨ (∃ T, bootBuiltins x = some (.type T) ∧ CallR X (.type T) r))
def dCB (mc : List D → MH → DK → Prop) (mas : DA) : DE := fun r M R => mas r M fun ds M1 => mc ds M1 R
section
variable {X : Cx} {W : WX} {a b c e : Expr} {es : List Expr} {ma mb me : DE} {mas : DA} {pos p : Pos} {x : Str}
theorem sim_CB {K : PySem.W.Frag} {r : List V → Hp → VK → Prop} {mc : List D → MH → DK → Prop} (hs : SimC K r mc) : ∀ s H Q, lE K W (dCB mc mas) s H Q → tCB r (lA K W mas) s H Q := by
  rintro s H Q ⟨F, al, rr, M, R, er, hr, hm, k⟩
  refine ⟨F, al, rr, M, _, er, hr, hm, fun xs H1 F1 al1 ds M1 s1 r1 hm1 => ?_⟩
  exact hs F1 al1 H1 M1 xs ds R Q s1.hr r1 hm1 (Out.step hr k s1)
theorem me_blt {mc : List D → MH → DK → Prop} (h : BltD X x mc) (hg : Gl X x) (hm : X.mg x = none) (ha : MA X W (e :: es) mas) (hn : x ≠ "__name__" := by decide) (hdb : (x == ("__debug__" : Str)) = false := by decide)
    (he : starEach (e :: es) X.env = (false, eval e X.env) :: starEach es X.env := by rfl) (hpl : (backTo pos (starEach es X.env)).any (·.1) = false := by rfl) : ME X W (.Call (.Name x p) (e :: es) [] pos) (dCB mc mas) := by
  obtain ⟨r, hs, ⟨id, hv, hc⟩ | ⟨T, hv, hc⟩⟩ := h
  · exact PE.imp (pe_callB hc hg hm hv ha hn hdb he hpl) (sim_CB hs)
  · exact PE.imp (pe_callTy hc hg hm hv ha hn hdb he hpl) (sim_CB hs)

/-- abs -/
def dAbs : List D → MH → DK → Prop
  | [.int i], M, R => R (.int (if i < 0 then -i else i)) M
  | _, _, _ => False
theorem bl_abs : BltD X "abs" dAbs := by
  refine ⟨_, ?_, .inl ⟨_, by decide +kernel, call_abs⟩⟩
  intro F al H M xs ds R Q h rx hm k
  unfold dAbs at hm
  split at hm
  · obtain ⟨y, ys, rfl, ry, rfl⟩ := rx
    cases ry
    exact ⟨_, rfl, Out.pq k h hm rfl⟩
  · exact hm.elim
/-- len -/
def dLen : List D → MH → DK → Prop
  | [.str z], M, R => z.length ≤ sizeLine ∧ R (.int z.length) M
  | [d], M, R => match rdS M d with
    | some ds => R (.int ds.length) M
    | none => False
  | _, _, _ => False
theorem bl_len : BltD X "len" dLen := by
  refine ⟨_, ?_, .inl ⟨_, by decide +kernel, CallR.or call_len_seq call_len_str⟩⟩
  intro F al H M xs ds R Q h rx hm k
  unfold dLen at hm
  split at hm
  · obtain ⟨y, ys, rfl, ry, rfl⟩ := rx
    cases ry
    exact .inr ⟨_, rfl, hm.1, Out.pq k h hm.2 rfl⟩
  · obtain ⟨y, ys, rfl, ry, rfl⟩ := rx
    split at hm
    · rename_i ds e1
      obtain ⟨a, us, rfl, hx, ra⟩ := h.rdS_ ry e1
      exact .inl ⟨a, us, rfl, hx, Out.pq k h hm (by show V.int _ = V.int _; rw [ra.length])⟩
    · exact hm.elim
  · exact hm.elim
/-- int of an int, of a truth value -/
def dInt : List D → MH → DK → Prop
  | [.int i], M, R => R (.int i) M
  | [.bl b], M, R => R (.int (if b then 1 else 0)) M
  | _, _, _ => False
theorem bl_int : BltD X "int" dInt := by
  refine ⟨_, ?_, .inr ⟨_, by decide +kernel, call_int1⟩⟩
  intro F al H M xs ds R Q h rx hm k
  unfold dInt at hm
  split at hm
  · obtain ⟨y, ys, rfl, ry, rfl⟩ := rx
    cases ry
    exact .inl ⟨_, rfl, Out.pq k h hm rfl⟩
  · obtain ⟨y, ys, rfl, ry, rfl⟩ := rx
    cases ry
    exact .inr ⟨_, rfl, Out.pq k h hm rfl⟩
  · exact hm.elim
/-- list, tuple of a list or a tuple -/
def dList (fz : Bool) : List D → MH → DK → Prop
  | [d], M, R => match rdS M d with
    | some ds => nw fz ds M R
    | none => False
  | _, _, _ => False
theorem bl_list (fz : Bool) : BltD X "list" (dList fz) := by
  refine ⟨_, ?_, .inr ⟨_, by decide +kernel, call_list_of⟩⟩
  intro F al H M xs ds R Q h rx hm k
  unfold dList at hm
  split at hm
  · obtain ⟨y, ys, rfl, ry, rfl⟩ := rx
    split at hm
    · rename_i ds e1
      obtain ⟨a, us, rfl, hx, ra⟩ := h.rdS_ ry e1
      exact ⟨a, us, rfl, hx, fun l hl => Out.new k h hl ra hm⟩
    · exact hm.elim
  · exact hm.elim
def dTuple : List D → MH → DK → Prop
  | [d], M, R => match rdS M d with
    | some ds => R (.tup ds) M
    | none => False
  | _, _, _ => False
theorem bl_tuple : BltD X "tuple" dTuple := by
  refine ⟨_, ?_, .inr ⟨_, by decide +kernel, call_tuple_of⟩⟩
  intro F al H M xs ds R Q h rx hm k
  unfold dTuple at hm
  split at hm
  · obtain ⟨y, ys, rfl, ry, rfl⟩ := rx
    rename_i d
    have lists : ∀ es, rdL M d = some es → R (.tup es) M → ∃ p zs, [y] = [V.ref p] ∧ ((SqL X.K H p zs ∧ ∀ l, H l = none → Q (.ref l) (upd H l (.tup zs))) ∨ (SqT X.K H p zs ∧ Q (.ref p) H)) := by
      intro es e1 hm
      obtain ⟨a, us, rfl, hx, ra⟩ := h.rdL_ ry e1
      exact ⟨a, us, rfl, .inl ⟨hx, fun l hl => Out.newT k h hl ra hm⟩⟩
    split at hm
    · rename_i es e1
      cases d with
      | tup fs =>
        obtain ⟨a, us, rfl, hx, ra⟩ := h.rdT_ ry (show rdT (.tup fs) = some fs from rfl)
        cases e1
        exact ⟨a, us, rfl, .inr ⟨hx, Out.pq k h hm ry⟩⟩
      | lst fs => exact lists es e1 hm
      | scr fs => exact lists es e1 hm
      | loc j => exact lists es e1 hm
      | _ => cases e1
    · exact hm.elim
  · exact hm.elim
/-- isinstance with one built-in class -/
def tyD (M : MH) : D → Option String
  | .non => some "NoneType"
  | .bl _ => some "bool"
  | .int _ => some "int"
  | .str _ => some "str"
  | .tup _ => some "tuple"
  | .lst _ => some "list"
  | .scr _ => some "list"
  | .loc k => match M[k]? with
    | some (.lst _) => some "list"
    | some (.frz _) => some "list"
    | _ => none
  | _ => none
def isiB (t n : String) : Bool := t == n || (t == "bool" && n == "int")
def tyNames : List String := ["NoneType", "bool", "int", "str", "tuple", "list", "dict"]
def isiL : List String := ["bool", "int", "str", "tuple", "list", "dict"]
theorem kitB_ok : ∀ t ∈ tyNames, ∀ n ∈ isiL, ∀ K : PySem.W.Frag, PySem.W.kitOne K (.type t) (.type n) = some (isiB t n) := by
  intro t ht n hn K
  have key : (tyNames.all fun t => isiL.all fun n => kitB t n == some (isiB t n)) = true := by decide +kernel
  rw [List.all_eq_true] at key
  have k1 := key t ht
  rw [List.all_eq_true] at k1
  exact kit_ty (beq_iff_eq.mp (k1 n hn))
theorem tyX_l {K : PySem.W.Frag} {H : Hp} {a : Addr} {xs : List V} (h : SqL K H a xs) : TyX K H (.ref a) (.type "list") := by
  rcases h with (h | ⟨o, h⟩) | ⟨o, its, n, h, hc, _⟩
  · exact .base (.lst h)
  · exact .base (.frz h)
  · exact .kList h hc
theorem tyX_t {K : PySem.W.Frag} {H : Hp} {a : Addr} {xs : List V} (h : SqT K H a xs) : TyX K H (.ref a) (.type "tuple") := by
  rcases h with (h | ⟨o, h⟩) | ⟨o, its, n, h, hc, _⟩
  · exact .base (.tup h)
  · exact .fTuple h
  · exact .kTuple h hc
theorem HR.ty {K : PySem.W.Frag} {F : Hp} {al : List Addr} {H : Hp} {M : MH} {d : D} {v : V} {t : String} (h : HR K F al H M) (r : Rel K F al d v) (e : tyD M d = some t) : TyX K H v (.type t) ∧ t ∈ tyNames := by
  have seq : ∀ ds, rdL M d = some ds → TyX K H v (.type "list") := by
    intro ds e
    obtain ⟨a, xs, rfl, hx, _⟩ := h.rdL_ r e
    exact tyX_l hx
  cases d with
  | non => cases r; cases e; exact ⟨.base .non, by decide⟩
  | bl b => cases r; cases e; exact ⟨.base (.bl _), by decide⟩
  | int i => cases r; cases e; exact ⟨.base (.int _), by decide⟩
  | str x => cases r; cases e; exact ⟨.base (.str _), by decide⟩
  | tup ds =>
    obtain ⟨a, xs, rfl, hx, _⟩ := h.rdT_ r (show rdT (.tup ds) = some ds from rfl)
    cases e; exact ⟨tyX_t hx, by decide⟩
  | lst ds => cases e; exact ⟨seq ds rfl, by decide⟩
  | scr ds => cases e; exact ⟨seq ds rfl, by decide⟩
  | loc k =>
    simp only [tyD] at e
    split at e
    · rename_i ds hk
      cases e; exact ⟨seq ds (by simp [rdL, hk]), by decide⟩
    · rename_i ds hk
      cases e; exact ⟨seq ds (by simp [rdL, hk]), by decide⟩
    · cases e
  | _ => cases e
def dIsi : List D → MH → DK → Prop
  | [d, .ty n], M, R => match tyD M d with
    | some t => n ∈ isiL ∧ R (.bl (isiB t n)) M
    | none => False
  | _, _, _ => False
theorem bl_isi : BltD X "isinstance" dIsi := by
  refine ⟨_, ?_, .inl ⟨_, by decide +kernel, call_isi⟩⟩
  intro F al H M xs ds R Q h rx hm k
  unfold dIsi at hm
  split at hm
  · obtain ⟨y, ys, rfl, ry, z, zs, rfl, rz, rfl⟩ := rx
    cases rz
    split at hm
    · rename_i t e1
      obtain ⟨h1, h2⟩ := h.ty ry e1
      exact ⟨y, _, _, _, _, rfl, .ty _, h1, kitB_ok t h2 _ hm.1 _, Out.pq k h hm.2 rfl⟩
    · exact hm.elim
  · exact hm.elim
/-- any, all -/
def truA : List D → Option (List Bool)
  | [] => some []
  | d :: ds => match truD d, truA ds with
    | some b, some bs => some (b :: bs)
    | _, _ => none
theorem truA_rel {K : PySem.W.Frag} {F : Hp} {al : List Addr} : ∀ {ds : List D} {xs : List V} {bs : List Bool}, RelA K F al ds xs → truA ds = some bs → truths xs = some bs
  | [], _, _, h, e => by cases h; exact e
  | d :: ds, _, bs, ⟨y, ys, h1, h2, h3⟩, e => by
    subst h1
    unfold truA at e
    split at e
    · rename_i b cs e1 e2
      cases e
      have q : truS y = some b := by
        cases d with
        | non => cases h2; exact e1
        | bl c => cases h2; exact e1
        | int i => cases h2; exact e1
        | _ => cases e1
      unfold truths
      rw [q, truA_rel h3 e2]
    · cases e
def dAny (all : Bool) : List D → MH → DK → Prop
  | [d], M, R => match rdS M d with
    | some ds => (match truA ds with
      | some bs => R (.bl (if all then bs.all id else bs.any id)) M
      | none => False)
    | none => False
  | _, _, _ => False
theorem sim_any {K : PySem.W.Frag} {all : Bool} : SimC K (rAnyS K all) (dAny all) := by
  intro F al H M xs ds R Q h rx hm k
  unfold dAny at hm
  split at hm
  · obtain ⟨y, ys, rfl, ry, rfl⟩ := rx
    split at hm
    · rename_i ds e1
      split at hm
      · rename_i bs e2
        obtain ⟨a, us, rfl, hx, ra⟩ := h.rdS_ ry e1
        exact ⟨a, us, bs, rfl, hx, truA_rel ra e2, Out.pq k h hm rfl⟩
      · exact hm.elim
    · exact hm.elim
  · exact hm.elim
theorem bl_any (hc : X.calm = true) : BltD X "any" (dAny false) := ⟨_, sim_any, .inl ⟨_, by decide +kernel, cr_anyS hc⟩⟩
theorem bl_all (hc : X.calm = true) : BltD X "all" (dAny true) := ⟨_, sim_any, .inl ⟨_, by decide +kernel, cr_allS hc⟩⟩
/-- of a list of ints -/
def intA : List D → Option (List Int)
  | [] => some []
  | .int i :: ds => match intA ds with
    | some is => some (i :: is)
    | none => none
  | _ :: _ => none
theorem intA_rel {K : PySem.W.Frag} {F : Hp} {al : List Addr} : ∀ {ds : List D} {xs : List V} {ns : List Int}, RelA K F al ds xs → intA ds = some ns → xs = ns.map V.int
  | [], _, _, h, e => by cases h; cases e; rfl
  | d :: ds, _, ns, ⟨y, ys, h1, h2, h3⟩, e => by
    subst h1
    cases d with
    | int i =>
      unfold intA at e
      split at e
      · rename_i is e2
        cases e; cases h2
        rw [intA_rel h3 e2]; rfl
      · cases e
    | _ => simp [intA] at e
theorem relA_int {K : PySem.W.Frag} {F : Hp} {al : List Addr} : ∀ ns : List Int, RelA K F al (ns.map D.int) (ns.map V.int)
  | [] => rfl
  | n :: ns => ⟨_, _, rfl, rfl, relA_int ns⟩
def dSum : List D → MH → DK → Prop
  | [d], M, R => match rdL M d with
    | some ds => (match intA ds with
      | some ns => R (.int ns.sum) M
      | none => False)
    | none => False
  | _, _, _ => False
theorem bl_sum (hc : X.calm = true) : BltD X "sum" dSum := by
  refine ⟨_, ?_, .inl ⟨_, by decide +kernel, cr_sum hc⟩⟩
  intro F al H M xs ds R Q h rx hm k
  unfold dSum at hm
  split at hm
  · obtain ⟨y, ys, rfl, ry, rfl⟩ := rx
    split at hm
    · rename_i ds e1
      split at hm
      · rename_i ns e2
        obtain ⟨a, us, rfl, hx, ra⟩ := h.rdL_ ry e1
        rw [intA_rel ra e2] at hx
        exact ⟨a, ns, rfl, hx, Out.pq k h hm rfl⟩
      · exact hm.elim
    · exact hm.elim
  · exact hm.elim
/-- max, min of a list of ints, of two ints -/
def dMax (mx : Bool) : List D → MH → DK → Prop
  | [.int i, .int j], M, R => R (.int (if mx then (if j > i then j else i) else (if j < i then j else i))) M
  | [d], M, R => match rdL M d with
    | some ds => (match intA ds with
      | some ns => 0 < ns.length ∧ ∀ m, m ∈ ns → (∀ y, y ∈ ns → if mx then y ≤ m else m ≤ y) → R (.int m) M
      | none => False)
    | none => False
  | _, _, _ => False
theorem bl_max (hc : X.calm = true) : BltD X "max" (dMax true) := by
  refine ⟨_, ?_, .inl ⟨_, by decide +kernel, CallR.or (call_max2 hc) (cr_max hc)⟩⟩
  intro F al H M xs ds R Q h rx hm k
  unfold dMax at hm
  split at hm
  · obtain ⟨y, ys, rfl, ry, z, zs, rfl, rz, rfl⟩ := rx
    cases ry; cases rz
    exact .inl ⟨_, _, rfl, Out.pq k h hm rfl⟩
  · obtain ⟨y, ys, rfl, ry, rfl⟩ := rx
    split at hm
    · rename_i ds e1
      split at hm
      · rename_i ns e2
        obtain ⟨a, us, rfl, hx, ra⟩ := h.rdL_ ry e1
        rw [intA_rel ra e2] at hx
        exact .inr ⟨a, ns, rfl, hx, hm.1, fun m h1 h2 => Out.pq k h (hm.2 m h1 fun y hy => h2 y hy) rfl⟩
      · exact hm.elim
    · exact hm.elim
  · exact hm.elim
theorem bl_min (hc : X.calm = true) : BltD X "min" (dMax false) := by
  refine ⟨_, ?_, .inl ⟨_, by decide +kernel, CallR.or (call_min2 hc) (cr_min hc)⟩⟩
  intro F al H M xs ds R Q h rx hm k
  unfold dMax at hm
  split at hm
  · obtain ⟨y, ys, rfl, ry, z, zs, rfl, rz, rfl⟩ := rx
    cases ry; cases rz
    exact .inl ⟨_, _, rfl, Out.pq k h hm rfl⟩
  · obtain ⟨y, ys, rfl, ry, rfl⟩ := rx
    split at hm
    · rename_i ds e1
      split at hm
      · rename_i ns e2
        obtain ⟨a, us, rfl, hx, ra⟩ := h.rdL_ ry e1
        rw [intA_rel ra e2] at hx
        exact .inr ⟨a, ns, rfl, hx, hm.1, fun m h1 h2 => Out.pq k h (hm.2 m h1 fun y hy => h2 y hy) rfl⟩
      · exact hm.elim
    · exact hm.elim
  · exact hm.elim
/-- repr -/
def dRepr : List D → MH → DK → Prop
  | [d], M, R => match pyM M d with
    | some p => (p.showable = true ∧ SeqAt.shaped p = true ∧ p.shown.length ≤ sizeLine) ∧ R (.str p.shown) M
    | none => False
  | _, _, _ => False
theorem bl_repr (hg : X.A.guards = some []) (hu : X.A.units + 66 < cLine) : BltD X "repr" dRepr := by
  refine ⟨_, ?_, .inl ⟨_, by decide +kernel, call_repr_D hg hu⟩⟩
  intro F al H M xs ds R Q h rx hm k
  unfold dRepr at hm
  split at hm
  · obtain ⟨y, ys, rfl, ry, rfl⟩ := rx
    split at hm
    · rename_i p e1
      exact ⟨y, p, rfl, h.pyM_ ry e1, hm.1.1, hm.1.2.1, hm.1.2.2, Out.pq k h hm.2 rfl⟩
    · exact hm.elim
  · exact hm.elim
end
end DL

set_option Elab.async false
set_option linter.all false
set_option maxRecDepth 100000
set_option maxHeartbeats 2000000
namespace DL
open PySem PySem.Spec L2
open Evl (Ex)
open PyProof.Rows (envOfC)

/-! ### calls of the program's own defs, where no repr runs around -/
structure RoomG (k : Nat) (A : Around) : Prop where
  r : Room k A
  g : A.guards = some []
theorem RoomG.mono {j k : Nat} {A : Around} (h : RoomG k A) (l : j ≤ k) : RoomG j A := ⟨h.r.mono l, h.g⟩
theorem RoomG.deeper {k : Nat} {A : Around} (h : RoomG (k + 1) A) (env : Env) : RoomG k (A.deeper env) := ⟨h.r.deeper env, h.g⟩
theorem RoomG.u64 {k : Nat} {A : Around} (h : RoomG k A) : A.units + 64 < cLine := by have := h.r.un; omega
theorem RoomG.u65 {k : Nat} {A : Around} (h : RoomG k A) : A.units + 65 < cLine := by have := h.r.un; omega
theorem RoomG.u66 {k : Nat} {A : Around} (h : RoomG k A) : A.units + 66 < cLine := by have := h.r.un; omega

/-- a def keeps its promise -/
structure FnG (P : Program) (w : World) (K : PySem.W.Frag) (mg : Str → Option Value) (base : Heap) (k : Nat) (f : Addr) (fd : FuncData) (ps : List Str) (sp : Sp) : Prop where
  ar : ∀ vs H Q E, sp vs H Q E → vs.length = ps.length
  go : ∀ (A : Around) (outer : List Env) (s : Shared) (H : Hp) (args : Args) (us : List Value) (vs : List V) (Q : VK) (E : XK), RoomG k A → Env0 P w K mg base A outer s H →
    BindsTo s fd args (ps.zip us) → Vals vs us → sp vs H Q E → codeAny (model P w) A (.call (.ref f) args) (CR (L2.CX P w) outer P w H s Q E) s

/-- a def by its body -/
theorem fnG_of {P : Program} {w : World} {K : PySem.W.Frag} {mg : Str → Option Value} {base : Heap} {k : Nat} {f : Addr} {fd : FuncData} {x q : Str} {pa : Arguments} {bd : List Stmt} {sc : Scope} {dvs : List V} {kws : List (Str × V)} {N ps : List Str} {sp : Sp}
    (D : FunD K x q pa bd sc dvs kws f fd) (S : FnScope N ps sc) (ar : ∀ vs H Q E, sp vs H Q E → vs.length = ps.length)
    (hb : ∀ (cdv : Value) (A : Around) (outer : List Env) (s : Shared) (H : Hp) (vs : List V) (Q : VK) (E : XK), RoomG k (A.deeper (envOfC q sc s.heap.objs.size f cdv)) → sp vs H Q E →
      ∃ t, PSs (cxOf (L2.CX P w) P w K mg base N q sc f cdv A outer s H E) bd t ∧ t { nx := fun _ H' => Q .non H', rt := Q } (start N vs) H) : FnG P w K mg base (k + 1) f fd ps sp := by
  obtain ⟨oc, od, dV, kV, doc, pm, an, cdv, ct, osl, rfl, hl, hcode, _, _⟩ := D.ex
  constructor
  · exact ar
  intro A outer s H args us vs Q E room e0 bnd rel hsp
  have n := ar _ _ _ _ hsp
  have KI : K.In s.heap := e0.mod.kin.keeps fun b o z => (e0.bs b o z).1
  have nl : s.heap.NoLimit := e0.mod.nolimit.keeps fun b o z => (e0.bs b o z).1
  have kinds : ∀ y ∈ ps.zip us, sc.names.lookup y.1 = some .local ∨ (sc.names.lookup y.1 = some .cell ∧ ((cellsFrom (s.heap.objs.size + 1) sc.names []).lookup y.1).isSome = true) := by
    rintro ⟨nm, u⟩ hy
    cases S.par nm (List.of_mem_zip hy).1 with
    | inl z => exact Or.inl z
    | inr z => exact Or.inr ⟨z, PySem.W.cellsFrom_some _ _ _ (Or.inl z)⟩
  apply codeAny_call_function room.r.depth (KI _ _ hl) rfl S.co S.gen rfl (PySem.W.codeRec_of KI hcode)
  apply bnd
  apply wpAny_newFunctionEnv_cells S.kind kinds
  intro env he s1 ic
  subst he
  constructor
  · exact nl.keeps ic.toInCall.keep
  apply codeAny_func
  obtain ⟨t, ht, hq⟩ := hb cdv A outer s H vs Q E (room.deeper _) hsp
  have J : L2.Inv (cxOf (L2.CX P w) P w K mg base N q sc f cdv A outer s H E) [] (start N vs) H s1 := inv_start S room.r.hd e0 n rel ic
  apply wpAny_mono (ht.run [] s1 (start N vs) H _ J hq)
  · intro fl s' hs
    cases fl with
    | ret u =>
      obtain ⟨v, σ', H', J', rv, q'⟩ := hs
      exact ⟨v, H', J'.os, J'.bare, J'.base, J'.hok, rv, q'⟩
    | next =>
      obtain ⟨σ', H', J', q'⟩ := hs
      exact ⟨V.non, H', J'.os, J'.bare, J'.base, J'.hok, rfl, q'⟩
    | brk => obtain ⟨_, _, _, z⟩ := hs; exact False.elim z
    | cont => obtain ⟨_, _, _, z⟩ := hs; exact False.elim z
  · exact fun _ _ z => z

section
variable {X : Cx} {k : Nat} {f : Addr} {fd : FuncData} {ps : List Str} {sp : Sp} {dvs : List V} {ds : List Value} {E : L2.St → XK} {x : Str} {p pos : Pos} {e : Expr} {es : List Expr} {t : TA}
theorem run_fnG {pins : List (Addr × Obj)} {σ : L2.St} {H : Hp} {s : Shared} {Q : VK} {us : List Value} {vs : List V} (F : FnG X.prog X.w X.K X.mg X.base k f fd ps sp) (hr : RoomG k X.A) (hb : Binds X.K fd ps ds) (hd : Vals dvs ds)
    (hx : PassesAt (L2.CX X.prog X.w) X σ (E σ)) (I : L2.Inv X pins σ H s) (r : Vals vs us) (h : sp (vs ++ dvs) H Q (E σ)) : wpAny (model X.prog X.w) X.A (call (.ref f) us) (EP X pins σ Q) X.xe s := by
  have r2 : Vals (vs ++ dvs) (us ++ ds) := r.append hd
  have hl : (us ++ ds).length = ps.length := r2.length.symm.trans (F.ar _ _ _ _ h)
  apply wpAny_call
  refine codeAny_mono (F.go X.A X.stack s H ⟨us, []⟩ (us ++ ds) (vs ++ dvs) Q (E σ) hr I.env0 (hb s us I.kIn hl) r2 h) ?_
  intro res s' hq
  cases res with
  | error err => exact hx pins H s err s' I hq
  | ok fl =>
    cases fl with
    | ret u => exact I.after hq
    | next => exact False.elim hq
    | brk => exact False.elim hq
    | cont => exact False.elim hq
def tCallG (sp : Sp) (dvs : List V) (E : L2.St → XK) (t : TA) : TE := fun σ H Q => t σ H fun vs H1 => sp (vs ++ dvs) H1 Q (E σ)
theorem pe_callGG (F : FnG X.prog X.w X.K X.mg X.base k f fd ps sp) (hr : RoomG k X.A) (hg : Gl X x) (hm : X.mg x = some (.ref f)) (hk : PySem.W.keepIn X.K (.ref f) = true) (hb : Binds X.K fd ps ds) (hd : Vals dvs ds)
    (hx : ∀ σ, PassesAt (L2.CX X.prog X.w) X σ (E σ)) (ha : PA X (e :: es) t) (hdb : (x == ("__debug__" : Str)) = false := by decide) (he : starEach (e :: es) X.env = (false, eval e X.env) :: starEach es X.env := by rfl)
    (hpl : (backTo pos (starEach es X.env)).any (·.1) = false := by rfl) : PE X (.Call (.Name x p) (e :: es) [] pos) (tCallG sp dvs E t) := by
  constructor
  intro pins s σ H Q I h
  apply wpAny_Call_Name_kw
  apply ld_glob I hg hm ?_ hdb
  refine PySem.W.callWith_K (h₀ := X.base) I.ok.mod.kin hk (thn (ha.run pos pins s σ H _ I h) ?_) he hpl
  rintro us s1 ⟨vs, H1, I1, r, q⟩
  exact ⟨I1.kIn, run_fnG F hr hb hd (hx σ) I1 r q⟩
theorem pe_callG0 (F : FnG X.prog X.w X.K X.mg X.base k f fd ps sp) (hr : RoomG k X.A) (hg : Gl X x) (hm : X.mg x = some (.ref f)) (hk : PySem.W.keepIn X.K (.ref f) = true) (hb : Binds X.K fd ps ds) (hd : Vals dvs ds)
    (hx : ∀ σ, PassesAt (L2.CX X.prog X.w) X σ (E σ)) (hdb : (x == ("__debug__" : Str)) = false := by decide) : PE X (.Call (.Name x p) [] [] pos) (tCallG sp dvs E tNil) := by
  constructor
  intro pins s σ H Q I h
  apply wpAny_Call_Name_kw
  apply ld_glob I hg hm ?_ hdb
  exact PySem.W.callWith_K0 I.kIn hk (run_fnG (us := []) F hr hb hd (hx σ) I .nil h)
end

/-! ### promises over data -/
def wF : WX := fun _ _ _ _ => False
theorem takesF {X : Cx} : Takes X wF := takes_none5
/-- what a def hands back: data; or a new list -/
abbrev PF := List D → (D → Prop) → (Addr → D → Str → Prop) → Prop
structure StpP (F H F' H' : Hp) : Prop where
  ex : Ex F F'
  le : Ex F' H'
  fr : Ex H H'
  fz : ∀ a, F a = none → F' a = none ∨ H a = none
def ResP (K : PySem.W.Frag) : Bool → Hp → Hp → Hp → D → V → Prop
  | false, _, F', _, d, v => Rel K F' [] d v
  | true, H, F', H', d, v => ∃ p xs ds, d = .lst ds ∧ v = .ref p ∧ H p = none ∧ F' p = none ∧ H' p = some (.lst xs) ∧ RelA K F' [] ds xs
def spP (K : PySem.W.Frag) (n : Nat) (fr : Bool) (pf : PF) : Sp := fun vs H Q E => ∃ F ds, ∃ R : D → Prop, ∃ RE : Addr → D → Str → Prop, ds.length = n ∧ Ex F H ∧ RelA K F [] ds vs ∧ pf ds R RE ∧
  (∀ d v F' H', StpP F H F' H' → ResP K fr H F' H' d v → R d → Q v H') ∧ (∀ C dx p w F' H', StpP F H F' H' → XD K F' [] H' dx p w → RE C p w → E (.ref C) dx H')
/-- .. whose first argument is a list that it changes -/
abbrev IF := List D → List D → (D → List D → Prop) → Prop
def spI (K : PySem.W.Frag) (n : Nat) (fr : Bool) (pf : IF) : Sp := fun vs H Q _ => ∃ F ds dk a xs us, ∃ R : D → List D → Prop, ds.length + 1 = n ∧ Ex F H ∧ vs = .ref a :: us ∧ F a = none ∧ H a = some (.lst xs) ∧ RelA K F [] dk xs ∧ RelA K F [] ds us ∧ pf dk ds R ∧
  (∀ d dk' v xs' F' H', Ex F F' → Ex F' H' → (∀ b o, b ≠ a → H b = some o → H' b = some o) → (∀ b, F b = none → F' b = none ∨ H b = none) → F' a = none → H' a = some (.lst xs') → RelA K F' [] dk' xs' → ResP K fr H F' H' d v → R d dk' → Q v H')

section
variable {K : PySem.W.Frag} {F F' H H' : Hp} {al : List Addr} {M : MH}
theorem StpP.stp (a : StpP F H F' H') (h : HR K F al H M) : Stp K F al H M F' al H' M := by
  refine ⟨a.ex, Pre.refl _, ⟨a.le, h.len, fun k x e z => ?_, h.inj, fun k x o e1 e2 => ?_⟩, fun b o e _ => a.fr b o e, fun _ _ l => l, (Stp.refl h).new, Nat.le_refl _, fun x e => ?_⟩
  · cases q : H x with
    | none => exact h.trk k x e q
    | some o => rw [a.fr x o q] at z; cases z
  · refine (h.mem k x o e1 e2).mono a.ex (Pre.refl _) (fun u _ q => a.fr x u q) fun q => ?_
    rcases a.fz x q with z | z
    · exact z
    · exact absurd z (h.trk k x e1)
  · rcases a.fz x e with z | z
    · exact .inl z
    · exact .inr (.inl z)
theorem Stp.toP {al' : List Addr} {M' : MH} (a : Stp K F [] H [] F' al' H' M') : StpP F H F' H' :=
  ⟨a.ex, a.hr.ext, fun b o e => a.fr b o e fun k z => by simp at z, fun x e => by
    rcases a.fzn x e with z | z | ⟨k, z, _⟩
    · exact .inl z
    · exact .inr z
    · simp at z⟩
/-- no address within -/
def D.scal : D → Bool
  | .non => true
  | .bl _ => true
  | .int _ => true
  | .str _ => true
  | .ty _ => true
  | .cls _ => true
  | _ => false
theorem Rel.scal {G : Hp} {al' : List Addr} {d : D} {v : V} (h : D.scal d = true) (r : Rel K F al d v) : Rel K G al' d v := by
  cases d <;> first
    | exact r
    | cases h
theorem RelA.scal {G : Hp} {al' : List Addr} : ∀ {ds : List D} {xs : List V}, ds.all D.scal = true → RelA K F al ds xs → RelA K G al' ds xs
  | [], _, _, r => r
  | _ :: _, _, h, ⟨y, ys, h1, h2, h3⟩ => by
    rw [List.all_cons, Bool.and_eq_true] at h
    exact ⟨y, ys, h1, Rel.scal h.1 h2, RelA.scal h.2 h3⟩
def resScal : Bool → D → Bool
  | true, .lst ds => ds.all D.scal
  | _, d => D.scal d
mutual
theorem Rel.nolocs : ∀ {d : D} {v : V}, Rel K F [] d v → D.plain d = true
  | .non, _, _ => rfl
  | .bl _, _, _ => rfl
  | .int _, _, _ => rfl
  | .str _, _, _ => rfl
  | .tup _, _, ⟨_, _, _, _, h⟩ => RelA.nolocs h
  | .lst _, _, ⟨_, _, _, _, h⟩ => RelA.nolocs h
  | .scr _, _, ⟨_, _, _, _, h⟩ => RelA.nolocs h
  | .loc _, _, ⟨_, h, _⟩ => by simp at h
  | .ty _, _, _ => rfl
  | .cls _, _, _ => rfl
theorem RelA.nolocs : ∀ {ds : List D} {xs : List V}, RelA K F [] ds xs → plainA ds = true
  | [], _, _ => rfl
  | _ :: _, _, ⟨_, _, _, h2, h3⟩ => by
    show (D.plain _ && plainA _) = true
    rw [Rel.nolocs h2, RelA.nolocs h3]; rfl
end
end

/-! ### handing over -/
/-- arguments as data; whether a thing of the store is lent -/
def prep1 (M : MH) : D → Option (D × Bool)
  | .loc k => match M[k]? with
    | some (.lst ds) => if plainA ds then some (.lst ds, true) else none
    | some (.frz ds) => if plainA ds then some (.lst ds, true) else none
    | _ => none
  | d => if D.plain d then some (d, false) else none
def prepA (M : MH) : List D → Option (List D × Bool)
  | [] => some ([], false)
  | d :: ds => match prep1 M d, prepA M ds with
    | some (x, b), some (xs, c) => some (x :: xs, b || c)
    | _, _ => none
open Classical in
/-- all that lives counted as known -/
noncomputable def lent (F H : Hp) (al : List Addr) (M : MH) : Hp := fun b => if ∃ k : Nat, al[k]? = some b ∧ live M[k]? then H b else F b
section
variable {K : PySem.W.Frag} {F F' H H' : Hp} {al : List Addr} {M : MH}
theorem lent_ex (h : HR K F al H M) : Ex F (lent F H al M) := fun a o e => by
  unfold lent
  split
  · exact h.ext a o e
  · exact e
theorem lent_le (h : HR K F al H M) : Ex (lent F H al M) H := fun a o e => by
  unfold lent at e
  split at e
  · exact e
  · exact h.ext a o e
theorem lent_at {a : Addr} {k : Nat} (e : al[k]? = some a) (l : live M[k]?) : lent F H al M a = H a := by
  unfold lent
  rw [if_pos ⟨k, e, l⟩]
theorem prep1_rel (h : HR K F al H M) {d d' : D} {v : V} {b : Bool} (r : Rel K F al d v) (e : prep1 M d = some (d', b)) : Rel K (lent F H al M) [] d' v ∧ (b = false → Rel K F [] d' v) := by
  have key : ∀ d : D, (if D.plain d then some (d, false) else none) = some (d', b) → Rel K F al d v → Rel K (lent F H al M) [] d' v ∧ (b = false → Rel K F [] d' v) := fun d e r => by
    split at e
    · rename_i hp
      cases e
      have z := Rel.plain (al' := []) hp r
      exact ⟨z.mono (lent_ex h) (Pre.refl _), fun _ => z⟩
    · cases e
  cases d with
  | loc k =>
    simp only [prep1] at e
    obtain ⟨a, r1, r2⟩ := r
    subst r2
    split at e
    · rename_i ds hm
      split at e
      · rename_i hp
        cases e
        obtain ⟨_, xs, e1, r3⟩ := h.mem k a _ r1 hm
        refine ⟨⟨a, xs, rfl, ?_, (RelA.plain hp r3).mono (lent_ex h) (Pre.refl _)⟩, fun z => by cases z⟩
        rw [lent_at r1 (by rw [hm]; trivial)]
        exact e1
      · cases e
    · rename_i ds hm
      split at e
      · rename_i hp
        cases e
        obtain ⟨xs, e1, r3⟩ := h.mem k a _ r1 hm
        exact ⟨⟨a, xs, rfl, lent_ex h _ _ e1, (RelA.plain hp r3).mono (lent_ex h) (Pre.refl _)⟩, fun z => by cases z⟩
      · cases e
    · cases e
  | non => exact key .non e r
  | bl c => exact key (.bl c) e r
  | int i => exact key (.int i) e r
  | str x => exact key (.str x) e r
  | tup ds => exact key (.tup ds) e r
  | lst ds => exact key (.lst ds) e r
  | scr ds => exact key (.scr ds) e r
  | ty n => exact key (.ty n) e r
  | cls n => exact key (.cls n) e r
theorem prepA_rel (h : HR K F al H M) : ∀ {ds ds' : List D} {vs : List V} {b : Bool}, RelA K F al ds vs → prepA M ds = some (ds', b) → RelA K (lent F H al M) [] ds' vs ∧ (b = false → RelA K F [] ds' vs)
  | [], _, _, _, r, e => by cases e; exact ⟨r, fun _ => r⟩
  | d :: ds, ds', _, b, ⟨y, ys, h1, h2, h3⟩, e => by
    unfold prepA at e
    split at e
    · rename_i x b1 xs c e1 e2
      cases e
      obtain ⟨p1, p2⟩ := prep1_rel h h2 e1
      obtain ⟨q1, q2⟩ := prepA_rel h h3 e2
      refine ⟨⟨y, ys, h1, p1, q1⟩, fun z => ?_⟩
      rw [Bool.or_eq_false_iff] at z
      exact ⟨y, ys, h1, p2 z.1, q2 z.2⟩
    · cases e
theorem prepA_len : ∀ {ds ds' : List D} {b : Bool}, prepA M ds = some (ds', b) → ds'.length = ds.length
  | [], _, _, e => by cases e; rfl
  | d :: ds, ds', b, e => by
    unfold prepA at e
    split at e
    · rename_i x b1 xs c e1 e2
      cases e
      simp [prepA_len e2]
    · cases e
/-- behind a call to which things were lent: what was lent is ours again -/
theorem unlend (h : HR K F al H M) (a : StpP (lent F H al M) H F' H') : ∃ F2, StpP F H F2 H' ∧ ∀ p, H p = none → F2 p = F' p := by
  classical
  refine ⟨fun b => if F b = none ∧ H b ≠ none then none else F' b, ⟨fun b o e => ?_, fun b o e => ?_, a.fr, fun b e => ?_⟩, fun p hp => ?_⟩
  · show (if F b = none ∧ H b ≠ none then none else F' b) = some o
    rw [if_neg (by rw [e]; simp)]
    exact a.ex b o (lent_ex h b o e)
  · have e' : (if F b = none ∧ H b ≠ none then none else F' b) = some o := e
    split at e'
    · cases e'
    · exact a.le b o e'
  · show (if F b = none ∧ H b ≠ none then none else F' b) = none ∨ H b = none
    by_cases q : H b = none
    · exact .inr q
    · exact .inl (if_pos ⟨e, q⟩)
  · show (if F p = none ∧ H p ≠ none then none else F' p) = F' p
    rw [if_neg (by rw [hp]; simp)]
end
/-- what is done with what comes back -/
def resK (fr fz : Bool) (d : D) (M : MH) (R : DK) : Prop := match fr, d with
  | true, .lst xs => nw fz xs M R
  | true, _ => False
  | false, d => R d M
/-- the call of a def that keeps spP -/
def dCallP (n : Nat) (pf : PF) (fr fz : Bool) (dds : List D) (mas : DA) : DE := fun r M R => mas r M fun ds M1 => match prepA M1 ds with
  | some (args, bor) => (args ++ dds).length = n ∧ pf (args ++ dds) (fun d => (bor = true → resScal fr d = true) ∧ resK fr fz d M1 R) (fun C p w => (bor = true → D.scal p = true) ∧ r.ex r.sl C p w M1)
  | none => False
section
variable {K : PySem.W.Frag} {W : WX} {F F' H H' : Hp} {al : List Addr} {M : MH} {R : DK} {Q : VK}
theorem resP_out {fr fz : Bool} {d : D} {v : V} {M2 : MH} (h : HR K F al H M) (st : Stp K F al H M F' al H' M2) (r : ResP K fr H F' H' d v) (q : resK fr fz d M2 R) (k : Out K F al H M R Q) : Q v H' := by
  cases fr with
  | false => exact k _ _ _ _ d _ st ((show Rel K F' [] d v from r).mono (fun _ _ e => e) fun k x e => by simp at e) q
  | true =>
    obtain ⟨p, xs, ds, rfl, rfl, hp, fp, e, ra⟩ := r
    have q' : nw fz ds M2 R := q
    have ra' : RelA K F' al ds xs := ra.mono (fun _ _ e => e) fun k x e => by simp at e
    have ne : ∀ (k : Nat) (b : Addr), al[k]? = some b → b ≠ p := fun k b e z => h.trk k b e (by rw [z]; exact hp)
    cases fz with
    | true =>
      have a2 : Stp K F al H M (upd F' p (.lst xs)) al H' M2 := by
        refine ⟨fun b o z => ?_, Pre.refl _, ⟨fun b o z => ?_, st.hr.len, st.hr.trk, st.hr.inj, fun j b o z1 z2 => ?_⟩, st.fr, st.old, st.new, st.le, fun b z => ?_⟩
        · have hb : b ≠ p := fun q => by have := st.ex b o z; rw [q, fp] at this; cases this
          rw [upd_ne hb]; exact st.ex b o z
        · by_cases hb : b = p
          · subst hb; rw [upd_same] at z; cases z; exact e
          · rw [upd_ne hb] at z; exact st.hr.ext b o z
        · exact (st.hr.mem j b o z1 z2).mono (Evl.Ex.new fp) (Pre.refl _) (fun _ _ q => q) fun q => by rw [upd_ne (ne j b z1)]; exact q
        · by_cases hb : b = p
          · subst hb; exact .inr (.inl hp)
          · rw [upd_ne hb]; exact st.fzn b z
      exact k _ _ _ _ (.lst ds) M2 a2 ⟨p, xs, rfl, upd_same, ra'.mono (Evl.Ex.new fp) (Pre.refl _)⟩ q'
    | false =>
      have lm : ∀ k, k < M2.length → (M2 ++ [MO.lst ds])[k]? = M2[k]? := fun k hk => List.getElem?_append_left hk
      have hl := st.hr.len
      have hl0 := h.len
      have hle := st.le
      refine k _ _ F' (al ++ [p]) (.loc M2.length) (M2 ++ [MO.lst ds]) ⟨st.ex, Pre.app _ _, ⟨st.hr.ext, by simp [hl], fun k b z => ?_, fun k j b z1 z2 l => ?_, fun k b o z1 z2 => ?_⟩, st.fr, fun k hk l => by rw [lm k (by omega)] at l; exact st.old k hk l, fun k b z l => ?_, by simp; omega, st.fzn⟩ ⟨p, ?_, rfl⟩ (show R (.loc M2.length) (M2 ++ [MO.lst ds]) from q)
      · rcases app_get z with ⟨z, _⟩ | ⟨_, z⟩
        · exact st.hr.trk k b z
        · subst z; rw [e]; simp
      · rcases app_get z1 with ⟨z1, k1⟩ | ⟨k1, z1⟩
        · rcases app_get z2 with ⟨z2, k2⟩ | ⟨k2, z2⟩
          · rw [lm k (by omega)] at l
            exact st.hr.inj k j b z1 z2 l
          · subst z2; exact absurd rfl (ne k _ z1)
        · rcases app_get z2 with ⟨z2, k2⟩ | ⟨k2, z2⟩
          · subst z1; exact absurd rfl (ne j _ z2)
          · omega
      · rcases app_get z1 with ⟨z1, k1⟩ | ⟨k1, z1⟩
        · rw [lm k (by omega)] at z2
          exact (st.hr.mem k b o z1 z2).mono (fun _ _ e => e) (Pre.app _ _) (fun w _ q => q) fun q => q
        · subst z1
          rcases app_get z2 with ⟨z2, k2⟩ | ⟨k2, z2⟩
          · omega
          · subst z2
            exact ⟨fp, xs, e, ra'.mono (fun _ _ e => e) (Pre.app _ _)⟩
      · rcases app_get z with ⟨z, k1⟩ | ⟨k1, z⟩
        · omega
        · subst z; exact hp
      · have z : M2.length = al.length := hl.symm
        rw [z, List.getElem?_append_right (Nat.le_refl _)]
        simp
theorem resP_scal {fr : Bool} {d : D} {v : V} {G : Hp} (z : resScal fr d = true) (r : ResP K fr H F' H' d v) (hp : ∀ p, H p = none → G p = F' p) : ResP K fr H G H' d v := by
  cases fr with
  | false =>
    exact Rel.scal (F := F') (al := []) (show D.scal d = true from z) r
  | true =>
    obtain ⟨p, xs, ds, rfl, rfl, h0, fp, e, ra⟩ := r
    exact ⟨p, xs, ds, rfl, rfl, h0, by rw [hp p h0]; exact fp, e, RelA.scal z ra⟩
end

theorem XD.mono {K : PySem.W.Frag} {F F' : Hp} {al al' : List Addr} {H : Hp} {dx : Option Addr} {p : D} {w : Str} (x : XD K F al H dx p w) (e : Ex F F') (q : Pre al al') : XD K F' al' H dx p w :=
  let ⟨d, fs, v, h1, h2, h3, h4, h5⟩ := x
  ⟨d, fs, v, h1, h2, h3, h4.mono e q, h5⟩
theorem preNil (al : List Addr) : Pre [] al := fun k x e => by simp at e
section
variable {X : Cx} {W : WX} {k n : Nat} {f : Addr} {fd : FuncData} {ps : List Str} {pf : PF} {fr : Bool} {dvs : List V} {ds : List Value} {dds : List D} {x : Str} {p pos : Pos} {e : Expr} {es : List Expr} {mas : DA}
theorem sim_callP {fz : Bool} (hdd : ∀ G, RelA X.K G [] dds dvs) : ∀ s H Q, lE X.K W (dCallP n pf fr fz dds mas) s H Q → tCallG (spP X.K n fr pf) dvs (WE W) (lA X.K W mas) s H Q := by
  rintro s H Q ⟨F0, al, r, M, R, er, hr0, hm0, k⟩
  refine ⟨F0, al, r, M, _, er, hr0, hm0, fun vs H1 F1 al1 ds M1 s1 r1 hm1 => ?_⟩
  split at hm1
  · rename_i args bor e1
    obtain ⟨hn, hp⟩ := hm1
    have h1 := s1.hr
    have er1 := er.step hr0 s1
    have k1 := Out.step hr0 k s1
    obtain ⟨q1, q2⟩ := prepA_rel h1 r1 e1
    cases bor with
    | false =>
      refine ⟨F1, args ++ dds, _, _, hn, h1.ext, (q2 rfl).app (hdd F1), hp, fun d v F' H' a res q => resP_out h1 (a.stp h1) res q.2 k1, fun C dx p w F' H' a xd q => ?_⟩
      exact er1.xe C dx p w s r.sl H' F' al1 M1 (a.stp h1) (er1.es.mono a.ex (Pre.refl _)) (xd.mono (fun _ _ e => e) (preNil _)) q.2
    | true =>
      refine ⟨lent F1 H1 al1 M1, args ++ dds, _, _, hn, lent_le h1, q1.app (hdd _), hp, fun d v F' H' a res q => ?_, fun C dx p w F' H' a xd q => ?_⟩
      · obtain ⟨F2, a2, hF2⟩ := unlend h1 a
        exact resP_out h1 (a2.stp h1) (resP_scal (q.1 rfl) res hF2) q.2 k1
      · obtain ⟨F2, a2, hF2⟩ := unlend h1 a
        obtain ⟨d, fs, v, z1, z2, z3, z4, z5⟩ := xd
        exact er1.xe C dx p w s r.sl H' F2 al1 M1 (a2.stp h1) (er1.es.mono a2.ex (Pre.refl _)) ⟨d, fs, v, z1, z2, z3, Rel.scal (q.1 rfl) z4, z5⟩ q.2
  · exact hm1.elim
theorem me_callP (fz : Bool) (F : FnG X.prog X.w X.K X.mg X.base k f fd ps (spP X.K n fr pf)) (hr : RoomG k X.A) (hm : X.mg x = some (.ref f)) (hk : PySem.W.keepIn X.K (.ref f) = true) (hb : Binds X.K fd ps ds) (hd : Vals dvs ds) (hdd : ∀ G, RelA X.K G [] dds dvs) (tk : Takes X W)
    (ha : MA X W (e :: es) mas) (hg : Gl X x := by rfl) (hdb : (x == ("__debug__" : Str)) = false := by decide) (he : starEach (e :: es) X.env = (false, eval e X.env) :: starEach es X.env := by rfl)
    (hpl : (backTo pos (starEach es X.env)).any (·.1) = false := by rfl) : ME X W (.Call (.Name x p) (e :: es) [] pos) (dCallP n pf fr fz dds mas) :=
  PE.imp (pe_callGG F hr hg hm hk hb hd (fun σ => passAt tk σ) ha hdb he hpl) (sim_callP hdd)
theorem me_callP0 (fz : Bool) (F : FnG X.prog X.w X.K X.mg X.base k f fd ps (spP X.K n fr pf)) (hr : RoomG k X.A) (hm : X.mg x = some (.ref f)) (hk : PySem.W.keepIn X.K (.ref f) = true) (hb : Binds X.K fd ps ds) (hd : Vals dvs ds) (hdd : ∀ G, RelA X.K G [] dds dvs) (tk : Takes X W)
    (hg : Gl X x := by rfl) (hdb : (x == ("__debug__" : Str)) = false := by decide) : ME X W (.Call (.Name x p) [] [] pos) (dCallP n pf fr fz dds dNil) :=
  PE.imp (pe_callG0 F hr hg hm hk hb hd (fun σ => passAt tk σ) hdb) fun s H Q h => by
    have z := sim_callP (fz := fz) (mas := dNil) hdd s H Q h
    obtain ⟨F0, al, r, M, R, er, hr0, hm0, k⟩ := z
    exact k [] _ _ _ [] _ (Stp.refl hr0) rfl hm0
/-- the call of a def that changes its first argument, a list -/
def callIK (n : Nat) (pf : IF) (fr fz : Bool) (R : DK) (d0 : D) (ds : List D) (M1 : MH) : Prop := match d0 with
  | .loc k => (match M1[k]? with
    | some (.lst dk) => (ds.length + 1 = n ∧ plainA dk = true ∧ plainA ds = true) ∧ pf dk ds fun d dk' => plainA dk' = true ∧ resK fr fz d (M1.set k (.lst dk')) R
    | _ => False)
  | _ => False
def dCallI (n : Nat) (pf : IF) (fr fz : Bool) (ma : DE) (mas : DA) : DE := fun r M R => ma r M fun d0 M0 => mas r M0 fun ds M1 => callIK n pf fr fz R d0 ds M1
theorem stp_set {K : PySem.W.Frag} {F F' H H' : Hp} {al : List Addr} {M : MH} {k : Nat} {a : Addr} {ds ds' : List D} {xs' : List V} (h : HR K F al H M) (ea : al[k]? = some a) (ek : M[k]? = some (.lst ds)) (ex : Ex F F') (le : Ex F' H') (fr : ∀ b o, b ≠ a → H b = some o → H' b = some o)
    (fz : ∀ b, F b = none → F' b = none ∨ H b = none) (fa : F' a = none) (e : H' a = some (.lst xs')) (ra : RelA K F' al ds' xs') : Stp K F al H M F' al H' (M.set k (.lst ds')) := by
  have hl := h.len
  have hk : k < M.length := (List.getElem?_eq_some_iff.mp ek).1
  have lk : live M[k]? := by rw [ek]; trivial
  have get : ∀ j, (M.set k (MO.lst ds'))[j]? = if k = j then some (MO.lst ds') else M[j]? := fun j => by
    rw [List.getElem?_set]
    split
    · first
        | rfl
        | rw [if_pos hk]
    · rfl
  have lv : ∀ j, live (M.set k (MO.lst ds'))[j]? → live M[j]? := fun j l => by
    rw [get] at l
    split at l
    · rename_i z; subst z; exact lk
    · exact l
  refine ⟨ex, Pre.refl _, ⟨le, by simp [hl], fun j b z => ?_, fun j i b z1 z2 l => h.inj j i b z1 z2 (lv j l), fun j b o z1 z2 => ?_⟩, fun b o z n => fr b o (fun q => n k (by rw [q]; exact ea) lk) z, fun j _ l => lv j l, (Stp.refl h).new, by simp, fun b z => ?_⟩
  · by_cases q : b = a
    · rw [q, e]; simp
    · have t := h.trk j b z
      cases w : H b with
      | none => exact absurd w t
      | some o => rw [fr b o q w]; simp
  · rw [get] at z2
    split at z2
    · rename_i q
      subst q
      cases z2
      rw [ea] at z1; cases z1
      exact ⟨fa, xs', e, ra⟩
    · rename_i q
      have nb : b ≠ a := fun w => q (h.inj k j a ea (by rw [← w]; exact z1) lk)
      refine (h.mem j b o z1 z2).mono ex (Pre.refl _) (fun u _ w => fr b u nb w) fun w => ?_
      rcases fz b w with y | y
      · exact y
      · exact absurd y (h.trk j b z1)
  · rcases fz b z with y | y
    · exact .inl y
    · exact .inr (.inl y)
theorem me_callI {pf : IF} {a : Expr} {ma : DE} (fz : Bool) (F : FnG X.prog X.w X.K X.mg X.base k f fd ps (spI X.K n fr pf)) (hr : RoomG k X.A) (hm : X.mg x = some (.ref f)) (hk : PySem.W.keepIn X.K (.ref f) = true) (hb : Binds X.K fd ps []) (tk : Takes X W)
    (ha : ME X W a ma) (has : MA X W es mas) (hg : Gl X x := by rfl) (hdb : (x == ("__debug__" : Str)) = false := by decide) (he : starEach (a :: es) X.env = (false, eval a X.env) :: starEach es X.env := by rfl)
    (hpl : (backTo pos (starEach es X.env)).any (·.1) = false := by rfl) : ME X W (.Call (.Name x p) (a :: es) [] pos) (dCallI n pf fr fz ma mas) := by
  refine PE.imp (pe_callGG F hr hg hm hk hb .nil (fun σ => passAt tk σ) (ma_cons ha has he) hdb he hpl) ?_
  rintro s H Q ⟨F0, al, r, M, R, er, hr0, hm0, kk⟩
  refine ⟨F0, al, r, M, fun dds M1 => ∃ d0 ds, dds = d0 :: ds ∧ callIK n pf fr fz R d0 ds M1, er, hr0, ?_, fun vs H1 F1 al1 dds M1 s1 r1 hm1 => ?_⟩
  · show ma r M fun d M0 => mas r M0 fun ds M1 => ∃ d0 ds', d :: ds = d0 :: ds' ∧ callIK n pf fr fz R d0 ds' M1
    have e : (fun d M0 => mas r M0 fun ds M1 => ∃ d0 ds', d :: ds = d0 :: ds' ∧ callIK n pf fr fz R d0 ds' M1) = fun d0 M0 => mas r M0 fun ds M1 => callIK n pf fr fz R d0 ds M1 := by
      funext d M0
      congr 1
      funext ds M1
      apply propext
      constructor
      · rintro ⟨_, _, z, w⟩; cases z; exact w
      · exact fun w => ⟨_, _, rfl, w⟩
    rw [e]
    exact hm0
  · obtain ⟨d0, ds, rfl, hc⟩ := hm1
    have h1 := s1.hr
    have k1 := Out.step hr0 kk s1
    unfold callIK at hc
    split at hc
    · rename_i j
      split at hc
      · rename_i dk ek
        obtain ⟨⟨c1, c2, c3⟩, hp⟩ := hc
        obtain ⟨y, ys, rfl, ⟨a, ea, rfl⟩, r3⟩ := r1
        obtain ⟨fa, xs, e1, ra⟩ := h1.mem j a _ ea ek
        refine ⟨F1, ds, dk, a, xs, ys, _, c1, h1.ext, by rw [List.append_nil], fa, e1, RelA.plain c2 ra, RelA.plain c3 r3, hp, fun d dk' v xs' F' H' ex le fr fz fa' e2 rk rd q => ?_⟩
        exact resP_out h1 (stp_set h1 ea ek ex le fr fz fa' e2 (rk.mono (fun _ _ e => e) (preNil _))) rd q.2 k1
      · exact hc.elim
    · exact hc.elim
end
end DL

set_option Elab.async false
set_option linter.all false
set_option maxRecDepth 100000
set_option maxHeartbeats 2000000
namespace DL
open PySem PySem.Spec L2
open Evl (Ex)
open PyProof.Rows (b2i)

/-! ### targets -/
inductive Pat where
  | nm (i : Nat) | tp (ps : List Pat)
mutual
def bindP : Pat → D → SL → Option SL
  | .nm i, d, r => some (r.set i (some d))
  | .tp ps, .tup ds, r => bindPs ps ds r
  | .tp _, _, _ => none
def bindPs : List Pat → List D → SL → Option SL
  | [], [], r => some r
  | p :: ps, d :: ds, r => match bindP p d r with
    | some r' => bindPs ps ds r'
    | none => none
  | _, _, _ => none
end
theorem ES.set {K : PySem.W.Frag} {F : Hp} {al : List Addr} {s : L2.St} {r : SL} {d : D} {v : V} {i : Nat} (h : ES K F al s r) (q : Rel K F al d v) : ES K F al (s.set i (some v)) (r.set i (some d)) := by
  refine ⟨by simp [h.1], fun j e z => ?_⟩
  have hl := h.1
  rw [List.getElem?_set] at z ⊢
  by_cases hij : i = j
  · subst hij
    rw [if_pos rfl] at z ⊢
    by_cases hi : i < r.length
    · rw [if_pos hi] at z
      rw [if_pos (by omega)]
      cases z
      exact ⟨v, rfl, q⟩
    · rw [if_neg hi] at z; cases z
  · rw [if_neg hij] at z ⊢
    exact h.2 j e z
mutual
def ixP : Pat → List Nat
  | .nm i => [i]
  | .tp ps => ixPs ps
def ixPs : List Pat → List Nat
  | [] => []
  | p :: ps => ixP p ++ ixPs ps
end
/-- the same but for these slots -/
def Same (l : List Nat) (s s' : L2.St) : Prop := s'.length = s.length ∧ ∀ j : Nat, j ∉ l → s'[j]? = s[j]?
theorem Same.set {s : L2.St} {i : Nat} {v : Option V} : Same [i] s (s.set i v) := ⟨by simp, fun j hj => by rw [List.getElem?_set_ne (fun e => hj (by simp [e]))]⟩
theorem Same.app {l m : List Nat} {s s' s2 : L2.St} (a : Same l s s') (b : Same m s' s2) : Same (l ++ m) s s2 := ⟨b.1.trans a.1, fun j hj => by
  rw [List.mem_append, not_or] at hj
  exact (b.2 j hj.2).trans (a.2 j hj.1)⟩
def lG (K : PySem.W.Frag) (pt : Pat) : TG := fun v s H Q => ∃ F al M d sl sl', ES K F al s sl ∧ HR K F al H M ∧ Rel K F al d v ∧ bindP pt d sl = some sl' ∧ ∀ s', ES K F al s' sl' → Same (ixP pt) s s' → Q s' H
def lGs (K : PySem.W.Frag) (ps : List Pat) : TGs := fun vs s H Q => ∃ F al M ds sl sl', ES K F al s sl ∧ HR K F al H M ∧ RelA K F al ds vs ∧ bindPs ps ds sl = some sl' ∧ ∀ s', ES K F al s' sl' → Same (ixPs ps) s s' → Q s' H
def MG (X : Cx) (tg : Expr) (pt : Pat) : Prop := PG X tg (lG X.K pt)
def MGs (X : Cx) (ts : List Expr) (ps : List Pat) : Prop := PGs X ts (lGs X.K ps)
section
variable {X : Cx} {e : Expr} {es : List Expr} {pos : Pos}
theorem PG.imp {t t' : TG} (h : PG X e t) (i : ∀ v s H Q, t' v s H Q → t v s H Q) : PG X e t' := ⟨fun pins s σ H v u Q I r q => h.run pins s σ H v u Q I r (i _ _ _ _ q)⟩
theorem PGs.imp {t t' : TGs} (h : PGs X es t) (i : ∀ v s H Q, t' v s H Q → t v s H Q) : PGs X es t' := ⟨fun pins s σ H v u Q I r q => h.run pins s σ H v u Q I r (i _ _ _ _ q)⟩
theorem mg_name {i : Nat} {x : Str} (hN : X.N.Nodup) (hi : X.N[i]? = some x) (hx : Loc X.env.scope x) (hf : X.fn x = true ∨ X.env.scope.names.lookup x = some .local := by first | exact .inl rfl | exact .inr rfl | assumption) : MG X (.Name x pos) (.nm i) := by
  refine PG.imp (pg_name hN hi hx hf) ?_
  rintro v s H Q ⟨F, al, M, d, sl, sl', es, hr, r, e, k⟩
  cases e
  exact k _ (es.set r) Same.set
theorem mgs_nil : MGs X [] [] := by
  refine PGs.imp pgs_nil ?_
  rintro vs s H Q ⟨F, al, M, ds, sl, sl', es, hr, r, e, k⟩
  cases ds with
  | nil => cases r; cases e; exact ⟨rfl, k _ es ⟨rfl, fun _ _ => rfl⟩⟩
  | cons d ds => cases e
theorem mgs_cons {pt : Pat} {ps : List Pat} (h1 : MG X e pt) (h2 : MGs X es ps) (hs : (assignEach (e :: es) X.env).map (·.2) = assign e X.env :: (assignEach es X.env).map (·.2) := by rfl) : MGs X (e :: es) (pt :: ps) := by
  refine PGs.imp (pgs_cons h1 h2 hs) ?_
  rintro vs s H Q ⟨F, al, M, ds, sl, sl', es, hr, r, e, k⟩
  cases ds with
  | nil => cases e
  | cons d ds =>
    obtain ⟨y, ys, rfl, r1, r2⟩ := r
    unfold bindPs at e
    split at e
    · rename_i r' e1
      exact ⟨y, ys, rfl, F, al, M, d, sl, r', es, hr, r1, e1, fun s' es' sm => ⟨F, al, M, ds, r', sl', es', hr, r2, e, fun s2 es2 sm2 => k s2 es2 (sm.app sm2)⟩⟩
    · cases e
theorem bindPs_len : ∀ {ps : List Pat} {ds : List D} {r r' : SL}, bindPs ps ds r = some r' → ds.length = ps.length
  | [], [], _, _, _ => rfl
  | [], _ :: _, _, _, e => by cases e
  | _ :: _, [], _, _, e => by cases e
  | p :: ps, d :: ds, r, r', e => by
    unfold bindPs at e
    split at e
    · simp [bindPs_len e]
    · cases e
theorem mg_tup {k : Nat} {ps : List Pat} (hc : X.calm = true) (h : MGs X es ps) (hn : (assignEach es X.env).length = ps.length := by rfl) (hst : (assignEach es X.env).findIdx? (·.1) = none := by rfl) : MG X (.Tuple es k pos) (.tp ps) := by
  refine PG.imp (pg_tup hc h hn hst) ?_
  rintro v s H Q ⟨F, al, M, d, sl, sl', es, hr, r, e, k⟩
  cases d with
  | tup ds =>
    obtain ⟨a, xs, rfl, hx, ra⟩ := hr.rdT_ r (show rdT (.tup ds) = some ds from rfl)
    exact ⟨a, xs, rfl, hx, by rw [ra.length, bindPs_len e], F, al, M, ds, sl, sl', es, hr, ra, e, k⟩
  | _ => cases e
end

/-! ### statements -/
def RH.put (r : RH) (i : Nat) (d : D) : RH := { r with sl := r.sl.set i (some d) }
section
variable {X : Cx} {W : WX} {a b c e : Expr} {es : List Expr} {ma mb me : DE} {mas : DA} {pos p : Pos} {x : Str} {st : Stmt} {sts ss : List Stmt} {m u v : DS} {tc : DT}
theorem ER.put {K : PySem.W.Frag} {W : WX} {F : Hp} {al : List Addr} {H : Hp} {M : MH} {s : L2.St} {r : RH} {i : Nat} {d : D} {v : V} (h : ER K W F al H M s r) (q : Rel K F al d v) : ER K W F al H M (s.set i (some v)) (r.put i d) := ⟨h.es.set q, h.xe, h.xd⟩
theorem ER.sl' {K : PySem.W.Frag} {W : WX} {F : Hp} {al : List Addr} {H : Hp} {M : MH} {s s' : L2.St} {r : RH} {sl : SL} (h : ER K W F al H M s r) (q : ES K F al s' sl) : ER K W F al H M s' { r with sl := sl } := ⟨q, h.xe, h.xd⟩
def mNext : DS := fun E r M => E.nx r M
def mSeq (m u : DS) : DS := fun E r M => m { E with nx := u E } r M
theorem mss_nil : MSs X W [] mNext := by
  refine PSs.imp pss_nil ?_
  rintro D s H ⟨F, al, r, M, E, er, hr, hm, a1, a2, a3, a4⟩
  exact a1 s H F al r M (Stp.refl hr) er hm
theorem lS_seq {K : PySem.W.Frag} : ∀ D s H, lS K W (mSeq m u) D s H → tSeq (lS K W m) (lS K W u) D s H := by
  rintro D s H ⟨F, al, r, M, E, er, hr, hm, a1, a2, a3, a4⟩
  refine ⟨F, al, r, M, { E with nx := u E }, er, hr, hm, ?_, a2, a3, a4⟩
  intro s' H' F' al' r' M' st er' hm'
  exact ⟨F', al', r', M', E, er', st.hr, hm', Aft.trans hr st a1, Aft.trans hr st a2, Aft.trans hr st a3, fun v H2 F2 al2 d M2 b q1 q2 => a4 v H2 F2 al2 d M2 (st.trans hr b) q1 q2⟩
theorem mss_cons (h1 : MS X W st m) (h2 : MSs X W sts u) : MSs X W (st :: sts) (mSeq m u) := PSs.imp (pss_cons h1 h2) lS_seq
theorem mss_one (h1 : MS X W st m) : MSs X W [st] m := pss_one h1
/-- a ghost's turn: a list of ours is data from here on -/
def mFrz (i : Nat) (m : DS) : DS := fun E r M => match r.sl[i]? with
  | some (some (.loc k)) => (match M[k]? with
    | some (.lst ds) => m E (r.put i (.lst ds)) (M.set k (.frz ds))
    | _ => False)
  | _ => False
theorem stp_frz {K : PySem.W.Frag} {F H : Hp} {al : List Addr} {M : MH} {k : Nat} {a : Addr} {ds : List D} {xs : List V} (h : HR K F al H M) (ea : al[k]? = some a) (ek : M[k]? = some (.lst ds)) (fa : F a = none) (e : H a = some (.lst xs)) (ra : RelA K F al ds xs) :
    Stp K F al H M (upd F a (.lst xs)) al H (M.set k (.frz ds)) := by
  have hk : k < M.length := (List.getElem?_eq_some_iff.mp ek).1
  have lk : live M[k]? := by rw [ek]; trivial
  have get : ∀ j, (M.set k (MO.frz ds))[j]? = if k = j then some (MO.frz ds) else M[j]? := fun j => by
    rw [List.getElem?_set]
    split
    · first
        | rfl
        | rw [if_pos hk]
    · rfl
  have lv : ∀ j, live (M.set k (MO.frz ds))[j]? → live M[j]? ∧ k ≠ j := fun j l => by
    rw [get] at l
    split at l
    · exact l.elim
    · rename_i z; exact ⟨l, z⟩
  have ex : Ex F (upd F a (.lst xs)) := Evl.Ex.new fa
  refine ⟨ex, Pre.refl _, ⟨fun b o z => ?_, by simp [h.len], h.trk, fun j i b z1 z2 l => h.inj j i b z1 z2 (lv j l).1, fun j b o z1 z2 => ?_⟩, fun _ _ z _ => z, fun j _ l => (lv j l).1, (Stp.refl h).new, by simp, fun b z => ?_⟩
  · by_cases q : b = a
    · subst q; rw [upd_same] at z; cases z; exact e
    · rw [upd_ne q] at z; exact h.ext b o z
  · rw [get] at z2
    split at z2
    · rename_i q
      subst q
      cases z2
      rw [ea] at z1; cases z1
      exact ⟨xs, upd_same, ra.mono ex (Pre.refl _)⟩
    · rename_i q
      by_cases nb : b = a
      · cases o with
        | dead => trivial
        | lst es =>
          have := h.inj j k a (by rw [← nb]; exact z1) ea (by rw [z2]; trivial)
          exact absurd this.symm q
        | frz es =>
          obtain ⟨ys, w, _⟩ := h.mem j b _ z1 z2
          rw [nb, fa] at w; cases w
      · exact (h.mem j b o z1 z2).mono ex (Pre.refl _) (fun _ _ w => w) fun w => by rw [upd_ne nb]; exact w
  · by_cases q : b = a
    · subst q; exact .inr (.inr ⟨k, ea, lk⟩)
    · rw [upd_ne q]; exact .inl z
theorem mss_frz (i : Nat) (h : MSs X W sts m) : MSs X W sts (mFrz i m) := by
  refine PSs.imp h ?_
  rintro D s H ⟨F, al, r, M, E, er, hr, hm, a1, a2, a3, a4⟩
  unfold mFrz at hm
  split at hm
  · rename_i k e1
    split at hm
    · rename_i ds e2
      obtain ⟨v, e3, a, ea, rfl⟩ := er.es.2 i _ e1
      obtain ⟨fa, xs, ha, ra⟩ := hr.mem k a _ ea e2
      have st := stp_frz hr ea e2 fa ha ra
      have er' := er.step hr st
      refine ⟨_, al, r.put i (.lst ds), _, E, ⟨?_, er'.xe, er'.xd⟩, st.hr, hm, Aft.trans hr st a1, Aft.trans hr st a2, Aft.trans hr st a3, fun v H2 F2 al2 d M2 b q1 q2 => a4 v H2 F2 al2 d M2 (st.trans hr b) q1 q2⟩
      have z := er'.es.set (i := i) (d := .lst ds) (v := .ref a) ⟨a, xs, rfl, upd_same, ra.mono st.ex (Pre.refl _)⟩
      have e4 : s.set i (some (V.ref a)) = s := by
        apply List.ext_getElem?
        intro j
        rw [List.getElem?_set]
        split
        · rename_i q
          subst q
          have hi : i < s.length := (List.getElem?_eq_some_iff.mp e3).1
          first
            | rw [if_pos hi, e3]
            | rw [e3]
        · rfl
      rw [e4] at z
      exact z
    · exact hm.elim
  · exact hm.elim
def mPass : DS := fun E r M => E.nx r M
theorem ms_pass : MS X W (.Pass pos) mPass := by
  refine PS.imp ps_pass ?_
  rintro D s H ⟨F, al, r, M, E, er, hr, hm, a1, a2, a3, a4⟩
  exact a1 s H F al r M (Stp.refl hr) er hm
def mBreak : DS := fun E r M => E.bk r M
theorem ms_break : MS X W (.Break pos) mBreak := by
  refine PS.imp ps_break ?_
  rintro D s H ⟨F, al, r, M, E, er, hr, hm, a1, a2, a3, a4⟩
  exact a2 s H F al r M (Stp.refl hr) er hm
def mCont : DS := fun E r M => E.ct r M
theorem ms_continue : MS X W (.Continue pos) mCont := by
  refine PS.imp ps_continue ?_
  rintro D s H ⟨F, al, r, M, E, er, hr, hm, a1, a2, a3, a4⟩
  exact a3 s H F al r M (Stp.refl hr) er hm
def mNever : DS := fun _ _ _ => False
theorem ms_never : MS X W st mNever := by
  refine PS.imp ps_never ?_
  rintro D s H ⟨F, al, r, M, E, er, hr, hm, _⟩
  exact hm.elim
theorem mss_never : MSs X W sts mNever := by
  refine PSs.imp pss_never ?_
  rintro D s H ⟨F, al, r, M, E, er, hr, hm, _⟩
  exact hm.elim
/-- name = e -/
def mSet (i : Nat) (me : DE) : DS := fun E r M => me r M fun d M1 => E.nx (r.put i d) M1
theorem ms_set {i : Nat} {x : Str} {pos' : Pos} (hN : X.N.Nodup) (hi : X.N[i]? = some x) (hx : Loc X.env.scope x) (he : ME X W e me) (hs : swapsWith e (some (.Name x pos')) pos.line X.env = pure false := by rfl)
    (hf : X.fn x = true ∨ X.env.scope.names.lookup x = some .local := by first | exact .inl rfl | exact .inr rfl | assumption) : MS X W (.Assign [.Name x pos'] e pos) (mSet i me) := by
  refine PS.imp (ps_set hN hi hx he hs hf) ?_
  rintro D s H ⟨F, al, r, M, E, er, hr, hm, a1, a2, a3, a4⟩
  refine ⟨F, al, r, M, _, er, hr, hm, fun v H1 F1 al1 d M1 s1 r1 hm1 => ?_⟩
  exact a1 _ _ _ _ _ _ s1 ((er.step hr s1).put r1) hm1
/-- target = e, the target a tuple of names -/
def mAsg (pt : Pat) (me : DE) : DS := fun E r M => me r M fun d M1 => match bindP pt d r.sl with
  | some sl => E.nx { r with sl := sl } M1
  | none => False
theorem ms_asg {tg : Expr} {pt : Pat} (he : ME X W e me) (hg : MG X tg pt) (hs : swapsWithSole [tg] e pos.line X.env = pure false := by rfl) (hw : swappedStores [tg] e X.env = pure none := by rfl)
    (h1 : (assignEach [tg] X.env).map (·.2) = [assign tg X.env] := by rfl) : MS X W (.Assign [tg] e pos) (mAsg pt me) := by
  refine PS.imp (ps_asg he hg hs hw h1) ?_
  rintro D s H ⟨F, al, r, M, E, er, hr, hm, a1, a2, a3, a4⟩
  refine ⟨F, al, r, M, _, er, hr, hm, fun v H1 F1 al1 d M1 s1 r1 hm1 => ?_⟩
  split at hm1
  · rename_i sl e1
    have er1 := er.step hr s1
    exact ⟨F1, al1, M1, d, r.sl, sl, er1.es, s1.hr, r1, e1, fun s' es' _ => a1 _ _ _ _ _ _ s1 (er1.sl' es') hm1⟩
  · exact hm1.elim
/-- a, b = e1, e2 -/
def mPar (i j : Nat) (mas : DA) : DS := fun E r M => mas r M fun ds M1 => match ds with
  | [d, e] => E.nx ((r.put i d).put j e) M1
  | _ => False
theorem ms_par {i j : Nat} {x y : Str} {px py pt : Pos} {kt k2 pt2} (hc : X.calm = true) (hN : X.N.Nodup) (hi : X.N[i]? = some x) (hj : X.N[j]? = some y) (hij : i ≠ j) (hx : X.env.scope.names.lookup x = some .local) (hy : X.env.scope.names.lookup y = some .local) (ha : MA X W [a, b] mas)
    (hw : swappedStores [.Tuple [.Name x px, .Name y py] kt pt] (.Tuple [a, b] k2 pt2) X.env = pure (some [x, y])) (hs : swapsWithSole [.Tuple [.Name x px, .Name y py] kt pt] (.Tuple [a, b] k2 pt2) pos.line X.env = pure false := by rfl) :
    MS X W (.Assign [.Tuple [.Name x px, .Name y py] kt pt] (.Tuple [a, b] k2 pt2) pos) (mPar i j mas) := by
  refine PS.imp (ps_par hc hN hi hj hij hx hy ha hw hs) ?_
  rintro D s H ⟨F, al, r, M, E, er, hr, hm, a1, a2, a3, a4⟩
  refine ⟨F, al, r, M, _, er, hr, hm, fun vs H1 F1 al1 ds M1 s1 r1 hm1 => ?_⟩
  split at hm1
  · obtain ⟨y, ys, rfl, ry, z, zs, rfl, rz, rfl⟩ := r1
    exact ⟨y, z, rfl, a1 _ _ _ _ _ _ s1 (((er.step hr s1).put ry).put rz) hm1⟩
  · exact hm1.elim
/-- an expression whose value is dropped -/
def mDrop (me : DE) : DS := fun E r M => me r M fun _ M1 => E.nx r M1
theorem ms_expr (he : ME X W e me) (hs : swapsWith e none pos.line X.env = pure false := by rfl) : MS X W (.Expr e pos) (mDrop me) := by
  refine PS.imp (ps_expr he hs) ?_
  rintro D s H ⟨F, al, r, M, E, er, hr, hm, a1, a2, a3, a4⟩
  refine ⟨F, al, r, M, _, er, hr, hm, fun v H1 F1 al1 d M1 s1 r1 hm1 => ?_⟩
  exact a1 _ _ _ _ _ _ s1 (er.step hr s1) hm1
def mRet (me : DE) : DS := fun E r M => me r M E.rt
theorem ms_ret (he : ME X W e me) : MS X W (.Return (some e) pos) (mRet me) := by
  refine PS.imp (ps_ret he) ?_
  rintro D s H ⟨F, al, r, M, E, er, hr, hm, a1, a2, a3, a4⟩
  exact ⟨F, al, r, M, _, er, hr, hm, a4⟩
def mRetN : DS := fun E _ M => E.rt .non M
theorem ms_retN : MS X W (.Return none pos) mRetN := by
  refine PS.imp ps_retN ?_
  rintro D s H ⟨F, al, r, M, E, er, hr, hm, a1, a2, a3, a4⟩
  exact a4 _ _ _ _ .non _ (Stp.refl hr) rfl hm
def mIf (tc : DT) (m u : DS) : DS := fun E r M => tc r M fun b M1 => if b = true then m E r M1 else u E r M1
theorem ms_if {t f : List Stmt} (hc : MT X W c tc) (ha : MSs X W t m) (hb : MSs X W f u) : MS X W (.If c t f pos) (mIf tc m u) := by
  refine PS.imp (ps_if hc ha hb) ?_
  rintro D s H ⟨F, al, r, M, E, er, hr, hm, a1, a2, a3, a4⟩
  refine ⟨F, al, r, M, _, er, hr, hm, fun b H1 F1 al1 M1 s1 hm1 => ?_⟩
  have er1 := er.step hr s1
  have b4 : ∀ v H2 F2 al2 d M2, Stp X.K F1 al1 H1 M1 F2 al2 H2 M2 → Rel X.K F2 al2 d v → E.rt d M2 → D.rt v H2 := fun v H2 F2 al2 d M2 b q1 q2 => a4 v H2 F2 al2 d M2 (s1.trans hr b) q1 q2
  cases b with
  | true => exact ⟨F1, al1, r, M1, E, er1, s1.hr, hm1, Aft.trans hr s1 a1, Aft.trans hr s1 a2, Aft.trans hr s1 a3, b4⟩
  | false => exact ⟨F1, al1, r, M1, E, er1, s1.hr, hm1, Aft.trans hr s1 a1, Aft.trans hr s1 a2, Aft.trans hr s1 a3, b4⟩
/-- while, by a word and a measure -/
def mWhile (tc : DT) (m : DS) : DS := fun E r M => ∃ Wd : Nat → RH → MH → Prop, (∃ n, Wd n r M) ∧ ∀ n r M, Wd n r M → tc r M fun b M1 => if b = true then
  ∃ N : RH → MH → Prop, (∀ r' M', N r' M' → ∃ n', n' < n ∧ Wd n' r' M') ∧ m { nx := N, ct := N, bk := E.nx, rt := E.rt } r M1 else E.nx r M1
theorem ms_while {body : List Stmt} (hp : PassesOwn (model X.prog X.w) X.A X.env X.xe) (hc : MT X W c tc) (hb : MSs X W body m) : MS X W (.While c body [] pos) (mWhile tc m) := by
  refine PS.imp (ps_while hp hc hb) ?_
  rintro D s H0 ⟨F0, al0, r0, M0, E, er0, hr0, ⟨Wd, ⟨n0, w0⟩, turn⟩, a1, a2, a3, a4⟩
  refine ⟨fun n s H => ∃ F al r M, ER X.K W F al H M s r ∧ Stp X.K F0 al0 H0 M0 F al H M ∧ Wd n r M, ⟨n0, F0, al0, r0, M0, er0, Stp.refl hr0, w0⟩, ?_⟩
  rintro n s H ⟨F, al, r, M, er, st, w⟩
  have hr := st.hr
  refine ⟨F, al, r, M, _, er, hr, turn n r M w, fun b H1 F1 al1 M1 s1 hm1 => ?_⟩
  have st1 := st.trans hr0 s1
  have er1 := er.step hr s1
  cases b with
  | true =>
    obtain ⟨N, hN, hb⟩ := hm1
    refine ⟨fun s' H' => ∃ F al r M, ER X.K W F al H' M s' r ∧ Stp X.K F0 al0 H0 M0 F al H' M ∧ N r M, ?_, F1, al1, r, M1, _, er1, s1.hr, hb, ?_, ?_, ?_, ?_⟩
    · rintro s' H' ⟨F, al, r, M, er, st, n⟩
      obtain ⟨n', l, w'⟩ := hN r M n
      exact ⟨n', l, F, al, r, M, er, st, w'⟩
    · exact fun s' H2 F2 al2 r2 M2 b er2 q => ⟨F2, al2, r2, M2, er2, st1.trans hr0 b, q⟩
    · exact fun s' H2 F2 al2 r2 M2 b er2 q => a1 s' H2 F2 al2 r2 M2 (st1.trans hr0 b) er2 q
    · exact fun s' H2 F2 al2 r2 M2 b er2 q => ⟨F2, al2, r2, M2, er2, st1.trans hr0 b, q⟩
    · exact fun v H2 F2 al2 d M2 b q1 q2 => a4 v H2 F2 al2 d M2 (st1.trans hr0 b) q1 q2
  | false => exact a1 _ _ _ _ _ _ st1 er1 hm1
end
end DL

set_option Elab.async false
set_option linter.all false
set_option maxRecDepth 100000
set_option maxHeartbeats 2000000
/-! # An own exception class over Exception, its __init__ calling super().__init__(place), two classes deep -/
namespace EX
open PySem PySem.Spec PySem.W PySem.Calls PyProof.Rows
open Builtin Builtin.ObjectAttr

section
variable {prog : Program} {w : World} {A : Around} {E : Value → Shared → Prop} {R : Result → Shared → Prop} {hp : Heap} {g : Array GenState} {d : Drawn} {t : Nat} {os : OsState}
/-- a store into an exception's own dict: what stands ahead of it -/
theorem osa_pre {K : Frag} {name : Str} {tk : Tok} {v : Value} {x C : Addr} {ox : Obj} {od : Option Obj} {cd : ClassData}
    (X : K.In hp) (I : InstAt hp x ox C od) (hcd : clsIn K C = some cd) (hm : excTail ESX.exTail cd.mro = true) (ha : findIn K (.ref C) name = some none)
    (hq : wpAny (model prog w) A.in1 (storeInOwnDict (.ref x) (.ref C) (.str name tk) name v false)
      (fun fin s' => match fin with | .done f => R (.ok f) s' | .again c' => c'.quiet = true ∧ codeAny (model prog w) A c' R s') (fun e s' => R (.error e) s') ⟨hp, g, d, t, os⟩) :
    codeAny (model prog w) A (.call (.builtin "object.__setattr__") ⟨[.ref x, .str name tk, v], []⟩) R ⟨hp, g, d, t, os⟩ := by
  have SF := F.store_object
  have hob : cd.mro.contains (.type "object") = true := (excTail_contains "object" _ hm).trans (by decide +kernel)
  have ne : cd.mro.isEmpty = false := by
    cases z : cd.mro with
    | nil => rw [z] at hob; cases hob
    | cons _ _ => rfl
  have sub : Looks (model prog w) hp (isInstance (.ref x) (.type "object")) true := I.type.andThen (looks_mroIn X (by unfold mroIn; rw [hcd, Option.bind_some, if_neg (by rw [ne]; decide), hob]))
  refine codeAny_call_builtin SF.slot.plain SF.entry (@check_slot (model prog w) _ _ ⟨hp, g, d, t, os⟩ "object.__setattr__" "object" "__setattr__" (.ref x) [.str name tk, v] [] _ SF.kind SF.split sub (SF.args (.ref x) (.str name tk) v) ?_)
  have hmr : Looks (model prog w) hp (mroOf (.ref C)) cd.mro := (looks_clsIn X hcd).andThen .now
  have L3 : Looks (model prog w) hp (storeTaker? none) none := .now
  rw [osa_eq, refuse_eq]
  refine wpAny_bind (wpAny_bind (I.type.at (wpAny_bind (hmr.at ?_))))
  rw [excTail_pass _ (F.store_Exception.passes _) _ hm]
  exact wpAny_pure (wpAny_bind (I.type.at (wpAny_bind ((looks_findIn X ha).at (wpAny_bind (L3.at hq))))))
theorem osa_first {K : Frag} {name : Str} {tk : Tok} {v : Value} {x C : Addr} {fv : Array Value} {cd : ClassData}
    (X : K.In hp) (hx : hp.get? x = some { cls := .ref C, data := .fields fv }) (hcd : clsIn K C = some cd) (hm : excTail ESX.exTail cd.mro = true) (hh : cd.hasDict = true) (ha : findIn K (.ref C) name = some none)
    (hq : ∀ h' tk' dx, (∀ b o, b ≠ x → hp.get? b = some o → h'.get? b = some o) → hp.objs.size ≤ dx → dx ≠ x → h'.get? x = some { cls := .ref C, dict := some dx, data := .fields fv } →
      h'.Ns1 dx (fun y => if y = name then some v else none) → R (.ok (.ret .none)) ⟨h', g, d, tk', os⟩) :
    codeAny (model prog w) A (.call (.builtin "object.__setattr__") ⟨[.ref x, .str name tk, v], []⟩) R ⟨hp, g, d, t, os⟩ := by
  have I : InstAt hp x { cls := .ref C, data := .fields fv } C none := ⟨hx, rfl, rfl, trivial⟩
  have hxs : x ≠ hp.objs.size := Nat.ne_of_lt (Heap.lt_size hx)
  refine osa_pre X I hcd hm ha ?_
  have hcls : Looks (model prog w) hp (classData C) cd := looks_clsIn X hcd
  obtain ⟨nm, bs, mro, ns, qn, hd, sn, sb, ab, col, del⟩ := cd
  dsimp only at hh
  subst hh
  unfold storeInOwnDict ownDictForStores
  repeat (first | with_reducible refine HandSPX.store_in_new ?_ ?_ | with_reducible refine wpAny_loadPart_at hx ?_ | with_reducible refine hcls.at ?_ | wp_step)
  · exact ⟨_, #[], _, (Heap.get?_update_ne _ _ _ _ hxs.symm).trans (Heap.get?_push_at rfl rfl), rfl, fun e he => absurd he (by simp), fun _ => rfl⟩
  · intro h' tk' hn' hs
    have hx₁ : (hp.push { cls := .type "dict", data := .dict #[] }).get? x = some { cls := .ref C, data := .fields fv } := Heap.get?_push_of_some _ hx
    refine hq h' tk' hp.objs.size (fun b o hb ho => ?_) (Nat.le_refl _) hxs.symm ?_ hn'
    · exact (hs.2 b (Nat.ne_of_lt (Heap.lt_size ho))).trans ((Heap.get?_update_ne _ _ _ _ hb).trans (Heap.get?_push_of_some _ ho))
    · exact (hs.2 x hxs).trans (Heap.get?_update_self _ hx₁ rfl)
theorem osa_next {K : Frag} {name : Str} {tk : Tok} {v : Value} {x C dx : Addr} {fv : Array Value} {cd : ClassData} {m0 : Str → Option Value} {nl : List Str}
    (X : K.In hp) (hx : hp.get? x = some { cls := .ref C, dict := some dx, data := .fields fv }) (hns : hp.Ns1 dx m0) (hw : Within m0 nl) (hz : nl.length ≤ 1000) (hcd : clsIn K C = some cd) (hm : excTail ESX.exTail cd.mro = true) (hh : cd.hasDict = true)
    (ha : findIn K (.ref C) name = some none)
    (hq : ∀ h' tk', (∀ b o, b ≠ dx → hp.get? b = some o → h'.get? b = some o) → h'.Ns1 dx (fun y => if y = name then some v else m0 y) → R (.ok (.ret .none)) ⟨h', g, d, tk', os⟩) :
    codeAny (model prog w) A (.call (.builtin "object.__setattr__") ⟨[.ref x, .str name tk, v], []⟩) R ⟨hp, g, d, t, os⟩ := by
  obtain ⟨oD, esD, epD, hoD, hdD, _⟩ := hns.count hw
  have I : InstAt hp x { cls := .ref C, dict := some dx, data := .fields fv } C (some oD) := ⟨hx, rfl, rfl, hoD⟩
  refine osa_pre X I hcd hm ha ?_
  have hcls : Looks (model prog w) hp (classData C) cd := looks_clsIn X hcd
  obtain ⟨nm, bs, mro, ns, qn, hd, sn, sb, ab, col, del⟩ := cd
  dsimp only at hh
  subst hh
  unfold storeInOwnDict ownDictForStores
  repeat (first | with_reducible refine ESX.store_in_old hns hw hz ?_ | with_reducible refine wpAny_loadPart_at hx ?_ | with_reducible refine hcls.at ?_ | wp_step)
  intro h' tk' hn' hs
  exact hq h' tk' (fun b o hb ho => (hs.2 b hb).trans ho) hn'
end

/-! ### the classes -/
/-- what the written part says of an exception class -/
structure OX (K : Frag) (C : Addr) : Prop where
  cls : ∃ nm q N bs bm sn sub ab col dd k0 k1 k2 k3 k5, K.lookup C = some (excClassObj nm q C N bs bm true sn sub ab col dd k0 k1 k2 k3 k5 "Exception.__new__") ∧ excTail ESX.exTail bm = true
  sa : findIn K (.ref C) "__setattr__" = some (some (.builtin "object.__setattr__"))
  exC : subIn K (.ref C) (.type "BaseException") = some true
  exE : subIn K (.ref C) (.type "Exception") = some true
  tyC : typeIn K (.ref C) = some (.type "type")
  kC : keepIn K (.ref C) = true
  opq : nsIn K cStatics "thirdparty.any" = some none
  np : findIn K (.ref C) "place" = some none
  nw : findIn K (.ref C) "word" = some none
theorem OX.cd {K : Frag} {C : Addr} (o : OX K C) : ∃ cd : ClassData, clsIn K C = some cd ∧ excTail ESX.exTail cd.mro = true ∧ cd.hasDict = true := by
  obtain ⟨nm, q, N, bs, bm, sn, sub, ab, col, dd, k0, k1, k2, k3, k5, h, ht⟩ := o.cls
  refine ⟨{ name := nm, bases := bs, mro := .ref C :: bm, ns := N, qualname := q, hasDict := true, slotNames := sn, subclasses := sub, abstract := ab, collection := col, hasDel := false }, ?_, ht, rfl⟩
  unfold clsIn
  rw [h] <;> rfl
/-- an __init__ that closes over its class -/
structure SupFn (P : Program) (K : Frag) (D f : Addr) (q : Str) (pa : Arguments) (bd : List Stmt) (sc : Scope) (fd : FuncData) : Prop where
  ex : ∃ (nm : Str) (od : Option Addr) (dV kV doc pm : Value) (an : Option Addr) (cda : Addr) (ct : Value) (osl : Array (Option Value)) (cc : Addr) (ccl : Value) (cdd : Option Addr) (vs : Array Value) (ccs : Array (Option Value)) (file : Str) (tf : Tok) (cl : Value) (cld : Option Addr) (csl : Array (Option Value)),
    fd = ksFn nm q pa bd sc dV kV doc pm an (.ref cda) ct cc ∧ K.lookup f = some ⟨.type "function", od, .func fd, osl⟩ ∧ codeIn K (.ref cda) q = true ∧ K.lookup cda = some ⟨ccl, cdd, .fields vs, ccs⟩ ∧ vs[2]? = some (.str file tf) ∧ ((P.main.file : Str) == file) = true ∧
    K.lookup cc = some ⟨cl, cld, .cell (some (.ref D)), csl⟩
  D_ : (clsIn K D).isSome = true
/-- its scope -/
structure SupSc (pa : Arguments) (sc : Scope) : Prop where
  hp : ∃ ar, (pa.posonlyargs ++ pa.args).head? = some ar ∧ ar.arg = "self"
  sup : sc.names.lookup ("super" : Str) = some .globalImplicit
  cl : sc.names.lookup ("__class__" : Str) = some .free
  self : sc.names.lookup ("self" : Str) = some .local
  place : sc.names.lookup ("place" : Str) = some .local
  kind : sc.kind = .function
  nocell : ∀ x ∈ sc.names, x.2 ≠ .cell
  co : sc.isCoroutine = false
  gen : sc.isGenerator = false

section
variable {P : Program} {w : World} {A : Around} {E : Value → Shared → Prop} {K : Frag} {mg : Str → Option Value} {base : Heap} {D C f x : Addr} {q : Str} {pa : Arguments} {bd : List Stmt} {sc : Scope} {fd : FuncData}
/-- super() in such an __init__ -/
theorem node {s : Shared} {nm : Str} {od : Option Addr} {dV kV doc pm : Value} {an : Option Addr} {cda cc L : Addr} {ct : Value} {osl : Array (Option Value)} {ccl : Value} {cdd : Option Addr} {vs : Array Value} {ccs : Array (Option Value)} {file : Str} {tf : Tok} {cl : Value} {cld : Option Addr} {csl : Array (Option Value)}
    {body : List Stmt} {p0 p1 : Pos} {attr : Str} {whole : Sem Value} {m : Str → Option Value} {ox : Obj} {odx : Option Obj} {Q : Value → Shared → Prop}
    (Mo : L2.Mod K mg base) (bk : ∀ b o, base.get? b = some o → s.heap.get? b = some o) (hsg : mg "super" = none) (S : SupSc pa sc)
    (hf : K.lookup f = some ⟨.type "function", od, .func (ksFn nm q pa bd sc dV kV doc pm an (.ref cda) ct cc), osl⟩) (hcode : K.lookup cda = some ⟨ccl, cdd, .fields vs, ccs⟩) (hvs : vs[2]? = some (.str file tf)) (hfile : ((P.main.file : Str) == file) = true)
    (hcell : K.lookup cc = some ⟨cl, cld, .cell (some (.ref D)), csl⟩) (hD : (clsIn K D).isSome = true) (hsub : mroIn K C (.ref D) = some true) (hat : (attr == ("__class__" : Str)) = false) (htop : (P.main.scope.names.lookup ("super" : Str)).isSome = false)
    (hns : s.heap.Ns L m) (hv : m "self" = some (.ref x)) (I : InstAt s.heap x ox C odx)
    (h : ∀ h', (∀ b o, s.heap.get? b = some o → h'.get? b = some o) → h'.get? s.heap.objs.size = some (ks_superObj D x C) → Q (.ref s.heap.objs.size) { s with heap := h' }) :
    _root_.PySem.wpAt (model P w) A (.func body (ksEnv q sc L f (.ref cda) cc)) (attributeBase (.Call (.Name "super" p0) [] [] p1) attr (ksEnv q sc L f (.ref cda) cc) whole) Q E s := by
  have X : K.In s.heap := Mo.kin.keeps bk
  obtain ⟨ar, hp, har⟩ := S.hp
  obtain ⟨mb, b1, b2⟩ := Mo.blt
  obtain ⟨cdD, hD⟩ := Option.isSome_iff_exists.mp hD
  have hks : (ksEnv q sc L f (.ref cda) cc).kindOf "super" = some .globalImplicit := S.sup
  have hkc : (ksEnv q sc L f (.ref cda) cc).kindOf "__class__" = some .free := S.cl
  have hkx : (ksEnv q sc L f (.ref cda) cc).kindOf ar.arg = some .local := by rw [har]; exact S.self
  obtain ⟨hh, g, d, t, os⟩ := s
  obtain ⟨oD, hD1, hD2⟩ : ∃ oD, hh.get? D = some oD ∧ oD.data = .cls cdD := by
    unfold clsIn at hD
    split at hD
    · rename_i c d cd' sl ho
      cases hD
      exact ⟨_, X _ _ ho, rfl⟩
    · cases hD
  refine ks_wpAt_super_base (env := ksEnv q sc L f (.ref cda) cc) hks hkc hat rfl (X _ _ hf) rfl hp rfl (X _ _ hcode) rfl hvs hfile htop ?_
  refine ks_loadName_global S.kind hks (loadGlobal_builtin (env := ksEnv q sc L f (.ref cda) cc) (Mo.glob.keeps bk) hsg (b1.keeps bk) ((b2 "super" (by decide)).trans (by first | boot_by_name | rfl | kernel_rfl)) ⟨rfl, ?_⟩)
  refine wpAny_loadName_free S.kind hkc rfl ⟨_, X _ _ hcell, rfl⟩ ?_
  refine wpAny_loadName_local S.kind hkx hns (by rw [har]; exact hv) ?_
  refine ks_wpAny_isType_cls hD1 hD2 ⟨rfl, ?_⟩
  refine ks_wpAny_call_super hD1 hD2 I.at_ I.cls (fun c e => ?_) (looks_mroIn X hsub) (fun h' e k => ?_)
  · have := I.no
    unfold notCls at this
    rw [e] at this
    exact Bool.noConfusion this
  · exact h h' k e
end

/-! ### the statements -/
abbrev stS (p0 p1 p2 p3 p4 p5 : Pos) : Stmt := .Expr (.Call (.Attribute (.Call (.Name "super" p0) [] [] p1) "__init__" p2) [.Name "place" p3] [] p4) p5
abbrev stP (p0 p1 p2 p3 : Pos) : Stmt := .Assign [.Attribute (.Name "self" p0) "place" p1] (.Name "place" p2) p3
abbrev stW (wd : Str) (j : Nat) (p0 p1 p2 p3 : Pos) : Stmt := .Assign [.Attribute (.Name "self" p0) "word" p1] (.Constant (.str wd) j p2) p3
/-- an object of such a class, being made -/
abbrev eo (C t0 : Addr) (dx : Option Addr) : Obj := { cls := .ref C, dict := dx, data := .fields #[.ref t0, .none, .none, .none, .bool false, .none] }
/-- its own dict: place, word -/
def dm (p : Value) (wd : Str) (tk : Tok) (y : Str) : Option Value := if y = "word" then some (.str wd tk) else if y = "place" then some p else none
/-- behind __init__ -/
def Made (C x : Addr) (p : Value) (wd : Str) (R : Result → Shared → Prop) (s : Shared) : Prop :=
  ∀ h' dx t1 tk tk', (∀ b o, b ≠ x → s.heap.get? b = some o → h'.get? b = some o) → s.heap.get? dx = none → dx ≠ x → h'.get? x = some (eo C t1 (some dx)) → h'.Ns1 dx (dm p wd tk) → R (.ok (.ret .none)) { s with heap := h', toks := tk' }

section
variable {P : Program} {w : World} {A : Around} {E : Value → Shared → Prop} {R : Result → Shared → Prop} {K : Frag} {mg : Str → Option Value} {base : Heap} {D C f x : Addr} {q : Str} {pa : Arguments} {bd : List Stmt} {sc : Scope} {fd : FuncData}
theorem binds_ns {f x : Addr} {a b : Value} : (fun y => ([("self", a), ("place", b)] : List (Str × Value)).reverse.lookup y) ("self" : Str) = some a ∧ (fun y => ([("self", a), ("place", b)] : List (Str × Value)).reverse.lookup y) ("place" : Str) = some b := ⟨rfl, rfl⟩
theorem locs2 (S : SupSc pa sc) {a b : Value} : ∀ y ∈ ([("self", a), ("place", b)] : List (Str × Value)), sc.names.lookup y.1 = some .local := fun y hy => by
  rcases List.mem_cons.mp hy with rfl | hy
  · exact S.self
  · rcases List.mem_cons.mp hy with rfl | hy
    · exact S.place
    · cases hy
/-- super().__init__(place), as it is evaluated -/
def CallS (pl : Env → Sem Bool) (p0 p1 p2 p3 p4 : Pos) : Prop := ∀ env : Env, eval (.Call (.Attribute (.Call (.Name "super" p0) [] [] p1) "__init__" p2) [.Name "place" p3] [] p4) env = (do
      let ov ← attributeBase (.Call (.Name "super" p0) [] [] p1) "__init__" env (eval (.Call (.Name "super" p0) [] [] p1) env)
      standAt p2.atName
      let (f, first) ← holding [ov] (getMethod ov "__init__" (pl env))
      callWith p4 f first (backTo p4 (starEach [.Name "place" p3] env)) [])
theorem noInter {env : Env} (h : env.scope.kind = .function) : interactive env = false := by
  unfold interactive
  rw [h]
  rfl
/-- CutError.__init__: Exception.__init__, then place and word -/
theorem init_low {s : Shared} {p : Value} {t0 : Addr} {wd : Str} {j : Nat} {a0 a1 a2 a3 a4 a5 b0 b1 b2 b3 c0 c1 c2 c3 : Pos} (Mo : L2.Mod K mg base) (bk : ∀ b o, base.get? b = some o → s.heap.get? b = some o) (hsg : mg "super" = none) (S : SupSc pa sc)
    (F : SupFn P K D f q pa [stS a0 a1 a2 a3 a4 a5, stP b0 b1 b2 b3, stW wd j c0 c1 c2 c3] sc fd) (O : OX K C) (hinit : ks_superIn K C D "__init__" = some (some (.builtin "Exception.__init__"))) (hsub : mroIn K C (.ref D) = some true)
    (htop : (P.main.scope.names.lookup ("super" : Str)).isSome = false) (hroom : A.depth < recursionLimit) {args : Args} (hb : BindsTo s fd args [("self", .ref x), ("place", p)]) (hx : s.heap.get? x = some (eo C t0 none)) (xb : base.get? x = none)
    {pl : Env → Sem Bool} (he : CallS pl a0 a1 a2 a3 a4)
    (hq : Made C x p wd R s) : codeAny (model P w) A (.call (.ref f) args) R s := by
  obtain ⟨nm, od, dV, kV, doc, pm, an, cda, ct, osl, cc, ccl, cdd, vs, ccs, file, tf, cl, cld, csl, rfl, hf, hcd, hcode, hvs, hfile, hcell⟩ := F.ex
  obtain ⟨hh, g, d, t, os⟩ := s
  dsimp only at bk hx hb
  have X : K.In hh := Mo.kin.keeps bk
  obtain ⟨cd, hcl, hmr, hhd⟩ := O.cd
  have nl : hh.NoLimit := Mo.nolimit.keeps bk
  refine ks_codeAny_call_defAt (fd := ksFn nm q pa _ sc dV kV doc pm an (.ref cda) ct cc) (binds := [("self", .ref x), ("place", p)]) hroom (X _ _ hf) rfl nl (codeRec_of X hcd) rfl hb S.nocell (locs2 S) (fun h0 hns k0 => ?_) S.co S.gen S.kind
  have hns' : h0.Ns hh.objs.size (fun y => ([("self", .ref x), ("place", p)] : List (Str × Value)).reverse.lookup y) := hns
  have x0 := k0 _ _ hx
  have xlt : x < hh.objs.size := Heap.lt_size hx
  show _root_.PySem.wpAt (model P w) (A.deeper (ksEnv q sc hh.objs.size f (.ref cda) cc)) (.func _ (ksEnv q sc hh.objs.size f (.ref cda) cc)) (execs [stS a0 a1 a2 a3 a4 a5, stP b0 b1 b2 b3, stW wd j c0 c1 c2 c3] (ksEnv q sc hh.objs.size f (.ref cda) cc)) _ _ _
  refine ks_wpAt_execs_cons (ks_wpAt_Expr_any (hi := noInter S.kind) (ks_wpAt_MethodCall (he := he _) (node (ox := eo C t0 none) (odx := none) Mo (fun b o e => k0 b o (bk b o e)) hsg S hf hcode hvs hfile hcell F.D_ hsub rfl htop hns' rfl ⟨x0, rfl, rfl, trivial⟩ (fun h1 k1 e1 => ?_))))
  have X1 : K.In h1 := X.keeps fun b o e => k1 b o (k0 b o e)
  have x1 := k1 _ _ x0
  have hxC : x ≠ C := ks_ne X1 (ox := eo C t0 none) (odx := none) ⟨x1, rfl, rfl, trivial⟩ hcl
  have hl : alongIn K "__init__" ((cd.mro.dropWhile (· != .ref D)).drop 1) = some (some (.builtin "Exception.__init__")) := by
    unfold ks_superIn at hinit
    rw [hcl] at hinit
    exact hinit
  have I1 : InstAt h1 x (eo C t0 none) C none := ⟨x1, rfl, rfl, trivial⟩
  refine ESX.getMethod_super e1 (looks_opaque X1 O.opq) (l₀ := cd.mro) (fun A Q E s k q => wpAny_bind ((looks_clsIn X1 hcl) A _ E s k (wpAny_pure q))) rfl X1 hl hxC rfl (I1.type.andThen (looks_subIn X1 O.exE)) ?_
  have hkp : (ksEnv q sc hh.objs.size f (.ref cda) cc).kindOf "place" = some .local := S.place
  have hks : (ksEnv q sc hh.objs.size f (.ref cda) cc).kindOf "self" = some .local := S.self
  refine ESX.callWith_bound (x := x) (Calls.spliced_cons (ESX.ldL (hns'.at fun o z => Heap.get?_push_of_some _ (k1 _ _ z)) rfl (Calls.spliced_nil ⟨Heap.get?_push_at rfl rfl, ?_⟩) S.kind hkp)) rfl rfl
  obtain ⟨nmC, qC, N, bs, bm, sn, sub, ab, col, dd, kk0, kk1, kk2, kk3, kk5, hC, _⟩ := O.cls
  have X2 : K.In (h1.push (ESX.bw x)) := X1.keeps fun b o e => Heap.get?_push_of_some _ e
  refine ESX.call_bw (X2 _ _ hC) (Heap.get?_push_of_some _ x1) (Heap.get?_push_at rfl rfl) (by simp [sizeLine_eq]) (fun h3 t1 k3 e3 => ?_)
  dsimp only
  -- self.place = place
  have up : ∀ b o, b ≠ x → hh.get? b = some o → h3.get? b = some o := fun b o hb z => k3 b o hb (Heap.get?_push_of_some _ (k1 _ _ (k0 b o z)))
  have nb : ∀ b o, base.get? b = some o → b ≠ x := fun b o z e => by rw [e, xb] at z; cases z
  have X3 : K.In h3 := Mo.kin.keeps fun b o z => up b o (nb b o z) (bk b o z)
  have lx : hh.objs.size ≠ x := (Nat.ne_of_lt xlt).symm
  have hns3 : h3.Ns hh.objs.size (fun y => ([("self", .ref x), ("place", p)] : List (Str × Value)).reverse.lookup y) := by
    obtain ⟨o, es, ep, hL, r⟩ := hns'
    exact ⟨o, es, ep, k3 _ _ lx (Heap.get?_push_of_some _ (k1 _ _ hL)), r⟩
  refine ks_wpAt_execs_cons (ks_wpAt_Assign_Attr (wpAt_of_wpAny (ESX.ldL hns3 rfl (ESX.ldL hns3 rfl ?_ S.kind hks) S.kind hkp)))
  refine set_plain X3 (ox := eo C t1 none) (od := none) ⟨e3, rfl, rfl, trivial⟩ O.sa ?_
  refine osa_first X3 e3 hcl hmr hhd O.np (fun h4 tk4 dx k4 hdx ndx e4 n4 => ?_)
  dsimp only
  -- self.word = ..
  have X4 : K.In h4 := Mo.kin.keeps fun b o z => k4 b o (nb b o z) (up b o (nb b o z) (bk b o z))
  have hns4 : h4.Ns hh.objs.size (fun y => ([("self", .ref x), ("place", p)] : List (Str × Value)).reverse.lookup y) := by
    obtain ⟨o, es, ep, hL, r⟩ := hns3
    exact ⟨o, es, ep, k4 _ _ lx hL, r⟩
  refine ks_wpAt_execs_cons (ks_wpAt_Assign_Attr (wpAt_of_wpAny (Calls.Constant_str (ESX.ldL hns4 rfl ?_ S.kind hks))))
  have hw4 : Within (fun y : Str => if y = "place" then some p else none) ["place"] := Within.cons _ _ Within.nil
  obtain ⟨oD, esD, epD, hoD, hdD, _⟩ := n4.count hw4
  refine set_plain X4 (ox := eo C t1 (some dx)) (od := some oD) ⟨e4, rfl, rfl, hoD⟩ O.sa ?_
  refine osa_next X4 e4 n4 hw4 (by decide) hcl hmr hhd O.nw (fun h5 tk5 k5 n5 => ?_)
  dsimp only
  refine wpAt_of_wpAny (wpAny_execs_nil ?_)
  have dn : hh.get? dx = none := by
    cases z : hh.get? dx with
    | none => rfl
    | some o => exact absurd (Heap.lt_size (up dx o ndx z)) (Nat.not_lt.mpr hdx)
  refine hq h5 dx t1 _ _ (fun b o hb z => k5 b o (fun z2 => ?_) (k4 b o hb (up b o hb z))) dn ndx (k5 _ _ ndx.symm e4) n5
  rw [z2, dn] at z
  cases z
theorem dm_put {p : Value} {w1 w2 : Str} {t1 t2 : Tok} : (fun y : Str => if y = "word" then some (.str w2 t2) else dm p w1 t1 y) = dm p w2 t2 := by
  funext y
  unfold dm
  by_cases h : y = "word"
  · rw [if_pos h, if_pos h]
  · rw [if_neg h, if_neg h, if_neg h]
theorem dm_within {p : Value} {wd : Str} {tk : Tok} : Within (dm p wd tk) ["place", "word"] := fun y hy => by
  unfold dm at hy
  by_cases h : y = "word"
  · subst h; simp
  · rw [if_neg h] at hy
    by_cases h2 : y = "place"
    · subst h2; simp
    · rw [if_neg h2] at hy; exact absurd rfl hy
/-- an __init__ one class deeper: that of the class above, then word -/
theorem init_high {s : Shared} {p : Value} {t0 : Addr} {wd : Str} {j : Nat} {a0 a1 a2 a3 a4 a5 c0 c1 c2 c3 : Pos} {f2 : Addr} {of2 : Option Addr} {fd2 : FuncData} {osl2 : Array (Option Value)} (Mo : L2.Mod K mg base) (bk : ∀ b o, base.get? b = some o → s.heap.get? b = some o) (hsg : mg "super" = none) (S : SupSc pa sc)
    (F : SupFn P K D f q pa [stS a0 a1 a2 a3 a4 a5, stW wd j c0 c1 c2 c3] sc fd) (O : OX K C) (hinit : ks_superIn K C D "__init__" = some (some (.ref f2))) (hf2 : K.lookup f2 = some ⟨.type "function", of2, .func fd2, osl2⟩) (hsub : mroIn K C (.ref D) = some true) (hk2 : fnIn K f2 = true)
    (htop : (P.main.scope.names.lookup ("super" : Str)).isSome = false) (hroom : A.depth < recursionLimit) {args : Args} (hb : BindsTo s fd args [("self", .ref x), ("place", p)]) (hx : s.heap.get? x = some (eo C t0 none)) (xb : base.get? x = none)
    {pl : Env → Sem Bool} (he : CallS pl a0 a1 a2 a3 a4)
    (low : ∀ (env : Env) (s1 : Shared) (R1 : Result → Shared → Prop), (∀ b o, base.get? b = some o → s1.heap.get? b = some o) → s1.heap.get? x = some (eo C t0 none) → (∀ w1, Made C x p w1 R1 s1) → codeAny (model P w) (A.deeper env) (.call (.ref f2) ⟨[.ref x, p], []⟩) R1 s1)
    (hq : Made C x p wd R s) : codeAny (model P w) A (.call (.ref f) args) R s := by
  obtain ⟨hh, g, d, t, os⟩ := s
  dsimp only at bk hx hb
  obtain ⟨nm, od, dV, kV, doc, pm, an, cda, ct, osl, cc, ccl, cdd, vs, ccs, file, tf, cl, cld, csl, rfl, hf, hcd, hcode, hvs, hfile, hcell⟩ := F.ex
  have X : K.In hh := Mo.kin.keeps bk
  obtain ⟨cd, hcl, hmr, hhd⟩ := O.cd
  have nl : hh.NoLimit := Mo.nolimit.keeps bk
  refine ks_codeAny_call_defAt (fd := ksFn nm q pa _ sc dV kV doc pm an (.ref cda) ct cc) (binds := [("self", .ref x), ("place", p)]) hroom (X _ _ hf) rfl nl (codeRec_of X hcd) rfl hb S.nocell (locs2 S) (fun h0 hns k0 => ?_) S.co S.gen S.kind
  have hns' : h0.Ns hh.objs.size (fun y => ([("self", .ref x), ("place", p)] : List (Str × Value)).reverse.lookup y) := hns
  have x0 := k0 _ _ hx
  have xlt : x < hh.objs.size := Heap.lt_size hx
  have nb : ∀ b o, base.get? b = some o → b ≠ x := fun b o z e => by rw [e, xb] at z; cases z
  have lx : hh.objs.size ≠ x := (Nat.ne_of_lt xlt).symm
  show _root_.PySem.wpAt (model P w) (A.deeper (ksEnv q sc hh.objs.size f (.ref cda) cc)) (.func _ (ksEnv q sc hh.objs.size f (.ref cda) cc)) (execs [stS a0 a1 a2 a3 a4 a5, stW wd j c0 c1 c2 c3] (ksEnv q sc hh.objs.size f (.ref cda) cc)) _ _ _
  refine ks_wpAt_execs_cons (ks_wpAt_Expr_any (hi := noInter S.kind) (ks_wpAt_MethodCall (he := he _) (node (ox := eo C t0 none) (odx := none) Mo (fun b o e => k0 b o (bk b o e)) hsg S hf hcode hvs hfile hcell F.D_ hsub rfl htop hns' rfl ⟨x0, rfl, rfl, trivial⟩ (fun h1 k1 e1 => ?_))))
  dsimp only
  have X1 : K.In h1 := X.keeps fun b o e => k1 b o (k0 b o e)
  have x1 := k1 _ _ x0
  have hxC : x ≠ C := ks_ne X1 (ox := eo C t0 none) (odx := none) ⟨x1, rfl, rfl, trivial⟩ hcl
  have hl : alongIn K "__init__" ((cd.mro.dropWhile (· != .ref D)).drop 1) = some (some (.ref f2)) := by
    unfold ks_superIn at hinit
    rw [hcl] at hinit
    exact hinit
  have I1 : InstAt h1 x (eo C t0 none) C none := ⟨x1, rfl, rfl, trivial⟩
  refine ks_wpAny_getMethod_super e1 (looks_opaque X1 O.opq) (l₀ := cd.mro) (fun A Q E s k q => wpAny_bind ((looks_clsIn X1 hcl) A _ E s k (wpAny_pure q))) rfl X1 hl (X1 _ _ hf2) rfl hxC rfl ?_
  dsimp only
  have hkp : (ksEnv q sc hh.objs.size f (.ref cda) cc).kindOf "place" = some .local := S.place
  have hks : (ksEnv q sc hh.objs.size f (.ref cda) cc).kindOf "self" = some .local := S.self
  have X2 : K.In (h1.push (methodObj (.ref f2) (.ref x))) := X1.keeps fun b o e => Heap.get?_push_of_some _ e
  refine callWith_of (P := MethP K h1.objs.size f2 (.ref x)) rfl (keeps_M hk2) (evalArgs_plain (Calls.spliced_cons (ESX.ldL (hns'.at fun o z => Heap.get?_push_of_some _ (k1 _ _ z)) rfl ?_ S.kind hkp)))
  refine Calls.spliced_nil ⟨⟨Heap.get?_push_at rfl rfl, X2⟩, ?_⟩
  refine wpAny_call (method_call (Heap.get?_push_at rfl rfl) (low _ _ _ (fun b o z => Heap.get?_push_of_some _ (k1 _ _ (k0 _ _ (bk b o z)))) (Heap.get?_push_of_some _ x1) (fun w1 h3 dx t1 tk3 tk3' k3 dn3 ndx e3 n3 => ?_)))
  have up : ∀ b o, b ≠ x → hh.get? b = some o → h3.get? b = some o := fun b o hb z => k3 b o hb (Heap.get?_push_of_some _ (k1 _ _ (k0 b o z)))
  have X3 : K.In h3 := Mo.kin.keeps fun b o z => up b o (nb b o z) (bk b o z)
  have hns3 : h3.Ns hh.objs.size (fun y => ([("self", .ref x), ("place", p)] : List (Str × Value)).reverse.lookup y) := by
    obtain ⟨o, es, ep, hL, r⟩ := hns'
    exact ⟨o, es, ep, k3 _ _ lx (Heap.get?_push_of_some _ (k1 _ _ hL)), r⟩
  refine ks_wpAt_execs_cons (ks_wpAt_Assign_Attr (wpAt_of_wpAny (Calls.Constant_str (ESX.ldL hns3 rfl ?_ S.kind hks))))
  obtain ⟨oD, esD, epD, hoD, hdD, _⟩ := n3.count dm_within
  refine set_plain X3 (ox := eo C t1 (some dx)) (od := some oD) ⟨e3, rfl, rfl, hoD⟩ O.sa ?_
  refine osa_next X3 e3 n3 dm_within (by decide) hcl hmr hhd O.nw (fun h5 tk5 k5 n5 => ?_)
  dsimp only
  refine wpAt_of_wpAny (wpAny_execs_nil ?_)
  have dn : hh.get? dx = none := by
    cases z : hh.get? dx with
    | none => rfl
    | some o =>
      have := Heap.get?_push_of_some (methodObj (.ref f2) (.ref x)) (k1 _ _ (k0 dx o z))
      rw [dn3] at this; cases this
  refine hq h5 dx t1 _ _ (fun b o hb z => k5 b o (fun z2 => ?_) (up b o hb z)) dn ndx (k5 _ _ ndx.symm e3) (by rw [dm_put] at n5; exact n5)
  rw [z2, dn] at z
  cases z
end
end EX

set_option Elab.async false
set_option linter.all false
set_option maxRecDepth 100000
set_option maxHeartbeats 2000000
namespace DL
open PySem PySem.Spec L2
open Evl (Ex)

/-- a class that is made by its place, the word its name -/
structure MkC (P : Program) (w : World) (K : PySem.W.Frag) (mg : Str → Option Value) (base : Heap) (C : Addr) (wd : Str) : Prop where
  ox : EX.OX K C
  ex : ∃ fI : Addr, PySem.W.findIn K (.ref C) "__init__" = some (some (.ref fI)) ∧ PySem.W.typeIn K (.ref fI) = some (.type "function") ∧
    ∀ (A : Around) (s : Shared) (x t0 : Addr) (p : Value) (args : Args) (R : Result → Shared → Prop), L2.Mod K mg base → A.depth + 2 < recursionLimit → (∀ b o, base.get? b = some o → s.heap.get? b = some o) → base.get? x = none →
      s.heap.get? x = some (EX.eo C t0 none) → (args = ⟨[.ref x, p], []⟩ ∨ (args = ⟨[.ref x], []⟩ ∧ p = .none) ∨ args = ⟨[.ref x], [("place", p)]⟩) → EX.Made C x p wd R s → codeAny (model P w) A (.call (.ref fI) args) R s

theorem un_exc (L : List Addr) {X : Cx} {pins : List (Addr × Obj)} {σ : L2.St} {H : Hp} {s : Shared} {h' : Heap} {tk' : Nat} {a dx C t1 : Addr} {fs : List (Str × V)} {mA : Str → Option Value} (I : Inv X pins σ H s) (e : H a = some (exo a C none)) (hnd : H dx = none) (dne : dx ≠ a) (dn : s.heap.get? dx = none)
    (k : ∀ b o, b ≠ a → s.heap.get? b = some o → h'.get? b = some o) (hx : h'.get? a = some (EX.eo C t1 (some dx))) (hn : h'.Ns1 dx mA) (rel : ∀ f, RelO (fs.lookup f) (mA f)) :
    Un L [] H (upd (upd H dx (exd dx fs)) a (exo a C (some dx))) s.heap h' ∧ HOk X.prog X.w (upd (upd H dx (exd dx fs)) a (exo a C (some dx))) h' := by
  have nd : ∀ {b : Addr} {o : Obj}, s.heap.get? b = some o → b ≠ dx := fun {b o} q z => by rw [z, dn] at q; cases q
  have na : ∀ {b : Addr}, H b = none → b ≠ a := fun {b} n z => by
    rw [z, e] at n
    cases n
  refine ⟨{
    keep := fun b o q n _ _ => k b o (na n) q
    slot := fun b o q n _ _ => ⟨o.slots, k b o (na n) q⟩
    free := fun b o q n _ => by rw [upd_ne (na n), upd_ne (nd q)]; exact n
    there := fun b o q _ => by
      by_cases hb : b = a
      · exact ⟨_, by rw [hb]; exact hx⟩
      · exact ⟨o, k b o hb q⟩
    tups := fun b xs q => by rw [upd_ne (at_ne e q exo_tup), upd_ne (ne_of_none q hnd)]; exact q
    frzs := fun b o v q => by rw [upd_ne (at_ne e q exo_frz), upd_ne (ne_of_none q hnd)]; exact q
    tbls := fun b ps q => ⟨#[], by rw [upd_ne (at_ne e q exo_tbl), upd_ne (ne_of_none q hnd), q]; simp⟩ }, fun b o q => ?_⟩
  by_cases hb : b = a
  · subst hb
    rw [upd_same] at q
    cases q
    exact exo_ok hx
  · rw [upd_ne hb] at q
    by_cases hd : b = dx
    · subst hd
      rw [upd_same] at q
      cases q
      exact exd_ok hn rel
    · rw [upd_ne hd] at q
      exact (I.hok b o q).stay (fun c v hc z => k c v (by
          rcases hc with hc | hc
          · rw [hc]
            exact hb
          · exact at_ne e hc exo_own) z)
        (fun c hc => by rw [upd_ne (at_ne e hc exo_own), upd_ne (ne_of_none hc hnd)]; exact hc) (fun c xs hc => by rw [upd_ne (at_ne e hc exo_tup), upd_ne (ne_of_none hc hnd)]; exact hc)

/-- C() or C(e) -/
def tMkX (C : Addr) (wd : Str) (ta : TA) : L2.St → Hp → XK → Prop := fun σ H Q => ta σ H fun vs H1 => ∃ p : V, (vs = [p] ∨ (vs = [] ∧ p = .non)) ∧ ∀ d, H1 d = none → Q (.ref C) (some d) (upd H1 d (.xd [("word", .str wd), ("place", p)]))
theorem relO_dm {p : V} {u : Value} {wd : Str} {tk : Tok} (r : RelV p u) (f : Str) : RelO (([("word", V.str wd), ("place", p)] : List (Str × V)).lookup f) (EX.dm u wd tk f) := by
  unfold EX.dm
  rw [lookup_put, lookup_put]
  by_cases h : f = "word"
  · rw [if_pos h, if_pos h]
    exact ⟨tk, rfl⟩
  · rw [if_neg h, if_neg h]
    by_cases h2 : f = "place"
    · rw [if_pos h2, if_pos h2]
      exact r
    · rw [if_neg h2, if_neg h2]
      exact True.intro
section
variable {X : Cx} {C : Addr} {wd x : Str} {e : Expr} {es : List Expr} {ta : TA} {p pos : Pos}
theorem mkx_run {pins : List (Addr × Obj)} {σ : L2.St} {H1 : Hp} {s1 : Shared} {Q : XK} {us : List Value} {vs : List V} {pv : V} (M : MkC X.prog X.w X.K X.mg X.base C wd) (hr : X.A.depth + 3 < recursionLimit) (I1 : Inv X pins σ H1 s1) (r1 : Vals vs us) (hp : vs = [pv] ∨ (vs = [] ∧ pv = .non))
    (q : ∀ d, H1 d = none → Q (.ref C) (some d) (upd H1 d (.xd [("word", .str wd), ("place", pv)]))) : wpAny (model X.prog X.w) X.A (call (.ref C) us) (MkP X pins σ Q) X.xe s1 := by
  obtain ⟨fI, iC, tI, go⟩ := M.ex
  obtain ⟨nm, qn, N, bs, bm, sn, sub, ab, col, dd, k0, k1, k2, k3, k5, hC, hbm⟩ := M.ox.cls
  obtain ⟨hp', g, dr, tk, os⟩ := s1
  have hsz : hp'.objs.size ≤ hp'.objs.size + 1 := Nat.le_succ _
  have hn : H1 (hp'.objs.size + 1) = none := I1.hok.fresh hsz
  have kk : ∀ b o, hp'.get? b = some o → ((hp'.push (PySem.W.kdv_tup us)).push (PySem.HandSPX.excO C hp'.objs.size)).get? b = some o := fun b o e => Heap.get?_push_of_some _ (Heap.get?_push_of_some _ e)
  have hget : ((hp'.push (PySem.W.kdv_tup us)).push (PySem.HandSPX.excO C hp'.objs.size)).get? (hp'.objs.size + 1) = some (PySem.HandSPX.excO C hp'.objs.size) := by heap_get
  have I2 : Inv X pins σ (upd H1 (hp'.objs.size + 1) (exo (hp'.objs.size + 1) C none)) ⟨(hp'.push (PySem.W.kdv_tup us)).push (PySem.HandSPX.excO C hp'.objs.size), g, dr, tk, os⟩ :=
    I1.laid (t' := tk) (a := hp'.objs.size + 1) (o := exo (hp'.objs.size + 1) C none) (h' := (hp'.push (PySem.W.kdv_tup us)).push (PySem.HandSPX.excO C hp'.objs.size)) kk hsz (exo_ok hget)
  have bn : X.base.get? (hp'.objs.size + 1) = none := by
    cases z : X.base.get? (hp'.objs.size + 1) with
    | none => rfl
    | some o =>
      have := Heap.lt_size (I1.bk _ _ z)
      exact absurd this (Nat.not_lt.mpr hsz)
  have hus : us.length ≤ sizeLine := by
    rw [← Paired.length r1, sizeLine_eq]
    rcases hp with rfl | ⟨rfl, _⟩ <;> simp
  obtain ⟨pu, rp, hargs⟩ : ∃ pu, RelV pv pu ∧ ((⟨.ref (hp'.objs.size + 1) :: us, []⟩ : Args) = ⟨[.ref (hp'.objs.size + 1), pu], []⟩ ∨ ((⟨.ref (hp'.objs.size + 1) :: us, []⟩ : Args) = ⟨[.ref (hp'.objs.size + 1)], []⟩ ∧ pu = .none)) := by
    rcases hp with rfl | ⟨rfl, rfl⟩
    · cases r1 with
      | cons a b => cases b; exact ⟨_, a, .inl rfl⟩
    · cases r1
      exact ⟨.none, rfl, .inr ⟨rfl, rfl⟩⟩
  refine wpAny_call (PySem.HandSPX.call_own F.excBase_Exception (fun Y => PySem.W.excTail_contains Y bm hbm) (I1.kIn _ _ hC) (PySem.W.looks_findIn I1.kIn iC) (fun self => PySem.W.bind_fn I1.kIn self tI) hus ?_)
  refine go _ _ _ _ pu _ _ I1.ok.mod (by show X.A.depth + 1 + 2 < recursionLimit; omega) (fun b o z => kk _ _ (I1.bk _ _ z)) bn hget (by rcases hargs with z | z; exact .inl z; exact .inr (.inl z)) ?_
  intro h2 dx t1 tk2 tk2' k2' dn dne e2 n2
  have hd1 : upd H1 (hp'.objs.size + 1) (exo (hp'.objs.size + 1) C none) dx = none := I2.hok.gone dn
  have hd0 : H1 dx = none := by rw [upd_ne dne] at hd1; exact hd1
  obtain ⟨un, hok⟩ := un_exc (frs X.stack) (tk' := tk2) (fs := [("word", .str wd), ("place", pv)]) I2 upd_same hd1 dne dn k2' e2 n2 (relO_dm rp)
  refine ⟨rfl, ?_⟩
  have q2 := q dx hd0
  have eu : upd (del (upd (upd (upd H1 (hp'.objs.size + 1) (exo (hp'.objs.size + 1) C none)) dx (exd dx [("word", .str wd), ("place", pv)])) (hp'.objs.size + 1) (exo (hp'.objs.size + 1) C (some dx))) (hp'.objs.size + 1)) dx (.xd [("word", .str wd), ("place", pv)]) = upd H1 dx (.xd [("word", .str wd), ("place", pv)]) := by
    funext b
    by_cases h1 : b = dx
    · rw [h1, upd_same, upd_same]
    · rw [upd_ne h1, upd_ne h1]
      by_cases h2 : b = hp'.objs.size + 1
      · rw [h2, del_same, hn]
      · rw [del_ne h2, upd_ne h2, upd_ne h1, upd_ne h2]
  refine mk_end (raises_own M.ox.exC M.ox.tyC) I1 hsz kk un hok rfl I2.bare upd_same (by rw [upd_ne dne, upd_same]) hd0 (by rw [eu]; exact q2)
end
end DL

set_option Elab.async false
set_option linter.all false
set_option maxRecDepth 100000
set_option maxHeartbeats 2000000
namespace DL
open PySem PySem.Spec L2
open Evl (Ex)
open PyProof.Rows (envOfC)

/-! ### raise C(place) -/
theorem HR.newX {K : PySem.W.Frag} {F : Hp} {al : List Addr} {H : Hp} {M : MH} {p : Addr} {o : HO} (h : HR K F al H M) (hp : H p = none) : Stp K F al H M F al (upd H p o) M := by
  have ne : ∀ (k : Nat) (a : Addr), al[k]? = some a → a ≠ p := fun k a e z => h.trk k a e (by rw [z]; exact hp)
  refine ⟨fun _ _ e => e, Pre.refl _, ⟨fun a u e => ?_, h.len, fun k a e => ?_, h.inj, fun k a u e1 e2 => ?_⟩, fun b u e _ => by rw [upd_ne (ne_of_none e hp)]; exact e, fun _ _ l => l, fun k a e l => ?_, Nat.le_refl _, fun a e => .inl e⟩
  · have := h.ext a u e
    rw [upd_ne (ne_of_none this hp)]; exact this
  · rw [upd_ne (ne k a e)]; exact h.trk k a e
  · exact (h.mem k a u e1 e2).mono (fun _ _ e => e) (Pre.refl _) (fun w _ q => by rw [upd_ne (ne k a e1)]; exact q) (fun q => q)
  · have := (List.getElem?_eq_some_iff.mp e).1
    have := h.len
    omega
def mRaise (C : Addr) (wd : Str) (mas : DA) : DS := fun _ r M => mas r M fun ds M1 => ∃ p, (ds = [p] ∨ (ds = [] ∧ p = .non)) ∧ r.ex r.sl C p wd M1
section
variable {X : Cx} {W : WX} {C : Addr} {wd x : Str} {e : Expr} {es : List Expr} {ta : TA} {mas : DA} {p p' pos : Pos}
theorem pmkx (M : MkC X.prog X.w X.K X.mg X.base C wd) (hr : X.A.depth + 3 < recursionLimit) (hm : X.mg x = some (.ref C)) (ha : PA X (e :: es) ta) (hg : Gl X x := by rfl)
    (hdb : (x == ("__debug__" : Str)) = false := by decide) (he : starEach (e :: es) X.env = (false, eval e X.env) :: starEach es X.env := by rfl) (hpl : (backTo pos (starEach es X.env)).any (·.1) = false := by rfl) :
    PMk X (.Call (.Name x p) (e :: es) [] pos) (tMkX C wd ta) := by
  intro pins s σ H Q I h
  refine wpAny_Call_Name_kw (ld_glob I hg hm ?_ hdb)
  refine PySem.W.callWith_K (h₀ := X.base) I.ok.mod.kin M.ox.kC (thn (ha.run pos pins s σ H _ I h) fun us s1 ⟨vs, H1, I1, r1, pv, hp, q1⟩ => ⟨I1.kIn, ?_⟩) he hpl
  exact mkx_run M hr I1 r1 hp q1
theorem pmkx0 (M : MkC X.prog X.w X.K X.mg X.base C wd) (hr : X.A.depth + 3 < recursionLimit) (hm : X.mg x = some (.ref C)) (hg : Gl X x := by rfl)
    (hdb : (x == ("__debug__" : Str)) = false := by decide) : PMk X (.Call (.Name x p) [] [] pos) (tMkX C wd tNil) := by
  intro pins s σ H Q I h
  refine wpAny_Call_Name_kw (ld_glob I hg hm ?_ hdb)
  obtain ⟨pv, hp, q1⟩ := h
  exact PySem.W.callWith_K0 I.kIn M.ox.kC (mkx_run (us := []) M hr I .nil hp q1)
theorem sim_raise : ∀ D s H, lS X.K W (mRaise C wd mas) D s H → tMkX C wd (lA X.K W mas) s H fun cls d H' => W cls d s H' := by
  rintro D s H ⟨F, al, r, M, E, er, hr, hm, _⟩
  refine ⟨F, al, r, M, _, er, hr, hm, fun vs H1 F1 al1 ds M1 s1 r1 hm1 => ?_⟩
  obtain ⟨pd, hp, q⟩ := hm1
  obtain ⟨pv, hpv, rp⟩ : ∃ pv, (vs = [pv] ∨ (vs = [] ∧ pv = .non)) ∧ Rel X.K F1 al1 pd pv := by
    rcases hp with rfl | ⟨rfl, rfl⟩
    · obtain ⟨y, ys, rfl, r2, rfl⟩ := r1
      exact ⟨y, .inl rfl, r2⟩
    · cases r1
      exact ⟨.non, .inr ⟨rfl, rfl⟩, rfl⟩
  refine ⟨pv, hpv, fun d hd => ?_⟩
  have st2 := s1.hr.newX (o := .xd [("word", .str wd), ("place", pv)]) hd
  refine er.xe C (some d) pd wd s r.sl _ F1 al1 M1 (s1.trans hr st2) (er.es.mono s1.ex s1.pre) ⟨d, _, pv, rfl, upd_same, ?_, rp, ?_⟩ q
  · rw [lookup_put, if_neg (by decide), lookup_put, if_pos rfl]
  · rw [lookup_put, if_pos rfl]
theorem ms_raise (hc : X.calm = true) (tk : Takes X W) (M : MkC X.prog X.w X.K X.mg X.base C wd) (hr : X.A.depth + 3 < recursionLimit) (hm : X.mg x = some (.ref C)) (ha : MA X W (e :: es) mas) (hg : Gl X x := by rfl)
    (hdb : (x == ("__debug__" : Str)) = false := by decide) (he : starEach (e :: es) X.env = (false, eval e X.env) :: starEach es X.env := by rfl) (hpl : (backTo pos (starEach es X.env)).any (·.1) = false := by rfl) :
    MS X W (.Raise (some (.Call (.Name x p) (e :: es) [] pos)) none p') (mRaise C wd mas) := PS.imp (ps_raise hc tk (pmkx M hr hm ha hg hdb he hpl)) sim_raise
theorem ms_raise0 (hc : X.calm = true) (tk : Takes X W) (M : MkC X.prog X.w X.K X.mg X.base C wd) (hr : X.A.depth + 3 < recursionLimit) (hm : X.mg x = some (.ref C)) (hg : Gl X x := by rfl)
    (hdb : (x == ("__debug__" : Str)) = false := by decide) :
    MS X W (.Raise (some (.Call (.Name x p) [] [] pos)) none p') (mRaise C wd dNil) := PS.imp (ps_raise hc tk (pmkx0 M hr hm hg hdb)) fun D s H h => by
  obtain ⟨F0, al, r, M, R, er, hr0, hm0, k⟩ := sim_raise D s H h
  exact k [] _ _ _ [] _ (Stp.refl hr0) rfl hm0
end

/-! ### try: body, except c as n: suite -/
theorem ES.unset {K : PySem.W.Frag} {F : Hp} {al : List Addr} {s : L2.St} {r : SL} {i : Nat} (h : ES K F al s r) : ES K F al (s.set i none) (r.set i none) := by
  refine ⟨by simp [h.1], fun j e z => ?_⟩
  rw [List.getElem?_set] at z ⊢
  by_cases hij : i = j
  · subst hij
    rw [if_pos rfl] at z
    split at z <;> cases z
  · rw [if_neg hij] at z ⊢
    exact h.2 j e z
/-- a class whose instances' place and word may be read -/
structure XP (K : PySem.W.Frag) (C : Addr) : Prop where
  xf : XfC K C
  np : PySem.W.findIn K (.ref C) "place" = some none
  nw : PySem.W.findIn K (.ref C) "word" = some none
def mTry (K : PySem.W.Frag) (c : Value) (i : Nat) (mb : DS) (ms : Addr → Addr → Option Addr → DS) : DS := fun E r M =>
  mb { nx := fun r2 M2 => E.nx { r with sl := r2.sl } M2, bk := fun r2 M2 => E.bk { r with sl := r2.sl } M2, ct := fun r2 M2 => E.ct { r with sl := r2.sl } M2, rt := E.rt }
    { r with ex := fun sl C p w M' => ∃ b, PySem.W.exmOne K (.ref C) c = some b ∧
      (b = true → XP K C ∧ ∀ a dd : Addr, ms a C (some dd) { nx := fun r2 M2 => E.nx { r with sl := r2.sl.set i none } M2, bk := fun r2 M2 => E.bk { r with sl := r2.sl.set i none } M2, ct := fun r2 M2 => E.ct { r with sl := r2.sl.set i none } M2, rt := E.rt }
        { sl := sl.set i (some (.cls a)), ex := fun _ _ _ _ _ => False, xd := some (dd, p, w) } M') ∧ (b = false → r.ex sl C p w M') } M
section
variable {X : Cx} {W : WX} {x n : Str} {c : Value} {i : Nat} {body suite : List Stmt} {b₀ : Stmt} {np pos pos' : Pos} {mb : DS} {ms : Addr → Addr → Option Addr → DS}
theorem ER.out {K : PySem.W.Frag} {W : WX} {F F' : Hp} {al al' : List Addr} {H H' : Hp} {M M' : MH} {s s' : L2.St} {r : RH} {sl : SL} (er : ER K W F al H M s r) (hr : HR K F al H M) (a : Stp K F al H M F' al' H' M') (es : ES K F' al' s' sl) : ER K W F' al' H' M' s' { r with sl := sl } :=
  let er1 := er.step hr a
  ⟨es, er1.xe, er1.xd⟩
theorem ms_try (hs : X.stack = X.env :: X.outer) (hf : X.env.frame = some X.env.locals) (hN : X.N.Nodup) (hi : X.N[i]? = some n) (hln : X.env.kindOf n = some .local) (hc : Names X x c) (tk : Takes X W)
    (hb : ∀ (W' : WX) (pn : List (Addr × Obj)) (xe : Value → Shared → Prop), Takes (X.tr pn xe) W' → PassesOwn (model X.prog X.w) X.A X.env xe → MSs (X.tr pn xe) W' body mb)
    (hsu : ∀ (a : Addr) (oe : Obj) (C : Addr) (d : Option Addr) (pn : List (Addr × Obj)), XP X.K C → Zc (.ref C) d oe → (∃ vs, oe.data = .fields vs) → MSs (X.suite a ((a, oe) :: pn)) wF (b₀ :: suite) (ms a C d)) :
    MS X W (.Try body [.ExceptHandler (some (.Name x np)) (some n) (b₀ :: suite) pos'] [] [] pos) (mTry X.K c i mb ms) := by
  refine PS.imp (ps_try_as (Wout := W) (tb := fun W' => lS X.K W' mb) (ts := fun a cls d D s H => ∃ C, cls = .ref C ∧ XP X.K C ∧ lS X.K wF (ms a C d) D s H) (c := c) hs hf hN hi hln hc tk (fun W' pn xe tk' ps => hb W' pn xe tk' ps) (fun a oe cls d pn hz hf => ?_)) ?_
  · constructor
    intro pins s σ H D I q
    obtain ⟨C, rfl, pc, q⟩ := q
    exact (hsu a oe C d pn pc hz hf).run pins s σ H D I q
  · rintro D s H ⟨F, al, r, M, E, er, hr, hm, a1, a2, a3, a4⟩
    have back : ∀ {P : RH → MH → Prop} {Q : L2.St → Hp → Prop}, Aft X.K W F al H M P Q → ∀ {W'}, Aft X.K W' F al H M (fun r2 M2 => P { r with sl := r2.sl } M2) Q :=
      fun {P Q} h {W'} s' H' F' al' r' M' st er' hp => h s' H' F' al' _ M' st (er.out hr st er'.es) hp
    unfold mTry at hm
    refine ⟨F, al, _, M, _, ?_, hr, hm, back a1, back a2, back a3, a4⟩
    refine ⟨er.es, fun C dx p w s' sl H' F' al' M' st es' xd hx => ?_, er.xd⟩
    obtain ⟨b, e1, h1, h2⟩ := hx
    refine ⟨b, e1, fun hb a ha => ?_, fun hb => er.xe C dx p w s' sl H' F' al' M' st es' xd (h2 hb)⟩
    obtain ⟨dd, _, _, rfl, _⟩ := id xd
    have fin : ∀ {P : RH → MH → Prop} {Q : L2.St → Hp → Prop}, Aft X.K W F al H M P Q → Aft X.K wF F' al' H' M' (fun r2 M2 => P { r with sl := r2.sl.set i none } M2) (fun σ' H' => Q (σ'.set i none) H') :=
      fun {P Q} h s2 H2 F2 al2 r2 M2 st2 er2 hp => h _ H2 F2 al2 _ M2 (st.trans hr st2) (er.out hr (st.trans hr st2) er2.es.unset) hp
    refine ⟨C, rfl, (h1 hb).1, F', al', { sl := sl.set i (some (.cls a)), ex := fun _ _ _ _ _ => False, xd := some (dd, p, w) }, M', _, ⟨es'.set (i := i) (d := .cls a) rfl, fun _ _ _ _ _ _ _ _ _ _ _ _ _ z => False.elim z, fun d p' w' z => ?_⟩, st.hr, (h1 hb).2 a dd, fin a1, fin a2, fin a3, fun v H2 F2 al2 d M2 st2 rv q => a4 v H2 F2 al2 d M2 (st.trans hr st2) rv q⟩
    cases z
    exact xd
end
/-- e.place, e.word of the one that was caught -/
def dXf (f : Str) (a : Addr) (C : Addr) (d : Option Addr) (me : DE) : DE := fun r M R => me r M fun v M1 => v = .cls a ∧ ∃ dd p w, d = some dd ∧ r.xd = some (dd, p, w) ∧ ((f = "place" ∧ R p M1) ∨ (f = "word" ∧ R (.str w) M1))
theorem me_xf {X : Cx} {a C : Addr} {oe : Obj} {d : Option Addr} {pn : List (Addr × Obj)} {e : Expr} {me : DE} {pos : Pos} {n : Str} (T : XfC X.K C) (hno : PySem.W.findIn X.K (.ref C) n = some none)
    (hz : Zc (.ref C) d oe) (hf : ∃ vs, oe.data = .fields vs) (he : ME (X.suite a ((a, oe) :: pn)) wF e me) (hb : attributeBase e n X.env (eval e X.env) = eval e X.env := by rfl) :
    ME (X.suite a ((a, oe) :: pn)) wF (.Attribute e n pos) (dXf n a C d me) := by
  refine PE.imp (pe_xf T hno hz hf he hb) ?_
  rintro s H Q ⟨F, al, r, M, R, er, hr, hm, k⟩
  refine ⟨F, al, r, M, _, er, hr, hm, fun v H1 F1 al1 dv M1 s1 r1 hm1 => ?_⟩
  obtain ⟨rfl, dd, p, w, rfl, e1, q⟩ := hm1
  obtain ⟨d2, fs, u, z1, z2, z3, z4, z5⟩ := (er.step hr s1).xd _ _ _ e1
  cases z1
  refine ⟨r1, rfl, dd, fs, ?_⟩
  rcases q with ⟨rfl, q⟩ | ⟨rfl, q⟩
  · exact ⟨u, rfl, z2, z3, k u H1 F1 al1 p M1 s1 z4 q⟩
  · exact ⟨.str w, rfl, z2, z5, k (.str w) H1 F1 al1 (.str w) M1 s1 rfl q⟩

/-! ### a def by its body -/
def endP (fr : Bool) (R : D → Prop) : DK := fun d M => match fr, d with
  | true, .loc k => (match M[k]? with
    | some (.lst ds) => plainA ds = true ∧ R (.lst ds)
    | _ => False)
  | true, _ => False
  | false, .loc k => (match M[k]? with
    | some (.lst ds) => plainA ds = true ∧ R (.lst ds)
    | some (.frz ds) => plainA ds = true ∧ R (.lst ds)
    | _ => False)
  | false, d => D.plain d = true ∧ R d
theorem endP_pl {R : D → Prop} {d : D} {M : MH} (h : ∀ k, d ≠ .loc k) (e : endP false R d M) : D.plain d = true ∧ R d := by
  cases d <;> first
    | exact e
    | exact absurd rfl (h _)
def slP (n N : Nat) (ds : List D) : SL := ds.map some ++ List.replicate (N - n) none
/-- the body's wish -/
def specP (n N : Nat) (fr : Bool) (m : DS) (pf : PF) : Prop := ∀ ds R RE, ds.length = n → pf ds R RE → m { nx := fun _ M => endP fr R .non M, rt := endP fr R, bk := fun _ _ => False, ct := fun _ _ => False } { sl := slP n N ds, ex := fun _ C p w _ => D.plain p = true ∧ RE C p w } []
section
variable {P : Program} {w : World} {K : PySem.W.Frag} {mg : Str → Option Value} {base : Heap} {k : Nat} {f : Addr} {fd : FuncData} {x q : Str} {pa : Arguments} {bd : List Stmt} {sc : Scope} {dvs : List V} {kws : List (Str × V)} {N ps : List Str} {pf : PF} {fr : Bool} {m : DS}
theorem es_start {F : Hp} {ds : List D} {vs : List V} (r : RelA K F [] ds vs) : ES K F [] (start N vs) (slP ds.length N.length ds) := by
  refine ⟨by simp [L2.start, slP, r.length], fun i d z => ?_⟩
  unfold slP at z
  by_cases hi : i < ds.length
  · rw [List.getElem?_append_left (by simpa using hi), List.getElem?_map] at z
    cases e : ds[i]? with
    | none => rw [e] at z; cases z
    | some d' =>
      rw [e] at z
      cases z
      obtain ⟨v, e2, rv⟩ := r.get e
      refine ⟨v, ?_, rv⟩
      unfold L2.start
      rw [List.getElem?_append_left (by rw [List.length_map, r.length]; exact hi), List.getElem?_map, e2]
      rfl
  · rw [List.getElem?_append_right (by simpa using Nat.le_of_not_lt hi), List.getElem?_replicate] at z
    split at z <;> cases z
theorem end_go {F0 F' H0 H' : Hp} {al' : List Addr} {M' : MH} {d : D} {v : V} {R : D → Prop} {Q : VK} (h0 : HR K F0 [] H0 []) (st : Stp K F0 [] H0 [] F' al' H' M') (r : Rel K F' al' d v) (e : endP fr R d M')
    (out : ∀ d v F' H', StpP F0 H0 F' H' → ResP K fr H0 F' H' d v → R d → Q v H') : Q v H' := by
  have key : ∀ d, D.plain d = true → R d → Rel K F' al' d v → fr = false → Q v H' := fun d p q r e => by
    subst e
    exact out d v F' H' st.toP (Rel.plain p r) q
  cases d with
  | loc k =>
    obtain ⟨a, ea, rfl⟩ := r
    have hfresh : H0 a = none := st.new k a ea (Nat.zero_le _)
    cases fr with
    | true =>
      unfold endP at e
      dsimp only at e
      split at e
      · rename_i ds em
        obtain ⟨fa, xs, ha, ra⟩ := st.hr.mem k a _ ea em
        exact out (.lst ds) (.ref a) F' H' st.toP ⟨a, xs, ds, rfl, rfl, hfresh, fa, ha, RelA.plain e.1 ra⟩ e.2
      · exact e.elim
    | false =>
      unfold endP at e
      dsimp only at e
      split at e
      · rename_i ds em
        obtain ⟨fa, xs, ha, ra⟩ := st.hr.mem k a _ ea em
        have st2 := st.trans h0 (stp_frz st.hr ea em fa ha ra)
        exact out (.lst ds) (.ref a) _ H' st2.toP ⟨a, xs, rfl, upd_same, RelA.mono (Evl.Ex.new fa) (Pre.refl _) (RelA.plain e.1 ra)⟩ e.2
      · rename_i ds em
        obtain ⟨xs, ha, ra⟩ := st.hr.mem k a _ ea em
        exact out (.lst ds) (.ref a) F' H' st.toP ⟨a, xs, rfl, ha, RelA.plain e.1 ra⟩ e.2
      · exact e.elim
  | _ =>
    cases fr with
    | true => exact e.elim
    | false => exact key _ e.1 e.2 r rfl
theorem fnP_of (Dd : FunD K x q pa bd sc dvs kws f fd) (S : FnScope N ps sc) (n : Nat) (hn : ps.length = n) (pf : PF) (fr : Bool)
    (hb : ∀ (cdv : Value) (A : Around) (outer : List Env) (s : Shared) (H : Hp) (E : XK), RoomG k (A.deeper (envOfC q sc s.heap.objs.size f cdv)) → MSs (cxOf (L2.CX P w) P w K mg base N q sc f cdv A outer s H E) (fun cls d _ H => E cls d H) bd m)
    (hm : specP n N.length fr m pf) : FnG P w K mg base (k + 1) f fd ps (spP K n fr pf) := by
  refine fnG_of Dd S (fun vs H Q E h => ?_) (fun cdv A outer s H vs Q E room h => ?_)
  · obtain ⟨F, ds, R, RE, hl, _, r, _⟩ := h
    rw [r.length, hl, hn]
  · refine ⟨_, hb cdv A outer s H E room, ?_⟩
    obtain ⟨F, ds, R, RE, hl, ex, r, hp, out, outx⟩ := h
    have h0 : HR K F [] H [] := ⟨ex, rfl, fun k a e => by simp at e, fun k j a e => by simp at e, fun k a o e => by simp at e⟩
    refine ⟨F, [], _, [], _, ?_, h0, hm ds R RE hl hp, ?_, ?_, ?_, ?_⟩
    · refine ⟨by rw [← hl]; exact es_start r, fun C dx p w s' sl H' F' al' M' st _ xd z => ?_, fun d p w z => by cases z⟩
      obtain ⟨d, fs, v, z1, z2, z3, z4, z5⟩ := xd
      exact outx C dx p w F' H' st.toP ⟨d, fs, v, z1, z2, z3, Rel.plain z.1 z4, z5⟩ z.2
    · exact fun s' H' F' al' r' M' st er z => end_go (d := .non) h0 st rfl z out
    · exact fun _ _ _ _ _ _ _ _ z => z.elim
    · exact fun _ _ _ _ _ _ _ _ z => z.elim
    · exact fun v H' F' al' d M' st rv z => end_go h0 st rv z out
end
end DL

set_option Elab.async false
set_option linter.all false
set_option maxRecDepth 100000
set_option maxHeartbeats 2000000
namespace DL
open PySem PySem.Spec L2
open Evl (Ex)
open PyProof.Rows (envOfC)

/-! ### a def that changes its first argument, by its body -/
def endI (R : D → List D → Prop) : DK := fun d (M : List MO) => match M[(0 : Nat)]? with
  | some (.lst dk) => D.plain d = true ∧ plainA dk = true ∧ R d dk
  | _ => False
def specI (n N : Nat) (m : DS) (pf : IF) : Prop := ∀ dk ds R, ds.length + 1 = n → plainA dk = true → pf dk ds R → m { nx := fun _ M => endI R .non M, rt := endI R, bk := fun _ _ => False, ct := fun _ _ => False } { sl := slP n N (.loc 0 :: ds), ex := fun _ _ _ _ _ => False } [.lst dk]
section
variable {P : Program} {w : World} {K : PySem.W.Frag} {mg : Str → Option Value} {base : Heap} {k : Nat} {f : Addr} {fd : FuncData} {x q : Str} {pa : Arguments} {bd : List Stmt} {sc : Scope} {dvs : List V} {kws : List (Str × V)} {N ps : List Str} {pf : IF} {m : DS}
theorem es_startA {F : Hp} {al : List Addr} {ds : List D} {vs : List V} (r : RelA K F al ds vs) : ES K F al (L2.start N vs) (slP ds.length N.length ds) := by
  refine ⟨by simp [L2.start, slP, r.length], fun i d z => ?_⟩
  unfold slP at z
  by_cases hi : i < ds.length
  · rw [List.getElem?_append_left (by simpa using hi), List.getElem?_map] at z
    cases e : ds[i]? with
    | none => rw [e] at z; cases z
    | some d' =>
      rw [e] at z
      cases z
      obtain ⟨v, e2, rv⟩ := r.get e
      refine ⟨v, ?_, rv⟩
      unfold L2.start
      rw [List.getElem?_append_left (by rw [List.length_map, r.length]; exact hi), List.getElem?_map, e2]
      rfl
  · rw [List.getElem?_append_right (by simpa using Nat.le_of_not_lt hi), List.getElem?_replicate] at z
    split at z <;> cases z
theorem endI_go {F0 F' H0 H' : Hp} {al' : List Addr} {M' : MH} {d : D} {v : V} {R : D → List D → Prop} {Q : VK} {a : Addr} {dk : List D} (st : Stp K F0 [a] H0 [.lst dk] F' al' H' M') (r : Rel K F' al' d v) (e : endI R d M')
    (out : ∀ d dk' v xs' F' H', Ex F0 F' → Ex F' H' → (∀ b o, b ≠ a → H0 b = some o → H' b = some o) → (∀ b, F0 b = none → F' b = none ∨ H0 b = none) → F' a = none → H' a = some (.lst xs') → RelA K F' [] dk' xs' → ResP K false H0 F' H' d v → R d dk' → Q v H') : Q v H' := by
  unfold endI at e
  split at e
  · rename_i dk' em
    have ea : al'[0]? = some a := st.pre 0 a rfl
    obtain ⟨fa, xs, ha, ra⟩ := st.hr.mem 0 a _ ea em
    refine out d dk' v xs F' H' st.ex st.hr.ext (fun b o hb z => st.fr b o z fun k z2 _ => ?_) (fun b z => ?_) fa ha (RelA.plain e.2.1 ra) (show Rel K F' [] d v from Rel.plain e.1 r) e.2.2
    · cases k with
      | zero => exact hb (Option.some.inj z2).symm
      | succ k => cases z2
    · rcases st.fzn b z with y | y | ⟨k, z2, _⟩
      · exact .inl y
      · exact .inr y
      · cases k with
        | zero =>
          have : a = b := Option.some.inj z2
          exact .inl (this ▸ fa)
        | succ k => cases z2
  · exact e.elim
theorem fnI_of (Dd : FunD K x q pa bd sc dvs kws f fd) (S : FnScope N ps sc) (n : Nat) (hn : ps.length = n) (pf : IF)
    (hb : ∀ (cdv : Value) (A : Around) (outer : List Env) (s : Shared) (H : Hp) (E : XK), RoomG k (A.deeper (envOfC q sc s.heap.objs.size f cdv)) → MSs (cxOf (L2.CX P w) P w K mg base N q sc f cdv A outer s H E) wF bd m)
    (hm : specI n N.length m pf) : FnG P w K mg base (k + 1) f fd ps (spI K n false pf) := by
  refine fnG_of Dd S (fun vs H Q E h => ?_) (fun cdv A outer s H vs Q E room h => ?_)
  · obtain ⟨F, ds, dk, a, xs, us, R, hl, _, rfl, _, _, _, r, _⟩ := h
    rw [List.length_cons, r.length, hl, hn]
  · refine ⟨_, hb cdv A outer s H E room, ?_⟩
    obtain ⟨F, ds, dk, a, xs, us, R, hl, ex, rfl, fa, ha, rk, r, hp, out⟩ := h
    have sub : ∀ {k : Nat} {b : Addr}, [a][k]? = some b → k = 0 ∧ b = a := fun {k b} e => by
      cases k with
      | zero => exact ⟨rfl, (Option.some.inj e).symm⟩
      | succ k => cases e
    have h0 : HR K F [a] H [.lst dk] := by
      refine ⟨ex, rfl, fun k b e => ?_, fun k j b e1 e2 _ => ?_, fun k b o e1 e2 => ?_⟩
      · rw [(sub e).2, ha]; simp
      · rw [(sub e1).1, (sub e2).1]
      · obtain ⟨rfl, rfl⟩ := sub e1
        cases e2
        exact ⟨fa, xs, ha, rk.mono (fun _ _ z => z) fun k x e => by simp at e⟩
    have pl : plainA dk = true := RelA.nolocs rk
    have ra : RelA K F [a] (.loc 0 :: ds) (.ref a :: us) := ⟨.ref a, us, rfl, ⟨a, rfl, rfl⟩, r.mono (fun _ _ z => z) fun k x e => by simp at e⟩
    refine ⟨F, [a], _, [.lst dk], _, ?_, h0, hm dk ds R hl pl hp, ?_, ?_, ?_, ?_⟩
    · refine ⟨by rw [← hl]; exact es_startA ra, fun C dx p w s' sl H' F' al' M' st _ xd z => z.elim, fun d p w z => by cases z⟩
    · exact fun s' H' F' al' r' M' st er z => endI_go (d := .non) st rfl z out
    · exact fun _ _ _ _ _ _ _ _ z => z.elim
    · exact fun _ _ _ _ _ _ _ _ z => z.elim
    · exact fun v H' F' al' d M' st rv z => endI_go st rv z out
end
end DL

set_option Elab.async false
set_option linter.all false
set_option maxRecDepth 100000
set_option maxHeartbeats 2000000
namespace DL
open PySem PySem.Spec L2
open Evl (Ex)

/-! ### what is walked -/
abbrev DI := RH → MH → (List D → List Nat → MH → Prop) → Prop
/-- the places of the store that are walked stand as they stood -/
def SrcOk (src : List Nat) (M M2 : MH) : Prop := ∀ k ∈ src, M2[k]? = M[k]?
structure OkIt (K : PySem.W.Frag) (F : Hp) (al : List Addr) (H : Hp) (M : MH) (J : It) (items : List D) (src : List Nat) : Prop where
  go : ∀ i F2 al2 H2 M2, Stp K F al H M F2 al2 H2 M2 → SrcOk src M M2 → i < items.length → J.go i H2
  stop : ∀ F2 al2 H2 M2, Stp K F al H M F2 al2 H2 M2 → SrcOk src M M2 → J.stop items.length H2
  yld : ∀ i d F2 al2 H2 M2 x H3, Stp K F al H M F2 al2 H2 M2 → SrcOk src M M2 → items[i]? = some d → J.yld i H2 x H3 → ∃ F3, Stp K F2 al2 H2 M2 F3 al2 H3 M2 ∧ Rel K F3 al2 d x
def lI (K : PySem.W.Frag) (W : WX) (mi : DI) : TI := fun s H R => ∃ F al r M, ∃ RI : List D → List Nat → MH → Prop, ER K W F al H M s r ∧ HR K F al H M ∧ mi r M RI ∧
  ∀ J H' F' al' items src M', Stp K F al H M F' al' H' M' → OkIt K F' al' H' M' J items src → RI items src M' → R J H'
def MI (X : Cx) (W : WX) (tg iter : Expr) (mi : DI) : Prop := PI X tg iter (lI X.K W mi)
theorem PI.imp {X : Cx} {tg iter : Expr} {t t' : TI} (h : PI X tg iter t) (i : ∀ s H R, t' s H R → t s H R) : PI X tg iter t' := ⟨fun pins s σ H R I q => h.run pins s σ H R I (i _ _ _ q)⟩

/-- a list or a tuple -/
def iSeq (K : PySem.W.Frag) (tl : TE) : TI := fun σ H R => tl σ H fun x H1 => ∃ a, x = .ref a ∧ (((∃ xs, SqL K H1 a xs) ∧ R (Itl K a) H1) ∨ ((∃ xs, SqT K H1 a xs) ∧ R (Itt K a) H1))
section
variable {X : Cx} {W : WX} {tg e : Expr}
theorem iter_l {pins : List (Addr × Obj)} {σ : L2.St} {H1 : Hp} {s1 : Shared} {R : It → Hp → Prop} {a : Addr} {u : Value} (I1 : Inv X pins σ H1 s1) (r1 : RelV (.ref a) u) (hq : ∃ xs, SqL X.K H1 a xs) (q : R (Itl X.K a) H1) :
    wpAny (model X.prog X.w) X.A (pyIter u) (PIE X pins σ tg R) X.xe s1 := by
  obtain ⟨xs, hq⟩ := hq
  obtain ⟨its, _, p, _⟩ := I1.list hq
  cases r1
  have J := I1.kept (t' := s1.toks) (h' := s1.heap.push { cls := .type "list_iterator", data := .fields #[.ref a, .int 0 0] }) fun b o e => Heap.get?_push_of_some _ e
  refine wpAny_pyIter_list p.isList ⟨s1.heap.objs.size, [s1.heap.objs.size], _, _, H1, rfl, J, turn_list a _, ⟨_, Heap.get?_push_size _ rfl, rfl, rfl⟩, fun b hb => ?_, q⟩
  rw [List.mem_singleton.mp hb]
  exact I1.fpOk (Nat.le_refl _) (I1.hok.fresh (Nat.le_refl _))
theorem iter_t {pins : List (Addr × Obj)} {σ : L2.St} {H1 : Hp} {s1 : Shared} {R : It → Hp → Prop} {a : Addr} {u : Value} (I1 : Inv X pins σ H1 s1) (r1 : RelV (.ref a) u) (hq : ∃ xs, SqT X.K H1 a xs) (q : R (Itt X.K a) H1) :
    wpAny (model X.prog X.w) X.A (pyIter u) (PIE X pins σ tg R) X.xe s1 := by
  obtain ⟨xs, hq⟩ := hq
  obtain ⟨its, _, p, _⟩ := I1.tuple hq
  cases r1
  have J := I1.kept (t' := s1.toks) (h' := s1.heap.push { cls := .type "tuple_iterator", data := .fields #[.ref a, .int 0 0] }) fun b o e => Heap.get?_push_of_some _ e
  refine wpAny_pyIter_tuple (show s1.heap.IsTuple a its.toArray from p) ⟨s1.heap.objs.size, [s1.heap.objs.size], _, _, H1, rfl, J, turn_tuple a _, ⟨_, Heap.get?_push_size _ rfl, rfl, rfl⟩, fun b hb => ?_, q⟩
  rw [List.mem_singleton.mp hb]
  exact I1.fpOk (Nat.le_refl _) (I1.hok.fresh (Nat.le_refl _))
theorem pi_both {l : Expr} {tl : TE} (hl : PE X l tl) : PI X tg l (iSeq X.K tl) := by
  constructor
  intro pins s σ H R I h
  apply thn (hl.run pins s σ H _ I h)
  rintro v s1 ⟨x, H1, I1, r1, a, rfl, hq | hq⟩
  · exact iter_l I1 r1 hq.1 hq.2
  · exact iter_t I1 r1 hq.1 hq.2
end

/-! ### walks over data -/
def dSeq (me : DE) : DI := fun r M R => me r M fun d M1 => match d with
  | .tup ds => R ds [] M1
  | .lst ds => R ds [] M1
  | .scr ds => R ds [] M1
  | .loc k => (match M1[k]? with
    | some (.lst ds) => R ds [k] M1
    | some (.frz ds) => R ds [] M1
    | _ => False)
  | _ => False
theorem okit_l {K : PySem.W.Frag} {F : Hp} {al : List Addr} {H : Hp} {M : MH} {a : Addr} {ds : List D} {src : List Nat} (h : ∀ F2 al2 H2 M2, Stp K F al H M F2 al2 H2 M2 → SrcOk src M M2 → ∃ xs, SqL K H2 a xs ∧ RelA K F2 al2 ds xs) : OkIt K F al H M (Itl K a) ds src := by
  refine ⟨fun i F2 al2 H2 M2 st so hi => ?_, fun F2 al2 H2 M2 st so => ?_, fun i d F2 al2 H2 M2 x H3 st so hd y => ?_⟩
  · obtain ⟨xs, q, r⟩ := h F2 al2 H2 M2 st so
    have hl := r.length
    exact ⟨xs, xs[i], q, by simp [hl, hi]⟩
  · obtain ⟨xs, q, r⟩ := h F2 al2 H2 M2 st so
    exact ⟨xs, q, Nat.le_of_eq r.length⟩
  · obtain ⟨xs, q, r⟩ := h F2 al2 H2 M2 st so
    obtain ⟨rfl, y⟩ := y
    obtain ⟨v, e, rv⟩ := r.get hd
    have e2 := y xs q
    rw [e] at e2
    cases e2
    exact ⟨F2, Stp.refl st.hr, rv⟩
theorem okit_t {K : PySem.W.Frag} {F : Hp} {al : List Addr} {H : Hp} {M : MH} {a : Addr} {ds : List D} {xs : List V} (q0 : SqT K F a xs) (r0 : RelA K F al ds xs) : OkIt K F al H M (Itt K a) ds [] := by
  have h : ∀ F2 al2 H2 M2, Stp K F al H M F2 al2 H2 M2 → SqT K H2 a xs ∧ RelA K F2 al2 ds xs := fun F2 al2 H2 M2 st => ⟨Evl.ex_t (st.ex.trans st.hr.ext) q0, r0.mono st.ex st.pre⟩
  refine ⟨fun i F2 al2 H2 M2 st so hi => ?_, fun F2 al2 H2 M2 st so => ?_, fun i d F2 al2 H2 M2 x H3 st so hd y => ?_⟩
  · obtain ⟨q, r⟩ := h F2 al2 H2 M2 st
    have hl := r.length
    exact ⟨xs, xs[i], q, by simp [hl, hi]⟩
  · obtain ⟨q, r⟩ := h F2 al2 H2 M2 st
    exact ⟨xs, q, Nat.le_of_eq r.length⟩
  · obtain ⟨q, r⟩ := h F2 al2 H2 M2 st
    obtain ⟨rfl, y⟩ := y
    obtain ⟨v, e, rv⟩ := r.get hd
    have e2 := y xs q
    rw [e] at e2
    cases e2
    exact ⟨F2, Stp.refl st.hr, rv⟩
section
variable {X : Cx} {W : WX} {tg e : Expr} {es : List Expr} {me : DE} {mas : DA}
theorem mi_seq (he : ME X W e me) : MI X W tg e (dSeq me) := by
  refine PI.imp (pi_both he) ?_
  rintro s H R ⟨F, al, r, M, RI, er, hr, hm, k⟩
  refine ⟨F, al, r, M, _, er, hr, hm, fun v H1 F1 al1 d M1 s1 r1 hm1 => ?_⟩
  have key : ∀ {ds : List D} {a : Addr} {xs : List V}, SqL X.K F1 a xs → RelA X.K F1 al1 ds xs → RI ds [] M1 → (∃ xs, SqL X.K H1 a xs) ∧ R (Itl X.K a) H1 := fun {ds a xs} q ra hR =>
    ⟨⟨xs, Evl.ex_l s1.hr.ext q⟩, k _ H1 F1 al1 ds [] M1 s1 (okit_l fun F2 al2 H2 M2 st _ => ⟨xs, Evl.ex_l (st.ex.trans st.hr.ext) q, ra.mono st.ex st.pre⟩) hR⟩
  cases d with
  | tup ds =>
    obtain ⟨a, xs, rfl, q, ra⟩ := r1
    exact ⟨a, rfl, .inr ⟨⟨xs, Evl.ex_t s1.hr.ext q⟩, k _ H1 F1 al1 ds [] M1 s1 (okit_t q ra) hm1⟩⟩
  | lst ds =>
    obtain ⟨a, xs, rfl, q, ra⟩ := r1
    exact ⟨a, rfl, .inl (key (.of q) ra hm1)⟩
  | scr ds =>
    obtain ⟨a, xs, rfl, q, ra⟩ := r1
    exact ⟨a, rfl, .inl (key q ra hm1)⟩
  | loc j =>
    obtain ⟨a, ea, rfl⟩ := r1
    dsimp only at hm1
    split at hm1
    · rename_i ds em
      obtain ⟨fa, xs, ha, ra⟩ := s1.hr.mem j a _ ea em
      refine ⟨a, rfl, .inl ⟨⟨xs, .of ha⟩, k _ H1 F1 al1 ds [j] M1 s1 (okit_l fun F2 al2 H2 M2 st so => ?_) hm1⟩⟩
      have em2 := (so j (List.mem_singleton.mpr rfl)).trans em
      obtain ⟨_, xs2, ha2, ra2⟩ := st.hr.mem j a _ (st.pre j a ea) em2
      exact ⟨xs2, .of ha2, ra2⟩
    · rename_i ds em
      obtain ⟨xs, ha, ra⟩ := s1.hr.mem j a _ ea em
      exact ⟨a, rfl, .inl (key (.of ha) ra hm1)⟩
    · exact hm1.elim
  | _ => exact hm1.elim
/-- lo, lo + 1, .. (n of them) -/
def rng (lo : Int) (n : Nat) : List D := (List.range n).map fun (i : Nat) => .int (lo + (i : Int))
theorem rng_len {lo : Int} {n : Nat} : (rng lo n).length = n := by simp [rng]
theorem okit_r {K : PySem.W.Frag} {F : Hp} {al : List Addr} {H : Hp} {M : MH} {lo : Int} {n : Nat} : OkIt K F al H M (Itr lo n) (rng lo n) [] := by
  refine ⟨fun i F2 al2 H2 M2 st so hi => by rw [rng_len] at hi; exact hi, fun F2 al2 H2 M2 st so => by rw [rng_len]; exact Nat.le_refl _, fun i d F2 al2 H2 M2 x H3 st so hd y => ?_⟩
  obtain ⟨rfl, rfl⟩ := y
  refine ⟨F2, Stp.refl st.hr, ?_⟩
  unfold rng at hd
  rw [List.getElem?_map] at hd
  obtain ⟨j, hj, rfl⟩ := Option.map_eq_some_iff.mp hd
  have := List.getElem?_eq_some_iff.mp hj
  obtain ⟨h1, h2⟩ := this
  rw [List.getElem_range] at h2
  subst h2
  rfl
def dRng1 (mas : DA) : DI := fun r M R => mas r M fun ds M1 => match ds with
  | [.int j] => (-(2 ^ 62) ≤ j ∧ j < 2 ^ 62) ∧ R (rng 0 j.toNat) [] M1
  | _ => False
def dRng2 (mas : DA) : DI := fun r M R => mas r M fun ds M1 => match ds with
  | [.int i, .int j] => (-(2 ^ 62) ≤ i ∧ i < 2 ^ 62 ∧ -(2 ^ 62) ≤ j ∧ j < 2 ^ 62) ∧ R (rng i (j - i).toNat) [] M1
  | _ => False
theorem mi_rng1 {a : Expr} {p pos : Pos} (hm : X.mg "range" = none) (ha : MA X W [a] mas) (hg : Gl X "range" := by rfl) (hs : starEach [a] X.env = [(false, eval a X.env)] := by rfl) : MI X W tg (.Call (.Name "range" p) [a] [] pos) (dRng1 mas) := by
  refine PI.imp (pi_range1 hg hm ha hs) ?_
  rintro s H R ⟨F, al, r, M, RI, er, hr, hm, k⟩
  refine ⟨F, al, r, M, _, er, hr, hm, fun vs H1 F1 al1 ds M1 s1 r1 hm1 => ?_⟩
  split at hm1
  · rename_i j
    obtain ⟨y, ys, rfl, rfl, rfl⟩ := r1
    exact ⟨j, rfl, hm1.1.1, hm1.1.2, k _ H1 F1 al1 _ [] M1 s1 okit_r hm1.2⟩
  · exact hm1.elim
theorem mi_rng2 {a b : Expr} {p pos : Pos} (hm : X.mg "range" = none) (ha : MA X W [a, b] mas) (hg : Gl X "range" := by rfl) (hs : starEach [a, b] X.env = [(false, eval a X.env), (false, eval b X.env)] := by rfl) (hs2 : starEach [b] X.env = [(false, eval b X.env)] := by rfl) : MI X W tg (.Call (.Name "range" p) [a, b] [] pos) (dRng2 mas) := by
  refine PI.imp (pi_range2 hg hm ha hs hs2) ?_
  rintro s H R ⟨F, al, r, M, RI, er, hr, hm, k⟩
  refine ⟨F, al, r, M, _, er, hr, hm, fun vs H1 F1 al1 ds M1 s1 r1 hm1 => ?_⟩
  split at hm1
  · rename_i i j
    obtain ⟨y, ys, rfl, rfl, z, zs, rfl, rfl, rfl⟩ := r1
    exact ⟨i, j, rfl, hm1.1, k _ H1 F1 al1 _ [] M1 s1 okit_r hm1.2⟩
  · exact hm1.elim
end
end DL

set_option Elab.async false
set_option linter.all false
set_option maxRecDepth 100000
set_option maxHeartbeats 2000000
namespace DL
open PySem PySem.Spec L2
open Evl (Ex)

/-! ### enumerate, zip -/
def enumD : Nat → List D → List D
  | _, [] => []
  | i, d :: ds => .tup [.int i, d] :: enumD (i + 1) ds
theorem enumD_len : ∀ {i : Nat} {ds : List D}, (enumD i ds).length = ds.length
  | _, [] => rfl
  | i, _ :: ds => by simp [enumD, enumD_len (i := i + 1) (ds := ds)]
theorem enumD_get : ∀ {ds : List D} {k i : Nat} {d : D}, (enumD k ds)[i]? = some d → ∃ e, ds[i]? = some e ∧ d = .tup [.int (k + i : Nat), e]
  | e :: _, k, 0, d, h => ⟨e, rfl, by simp [enumD] at h; simp [h]⟩
  | _ :: ds, k, i + 1, d, h => by
    obtain ⟨e, h1, h2⟩ := enumD_get (ds := ds) (k := k + 1) (i := i) (by simpa [enumD] using h)
    exact ⟨e, by simpa using h1, by rw [h2, Nat.add_assoc, Nat.add_comm 1 i]⟩
  | [], _, _, _, h => by simp [enumD] at h
def zipD (ds es : List D) : List D := List.zipWith (fun a b => .tup [a, b]) ds es
theorem zipD_get {ds es : List D} {i : Nat} {d : D} (h : (zipD ds es)[i]? = some d) : ∃ a b, ds[i]? = some a ∧ es[i]? = some b ∧ d = .tup [a, b] := by
  unfold zipD at h
  rw [List.getElem?_zipWith] at h
  split at h
  · rename_i a b e1 e2
    cases h
    exact ⟨a, b, e1, e2, rfl⟩
  · cases h
/-- a walked list: its items as they stand, and where it lives -/
def rdI (M : MH) : D → Option (List D × List Nat)
  | .lst ds => some (ds, [])
  | .scr ds => some (ds, [])
  | .loc k => match M[k]? with
    | some (.lst ds) => some (ds, [k])
    | some (.frz ds) => some (ds, [])
    | _ => none
  | _ => none
theorem HR.rdI_ {K : PySem.W.Frag} {F : Hp} {al : List Addr} {H : Hp} {M : MH} {d : D} {v : V} {ds : List D} {src : List Nat} (h : HR K F al H M) (r : Rel K F al d v) (e : rdI M d = some (ds, src)) :
    ∃ a, v = .ref a ∧ ∀ F2 al2 H2 M2, Stp K F al H M F2 al2 H2 M2 → SrcOk src M M2 → ∃ xs, SqL K H2 a xs ∧ RelA K F2 al2 ds xs := by
  have key : ∀ {a : Addr} {xs : List V}, SqL K F a xs → RelA K F al ds xs → ∀ F2 al2 H2 M2, Stp K F al H M F2 al2 H2 M2 → SrcOk src M M2 → ∃ xs, SqL K H2 a xs ∧ RelA K F2 al2 ds xs :=
    fun {a xs} q ra F2 al2 H2 M2 st _ => ⟨xs, Evl.ex_l (st.ex.trans st.hr.ext) q, ra.mono st.ex st.pre⟩
  cases d with
  | lst es =>
    cases e
    obtain ⟨a, xs, rfl, q, ra⟩ := r
    exact ⟨a, rfl, key (.of q) ra⟩
  | scr es =>
    cases e
    obtain ⟨a, xs, rfl, q, ra⟩ := r
    exact ⟨a, rfl, key q ra⟩
  | loc j =>
    obtain ⟨a, ea, rfl⟩ := r
    unfold rdI at e
    dsimp only at e
    split at e
    · rename_i es em
      cases e
      refine ⟨a, rfl, fun F2 al2 H2 M2 st so => ?_⟩
      have em2 := (so j (List.mem_singleton.mpr rfl)).trans em
      obtain ⟨_, xs2, ha2, ra2⟩ := st.hr.mem j a _ (st.pre j a ea) em2
      exact ⟨xs2, .of ha2, ra2⟩
    · rename_i es em
      cases e
      obtain ⟨xs, ha, ra⟩ := h.mem j a _ ea em
      exact ⟨a, rfl, key (.of ha) ra⟩
    · cases e
  | _ => cases e
theorem srcR {src : List Nat} {M : MH} : SrcOk src M M := fun _ _ => rfl
/-- a new pair -/
theorem pair_new {K : PySem.W.Frag} {F : Hp} {al : List Addr} {H : Hp} {M : MH} {T : Addr} {x y : V} {d e : D} (h : HR K F al H M) (hT : H T = none) (rx : Rel K F al d x) (ry : Rel K F al e y) :
    Stp K F al H M (upd F T (.tup [x, y])) al (upd H T (.tup [x, y])) M ∧ Rel K (upd F T (.tup [x, y])) al (.tup [d, e]) (.ref T) := by
  have fT := Evl.fresh_back h.ext hT
  have ex : Ex F (upd F T (.tup [x, y])) := Evl.Ex.new fT
  exact ⟨h.newF hT, T, [x, y], rfl, Evl.st_of upd_same, x, [y], rfl, rx.mono ex (Pre.refl _), y, [], rfl, ry.mono ex (Pre.refl _), rfl⟩
section
variable {X : Cx} {W : WX} {tg e : Expr} {es : List Expr} {me : DE} {mas : DA}
def dEnum (mas : DA) : DI := fun r M R => mas r M fun ds M1 => match ds with
  | [d] => (match rdI M1 d with
    | some (ds, src) => R (enumD 0 ds) src M1
    | none => False)
  | _ => False
theorem okit_e {K : PySem.W.Frag} {F : Hp} {al : List Addr} {H : Hp} {M : MH} {a : Addr} {ds : List D} {src : List Nat} (h : ∀ F2 al2 H2 M2, Stp K F al H M F2 al2 H2 M2 → SrcOk src M M2 → ∃ xs, SqL K H2 a xs ∧ RelA K F2 al2 ds xs) : OkIt K F al H M (Ite K a) (enumD 0 ds) src := by
  refine ⟨fun i F2 al2 H2 M2 st so hi => ?_, fun F2 al2 H2 M2 st so => ?_, fun i d F2 al2 H2 M2 x H3 st so hd y => ?_⟩
  · obtain ⟨xs, q, r⟩ := h F2 al2 H2 M2 st so
    have hl := r.length
    rw [enumD_len] at hi
    exact ⟨xs, xs[i], q, by simp [hl, hi]⟩
  · obtain ⟨xs, q, r⟩ := h F2 al2 H2 M2 st so
    exact ⟨xs, q, by rw [enumD_len]; exact Nat.le_of_eq r.length⟩
  · obtain ⟨xs, q, r⟩ := h F2 al2 H2 M2 st so
    obtain ⟨T, z, rfl, hT, rfl, y⟩ := y
    obtain ⟨e, e1, rfl⟩ := enumD_get hd
    obtain ⟨v, e2, rv⟩ := r.get e1
    have e3 := y xs q
    rw [e2] at e3
    cases e3
    obtain ⟨s1, r1⟩ := pair_new (d := .int i) (x := .int i) st.hr hT rfl rv
    rw [Nat.zero_add]
    exact ⟨_, s1, r1⟩
theorem mi_enum {p pos tpos : Pos} {elts : List Expr} {kk : Nat} (hm : X.mg "enumerate" = none) (ha : MA X W [e] mas) (hg : Gl X "enumerate" := by rfl) (hs : starEach [e] X.env = [(false, eval e X.env)] := by rfl) :
    MI X W (.Tuple elts kk tpos) (.Call (.Name "enumerate" p) [e] [] pos) (dEnum mas) := by
  refine PI.imp (pi_enum hg hm ha hs) ?_
  rintro s H R ⟨F, al, r, M, RI, er, hr, hm, k⟩
  refine ⟨F, al, r, M, _, er, hr, hm, fun vs H1 F1 al1 ds M1 s1 r1 hm1 => ?_⟩
  split at hm1
  · rename_i d
    split at hm1
    · rename_i ds src er
      obtain ⟨y, ys, rfl, ry, rfl⟩ := r1
      obtain ⟨a, rfl, hz⟩ := s1.hr.rdI_ ry er
      obtain ⟨xs, q, ra⟩ := hz F1 al1 H1 M1 (Stp.refl s1.hr) srcR
      exact ⟨a, xs, rfl, q, k _ H1 F1 al1 _ src M1 s1 (okit_e hz) hm1⟩
    · exact hm1.elim
  · exact hm1.elim
def dZip (mas : DA) : DI := fun r M R => mas r M fun ds M1 => match ds with
  | [d, e] => (match rdI M1 d, rdI M1 e with
    | some (ds, s1), some (es, s2) => R (zipD ds es) (s1 ++ s2) M1
    | _, _ => (match d, e with
      | .tup ds, .tup es => R (zipD ds es) [] M1
      | _, _ => False))
  | _ => False
theorem zipD_len {ds es : List D} : (zipD ds es).length = min ds.length es.length := by simp [zipD]
theorem okit_z {K : PySem.W.Frag} {F : Hp} {al : List Addr} {H : Hp} {M : MH} {a b : Addr} {ds es : List D} {src : List Nat} (h : ∀ F2 al2 H2 M2, Stp K F al H M F2 al2 H2 M2 → SrcOk src M M2 → ∃ xs, SqL K H2 a xs ∧ RelA K F2 al2 ds xs)
    (g : ∀ F2 al2 H2 M2, Stp K F al H M F2 al2 H2 M2 → SrcOk src M M2 → ∃ xs, SqL K H2 b xs ∧ RelA K F2 al2 es xs) : OkIt K F al H M (Itz K a b) (zipD ds es) src := by
  refine ⟨fun i F2 al2 H2 M2 st so hi => ?_, fun F2 al2 H2 M2 st so => ?_, fun i d F2 al2 H2 M2 x H3 st so hd y => ?_⟩
  · obtain ⟨xs, q, r⟩ := h F2 al2 H2 M2 st so
    obtain ⟨ys, q2, r2⟩ := g F2 al2 H2 M2 st so
    have hl := r.length
    have hl2 := r2.length
    rw [zipD_len] at hi
    exact ⟨xs, ys, xs[i], ys[i], q, q2, by rw [List.getElem?_eq_getElem], by rw [List.getElem?_eq_getElem]⟩
  · obtain ⟨xs, q, r⟩ := h F2 al2 H2 M2 st so
    obtain ⟨ys, q2, r2⟩ := g F2 al2 H2 M2 st so
    have hl := r.length
    have hl2 := r2.length
    refine ⟨xs, ys, q, q2, ?_⟩
    rw [zipD_len]
    omega
  · obtain ⟨xs, q, r⟩ := h F2 al2 H2 M2 st so
    obtain ⟨ys, q2, r2⟩ := g F2 al2 H2 M2 st so
    obtain ⟨T, z, z2, rfl, hT, rfl, y, y2⟩ := y
    obtain ⟨d1, d2, e1, e2, rfl⟩ := zipD_get hd
    obtain ⟨v, e3, rv⟩ := r.get e1
    obtain ⟨v2, e4, rv2⟩ := r2.get e2
    have e5 := y xs q
    rw [e3] at e5; cases e5
    have e6 := y2 ys q2
    rw [e4] at e6; cases e6
    obtain ⟨s1, r1⟩ := pair_new st.hr hT rv rv2
    exact ⟨_, s1, r1⟩
theorem okit_zt {K : PySem.W.Frag} {F : Hp} {al : List Addr} {H : Hp} {M : MH} {a b : Addr} {ds es : List D} {xs ys : List V} (q0 : SqT K F a xs) (r0 : RelA K F al ds xs) (q1 : SqT K F b ys) (r1 : RelA K F al es ys) : OkIt K F al H M (RZ.ItzT K a b) (zipD ds es) [] := by
  have hl := r0.length
  have hl2 := r1.length
  have h : ∀ {F2 al2 H2 M2}, Stp K F al H M F2 al2 H2 M2 → SqT K H2 a xs ∧ SqT K H2 b ys ∧ RelA K F2 al2 ds xs ∧ RelA K F2 al2 es ys := fun {F2 al2 H2 M2} st => ⟨Evl.ex_t (st.ex.trans st.hr.ext) q0, Evl.ex_t (st.ex.trans st.hr.ext) q1, r0.mono st.ex st.pre, r1.mono st.ex st.pre⟩
  refine ⟨fun i F2 al2 H2 M2 st so hi => ?_, fun F2 al2 H2 M2 st so => ?_, fun i d F2 al2 H2 M2 x H3 st so hd y => ?_⟩
  · rw [zipD_len] at hi
    exact ⟨xs, ys, xs[i], ys[i], (h st).1, (h st).2.1, by rw [List.getElem?_eq_getElem], by rw [List.getElem?_eq_getElem]⟩
  · refine ⟨xs, ys, (h st).1, (h st).2.1, ?_⟩
    rw [zipD_len]
    omega
  · obtain ⟨T, z, z2, rfl, hT, rfl, y, y2⟩ := y
    obtain ⟨d1, d2, e1, e2, rfl⟩ := zipD_get hd
    obtain ⟨v, e3, rv⟩ := (h st).2.2.1.get e1
    obtain ⟨v2, e4, rv2⟩ := (h st).2.2.2.get e2
    have e5 := y xs (h st).1
    rw [e3] at e5; cases e5
    have e6 := y2 ys (h st).2.1
    rw [e4] at e6; cases e6
    obtain ⟨s1, r1⟩ := pair_new st.hr hT rv rv2
    exact ⟨_, s1, r1⟩
theorem SrcOk.l {s1 s2 : List Nat} {M M2 : MH} (h : SrcOk (s1 ++ s2) M M2) : SrcOk s1 M M2 := fun k hk => h k (List.mem_append_left _ hk)
theorem SrcOk.r {s1 s2 : List Nat} {M M2 : MH} (h : SrcOk (s1 ++ s2) M M2) : SrcOk s2 M M2 := fun k hk => h k (List.mem_append_right _ hk)
theorem mi_zip {e2 : Expr} {p pos tpos : Pos} {elts : List Expr} {kk : Nat} (hm : X.mg "zip" = none) (ha : MA X W [e, e2] mas) (hg : Gl X "zip" := by rfl) (hs : starEach [e, e2] X.env = (false, eval e X.env) :: starEach [e2] X.env := by rfl) (hpl : (backTo pos (starEach [e2] X.env)).any (·.1) = false := by rfl) :
    MI X W (.Tuple elts kk tpos) (.Call (.Name "zip" p) [e, e2] [] pos) (dZip mas) := by
  refine PI.imp (RZ.pi_zipA hg hm ha hs hpl) ?_
  rintro s H R ⟨F, al, r, M, RI, er, hr, hm, k⟩
  refine ⟨F, al, r, M, _, er, hr, hm, fun vs H1 F1 al1 ds M1 s1 r1 hm1 => ?_⟩
  split at hm1
  · rename_i d e
    obtain ⟨y, ys, rfl, ry, z, zs, rfl, rz, rfl⟩ := r1
    split at hm1
    · rename_i ds q1 es q2 e1 e2
      obtain ⟨a, rfl, hz⟩ := s1.hr.rdI_ ry e1
      obtain ⟨b, rfl, hz2⟩ := s1.hr.rdI_ rz e2
      obtain ⟨xs, sq, ra⟩ := hz F1 al1 H1 M1 (Stp.refl s1.hr) srcR
      obtain ⟨ys, sq2, ra2⟩ := hz2 F1 al1 H1 M1 (Stp.refl s1.hr) srcR
      exact ⟨a, b, xs, ys, rfl, .inl ⟨sq, sq2, k _ H1 F1 al1 _ _ M1 s1 (okit_z (fun F2 al2 H2 M2 st so => hz F2 al2 H2 M2 st so.l) (fun F2 al2 H2 M2 st so => hz2 F2 al2 H2 M2 st so.r)) hm1⟩⟩
    · split at hm1
      · obtain ⟨a, xs, rfl, q1, ra⟩ := ry
        obtain ⟨b, ys, rfl, q2, rb⟩ := rz
        exact ⟨a, b, xs, ys, rfl, .inr ⟨Evl.ex_t s1.hr.ext q1, Evl.ex_t s1.hr.ext q2, k _ H1 F1 al1 _ _ M1 s1 (okit_zt q1 ra q2 rb) hm1⟩⟩
      · exact hm1.elim
  · exact hm1.elim
end

/-! ### for -/
def forD (pt : Pat) (mb : DS) (E : DEnds) (src : List Nat) (M0 : MH) : List D → RH → MH → Prop
  | [], r, M => E.nx r M
  | d :: ds, r, M => match bindP pt d r.sl with
    | some sl => mb { E with nx := fun r' M' => SrcOk src M0 M' ∧ forD pt mb E src M0 ds r' M', ct := fun r' M' => SrcOk src M0 M' ∧ forD pt mb E src M0 ds r' M', bk := E.nx } { r with sl := sl } M
    | none => False
def mFor (mi : DI) (pt : Pat) (mb : DS) : DS := fun E r M => mi r M fun items src M1 => forD pt mb E src M1 items r M1
section
variable {X : Cx} {W : WX} {tg iter : Expr} {mi : DI} {pt : Pat} {body : List Stmt} {mb : DS} {pos : Pos}
theorem ms_for (hp : PassesOwn (model X.prog X.w) X.A X.env X.xe) (hc : X.calm = true) (hi : MI X W tg iter mi) (hg : MG X tg pt) (hb : MSs X W body mb) (hs : ∀ x, foldedSetIterable iter X.env x = pure x := by intro _; rfl) :
    MS X W (.For tg iter body [] pos) (mFor mi pt mb) := by
  refine PS.imp (ps_for hp hc hi hg hb hs) ?_
  rintro D s H0 ⟨F, al, r, M, E, er, hr, hm, a1, a2, a3, a4⟩
  refine ⟨F, al, r, M, _, er, hr, hm, fun J H1 F1 al1 items src M1 s1 ok hm1 => ?_⟩
  -- by the turn
  have w : Walk J items.length (fun H => ∃ F2 al2 M2, Stp X.K F1 al1 H1 M1 F2 al2 H M2 ∧ SrcOk src M1 M2) (fun i H x H' => J.yld i H x H') :=
    ⟨fun i H hi ⟨F2, al2, M2, st, so⟩ => ok.go i F2 al2 H M2 st so hi, fun H ⟨F2, al2, M2, st, so⟩ => ok.stop F2 al2 H M2 st so, fun _ _ _ _ _ _ y => y⟩
  refine for_it w (fun i σ H => ∃ F2 al2 r2 M2, ER X.K W F2 al2 H M2 σ r2 ∧ Stp X.K F1 al1 H1 M1 F2 al2 H M2 ∧ SrcOk src M1 M2 ∧ forD pt mb E src M1 (items.drop i) r2 M2) ⟨F1, al1, r, M1, er.step hr s1, Stp.refl s1.hr, srcR, by rw [List.drop_zero]; exact hm1⟩
    (fun i σ H _ ⟨F2, al2, r2, M2, _, st, so, _⟩ => ⟨F2, al2, M2, st, so⟩) ?_ ?_
  · rintro i x σ H H' hi ⟨F2, al2, r2, M2, er2, st, so, hf⟩ y
    have hd : items[i]? = some items[i] := List.getElem?_eq_getElem hi
    obtain ⟨F3, st3, rx⟩ := ok.yld i _ F2 al2 H M2 x H' st so hd y
    rw [List.drop_eq_getElem_cons hi] at hf
    unfold forD at hf
    split at hf
    · rename_i sl e1
      have er3 := er2.step st.hr st3
      refine ⟨F3, al2, M2, _, r2.sl, sl, er3.es, st3.hr, rx, e1, fun s' es' _ => ?_⟩
      have st4 := st.trans s1.hr st3
      have nxt : Aft X.K W F3 al2 H' M2 (fun r' M' => SrcOk src M1 M' ∧ forD pt mb E src M1 (items.drop (i + 1)) r' M') (fun σ H => ∃ F2 al2 r2 M2, ER X.K W F2 al2 H M2 σ r2 ∧ Stp X.K F1 al1 H1 M1 F2 al2 H M2 ∧ SrcOk src M1 M2 ∧ forD pt mb E src M1 (items.drop (i + 1)) r2 M2) :=
        fun s2 H5 F5 al5 r5 M5 st5 er5 hp => ⟨F5, al5, r5, M5, er5, st4.trans s1.hr st5, hp.1, hp.2⟩
      have st6 := s1.trans hr st4
      exact ⟨F3, al2, _, M2, _, er3.sl' es', st3.hr, hf, nxt, Aft.trans hr st6 a1, nxt, fun v H5 F5 al5 d M5 st5 rv q => a4 v H5 F5 al5 d M5 (st6.trans hr st5) rv q⟩
    · exact hf.elim
  · rintro σ H ⟨F2, al2, r2, M2, er2, st, so, hf⟩
    rw [List.drop_length] at hf
    exact a1 σ H F2 al2 r2 M2 (s1.trans hr st) er2 hf
end
end DL

set_option Elab.async false
set_option linter.all false
set_option maxRecDepth 100000
set_option maxHeartbeats 2000000
namespace DL
open PySem PySem.Spec L2
open Evl (Ex)

/-! ### a list that is being made beside the store -/
structure Apart (F : Hp) (al : List Addr) (H : Hp) (D : Addr) (xs : List V) : Prop where
  at_ : H D = some (.lst xs)
  out : ∀ k : Nat, al[k]? ≠ some D
  un : F D = none
section
variable {K : PySem.W.Frag} {F F2 F3 : Hp} {al al2 al3 : List Addr} {H H2 H3 : Hp} {M M2 M3 : MH} {p : Addr} {xs : List V} {ds : List D} {o : HO}
theorem Apart.step (a : Apart F al H p xs) (h : HR K F al H M) (st : Stp K F al H M F2 al2 H2 M2) : Apart F2 al2 H2 p xs := by
  refine ⟨st.fr p _ a.at_ fun k e => absurd e (a.out k), fun k e => ?_, ?_⟩
  · by_cases hk : k < M.length
    · have hk' : k < al.length := by rw [h.len]; exact hk
      have e1 : al[k]? = some al[k] := by simp [hk']
      have e2 := st.pre k _ e1
      rw [e] at e2
      exact a.out k (e1.trans e2.symm)
    · have := st.new k p e (by omega)
      rw [a.at_] at this
      cases this
  · rcases st.fzn p a.un with z | z | ⟨k, z, _⟩
    · exact z
    · rw [a.at_] at z; cases z
    · exact absurd z (a.out k)
theorem Stp.writeX (st : Stp K F al H M F2 al2 H2 M2) (hp : H p = none) (hout : ∀ k : Nat, al2[k]? ≠ some p) (un : F2 p = none) : Stp K F al H M F2 al2 (upd H2 p o) M2 := by
  have ne : ∀ {k : Nat} {b : Addr}, al2[k]? = some b → b ≠ p := fun {k b} e z => hout k (by rw [e, z])
  refine ⟨st.ex, st.pre, ⟨fun b u e => ?_, st.hr.len, fun k b e => ?_, st.hr.inj, fun k b u e1 e2 => ?_⟩, fun b u e n => ?_, st.old, st.new, st.le, st.fzn⟩
  · have hb : b ≠ p := fun z => by rw [z, un] at e; cases e
    rw [upd_ne hb]; exact st.hr.ext b u e
  · rw [upd_ne (ne e)]; exact st.hr.trk k b e
  · exact (st.hr.mem k b u e1 e2).mono (fun _ _ e => e) (Pre.refl _) (fun w _ q => by rw [upd_ne (ne e1)]; exact q) fun q => q
  · rw [upd_ne (ne_of_none e hp)]; exact st.fr b u e n
theorem Out.adopt {fz : Bool} {R : DK} {Q : VK} (k : Out K F al H M R Q) (h : HR K F al H M) (st : Stp K F al H M F2 al2 H2 M2) (hp : H p = none) (a : Apart F2 al2 H2 p xs) (ra : RelA K F2 al2 ds xs) (q : nw fz ds M2 R) : Q (.ref p) H2 := by
  have ne : ∀ (k : Nat) (b : Addr), al2[k]? = some b → b ≠ p := fun k b e z => a.out k (by rw [e, z])
  cases fz with
  | true =>
    have a2 : Stp K F al H M (upd F2 p (.lst xs)) al2 H2 M2 := by
      refine ⟨fun b o z => ?_, st.pre, ⟨fun b o z => ?_, st.hr.len, st.hr.trk, st.hr.inj, fun j b o z1 z2 => ?_⟩, st.fr, st.old, st.new, st.le, fun b z => ?_⟩
      · have hb : b ≠ p := fun w => by have := st.ex b o z; rw [w, a.un] at this; cases this
        rw [upd_ne hb]; exact st.ex b o z
      · by_cases hb : b = p
        · subst hb; rw [upd_same] at z; cases z; exact a.at_
        · rw [upd_ne hb] at z; exact st.hr.ext b o z
      · exact (st.hr.mem j b o z1 z2).mono (Evl.Ex.new a.un) (Pre.refl _) (fun _ _ q => q) fun q => by rw [upd_ne (ne j b z1)]; exact q
      · by_cases hb : b = p
        · subst hb; exact .inr (.inl hp)
        · rw [upd_ne hb]; exact st.fzn b z
    exact k _ _ _ _ (.lst ds) M2 a2 ⟨p, xs, rfl, upd_same, ra.mono (Evl.Ex.new a.un) (Pre.refl _)⟩ q
  | false =>
    have lm : ∀ k, k < M2.length → (M2 ++ [MO.lst ds])[k]? = M2[k]? := fun k hk => List.getElem?_append_left hk
    have hl := st.hr.len
    have hl0 := h.len
    have hle := st.le
    refine k _ _ F2 (al2 ++ [p]) (.loc M2.length) (M2 ++ [MO.lst ds]) ⟨st.ex, st.pre.trans (Pre.app _ _), ⟨st.hr.ext, by simp [hl], fun k b z => ?_, fun k j b z1 z2 l => ?_, fun k b o z1 z2 => ?_⟩, st.fr, fun k hk l => by rw [lm k (by omega)] at l; exact st.old k hk l, fun k b z l => ?_, by simp; omega, st.fzn⟩ ⟨p, ?_, rfl⟩ (show R (.loc M2.length) (M2 ++ [MO.lst ds]) from q)
    · rcases app_get z with ⟨z, _⟩ | ⟨_, z⟩
      · exact st.hr.trk k b z
      · subst z; rw [a.at_]; simp
    · rcases app_get z1 with ⟨z1, k1⟩ | ⟨k1, z1⟩
      · rcases app_get z2 with ⟨z2, k2⟩ | ⟨k2, z2⟩
        · rw [lm k (by omega)] at l
          exact st.hr.inj k j b z1 z2 l
        · subst z2; exact absurd rfl (ne k _ z1)
      · rcases app_get z2 with ⟨z2, k2⟩ | ⟨k2, z2⟩
        · subst z1; exact absurd rfl (ne j _ z2)
        · omega
    · rcases app_get z1 with ⟨z1, k1⟩ | ⟨k1, z1⟩
      · rw [lm k (by omega)] at z2
        exact (st.hr.mem k b o z1 z2).mono (fun _ _ e => e) (Pre.app _ _) (fun w _ q => q) fun q => q
      · subst z1
        rcases app_get z2 with ⟨z2, k2⟩ | ⟨k2, z2⟩
        · omega
        · subst z2
          exact ⟨a.un, xs, a.at_, ra.mono (fun _ _ e => e) (Pre.app _ _)⟩
    · rcases app_get z with ⟨z, k1⟩ | ⟨k1, z⟩
      · exact st.new k b z l
      · subst z; exact hp
    · have z : M2.length = al2.length := hl.symm
      rw [z, List.getElem?_append_right (Nat.le_refl _)]
      simp
end

/-! ### comprehensions -/
def wipeD (r : SL) : List Nat → SL
  | [] => r
  | v :: vs => (wipeD r vs).set v none
theorem ES.wipe {K : PySem.W.Frag} {F : Hp} {al : List Addr} {s : L2.St} {r : SL} (h : ES K F al s r) : ∀ vs : List Nat, ES K F al (wipe s vs) (wipeD r vs)
  | [] => h
  | v :: vs => (ES.wipe h vs).unset
theorem wipe_in : ∀ {vs : List Nat} {s : L2.St} {i : Nat}, i ∈ vs → i < s.length → (wipe s vs)[i]? = some none
  | v :: vs, s, i, hi, hl => by
    unfold wipe
    by_cases e : v = i
    · subst e
      rw [List.getElem?_set_self (by rw [wipe_length]; exact hl)]
    · rw [List.getElem?_set_ne e]
      exact wipe_in (by rcases List.mem_cons.mp hi with z | z; exact absurd z.symm e; exact z) hl
theorem Same.wipe {l vs : List Nat} {s s' : L2.St} (h : Same l (wipe s vs) s') (hl : ∀ i ∈ l, i ∈ vs) : wipe s' vs = wipe s vs := by
  have hlen : s'.length = s.length := by rw [h.1, wipe_length]
  apply List.ext_getElem?
  intro i
  by_cases hi : i ∈ vs
  · by_cases hb : i < s.length
    · rw [wipe_in hi hb, wipe_in hi (by rw [hlen]; exact hb)]
    · rw [List.getElem?_eq_none (by rw [wipe_length, hlen]; omega), List.getElem?_eq_none (by rw [wipe_length]; omega)]
  · rw [wipe_out hi, h.2 i (fun z => hi (hl i z))]
def rB (sl : SL) : RH := { sl := sl, ex := fun _ _ _ _ _ => False, xd := none }
def lcD (pt : Pat) (mt : DT) (me : DE) (sl0 : SL) (src : List Nat) (M0 : MH) : List D → List D → MH → (List D → MH → Prop) → Prop
  | [], acc, M, R => R acc M
  | d :: ds, acc, M, R => match bindP pt d sl0 with
    | some sl => mt (rB sl) M fun b M1 => if b = true then me (rB sl) M1 fun y M2 => SrcOk src M0 M2 ∧ lcD pt mt me sl0 src M0 ds (acc ++ [y]) M2 R else SrcOk src M0 M1 ∧ lcD pt mt me sl0 src M0 ds acc M1 R
    | none => False
def dLc (fz : Bool) (mi : DI) (pt : Pat) (mt : DT) (me : DE) (vs : List Nat) : DE := fun r M R => mi r M fun items src M1 => items.length ≤ sizeLine ∧ lcD pt mt me (wipeD r.sl vs) src M1 items [] M1 fun acc M2 => nw fz acc M2 R
def MTs (X : Cx) (W : WX) (ifs : List Expr) (m : DT) : Prop := PTs X ifs (lT X.K W m)
def tYesD : DT := fun _ M R => R true M
theorem mts_nil {X : Cx} {W : WX} : MTs X W [] tYesD := ⟨fun pins s σ H Q I q => by
  obtain ⟨F, al, r, M, R, er, hr, hm, k⟩ := q
  exact pts_nil.run pins s σ H Q I (k true H F al M (Stp.refl hr) hm)⟩
theorem mts_one {X : Cx} {W : WX} {c : Expr} {m : DT} (h : MT X W c m) : MTs X W [c] m := pts_one h
section
variable {X : Cx} {W : WX} {elt tg iter : Expr} {ifs : List Expr} {scope : Scope} {own : List (Str × Nat)} {pos : Pos} {mi : DI} {pt : Pat} {mt : DT} {me : DE}
theorem sim_lc (fz : Bool) (hv : ∀ i ∈ ixP pt, i ∈ own.map (·.2)) : ∀ s H Q, lE X.K W (dLc fz mi pt mt me (own.map (·.2))) s H Q → tLc (lI X.K W mi) (lG X.K pt) (lT X.K wF mt) (lE X.K wF me) (own.map (·.2)) s H Q := by
  rintro s H Q ⟨F, al, r, M, R, er, hr, hm, k⟩
  refine ⟨F, al, r, M, _, er, hr, hm, fun J H1 F1 al1 items src M1 s1 ok hm1 p hp => ?_⟩
  obtain ⟨hz, hm1⟩ := hm1
  have k1 := Out.step hr k s1
  have er1 := er.step hr s1
  have w : Walk J items.length (fun H => ∃ F2 al2 M2, Stp X.K F1 al1 H1 M1 F2 al2 H M2 ∧ SrcOk src M1 M2) (fun i H x H' => J.yld i H x H') :=
    ⟨fun i H hi ⟨F2, al2, M2, st, so⟩ => ok.go i F2 al2 H M2 st so hi, fun H ⟨F2, al2, M2, st, so⟩ => ok.stop F2 al2 H M2 st so, fun _ _ _ _ _ _ y => y⟩
  have un1 : F1 p = none := Evl.fresh_back s1.hr.ext hp
  have out1 : ∀ k : Nat, al1[k]? ≠ some p := fun k e => s1.hr.trk k p e hp
  refine lc_it w (fun i H => ∃ F2 al2 M2 xs ds, Stp X.K F1 al1 H1 M1 F2 al2 H M2 ∧ SrcOk src M1 M2 ∧ Apart F2 al2 H p xs ∧ RelA X.K F2 al2 ds xs ∧ xs.length ≤ i ∧ lcD pt mt me (wipeD r.sl (own.map (·.2))) src M1 (items.drop i) ds M2 fun acc M2 => nw fz acc M2 R)
    ⟨F1, al1, M1, [], [], (Stp.refl s1.hr).writeX hp out1 un1, srcR, ⟨upd_same, out1, un1⟩, rfl, Nat.le_refl _, by rw [List.drop_zero]; exact hm1⟩
    (fun i H _ ⟨F2, al2, M2, _, _, st, so, _⟩ => ⟨F2, al2, M2, st, so⟩) ?_ ?_
  · rintro i x H H' hi ⟨F2, al2, M2, xs, ds, st, so, ap, ra, hl, hf⟩ y
    have hd : items[i]? = some items[i] := List.getElem?_eq_getElem hi
    obtain ⟨F3, st3, rx⟩ := ok.yld i _ F2 al2 H M2 x H' st so hd y
    rw [List.drop_eq_getElem_cons hi] at hf
    unfold lcD at hf
    split at hf
    · rename_i sl e1
      have st4 := st.trans s1.hr st3
      have ap3 := ap.step st.hr st3
      have es4 := (er1.es.mono st4.ex st4.pre).wipe (own.map (·.2))
      refine ⟨F3, al2, M2, _, _, sl, es4, st3.hr, rx, e1, fun s' es' sm => ⟨sm.wipe hv, ?_⟩⟩
      have erB : ∀ {F al H M s sl}, ES X.K F al s sl → ER X.K wF F al H M s (rB sl) := fun {F al H M s sl} es => ⟨es, fun _ _ _ _ _ _ _ _ _ _ _ _ _ z => False.elim z, fun d p w z => by cases z⟩
      refine ⟨F3, al2, rB sl, M2, _, erB es', st3.hr, hf, fun b H5 F5 al5 M5 st5 hb => ?_⟩
      have ap5 := ap3.step st3.hr st5
      have st6 := st4.trans s1.hr st5
      have ra5 := (ra.mono st3.ex st3.pre).mono st5.ex st5.pre
      cases b with
      | true =>
        dsimp only
        rw [if_pos rfl] at hb ⊢
        refine ⟨F5, al5, rB sl, M5, _, erB (es'.mono st5.ex st5.pre), st5.hr, hb, fun v H7 F7 al7 d M7 st7 rv hq => ?_⟩
        have ap7 := ap5.step st5.hr st7
        have st8 := st6.trans s1.hr st7
        refine ⟨xs, ap7.at_, by omega, F7, al7, M7, xs ++ [v], ds ++ [d], st8.writeX hp ap7.out ap7.un, hq.1, ⟨upd_same, ap7.out, ap7.un⟩, (ra5.mono st7.ex st7.pre).app (RelA.one rv), by simp; omega, hq.2⟩
      | false =>
        dsimp only
        rw [if_neg Bool.false_ne_true] at hb ⊢
        exact ⟨F5, al5, M5, xs, ds, st6, hb.1, ap5, ra5, by omega, hb.2⟩
    · exact hf.elim
  · rintro H ⟨F2, al2, M2, xs, ds, st, so, ap, ra, hl, hf⟩
    rw [List.drop_length] at hf
    exact Out.adopt k1 s1.hr st hp ap ra hf
theorem me_lc (fz : Bool) (hc : X.calm = true) (hN : X.N.Nodup) (hi : MI X W tg iter mi) (ok : BlkOk X.N X.env.scope scope own)
    (hg : ∀ (s : Shared) (H : Hp) (C : Addr) (cl : List (Str × Addr)) (fp : List Addr), MG (X.blk s H scope (compEnvC scope cl C X.env) fp) tg pt) (ht : ∀ (s : Shared) (H : Hp) (C : Addr) (cl : List (Str × Addr)) (fp : List Addr), MTs (X.blk s H scope (compEnvC scope cl C X.env) fp) wF ifs mt)
    (he : ∀ (s : Shared) (H : Hp) (C : Addr) (cl : List (Str × Addr)) (fp : List Addr), ME (X.blk s H scope (compEnvC scope cl C X.env) fp) wF elt me) (hv : ∀ i ∈ ixP pt, i ∈ own.map (·.2) := by decide) (hs : ∀ x, foldedSetIterable iter X.env x = pure x := by intro _; rfl) :
    ME X W (.ListComp elt [⟨tg, iter, ifs, 0⟩] scope pos) (dLc fz mi pt mt me (own.map (·.2))) := PE.imp (pe_lc (g := lG X.K pt) (tt := lT X.K wF mt) (te := lE X.K wF me) hc hN hi ok hg ht he hs) (sim_lc fz hv)
theorem ms_setLc (fz : Bool) {i : Nat} {y : Str} {py spos : Pos} (hc : X.calm = true) (hN : X.N.Nodup) (hy : X.N[i]? = some y) (hyl : X.env.scope.names.lookup y = some .local)
    (hsw : swapsWith (.ListComp elt [⟨tg, iter, ifs, 0⟩] scope pos) (some (.Name y py)) spos.line X.env = pure true) (hi : MI X W tg iter mi) (ok : BlkOk X.N X.env.scope scope own)
    (hg : ∀ (s : Shared) (H : Hp) (C : Addr) (cl : List (Str × Addr)) (fp : List Addr), MG (X.blk s H scope (compEnvC scope cl C X.env) fp) tg pt) (ht : ∀ (s : Shared) (H : Hp) (C : Addr) (cl : List (Str × Addr)) (fp : List Addr), MTs (X.blk s H scope (compEnvC scope cl C X.env) fp) wF ifs mt)
    (he : ∀ (s : Shared) (H : Hp) (C : Addr) (cl : List (Str × Addr)) (fp : List Addr), ME (X.blk s H scope (compEnvC scope cl C X.env) fp) wF elt me) (hv : ∀ i ∈ ixP pt, i ∈ own.map (·.2) := by decide) (hs : ∀ x, foldedSetIterable iter X.env x = pure x := by intro _; rfl) :
    MS X W (.Assign [.Name y py] (.ListComp elt [⟨tg, iter, ifs, 0⟩] scope pos) spos) (mSet i (dLc fz mi pt mt me (own.map (·.2)))) := by
  refine PS.imp (ps_setLc (g := lG X.K pt) (tt := lT X.K wF mt) (te := lE X.K wF me) hc hN hy hyl hsw hi ok hg ht he hs) ?_
  rintro D s H ⟨F, al, r, M, E, er, hr, hm, a1, a2, a3, a4⟩
  refine sim_lc fz hv s H _ ⟨F, al, r, M, _, er, hr, hm, fun v H1 F1 al1 d M1 s1 r1 hm1 => ?_⟩
  exact a1 _ _ _ _ _ _ s1 ((er.step hr s1).put r1) hm1
end
end DL

set_option Elab.async false
set_option linter.all false
set_option maxRecDepth 100000
set_option maxHeartbeats 2000000
namespace DL
open PySem PySem.Spec L2
open Evl (Ex)

/-! ### o[i] = e, o a list of ours -/
def putK (k : Nat) (i : Int) (dv : D) (M : MH) (nx : MH → Prop) : Prop := match M[k]? with
  | some (.lst ds) => (match ixN ds.length i with
    | some j => nx (M.set k (.lst (ds.set j dv)))
    | none => False)
  | _ => False
def mPut (mo mi me : DE) : DS := fun E r M => me r M fun dv M1 => mo r M1 fun d0 M2 => mi r M2 fun di M3 => match d0, di with
  | .loc k, .int i => putK k i dv M3 fun M4 => E.nx r M4
  | _, _ => False
theorem put_ok {K : PySem.W.Frag} {F : Hp} {al : List Addr} {H : Hp} {M : MH} {k : Nat} {a : Addr} {i : Int} {dv : D} {v : V} {nx : MH → Prop} (h : HR K F al H M) (ea : al[k]? = some a) (rv : Rel K F al dv v) (q : putK k i dv M nx) :
    ∃ xs j M', H a = some (.lst xs) ∧ ixN xs.length i = some j ∧ Stp K F al H M F al (upd H a (.lst (xs.set j v))) M' ∧ nx M' := by
  unfold putK at q
  split at q
  · rename_i ds em
    split at q
    · rename_i j ej
      obtain ⟨fa, xs, ha, ra⟩ := h.mem k a _ ea em
      refine ⟨xs, j, _, ha, by rw [ra.length]; exact ej, ?_, q⟩
      refine stp_set h ea em (fun _ _ z => z) (fun b o z => ?_) (fun b o hb z => by rw [upd_ne hb]; exact z) (fun b z => .inl z) fa upd_same (ra.set rv j)
      have hb : b ≠ a := fun w => by rw [w, fa] at z; cases z
      rw [upd_ne hb]
      exact h.ext b o z
    · exact q.elim
  · exact q.elim
section
variable {X : Cx} {W : WX} {o i e : Expr} {mo mi me : DE} {pos p : Pos}
theorem ms_put (ho : ME X W o mo) (hi : ME X W i mi) (he : ME X W e me)
    (ha : ∀ v, assign (.Subscript o i p) X.env v = (do
      let ov ← holding [v] (eval o X.env)
      let iv ← holding [v, ov] (eval i X.env)
      standAt p
      holding [v, ov, iv] (setItem ov iv v)
      release [v, ov, iv] []) := by intro _; rfl)
    (hs : swapsWithSole [.Subscript o i p] e pos.line X.env = pure false := by rfl) (hw : swappedStores [.Subscript o i p] e X.env = pure none := by rfl)
    (h1 : (assignEach [.Subscript o i p] X.env).map (·.2) = [assign (.Subscript o i p) X.env] := by rfl) : MS X W (.Assign [.Subscript o i p] e pos) (mPut mo mi me) := by
  refine PS.imp (ps_asg he (pg_sub ho hi set_list ha) hs hw h1) ?_
  rintro D s H ⟨F, al, r, M, E, er, hr, hm, a1, a2, a3, a4⟩
  refine ⟨F, al, r, M, _, er, hr, hm, fun v H1 F1 al1 dv M1 s1 rv hm1 => ?_⟩
  have er1 := er.step hr s1
  refine ⟨F1, al1, r, M1, _, er1, s1.hr, hm1, fun v0 H2 F2 al2 d0 M2 s2 r0 hm2 => ?_⟩
  have er2 := er1.step s1.hr s2
  refine ⟨F2, al2, r, M2, _, er2, s2.hr, hm2, fun vi H3 F3 al3 di M3 s3 ri hm3 => ?_⟩
  split at hm3
  · rename_i k j
    obtain ⟨a, ea, rfl⟩ := r0
    cases ri
    obtain ⟨xs, jj, M4, ha4, hj, st, q⟩ := put_ok s3.hr (s3.pre k a ea) ((rv.mono s2.ex s2.pre).mono s3.ex s3.pre) hm3
    have st4 := ((s1.trans hr s2).trans hr s3).trans hr st
    exact ⟨a, xs, _, jj, rfl, rfl, ha4, hj, a1 _ _ _ _ _ _ st4 (er.step hr st4) q⟩
  · exact hm3.elim
/-- name op= e, ints -/
def mAugI (f : Int → Int → Int) (i : Nat) (me : DE) : DS := fun E r M => match r.sl[i]? with
  | some (some (.int a)) => me r M fun d M1 => (match d with
    | .int b => E.nx (r.put i (.int (f a b))) M1
    | _ => False)
  | _ => False
theorem ms_augI {op : Operator} {f : Int → Int → Int} {j : Nat} {x : Str} (hp : PIp X op (ipI f)) (hN : X.N.Nodup) (hi : X.N[j]? = some x) (hx : Loc X.env.scope x) (he : ME X W e me) (hf : X.fn x = true ∨ X.env.scope.names.lookup x = some .local := by first | exact .inl rfl | exact .inr rfl | assumption) :
    MS X W (.AugAssign (.Name x p) op e pos) (mAugI f j me) := by
  refine PS.imp (ps_aug hN hi hx he hp hf) ?_
  rintro D s H ⟨F, al, r, M, E, er, hr, hm, a1, a2, a3, a4⟩
  unfold mAugI at hm
  split at hm
  · rename_i a ea
    obtain ⟨v, hv, rv⟩ := er.es.2 j _ ea
    refine ⟨v, hv, F, al, r, M, _, er, hr, hm, fun w H1 F1 al1 d M1 s1 rw1 hm1 => ?_⟩
    split at hm1
    · rename_i b
      cases rv
      cases rw1
      exact ⟨a, b, rfl, rfl, a1 _ _ _ _ _ _ s1 ((er.step hr s1).put (d := .int (f a b)) rfl) hm1⟩
    · exact hm1.elim
  · exact hm.elim
/-! ### xs[::s], s = 1 or -1 -/
def tStepL (K : PySem.W.Frag) (te ts : TE) : TE := fun σ H Q => te σ H fun x H1 => ts σ H1 fun y H2 => ∃ a xs, x = .ref a ∧ SqL K H2 a xs ∧ ((y = .int 1 ∧ ∀ p, H2 p = none → Q (.ref p) (upd H2 p (.lst xs))) ∨ (y = .int (-1) ∧ ∀ p, H2 p = none → Q (.ref p) (upd H2 p (.lst xs.reverse))))
theorem pick_one (its : Array Value) : slicePick its none none (some 1) = its := slicePick_all its
theorem pe_stepL {te ts : TE} {st : Expr} {p3 : Pos} (he : PE X e te) (hst : PE X st ts) : PE X (.Subscript e (.Slice none none (some st) p3) pos) (tStepL X.K te ts) := by
  constructor
  intro pins s σ H Q I h
  apply PyProof.Rows.Subscript_
  refine thn (he.run pins s σ H _ I h) fun v s1 hv => ?_
  obtain ⟨x, H1, I1, r1, q1⟩ := hv
  have none_ : ∀ {s : Shared} {H : Hp} {R : Value → Shared → Prop}, R .none s → wpAny (model X.prog X.w) X.A (evalPart none X.env) R X.xe s := fun {s H R} q => by
    rw [evalPart_none]; exact wpAny_pure q
  refine wpAny_Slice (none_ (H := H1) (none_ (H := H1) ?_))
  rw [evalPart_some]
  refine thn (hst.run pins s1 σ H1 _ I1 q1) fun vs s4 hv4 => ?_
  obtain ⟨y, H4, I4, ry, a, xs, rfl, hx, q⟩ := hv4
  cases r1
  have I5 : Inv X pins σ H4 { s4 with heap := s4.heap.push { cls := .type "slice", data := .fields #[.none, .none, vs] } } := I4.kept (t' := s4.toks) fun b ob z => Heap.get?_push_of_some _ z
  obtain ⟨its, r, ht, hz⟩ := I5.list hx
  have hlen := r.length
  have sz : its.toArray.size ≤ sizeLine := by rw [List.size_toArray]; omega
  refine PyProof.Rows.tail_any (ops := [.ref a, .ref s4.heap.objs.size]) ht.isList.typeIs PySem.slot_list_getitem.lookup ?_ (by with_unfolding_all rfl)
  rcases q with ⟨rfl, q⟩ | ⟨rfl, q⟩
  · obtain ⟨t, rfl⟩ := ry
    refine wpAny_getItem_list_slice ht.isList (Heap.IsSliceOf.new _ .none .none _) .none .none (.int 1 t) (by decide) ?_ sz
    rw [pick_one]
    exact ⟨.ref _, _, I5.laid (t' := s4.toks) (o := .lst xs) (fun b ob z => Heap.get?_push_of_some _ z) (Nat.le_refl _) ⟨hz, _, 0, r, Heap.get?_push_size _ rfl⟩, rfl, q _ (I5.hok.fresh (Nat.le_refl _))⟩
  · obtain ⟨t, rfl⟩ := ry
    refine wpAny_getItem_list_slice ht.isList (Heap.IsSliceOf.new _ .none .none _) .none .none (.int (-1) t) (by decide) ?_ sz
    rw [PySem.W.krv_pick]
    exact ⟨.ref _, _, I5.laid (t' := s4.toks) (o := .lst xs.reverse) (fun b ob z => Heap.get?_push_of_some _ z) (Nat.le_refl _) ⟨by rw [List.length_reverse]; exact hz, _, 0, r.reverse, Heap.get?_push_size _ rfl⟩, rfl, q _ (I5.hok.fresh (Nat.le_refl _))⟩
def dStep (fz : Bool) (me mst : DE) : DE := fun r M R => me r M fun d M1 => mst r M1 fun y M2 => match rdL M2 d, y with
  | some ds, .int i => (i = 1 ∧ nw fz ds M2 R) ∨ (i = -1 ∧ nw fz ds.reverse M2 R)
  | _, _ => False
theorem me_step (fz : Bool) {st : Expr} {mst : DE} {p3 : Pos} (he : ME X W e me) (hst : ME X W st mst) : ME X W (.Subscript e (.Slice none none (some st) p3) pos) (dStep fz me mst) := by
  refine PE.imp (pe_stepL he hst) ?_
  rintro s H Q ⟨F, al, r, M, R, er, hr, hm, k⟩
  refine ⟨F, al, r, M, _, er, hr, hm, fun v H1 F1 al1 d M1 s1 rv hm1 => ?_⟩
  have er1 := er.step hr s1
  refine ⟨F1, al1, r, M1, _, er1, s1.hr, hm1, fun y H2 F2 al2 dy M2 s2 ry hm2 => ?_⟩
  have k2 := Out.step hr k (s1.trans hr s2)
  split at hm2
  · rename_i ds i e1
    obtain ⟨a, xs, rfl, hx, ra⟩ := s2.hr.rdL_ (rv.mono s2.ex s2.pre) e1
    cases ry
    refine ⟨a, xs, rfl, hx, ?_⟩
    rcases hm2 with ⟨rfl, q⟩ | ⟨rfl, q⟩
    · exact .inl ⟨rfl, fun p hp => Out.new k2 s2.hr hp ra q⟩
    · exact .inr ⟨rfl, fun p hp => Out.new k2 s2.hr hp ra.rev q⟩
  · exact hm2.elim
end
end DL

set_option Elab.async false
set_option linter.all false
set_option maxRecDepth 100000
set_option maxHeartbeats 2000000
namespace DL
open PySem PySem.Spec L2 PyProof.Rows
open Evl (Ex)

/-! ### the end: the law's promise at the heap behind the top -/
/-- the law says True at each script -/
def okLaw (m : PF) (n : Nat) : Prop := ∀ ns : List Int, ns.length ≤ n → (∀ z ∈ ns, Builtin.Int.intBits z ≤ 1048576) → m [.scr (ns.map D.int)] (fun d => d = .bl true) (fun _ _ _ => False)
theorem roomCaller : RoomG 60 callerA := ⟨by first | exact ⟨by decide, by decide, by decide, by decide⟩ | decide | exact room_caller | constructor <;> decide, rfl⟩
theorem RoomG.d3 {k : Nat} {A : Around} (h : RoomG k A) : A.depth + 3 < recursionLimit := by have := h.r.dp; omega
theorem relA_ints {K : PySem.W.Frag} {F : Hp} {al : List Addr} : ∀ ns : List Int, RelA K F al (ns.map D.int) (ns.map V.int)
  | [] => rfl
  | n :: ns => ⟨.int n, _, rfl, rfl, relA_ints ns⟩
section
variable {P : Program} {w : World} {K : PySem.W.Frag} {mg mb : Str → Option Value} {k : Nat} {fa a : Addr} {fd : FuncData} {x : Str} {sp : Sp} {s1 : Shared} {vs : List Value} {ns : List Int}
/-- what is asked of the law's end -/
abbrev LawEnd (s1 : Shared) (r : Result) (s' : Shared) : Prop := r = .ok (.ret (.bool true)) ∧ OldK s1.heap s'.heap ∧ s'.os = s1.os ∧ AllBare s'.gens
/-- from a heap H in which at most the script stands -/
theorem law_from {H : Hp} (KX : K.In s1.heap) (gN : s1.heap.Ns mainGlobals mg) (bN : s1.heap.Ns builtinsNs mb) (bB : ∀ x : Str, x ≠ "__name__" → mb x = bootBuiltins x) (lim : s1.heap.NoLimit) (hg : s1.gens = #[]) (hr : RoomG k callerA)
    (obj : ∀ b u, H b = some u → ∃ xs n, s1.heap.get? b = some ({ cls := .type "list", data := .seq xs n } : Obj)) (notK : ∀ b, H b ≠ none → K.lookup b = none) (only : Only H) (hok : HOk P w H s1.heap)
    (F : ∀ base : Heap, K.In base → base.Ns mainGlobals mg → FnG P w K mg base k fa fd [x] sp) (bind : ∀ (s : Shared) (u : Value), BindsTo s fd ⟨[u], []⟩ [(x, u)]) (hsp : sp [.ref a] H (fun v _ => v = .bl true) fun _ _ _ => False) :
    codeAny (model P w) callerA (.call (.ref fa) ⟨[.ref a], []⟩) (LawEnd s1) s1 := by
  have free : ∀ {b : Addr} {o : Obj} {es : Array DictEntry} {ep : Nat}, s1.heap.get? b = some o → o.data = .dict es ep → H b = none := fun {b o es ep} e d => by
    rcases hb : H b with _ | u
    · rfl
    · obtain ⟨xs, n, z⟩ := obj b u hb
      rw [e] at z; cases z; cases d
  have below : ∀ {b : Addr} {m : Str → Option Value}, s1.heap.Ns b m → (hidT s1.heap H).Ns b m := by
    rintro b m ⟨o, es, ep, e, d, r⟩
    exact ⟨o, es, ep, hidT_get e (free e d), d, r⟩
  have inB : K.In (hidT s1.heap H) := by
    intro b o e
    refine hidT_get (KX b o e) ?_
    rcases hb : H b with _ | u
    · rfl
    · rw [notK b (by rw [hb]; simp)] at e; cases e
  have lim2 : (hidT s1.heap H).NoLimit := by
    obtain ⟨mc, l1, l2⟩ := lim
    exact ⟨mc, below l1, l2⟩
  have e0 : Env0 P w K mg (hidT s1.heap H) callerA [] s1 H := by
    refine ⟨rfl, ⟨inB, below gN, ⟨mb, below bN, bB⟩, lim2⟩, fun b o e => of_hidT e, Nat.le_of_eq (hidT_size _ _), trivial, ?_, hok, .of_eq hg⟩
    intro b hb
    cases hb
  have run := (F _ inB (below gN)).go callerA [] s1 H ⟨[.ref a], []⟩ [.ref a] [.ref a] _ _ hr e0 (bind s1 (.ref a)) (.cons rfl .nil) hsp
  refine codeAny_mono run ?_
  rintro (er | fl) s' h
  · obtain ⟨_, _, _, _, _, _, _, _, _, _, _, _, z⟩ := h
    exact z.elim
  · cases fl with
    | ret u =>
      obtain ⟨v, H', os, bare, un, hok', r', rfl⟩ := h
      cases r'
      refine ⟨rfl, OldK.of_keep ?_, os, bare⟩
      intro b o e
      rcases hb : H b with _ | u
      · exact un.keep b o e hb (by intro z; cases z) (by simp)
      · rcases only b with z | ⟨ob, xs, z⟩
        · rw [hb] at z; cases z
        · have z2 := (hok' b _ (un.frzs b ob _ z)).1
          have z1 := (hok b _ z).1
          rw [e] at z1
          cases z1
          exact z2
    | _ => exact False.elim h
theorem law_callG (KX : K.In s1.heap) (gN : s1.heap.Ns mainGlobals mg) (bN : s1.heap.Ns builtinsNs mb) (bB : ∀ x : Str, x ≠ "__name__" → mb x = bootBuiltins x) (lim : s1.heap.NoLimit) (hg : s1.gens = #[]) (hr : RoomG k callerA)
    (ha : s1.heap.get? a = some { cls := .type "list", data := .seq vs.toArray }) (hi : IntsAre vs ns) (hl : ns.length ≤ sizeLine)
    (F : ∀ base : Heap, K.In base → base.Ns mainGlobals mg → FnG P w K mg base k fa fd [x] sp) (bind : ∀ (s : Shared) (u : Value), BindsTo s fd ⟨[u], []⟩ [(x, u)])
    (hsp : ∀ H : Hp, Only H → SqL K H a (ns.map V.int) → sp [.ref a] H (fun v _ => v = .bl true) fun _ _ _ => False) :
    codeAny (model P w) callerA (.call (.ref fa) ⟨[.ref a], []⟩) (LawEnd s1) s1 := by
  have rv := vals_ints hi
  have lv := hi.length
  by_cases hk : K.lookup a = none
  · let H : Hp := fun b => if b = a then some (.frz { cls := .type "list", data := .seq vs.toArray } (.lst (ns.map V.int))) else none
    have at_ : H a = some (.frz { cls := .type "list", data := .seq vs.toArray } (.lst (ns.map V.int))) := if_pos rfl
    have off : ∀ {b}, b ≠ a → H b = none := fun h => if_neg h
    have eqa : ∀ {b u}, H b = some u → b = a := fun {b u} z => by
      by_cases hb : b = a
      · exact hb
      · rw [off hb] at z; cases z
    have only : Only H := fun b => by
      by_cases hb : b = a
      · subst hb; exact .inr ⟨_, _, at_⟩
      · exact .inl (off hb)
    refine law_from (H := H) KX gN bN bB lim hg hr (fun b u z => ?_) (fun b z => ?_) only (fun b u z => ?_) F bind (hsp H only (.inl (.inr ⟨_, at_⟩)))
    · obtain rfl := eqa z
      exact ⟨_, _, ha⟩
    · rcases hb : H b with _ | u
      · exact absurd hb z
      · obtain rfl := eqa hb
        exact hk
    · obtain rfl := eqa z
      rw [at_] at z
      cases z
      exact ⟨ha, by rw [List.length_map]; exact hl, vs, _, rv, ha⟩
  · obtain ⟨o, ho⟩ := Option.ne_none_iff_exists'.mp hk
    have e := KX a o ho
    rw [ha] at e
    cases e
    have only : Only (fun _ => none) := fun _ => .inl rfl
    refine law_from (H := fun _ => none) KX gN bN bB lim hg hr (fun b u z => by cases z) (fun b z => absurd rfl z) only (fun b u z => by cases z) F bind (hsp _ only (.inr ⟨_, vs.toArray, _, ho, rfl, rfl, rfl, ?_, by simpa using rv⟩))
    rw [List.size_toArray, lv]
    exact hl
end
/-- the law's promise gives the row -/
theorem walk_ofG {l : PySem.W.OpenLaw} {n k : Nat} {q : Program} {loose : List Str} {XP : (Str → Option Value) → Heap → Prop} {YP : World → Heap → Prop} {d : DefRec} {x : Str} {m : PF}
    (hn : l.most = some n) (hn2 : n ≤ sizeLine) (hdf : d.params.defaults = []) (hr : RoomG k callerA)
    (F : ∀ (w : World) (mg : Str → Option Value) (fa : Addr) (h : Heap), YP w h → h.Ns mainGlobals mg → mg d.name = some (.ref fa) →
      ∃ (K : PySem.W.Frag) (fd : FuncData), K.In h ∧ (∀ (s : Shared) (u : Value), BindsTo s fd ⟨[u], []⟩ [(x, u)]) ∧ ∀ base : Heap, K.In base → base.Ns mainGlobals mg → FnG l.prog w K mg base k fa fd [x] (spP K 1 false m))
    (hm : okLaw m n) : PySem.W.WalkO q loose XP YP l.row.toRowW d [] (fun f vs => PySem.call f vs) := by
  refine Att.attach_callB hn hdf ?_
  intro w s0 s1 mg mb fa o pm cd doc a vs ns G Y ho hd hcd hmg hobj hints hlen hbits hg
  obtain ⟨K, fd, KX, hb, hF⟩ := F w mg fa _ Y G.T.g hmg
  refine law_callG KX G.T.g G.T.b G.T.builtins G.T.nolimit hg hr hobj hints (Nat.le_trans hlen hn2) hF hb ?_
  intro H hO hS
  refine ⟨H, [.scr (ns.map D.int)], _, _, rfl, fun _ _ z => z, ⟨.ref a, [], rfl, ⟨a, _, rfl, hS, relA_ints ns⟩, rfl⟩, hm ns hlen hbits, ?_, fun _ _ _ _ _ _ _ _ z => z.elim⟩
  intro d v F' H' _ r e
  subst e
  exact r
end DL

set_option Elab.async false
set_option linter.all false
set_option maxRecDepth 100000
set_option maxHeartbeats 2000000
namespace DL
open PySem PySem.Spec L2 PyProof.Rows
open Evl (Ex)

/-! ### the head's facts of exception classes -/
/-- an __init__ that closes over its class, as the text has it -/
structure SupD where
  cls : Str
  qual : Str
  params : Arguments
  body : List Stmt
  scope : Scope
abbrev SpW : Type := Option (Str × Arguments × FuncBody × Scope × Addr × Addr)
def spAd (K : PySem.W.Frag) (x : Str) : Addr := He.ma K (He.ga K x) "__init__"
def spW (K : PySem.W.Frag) (x : Str) : SpW := match K.lookup (spAd K x) with
  | some ⟨_, _, .func fd, _⟩ => some (fd.qualname, fd.params, fd.body, fd.scope, fd.globals, fd.builtins)
  | _ => none
def SupD.val (d : SupD) : SpW := some (d.qual, d.params, .stmts d.body, d.scope, mainGlobals, builtinsNs)
def cellB (K : PySem.W.Frag) (cc D : Addr) : Bool := match K.lookup cc with
  | some ⟨_, _, .cell (some (.ref E)), _⟩ => decide (E = D)
  | _ => false
def fileB (file : Str) (K : PySem.W.Frag) (cda : Addr) : Bool := match K.lookup cda with
  | some ⟨_, _, .fields vs, _⟩ => (match (vs : Array Value)[(2 : Nat)]? with
    | some (.str fl _) => file == fl
    | _ => false)
  | _ => false
def dfl1 (K : PySem.W.Frag) (dV : Value) : Bool := match dV with
  | .ref T => (match K.lookup T with
    | some ⟨_, _, .seq its _, _⟩ => decide (its.toList = [Value.none])
    | _ => false)
  | _ => false
def spOk (file : Str) (K : PySem.W.Frag) (d : SupD) : Bool := match K.lookup (spAd K d.cls) with
  | some ⟨.type t, _, .func fd, _⟩ => decide (t = "function") && (match fd.closure, fd.code with
    | [(n, cc)], .ref cda => decide (n = "__class__") && (PySem.W.codeIn K (.ref cda) d.qual && (fileB file K cda && (cellB K cc (He.ga K d.cls) && ((PySem.W.clsIn K (He.ga K d.cls)).isSome && dfl1 K fd.defaults))))
    | _, _ => false)
  | _ => false
/-- all that a class's making rests on -/
def oxB (K : PySem.W.Frag) (C : Addr) : Bool := match K.lookup C with
  | some ⟨.type t, _, .cls cd, sl⟩ => (match cd.mro, sl.toList with
    | .ref C' :: bm, [_, _, _, _, some (.builtin n), _] => decide (t = "type") && (decide (C' = C) && (decide (n = "Exception.__new__") && (!cd.hasDel && (cd.hasDict && PySem.W.excTail ESX.exTail bm))))
    | _, _ => false)
  | _ => false
def oxA (K : PySem.W.Frag) (C : Addr) : Bool := oxB K C && (decide (PySem.W.findIn K (.ref C) "__setattr__" = some (some (.builtin "object.__setattr__"))) && (decide (PySem.W.subIn K (.ref C) (.type "BaseException") = some true) && (decide (PySem.W.subIn K (.ref C) (.type "Exception") = some true) &&
  (decide (PySem.W.typeIn K (.ref C) = some (.type "type")) && (PySem.W.keepIn K (.ref C) && (decide (PySem.W.nsIn K cStatics "thirdparty.any" = some none) && (decide (PySem.W.findIn K (.ref C) "place" = some none) && decide (PySem.W.findIn K (.ref C) "word" = some none))))))))
theorem oxA_ok {K : PySem.W.Frag} {C : Addr} (h : oxA K C = true) : EX.OX K C := by
  unfold oxA at h
  simp only [Bool.and_eq_true, decide_eq_true_eq] at h
  obtain ⟨h1, h2, h3, h4, h5, h6, h7, h8, h9⟩ := h
  refine ⟨?_, h2, h3, h4, h5, h6, h7, h8, h9⟩
  unfold oxB at h1
  split at h1
  · rename_i t dd cd sl ho
    split at h1
    · rename_i C' bm k0 k1 k2 k3 n k5 hm hs
      simp only [Bool.and_eq_true, decide_eq_true_eq, Bool.not_eq_true'] at h1
      obtain ⟨rfl, rfl, rfl, hdel, hdi, ht⟩ := h1
      obtain ⟨nm, bs, mro, ns, qn, hd, sn, sub, ab, col, del⟩ := cd
      dsimp only at hm hdel hdi
      subst hm hdel hdi
      obtain ⟨l⟩ := sl
      simp only at hs
      subst hs
      exact ⟨nm, qn, ns, bs, bm, sn, sub, ab, col, dd, k0, k1, k2, k3, k5, ho, ht⟩
    · cases h1
  · cases h1
/-- x: the class; y: the class above, or itself where Exception stands above -/
structure ExcF where
  cls : Str
  base : Str
def excB (K : PySem.W.Frag) (e : ExcF) : Bool :=
  oxA K (He.ga K e.cls) && (decide (PySem.W.nsIn K mainGlobals e.cls = some (some (.ref (He.ga K e.cls)))) && (decide (PySem.W.findIn K (.ref (He.ga K e.cls)) "__init__" = some (some (.ref (spAd K e.cls)))) && (decide (PySem.W.typeIn K (.ref (spAd K e.cls)) = some (.type "function")) &&
    (decide (PySem.W.ks_superIn K (He.ga K e.cls) (He.ga K e.base) "__init__" = some (some (.builtin "Exception.__init__"))) && (decide (PySem.W.mroIn K (He.ga K e.cls) (.ref (He.ga K e.base)) = some true) && (decide (PySem.W.mroIn K (He.ga K e.cls) (.ref (He.ga K e.cls)) = some true) &&
      ((decide (e.cls = e.base) || decide (PySem.W.ks_superIn K (He.ga K e.cls) (He.ga K e.cls) "__init__" = some (some (.ref (spAd K e.base))))) && xfB K (He.ga K e.cls))))))))
structure ExcG (K : PySem.W.Frag) (C D fC fD : Addr) : Prop where
  ox : EX.OX K C
  ini : PySem.W.findIn K (.ref C) "__init__" = some (some (.ref fC))
  tyf : PySem.W.typeIn K (.ref fC) = some (.type "function")
  low : PySem.W.ks_superIn K C D "__init__" = some (some (.builtin "Exception.__init__"))
  md : PySem.W.mroIn K C (.ref D) = some true
  mc : PySem.W.mroIn K C (.ref C) = some true
  xf : XfC K C
theorem excB_ok {K : PySem.W.Frag} {e : ExcF} (h : excB K e = true) : ExcG K (He.ga K e.cls) (He.ga K e.base) (spAd K e.cls) (spAd K e.base) ∧ PySem.W.nsIn K mainGlobals e.cls = some (some (.ref (He.ga K e.cls))) ∧ (e.cls = e.base ∨ PySem.W.ks_superIn K (He.ga K e.cls) (He.ga K e.cls) "__init__" = some (some (.ref (spAd K e.base)))) := by
  unfold excB at h
  simp only [Bool.and_eq_true, Bool.or_eq_true, decide_eq_true_eq] at h
  obtain ⟨h1, h2, h3, h4, h5, h6, h7, h8, h9⟩ := h
  exact ⟨⟨oxA_ok h1, h3, h4, h5, h6, h7, xfB_ok h9⟩, h2, h8⟩
/-- the function object of an __init__ -/
structure SupG (P : Program) (K : PySem.W.Frag) (D f : Addr) (d : SupD) (fd : FuncData) : Prop where
  sf : EX.SupFn P K D f d.qual d.params d.body d.scope fd
  df : ∃ T oT its m, fd.defaults = .ref T ∧ K.lookup T = some oT ∧ oT.data = .seq its m ∧ its.toList = [Value.none]
theorem spOk_ok {P : Program} {K : PySem.W.Frag} {d : SupD} (h : spOk P.main.file K d = true) (e : spW K d.cls = d.val) : ∃ fd, SupG P K (He.ga K d.cls) (spAd K d.cls) d fd := by
  unfold spOk at h
  unfold spW at e
  split at h
  · rename_i t od fd osl hf
    rw [hf] at e
    simp only [Bool.and_eq_true, decide_eq_true_eq] at h
    obtain ⟨rfl, h⟩ := h
    obtain ⟨n1, n2, n3, n4, n5, n6, n7, n8, n9, n10, n11, n12, n13, n14, n15⟩ := fd
    simp only [SupD.val, Option.some.injEq, Prod.mk.injEq] at e
    obtain ⟨rfl, rfl, rfl, rfl, rfl, rfl⟩ := e
    dsimp only at h
    split at h
    · rename_i n cc cda
      simp only [Bool.and_eq_true, decide_eq_true_eq] at h
      obtain ⟨rfl, hcd, hfile, hcell, hD, hdf⟩ := h
      unfold fileB at hfile
      split at hfile
      · rename_i ccl cdd vs ccs hcode
        split at hfile
        · rename_i fl tf hvs
          unfold cellB at hcell
          split at hcell
          · rename_i cl cld E csl hcl
            simp only [decide_eq_true_eq] at hcell
            subst hcell
            unfold dfl1 at hdf
            split at hdf
            · rename_i T
              split at hdf
              · rename_i oc2 od2 its m sl2 hT
                simp only [decide_eq_true_eq] at hdf
                exact ⟨_, ⟨⟨n1, od, .ref T, n9, n10, n11, n12, cda, n14, osl, cc, ccl, cdd, vs, ccs, fl, tf, cl, cld, csl, rfl, hf, hcd, hcode, hvs, hfile, hcl⟩, hD⟩, T, _, its, m, rfl, hT, rfl, hdf⟩
              · cases hdf
            · cases hdf
          · cases hcell
        · cases hfile
      · cases hfile
    · cases h
  · cases h

abbrev sb (a b : Value) : List (Str × Value) := [("self", a), ("place", b)]
/-- the arguments of such an __init__ are bound -/
structure BindS (d : SupD) : Prop where
  two : ∀ (T cda cc : Addr) (nm : Str) (kV doc pm : Value) (an : Option Addr) (ct a b : Value), ∃ k, bindArgs (PySem.W.ksFn nm d.qual d.params d.body d.scope (.ref T) kV doc pm an (.ref cda) ct cc) ⟨[a, b], []⟩ = seqItems? (.ref T) >>= k ∧ k (some #[.none]) = pure (sb a b)
  one : ∀ (T cda cc : Addr) (nm : Str) (kV doc pm : Value) (an : Option Addr) (ct a : Value), ∃ k, bindArgs (PySem.W.ksFn nm d.qual d.params d.body d.scope (.ref T) kV doc pm an (.ref cda) ct cc) ⟨[a], []⟩ = seqItems? (.ref T) >>= k ∧ k (some #[.none]) = pure (sb a .none)
  kw : ∀ (T cda cc : Addr) (nm : Str) (kV doc pm : Value) (an : Option Addr) (ct a b : Value), ∃ k, bindArgs (PySem.W.ksFn nm d.qual d.params d.body d.scope (.ref T) kV doc pm an (.ref cda) ct cc) ⟨[a], [("place", b)]⟩ = seqItems? (.ref T) >>= k ∧ k (some #[.none]) = pure (sb a b)
theorem bindS_go {P : Program} {K : PySem.W.Frag} {D f : Addr} {d : SupD} {fd : FuncData} (G : SupG P K D f d fd) (B : BindS d) {s : Shared} (X : K.In s.heap) {a p : Value} {args : Args} (ha : args = ⟨[a, p], []⟩ ∨ (args = ⟨[a], []⟩ ∧ p = .none) ∨ args = ⟨[a], [("place", p)]⟩) :
    BindsTo s fd args (sb a p) := by
  obtain ⟨nm, od, dV, kV, doc, pm, an, cda, ct, osl, cc, ccl, cdd, vs, ccs, file, tf, cl, cld, csl, rfl, hf, hcd, hcode, hvs, hfile, hcell⟩ := G.sf.ex
  obtain ⟨T, oT, its, m, e1, lT, hd, hi⟩ := G.df
  have e2 : dV = .ref T := e1
  subst e2
  have hi2 : its = #[.none] := by
    obtain ⟨l⟩ := its
    simp only at hi
    rw [hi]
  subst hi2
  have fin : ∀ {k : Option (Array Value) → Sem (List (Str × Value))}, bindArgs (PySem.W.ksFn nm d.qual d.params d.body d.scope (.ref T) kV doc pm an (.ref cda) ct cc) args = seqItems? (.ref T) >>= k ∧ k (some #[.none]) = pure (sb a p) →
      BindsTo s (PySem.W.ksFn nm d.qual d.params d.body d.scope (.ref T) kV doc pm an (.ref cda) ct cc) args (sb a p) := fun {k} h => BindsTo.of_defaults rfl (X _ _ lT) hd h.1 h.2
  rcases ha with rfl | ⟨rfl, rfl⟩ | rfl
  · obtain ⟨k, h⟩ := B.two T cda cc nm kV doc pm an ct a p
    exact fin h
  · obtain ⟨k, h⟩ := B.one T cda cc nm kV doc pm an ct a
    exact fin h
  · obtain ⟨k, h⟩ := B.kw T cda cc nm kV doc pm an ct a p
    exact fin h
section
variable {P : Program} {w : World} {K : PySem.W.Frag} {mg : Str → Option Value} {base : Heap} {C D fC fD : Addr} {wd wD q qD : Str} {pa paD : Arguments} {sc scD : Scope} {x y : Str} {fd fdD : FuncData} {pl plD : Env → Sem Bool}
variable {j jD : Nat} {a0 a1 a2 a3 a4 a5 c0 c1 c2 c3 A0 A1 A2 A3 A4 A5 B0 B1 B2 B3 C0 C1 C2 C3 : Pos}
/-- the class straight over Exception -/
theorem mkC_low (G : SupG P K D fD ⟨y, qD, paD, [EX.stS A0 A1 A2 A3 A4 A5, EX.stP B0 B1 B2 B3, EX.stW wD jD C0 C1 C2 C3], scD⟩ fdD) (E : ExcG K D D fD fD) (B : BindS ⟨y, qD, paD, [EX.stS A0 A1 A2 A3 A4 A5, EX.stP B0 B1 B2 B3, EX.stW wD jD C0 C1 C2 C3], scD⟩) (hsg : mg "super" = none) (S : EX.SupSc paD scD) (he : EX.CallS plD A0 A1 A2 A3 A4)
    (htop : (P.main.scope.names.lookup ("super" : Str)).isSome = false) : MkC P w K mg base D wD := by
  refine ⟨E.ox, fD, E.ini, E.tyf, ?_⟩
  intro A s x t0 p args R Mo hd bk xb hx ha hq
  exact EX.init_low Mo bk hsg S G.sf E.ox E.low E.md htop (by omega) (bindS_go G B (Mo.kin.keeps bk) ha) hx xb he hq
/-- a class over such a class -/
theorem mkC_high (G : SupG P K C fC ⟨x, q, pa, [EX.stS a0 a1 a2 a3 a4 a5, EX.stW wd j c0 c1 c2 c3], sc⟩ fd) (E : ExcG K C D fC fD) (B : BindS ⟨x, q, pa, [EX.stS a0 a1 a2 a3 a4 a5, EX.stW wd j c0 c1 c2 c3], sc⟩) (hup : PySem.W.ks_superIn K C C "__init__" = some (some (.ref fD)))
    (GD : SupG P K D fD ⟨y, qD, paD, [EX.stS A0 A1 A2 A3 A4 A5, EX.stP B0 B1 B2 B3, EX.stW wD jD C0 C1 C2 C3], scD⟩ fdD) (BD : BindS ⟨y, qD, paD, [EX.stS A0 A1 A2 A3 A4 A5, EX.stP B0 B1 B2 B3, EX.stW wD jD C0 C1 C2 C3], scD⟩)
    (hsg : mg "super" = none) (S : EX.SupSc pa sc) (he : EX.CallS pl a0 a1 a2 a3 a4) (SD : EX.SupSc paD scD) (heD : EX.CallS plD A0 A1 A2 A3 A4)
    (htop : (P.main.scope.names.lookup ("super" : Str)).isSome = false) : MkC P w K mg base C wd := by
  refine ⟨E.ox, fC, E.ini, E.tyf, ?_⟩
  intro A s x t0 p args R Mo hd bk xb hx ha hq
  obtain ⟨nm, od, dV, kV, doc, pm, an, cda, ct, osl, cc, ccl, cdd, vs, ccs, file, tf, cl, cld, csl, efd, hf, _⟩ := GD.sf.ex
  have hfn : PySem.W.fnIn K fD = true := by
    unfold PySem.W.fnIn
    rw [hf]
  refine EX.init_high Mo bk hsg S G.sf E.ox hup hf E.mc hfn htop (by omega) (bindS_go G B (Mo.kin.keeps bk) ha) hx xb he ?_ hq
  intro env s1 R1 bk1 hx1 hq1
  exact EX.init_low Mo bk1 hsg SD GD.sf E.ox E.low E.md htop (by show A.depth + 1 < recursionLimit; omega) (bindS_go GD BD (Mo.kin.keeps bk1) (.inl rfl)) hx1 xb heD (hq1 wD)
end

/-! ### the Hook -/
def asX (g : Addr → Option Obj) : Nat → List Addr
  | 0 => [mainGlobals, cStatics]
  | n + 1 => He.growD g (asX g n)
structure HkX where
  file : Str
  fa : List He.Fa
  fn : List He.DefD
  sx : List SupD
  ex : List ExcF
  mm : List (Str × Str × Bool)
abbrev AlX : Type := He.AlD × Bool × List SpW
def obsX (h : HkX) (K : PySem.W.Frag) : AlX := (He.obsD h.fa h.fn K, (h.sx.all fun d => spOk h.file K d) && (h.ex.all (fun e => excB K e) && h.mm.all fun p => decide (PySem.W.exmOne K (.ref (He.ga K p.1)) (.ref (He.ga K p.2.1)) = some p.2.2)), h.sx.map fun d => spW K d.cls)
def valX (h : HkX) : AlX := (He.valD h.fn, true, h.sx.map SupD.val)
def SaysX (h : HkX) (K : PySem.W.Frag) : Prop := obsX h K = valX h
def obsXG (n : Nat) (h : HkX) (g : Addr → Option Obj) : AlX := obsX h (He.frG g (asX g n))
def hookX (n : Nat) (h : HkX) : PySem.W.Hook where
  α := AlX
  obs := fun s => obsXG n h s.heap.get?
  val := fun _ => valX h
  says := fun _ hp => ∃ K : PySem.W.Frag, K.In hp ∧ SaysX h K
  of := fun _ _ e => ⟨_, He.frG_in, e⟩
  keeps := fun _ _ _ ⟨K, hK, c⟩ k => ⟨K, PySem.W.Frag.In.keeps hK k, c⟩
theorem obsXG_eq {n : Nat} {h : HkX} {g : Addr → Option Obj} {s : Shared} (e : ∀ a, g a = s.heap.get? a) : obsXG n h g = (hookX n h).obs s := by
  have e2 : g = s.heap.get? := funext e
  rw [e2] <;> rfl
section
variable {h : HkX} {K : PySem.W.Frag}
theorem SaysX.d (c : SaysX h K) : He.SaysD h.fa h.fn K := congrArg (fun z : AlX => z.1) c
theorem SaysX.b (c : SaysX h K) : ((h.sx.all fun d => spOk h.file K d) && (h.ex.all (fun e => excB K e) && h.mm.all fun p => decide (PySem.W.exmOne K (.ref (He.ga K p.1)) (.ref (He.ga K p.2.1)) = some p.2.2))) = true := congrArg (fun z : AlX => z.2.1) c
theorem SaysX.sup (c : SaysX h K) {P : Program} (hP : P.main.file = h.file) (i : Nat) {d : SupD} (e : h.sx[i]? = some d := by rfl) : ∃ fd, SupG P K (He.ga K d.cls) (spAd K d.cls) d fd := by
  have b := (Bool.and_eq_true_iff.mp c.b).1
  have m : h.sx.map (fun d => spW K d.cls) = h.sx.map SupD.val := congrArg (fun z : AlX => z.2.2) c
  have m2 : (h.sx.map fun d => spW K d.cls)[i]? = (h.sx.map SupD.val)[i]? := by rw [m]
  rw [List.getElem?_map, List.getElem?_map, e] at m2
  refine spOk_ok ?_ (Option.some.inj m2)
  rw [hP]
  exact List.all_eq_true.mp b d (List.mem_of_getElem? e)
theorem SaysX.exc (c : SaysX h K) (i : Nat) {e : ExcF} (q : h.ex[i]? = some e := by rfl) : ExcG K (He.ga K e.cls) (He.ga K e.base) (spAd K e.cls) (spAd K e.base) ∧ PySem.W.nsIn K mainGlobals e.cls = some (some (.ref (He.ga K e.cls))) ∧ (e.cls = e.base ∨ PySem.W.ks_superIn K (He.ga K e.cls) (He.ga K e.cls) "__init__" = some (some (.ref (spAd K e.base)))) :=
  excB_ok (List.all_eq_true.mp (Bool.and_eq_true_iff.mp (Bool.and_eq_true_iff.mp c.b).2).1 e (List.mem_of_getElem? q))
theorem SaysX.exm (c : SaysX h K) (i : Nat) {p : Str × Str × Bool} (q : h.mm[i]? = some p := by rfl) : PySem.W.exmOne K (.ref (He.ga K p.1)) (.ref (He.ga K p.2.1)) = some p.2.2 :=
  of_decide_eq_true (List.all_eq_true.mp (Bool.and_eq_true_iff.mp (Bool.and_eq_true_iff.mp c.b).2).2 p (List.mem_of_getElem? q))
end
end DL

set_option Elab.async false
set_option linter.all false
set_option maxRecDepth 100000
set_option maxHeartbeats 2000000
namespace DL
open PySem PySem.Spec L2 PyProof.Rows
open Evl (Ex)

/-! ### the rules as the printer writes them -/
/-- what is known of a def that is called -/
structure Cal (P : Program) (w : World) (K : PySem.W.Frag) (mg : Str → Option Value) (base : Heap) (k : Nat) (x : Str) (ps : List Str) (sp : Sp) (dvs : List V) : Prop where
  ex : ∃ (f : Addr) (fd : FuncData) (ds : List Value), FnG P w K mg base k f fd ps sp ∧ mg x = some (.ref f) ∧ PySem.W.keepIn K (.ref f) = true ∧ Vals dvs ds ∧ Binds K fd ps ds
section
variable {X : Cx} {W : WX} {a b c e : Expr} {es : List Expr} {ma mb mc me : DE} {mas : DA} {p p' pos : Pos} {x : Str} {N : List Str}
theorem me_v (i : Nat) (hi : X.N[i]? = some x := by rfl) (hv : Vis X.env.scope x := by first | exact .inl rfl | exact .inr (.inl rfl) | exact .inr (.inr rfl)) (h1 : (x == ("__debug__" : Str)) = false := by decide +kernel) (h2 : (x == ("__classdict__" : Str)) = false := by decide +kernel) : ME X W (.Name x pos) (dVar i) := me_var hi hv h1 h2
theorem me_c {op : CmpOp} {m2 : D → D → MH → DK → Prop} (h : CmpD X op m2) (ha : ME X W a ma) (hb : ME X W b mb) (hm : behindInMarks op b = false := by with_unfolding_all rfl) : ME X W (.Compare a [op] [b] pos) (dOp m2 ma mb) := me_cmp h ha hb hm
theorem mt_c {op : CmpOp} {m2 : D → D → MH → DK → Prop} (h : CmpD X op m2) (ha : ME X W a ma) (hb : ME X W b mb) (hm : behindInMarks op b = false := by with_unfolding_all rfl) : MT X W (.Compare a [op] [b] pos) (dTestB (dOp m2 ma mb)) := mt_cmp h ha hb hm
theorem me_bt {mc : List D → MH → DK → Prop} (h : BltD X x mc) (hm : X.mg x = none) (ha : MA X W (e :: es) mas) (hg : Gl X x := by rfl) (hn : x ≠ "__name__" := by decide +kernel) (hdb : (x == ("__debug__" : Str)) = false := by decide +kernel)
    (he : starEach (e :: es) X.env = (false, eval e X.env) :: starEach es X.env := by rfl) (hpl : (backTo pos (starEach es X.env)).any (·.1) = false := by rfl) : ME X W (.Call (.Name x p) (e :: es) [] pos) (dCB mc mas) := me_blt h hg hm ha hn hdb he hpl
theorem boot_tys : ∀ n ∈ ["int", "bool", "tuple", "list", "str", "dict"], bootBuiltins n = some (.type n) := by
  have h : (["int", "bool", "tuple", "list", "str", "dict"].all fun n => decide (bootBuiltins n = some (.type n))) = true := by decide +kernel
  exact fun n hn => of_decide_eq_true (List.all_eq_true.mp h n hn)
theorem me_t (n : String) (hm : X.mg n = none) (hn : n ∈ ["int", "bool", "tuple", "list", "str", "dict"] := by decide) (hg : Gl X n := by rfl) (h1 : (PySem.Str.ofString n) ≠ "__name__" := by decide +kernel) (h2 : ((PySem.Str.ofString n) == ("__debug__" : Str)) = false := by decide +kernel) : ME X W (.Name n pos) (dC (.ty n)) := me_ty hg hm (boot_tys n hn) h1 h2
theorem me_cP {n k : Nat} {pf : PF} {fr : Bool} {ps : List Str} {dvs : List V} {dds : List D} (fz : Bool) (hC : Cal X.prog X.w X.K X.mg X.base k x ps (spP X.K n fr pf) dvs) (hr : RoomG k X.A) (tk : Takes X W) (ha : MA X W (e :: es) mas) (hdd : ∀ G, RelA X.K G [] dds dvs := by intro _; first | rfl | exact ⟨_, _, rfl, rfl, rfl⟩) (hg : Gl X x := by rfl)
    (hdb : (x == ("__debug__" : Str)) = false := by decide +kernel) (he : starEach (e :: es) X.env = (false, eval e X.env) :: starEach es X.env := by rfl) (hpl : (backTo pos (starEach es X.env)).any (·.1) = false := by rfl) : ME X W (.Call (.Name x p) (e :: es) [] pos) (dCallP n pf fr fz dds mas) := by
  obtain ⟨f, fd, ds, F, hm, hk, hd, hb⟩ := hC.ex
  exact me_callP fz F hr hm hk hb hd hdd tk ha hg hdb he hpl
theorem me_cP0 {n k : Nat} {pf : PF} {fr : Bool} {ps : List Str} {dvs : List V} {dds : List D} (fz : Bool) (hC : Cal X.prog X.w X.K X.mg X.base k x ps (spP X.K n fr pf) dvs) (hr : RoomG k X.A) (tk : Takes X W) (hdd : ∀ G, RelA X.K G [] dds dvs := by intro _; first | rfl | exact ⟨_, _, rfl, rfl, rfl⟩) (hg : Gl X x := by rfl)
    (hdb : (x == ("__debug__" : Str)) = false := by decide +kernel) : ME X W (.Call (.Name x p) [] [] pos) (dCallP n pf fr fz dds dNil) := by
  obtain ⟨f, fd, ds, F, hm, hk, hd, hb⟩ := hC.ex
  exact me_callP0 fz F hr hm hk hb hd hdd tk hg hdb
theorem me_cI {n k : Nat} {pf : IF} {fr : Bool} {ps : List Str} (fz : Bool) (hC : Cal X.prog X.w X.K X.mg X.base k x ps (spI X.K n fr pf) []) (hr : RoomG k X.A) (tk : Takes X W) (ha : ME X W a ma) (has : MA X W es mas) (hg : Gl X x := by rfl)
    (hdb : (x == ("__debug__" : Str)) = false := by decide +kernel) (he : starEach (a :: es) X.env = (false, eval a X.env) :: starEach es X.env := by rfl) (hpl : (backTo pos (starEach es X.env)).any (·.1) = false := by rfl) : ME X W (.Call (.Name x p) (a :: es) [] pos) (dCallI n pf fr fz ma mas) := by
  obtain ⟨f, fd, ds, F, hm, hk, hd, hb⟩ := hC.ex
  cases hd
  exact me_callI fz F hr hm hk hb tk ha has hg hdb he hpl
theorem ms_s (i : Nat) (hN : X.N.Nodup) (he : ME X W e me) (hi : X.N[i]? = some x := by rfl) (hx : Loc X.env.scope x := by first | exact .inl rfl | exact .inr rfl) (hs : swapsWith e (some (.Name x p)) pos.line X.env = pure false := by rfl)
    (hf : X.fn x = true ∨ X.env.scope.names.lookup x = some .local := by first | exact .inl rfl | exact .inr rfl) : MS X W (.Assign [.Name x p] e pos) (mSet i me) := ms_set hN hi hx he hs hf
theorem mg_n (i : Nat) (hN : X.N.Nodup) (hi : X.N[i]? = some x := by rfl) (hx : Loc X.env.scope x := by first | exact .inl rfl | exact .inr rfl) (hf : X.fn x = true ∨ X.env.scope.names.lookup x = some .local := by first | exact .inl rfl | exact .inr rfl) : MG X (.Name x pos) (.nm i) := mg_name hN hi hx hf
theorem ms_p {y : Str} {px py pt pt2 : Pos} {kt k2 : Nat} (i j : Nat) (hN : X.N.Nodup) (ha : MA X W [a, b] mas) (hc : X.calm = true := by rfl) (hi : X.N[i]? = some x := by rfl) (hj : X.N[j]? = some y := by rfl) (hij : i ≠ j := by decide) (hx : X.env.scope.names.lookup x = some .local := by rfl) (hy : X.env.scope.names.lookup y = some .local := by rfl)
    (hw : swappedStores [.Tuple [.Name x px, .Name y py] kt pt] (.Tuple [a, b] k2 pt2) X.env = pure (some [x, y]) := by rfl) (hs : swapsWithSole [.Tuple [.Name x px, .Name y py] kt pt] (.Tuple [a, b] k2 pt2) pos.line X.env = pure false := by rfl) :
    MS X W (.Assign [.Tuple [.Name x px, .Name y py] kt pt] (.Tuple [a, b] k2 pt2) pos) (mPar i j mas) := ms_par hc hN hi hj hij hx hy ha hw hs
theorem ms_lc {elt tg iter : Expr} {ifs : List Expr} {scope : Scope} {mi : DI} {pt : Pat} {mt : DT} {py spos : Pos} (fz : Bool) (i : Nat) (own : List (Str × Nat)) (hN : X.N.Nodup) (hi : MI X W tg iter mi)
    (hg : ∀ (s : Shared) (H : Hp) (C : Addr) (cl : List (Str × Addr)) (fp : List Addr), MG (X.blk s H scope (compEnvC scope cl C X.env) fp) tg pt) (ht : ∀ (s : Shared) (H : Hp) (C : Addr) (cl : List (Str × Addr)) (fp : List Addr), MTs (X.blk s H scope (compEnvC scope cl C X.env) fp) wF ifs mt)
    (he : ∀ (s : Shared) (H : Hp) (C : Addr) (cl : List (Str × Addr)) (fp : List Addr), ME (X.blk s H scope (compEnvC scope cl C X.env) fp) wF elt me) (hc : X.calm = true := by rfl) (ok : BlkOk X.N X.env.scope scope own := by exact blkOk_by (by kernel_rfl))
    (hy : X.N[i]? = some x := by rfl) (hyl : X.env.scope.names.lookup x = some .local := by rfl) (hsw : swapsWith (.ListComp elt [⟨tg, iter, ifs, 0⟩] scope pos) (some (.Name x py)) spos.line X.env = pure true := by exact sw_true rfl rfl rfl (by decide +kernel))
    (hv : ∀ i ∈ ixP pt, i ∈ own.map (·.2) := by decide) (hs : ∀ x, foldedSetIterable iter X.env x = pure x := by intro _; rfl) :
    MS X W (.Assign [.Name x py] (.ListComp elt [⟨tg, iter, ifs, 0⟩] scope pos) spos) (mSet i (dLc fz mi pt mt me (own.map (·.2)))) := ms_setLc fz hc hN hy hyl hsw hi ok hg ht he hv hs
theorem me_l {elt tg iter : Expr} {ifs : List Expr} {scope : Scope} {mi : DI} {pt : Pat} {mt : DT} (fz : Bool) (own : List (Str × Nat)) (hN : X.N.Nodup) (hi : MI X W tg iter mi)
    (hg : ∀ (s : Shared) (H : Hp) (C : Addr) (cl : List (Str × Addr)) (fp : List Addr), MG (X.blk s H scope (compEnvC scope cl C X.env) fp) tg pt) (ht : ∀ (s : Shared) (H : Hp) (C : Addr) (cl : List (Str × Addr)) (fp : List Addr), MTs (X.blk s H scope (compEnvC scope cl C X.env) fp) wF ifs mt)
    (he : ∀ (s : Shared) (H : Hp) (C : Addr) (cl : List (Str × Addr)) (fp : List Addr), ME (X.blk s H scope (compEnvC scope cl C X.env) fp) wF elt me) (hc : X.calm = true := by rfl) (ok : BlkOk X.N X.env.scope scope own := by exact blkOk_by (by kernel_rfl))
    (hv : ∀ i ∈ ixP pt, i ∈ own.map (·.2) := by decide) (hs : ∀ x, foldedSetIterable iter X.env x = pure x := by intro _; rfl) : ME X W (.ListComp elt [⟨tg, iter, ifs, 0⟩] scope pos) (dLc fz mi pt mt me (own.map (·.2))) := me_lc fz hc hN hi ok hg ht he hv hs
theorem me_xp {a C : Addr} {oe : Obj} {d : Option Addr} {pn : List (Addr × Obj)} (T : XP X.K C) (hz : Zc (.ref C) d oe) (hf : ∃ vs, oe.data = .fields vs) (he : ME (X.suite a ((a, oe) :: pn)) wF e me) (hb : attributeBase e "place" X.env (eval e X.env) = eval e X.env := by rfl) :
    ME (X.suite a ((a, oe) :: pn)) wF (.Attribute e "place" pos) (dXf "place" a C d me) := me_xf T.xf T.np hz hf he hb
theorem me_xw {a C : Addr} {oe : Obj} {d : Option Addr} {pn : List (Addr × Obj)} (T : XP X.K C) (hz : Zc (.ref C) d oe) (hf : ∃ vs, oe.data = .fields vs) (he : ME (X.suite a ((a, oe) :: pn)) wF e me) (hb : attributeBase e "word" X.env (eval e X.env) = eval e X.env := by rfl) :
    ME (X.suite a ((a, oe) :: pn)) wF (.Attribute e "word" pos) (dXf "word" a C d me) := me_xf T.xf T.nw hz hf he hb
theorem RoomG.at_ {j k : Nat} {A : Around} (h : RoomG k A) (l : j ≤ k := by decide) : RoomG j A := h.mono l
end

abbrev dLt : D → D → MH → DK → Prop := dCmpI fun i j => decide (i < j)
abbrev dLe : D → D → MH → DK → Prop := dCmpI fun i j => decide (i ≤ j)
abbrev dGt : D → D → MH → DK → Prop := dCmpI fun i j => decide (j < i)
abbrev dGe : D → D → MH → DK → Prop := dCmpI fun i j => decide (j ≤ i)
abbrev dFd : D → D → MH → DK → Prop := dI CFd fun i j => .int (i.fdiv j)
abbrev dMd : D → D → MH → DK → Prop := dI (fun _ j => j ≠ 0) fun i j => .int (i.fmod j)
abbrev dPw : D → D → MH → DK → Prop := dI CPow fun i j => .int (i ^ j.toNat)
end DL

set_option Elab.async false
set_option linter.all false
set_option maxRecDepth 100000
set_option maxHeartbeats 8000000
namespace K01
open PySem PySem.Spec PyProof.Rows L2 DL
abbrev P : Program := PySem.Challenge.rw_planecuts_k01_fractions.prog
def top (i : Nat) : Stmt := P.main.body.getD i (.Pass ⟨0, 0, 0, 0⟩)
def Sm (k : Nat) (i : Int) : Prop := i.natAbs < 2 ^ k
def rD (x : Rat) : D := .tup [.int x.num, .int x.den]
def SmR (k : Nat) (x : Rat) : Prop := Sm k x.num ∧ x.den < 2 ^ k
def pf_common : PF := fun ds R _ => ∃ a b : Int, ds = [.int a, .int b] ∧ R (.int (Int.gcd a b))
def pf_fraction : PF := fun ds R _ => ∃ a b : Int, ds = [.int a, .int b] ∧ b ≠ 0 ∧ Sm 4000 b ∧ R (rD (Rat.divInt a b))
def pf_plus : PF := fun ds R _ => ∃ x y : Rat, ds = [rD x, rD y] ∧ SmR 1000 x ∧ SmR 1000 y ∧ R (rD (x + y))
def pf_opposite_of : PF := fun ds R _ => ∃ x : Rat, ds = [rD x] ∧ R (rD (-x))
def pf_less : PF := fun ds R _ => ∃ x y : Rat, ds = [rD x, rD y] ∧ SmR 1000 x ∧ SmR 1000 y ∧ R (rD (x - y))
def pf_times : PF := fun ds R _ => ∃ x y : Rat, ds = [rD x, rD y] ∧ SmR 1000 x ∧ SmR 1000 y ∧ R (rD (x * y))
def pf_over (C : Addr) : PF := fun ds R RE => ∃ x y : Rat, ds = [rD x, rD y] ∧ SmR 1000 x ∧ SmR 1000 y ∧ (y = 0 → RE C .non "NothingThere") ∧ (y ≠ 0 → R (rD (x / y)))
def pf_sign_of : PF := fun ds R _ => ∃ x : Rat, ds = [rD x] ∧ R (.int (Int.sign x.num))
def pf_below : PF := fun ds R _ => ∃ x y : Rat, ds = [rD x, rD y] ∧ SmR 1000 x ∧ SmR 1000 y ∧ R (.bl (decide (x.num * y.den < y.num * x.den)))
def isInt : D → Bool
  | .int _ => true
  | _ => false
/-- what may be asked: whether it is a fraction -/
def okV : D → Bool
  | .tup ds => plainA ds
  | .lst ds => plainA ds
  | .int _ => true
  | .bl _ => true
  | .non => true
  | .str _ => true
  | _ => false
def isFr : D → Bool
  | .tup [.int a, .int b] => decide (0 < b ∧ Int.gcd a b = 1)
  | _ => false
def pf_is_integer : PF := fun ds R _ => ∃ d, ds = [d] ∧ okV d = true ∧ R (.bl (isInt d))
def okA : D → Bool
  | .tup ds => ds.all okV
  | d => okV d
def pf_is_fraction : PF := fun ds R _ => ∃ d, ds = [d] ∧ okA d = true ∧ R (.bl (isFr d))
def isPt : D → Int → Bool
  | .tup ds, n => decide ((ds.length : Int) = n) && ds.all isFr
  | _, _ => false
def okP : D → Bool
  | .tup ds => decide (ds.length ≤ 1000) && ds.all okA
  | d => okA d
def pf_is_point : PF := fun ds R _ => ∃ d n, ds = [d, .int n] ∧ okP d = true ∧ R (.bl (isPt d n))
def prim (qs : List Rat) : List Int :=
  let L : Int := qs.foldl (fun (s : Int) q => s.fdiv (Int.gcd s q.den) * q.den) 1
  let its := qs.map fun q => q.num * L.fdiv q.den
  let g : Int := its.foldl (fun (s : Int) i => Int.gcd s i) 0
  its.map fun i => i.fdiv g
def pf_primitive : PF := fun ds R _ => ∃ qs : List Rat, ds = [.lst (qs.map rD)] ∧ qs.length ≤ 40 ∧ (∀ x ∈ qs, SmR 110 x) ∧ (∃ x ∈ qs, x ≠ 0) ∧ R (.lst ((prim qs).map D.int))
/-- what may be compared and shown: depth n at most, b signs and items at most -/
structure Gd (n b : Nat) (d : D) : Prop where
  dat : d.dat = true
  lay : (py d).canLay0 = true
  dep : (py d).depth ≤ n
  sho : (py d).showable = true
  blk : (py d).bulk ≤ b
def pf__law_is : PF := fun ds R _ => ∃ d e, ds = [d, e] ∧ Gd 60 8000 d ∧ Gd 60 8000 e ∧ ((d = e ∧ R (.bl true)) ∨ ((py d).eqv (py e) = false ∧ R (.bl false)))
def pf__law_over : PF := fun ds R _ => ∃ x y : Rat, ds = [rD x, rD y] ∧ SmR 1000 x ∧ SmR 1000 y ∧ R (if y = 0 then .tup [.str "nothing", .non] else rD (x / y))
/-- a deck: held number, place, seed, script, count -/
def dk (h p s : Int) (ns : List Int) (c : Int) : List D := [.int h, .int p, .int s, .lst (ns.map D.int), .int c]
def Dk (ds : List D) : Prop := ∃ h p s ns c, ds = dk h p s ns c ∧ 0 ≤ p
def pf__law_deck : PF := fun ds R _ => ∃ ns : List Int, ds = [.scr (ns.map D.int)] ∧ ns.length ≤ 63 ∧ ∀ dk0, Dk dk0 → R (.lst dk0)
def pf__law_draw : IF := fun dk0 ds R => ∃ b : Int, ds = [.int b] ∧ 0 < b ∧ Sm 8000 b ∧ Dk dk0 ∧ ∀ v dk1, 0 ≤ v → v < b → Dk dk1 → R (.int v) dk1
def pf__law_number : IF := fun dk0 ds R => ds = [] ∧ Dk dk0 ∧ ∀ (v : Int) dk1, v.natAbs ≤ 10 ^ 30 → Dk dk1 → R (.int v) dk1
def pf_law : PF := fun ds R _ => ∃ ns : List Int, ds = [.scr (ns.map D.int)] ∧ ns.length ≤ 63 ∧ R (.bl true)
section
variable {w : World} {K : PySem.W.Frag} {mg : Str → Option Value} {base : Heap}
/-! ### read from the text -/
def bls : List String := ["abs", "all", "any", "bool", "int", "isinstance", "len", "list", "range", "repr", "tuple"]
abbrev st_common : Stmt := top 4
def N_common : List Str := ["a", "b"]
theorem scope_common : FnScope N_common ["a", "b"] (defScope st_common) := ⟨rfl, rfl, rfl, by decide +kernel, rfl, by decide +kernel, by decide +kernel⟩
def m_common : DS := mSeq (mPar 0 1 (dCons (dCB dAbs (dCons (dVar 0) (dNil))) (dCons (dCB dAbs (dCons (dVar 1) (dNil))) (dNil)))) (mSeq (mWhile (dTest (dVar 1)) (mPar 0 1 (dCons (dVar 1) (dCons (dOp dMd (dVar 0) (dVar 1)) (dNil))))) (mRet (dVar 0)))
theorem ms_common (ub : ∀ x ∈ bls, mg (PySem.Str.ofString x) = none) (f : Addr) (cdv : Value) (A : Around) (outer : List Env) (s : Shared) (H : Hp) (E : XK) (hr : RoomG 0 (A.deeper (envOfC "common" (defScope st_common) s.heap.objs.size f cdv))) :
    MSs (cxOf (L2.CX P w) P w K mg base N_common "common" (defScope st_common) f cdv A outer s H E) (fun cls d _ H => E cls d H) (defBody st_common) (m_common) :=
  mss_cons (ms_p 0 1 scope_common.nd (ma_cons (me_bt bl_abs (ub _ (by decide)) (ma_cons (me_v 0) (ma_nil))) (ma_cons (me_bt bl_abs (ub _ (by decide)) (ma_cons (me_v 1) (ma_nil))) (ma_nil)))) (mss_cons (ms_while (passes_of rfl) (mt_val (me_v 1)) (mss_one (ms_p 0 1 scope_common.nd (ma_cons (me_v 1) (ma_cons (me_mod (me_v 0) (me_v 1)) (ma_nil)))))) (mss_one (ms_ret (me_v 0))))
theorem cal_common {f : Addr} {fd : FuncData} (Dd : FunD K "common" "common" (defArgs st_common) (defBody st_common) (defScope st_common) [] [] f fd) (hm : mg "common" = some (.ref f)) (ub : ∀ x ∈ bls, mg (PySem.Str.ofString x) = none) (hs : specP 2 N_common.length false (m_common) pf_common) : Cal P w K mg base 1 "common" ["a", "b"] (spP K 2 false pf_common) [] :=
  ⟨f, fd, [], fnP_of Dd scope_common 2 rfl pf_common false (fun cdv A outer s H E hr => ms_common ub f cdv A outer s H E hr) hs, hm, Dd.kp, .nil, Dd.bindsN fun _ _ _ _ _ _ us hl => match us, hl with | [_, _], _ => rfl⟩
abbrev st_fraction : Stmt := top 5
def N_fraction : List Str := ["a", "b", "shared"]
theorem scope_fraction : FnScope N_fraction ["a", "b"] (defScope st_fraction) := ⟨rfl, rfl, rfl, by decide +kernel, rfl, by decide +kernel, by decide +kernel⟩
def m_fraction : DS := mSeq (mSet 2 (dCallP 2 pf_common false true [] (dCons (dVar 0) (dCons (dVar 1) (dNil))))) (mSeq (mIf (dTestB (dOp dLt (dVar 1) (dC (.int 0)))) (mSet 2 (dUn dNeg (dVar 2))) (mNext)) (mRet (dTup (dCons (dOp dFd (dVar 0) (dVar 2)) (dCons (dOp dFd (dVar 1) (dVar 2)) (dNil))))))
theorem ms_fraction (ub : ∀ x ∈ bls, mg (PySem.Str.ofString x) = none) (c_common : Cal P w K mg base 1 "common" ["a", "b"] (spP K 2 false pf_common) []) (f : Addr) (cdv : Value) (A : Around) (outer : List Env) (s : Shared) (H : Hp) (E : XK) (hr : RoomG 1 (A.deeper (envOfC "fraction" (defScope st_fraction) s.heap.objs.size f cdv))) :
    MSs (cxOf (L2.CX P w) P w K mg base N_fraction "fraction" (defScope st_fraction) f cdv A outer s H E) (fun cls d _ H => E cls d H) (defBody st_fraction) (m_fraction) :=
  mss_cons (ms_s 2 scope_fraction.nd (me_cP true c_common hr.at_ (takes_of rfl rfl rfl rfl) (ma_cons (me_v 0) (ma_cons (me_v 1) (ma_nil))))) (mss_cons (ms_if (mt_c cd_lt (me_v 1) (me_int)) (mss_one (ms_s 2 scope_fraction.nd (me_neg (me_v 2)))) (mss_nil)) (mss_one (ms_ret (me_tup (ma_cons (me_fdiv (me_v 0) (me_v 2)) (ma_cons (me_fdiv (me_v 1) (me_v 2)) (ma_nil)))))))
theorem cal_fraction {f : Addr} {fd : FuncData} (Dd : FunD K "fraction" "fraction" (defArgs st_fraction) (defBody st_fraction) (defScope st_fraction) [] [] f fd) (hm : mg "fraction" = some (.ref f)) (ub : ∀ x ∈ bls, mg (PySem.Str.ofString x) = none) (c_common : Cal P w K mg base 1 "common" ["a", "b"] (spP K 2 false pf_common) []) (hs : specP 2 N_fraction.length false (m_fraction) pf_fraction) : Cal P w K mg base 2 "fraction" ["a", "b"] (spP K 2 false pf_fraction) [] :=
  ⟨f, fd, [], fnP_of Dd scope_fraction 2 rfl pf_fraction false (fun cdv A outer s H E hr => ms_fraction ub c_common f cdv A outer s H E hr) hs, hm, Dd.kp, .nil, Dd.bindsN fun _ _ _ _ _ _ us hl => match us, hl with | [_, _], _ => rfl⟩
abbrev st_plus : Stmt := top 6
def N_plus : List Str := ["x", "y"]
theorem scope_plus : FnScope N_plus ["x", "y"] (defScope st_plus) := ⟨rfl, rfl, rfl, by decide +kernel, rfl, by decide +kernel, by decide +kernel⟩
def m_plus : DS := mRet (dCallP 2 pf_fraction false true [] (dCons (dOp (dAdd true) (dOp (dMul true) (dOp dIx (dVar 0) (dC (.int 0))) (dOp dIx (dVar 1) (dC (.int 1)))) (dOp (dMul true) (dOp dIx (dVar 1) (dC (.int 0))) (dOp dIx (dVar 0) (dC (.int 1))))) (dCons (dOp (dMul true) (dOp dIx (dVar 0) (dC (.int 1))) (dOp dIx (dVar 1) (dC (.int 1)))) (dNil))))
theorem ms_plus (ub : ∀ x ∈ bls, mg (PySem.Str.ofString x) = none) (c_fraction : Cal P w K mg base 2 "fraction" ["a", "b"] (spP K 2 false pf_fraction) []) (f : Addr) (cdv : Value) (A : Around) (outer : List Env) (s : Shared) (H : Hp) (E : XK) (hr : RoomG 2 (A.deeper (envOfC "plus" (defScope st_plus) s.heap.objs.size f cdv))) :
    MSs (cxOf (L2.CX P w) P w K mg base N_plus "plus" (defScope st_plus) f cdv A outer s H E) (fun cls d _ H => E cls d H) (defBody st_plus) (m_plus) :=
  mss_one (ms_ret (me_cP true c_fraction hr.at_ (takes_of rfl rfl rfl rfl) (ma_cons (me_add true (me_mul true (me_ix (me_v 0) (me_int)) (me_ix (me_v 1) (me_int))) (me_mul true (me_ix (me_v 1) (me_int)) (me_ix (me_v 0) (me_int)))) (ma_cons (me_mul true (me_ix (me_v 0) (me_int)) (me_ix (me_v 1) (me_int))) (ma_nil)))))
theorem cal_plus {f : Addr} {fd : FuncData} (Dd : FunD K "plus" "plus" (defArgs st_plus) (defBody st_plus) (defScope st_plus) [] [] f fd) (hm : mg "plus" = some (.ref f)) (ub : ∀ x ∈ bls, mg (PySem.Str.ofString x) = none) (c_fraction : Cal P w K mg base 2 "fraction" ["a", "b"] (spP K 2 false pf_fraction) []) (hs : specP 2 N_plus.length false (m_plus) pf_plus) : Cal P w K mg base 3 "plus" ["x", "y"] (spP K 2 false pf_plus) [] :=
  ⟨f, fd, [], fnP_of Dd scope_plus 2 rfl pf_plus false (fun cdv A outer s H E hr => ms_plus ub c_fraction f cdv A outer s H E hr) hs, hm, Dd.kp, .nil, Dd.bindsN fun _ _ _ _ _ _ us hl => match us, hl with | [_, _], _ => rfl⟩
abbrev st_opposite_of : Stmt := top 7
def N_opposite_of : List Str := ["x"]
theorem scope_opposite_of : FnScope N_opposite_of ["x"] (defScope st_opposite_of) := ⟨rfl, rfl, rfl, by decide +kernel, rfl, by decide +kernel, by decide +kernel⟩
def m_opposite_of : DS := mRet (dTup (dCons (dUn dNeg (dOp dIx (dVar 0) (dC (.int 0)))) (dCons (dOp dIx (dVar 0) (dC (.int 1))) (dNil))))
theorem ms_opposite_of (ub : ∀ x ∈ bls, mg (PySem.Str.ofString x) = none) (f : Addr) (cdv : Value) (A : Around) (outer : List Env) (s : Shared) (H : Hp) (E : XK) (hr : RoomG 0 (A.deeper (envOfC "opposite_of" (defScope st_opposite_of) s.heap.objs.size f cdv))) :
    MSs (cxOf (L2.CX P w) P w K mg base N_opposite_of "opposite_of" (defScope st_opposite_of) f cdv A outer s H E) (fun cls d _ H => E cls d H) (defBody st_opposite_of) (m_opposite_of) :=
  mss_one (ms_ret (me_tup (ma_cons (me_neg (me_ix (me_v 0) (me_int))) (ma_cons (me_ix (me_v 0) (me_int)) (ma_nil)))))
theorem cal_opposite_of {f : Addr} {fd : FuncData} (Dd : FunD K "opposite_of" "opposite_of" (defArgs st_opposite_of) (defBody st_opposite_of) (defScope st_opposite_of) [] [] f fd) (hm : mg "opposite_of" = some (.ref f)) (ub : ∀ x ∈ bls, mg (PySem.Str.ofString x) = none) (hs : specP 1 N_opposite_of.length false (m_opposite_of) pf_opposite_of) : Cal P w K mg base 1 "opposite_of" ["x"] (spP K 1 false pf_opposite_of) [] :=
  ⟨f, fd, [], fnP_of Dd scope_opposite_of 1 rfl pf_opposite_of false (fun cdv A outer s H E hr => ms_opposite_of ub f cdv A outer s H E hr) hs, hm, Dd.kp, .nil, Dd.bindsN fun _ _ _ _ _ _ us hl => match us, hl with | [_], _ => rfl⟩
abbrev st_less : Stmt := top 8
def N_less : List Str := ["x", "y"]
theorem scope_less : FnScope N_less ["x", "y"] (defScope st_less) := ⟨rfl, rfl, rfl, by decide +kernel, rfl, by decide +kernel, by decide +kernel⟩
def m_less : DS := mRet (dCallP 2 pf_plus false true [] (dCons (dVar 0) (dCons (dCallP 1 pf_opposite_of false true [] (dCons (dVar 1) (dNil))) (dNil))))
theorem ms_less (ub : ∀ x ∈ bls, mg (PySem.Str.ofString x) = none) (c_plus : Cal P w K mg base 3 "plus" ["x", "y"] (spP K 2 false pf_plus) []) (c_opposite_of : Cal P w K mg base 1 "opposite_of" ["x"] (spP K 1 false pf_opposite_of) []) (f : Addr) (cdv : Value) (A : Around) (outer : List Env) (s : Shared) (H : Hp) (E : XK) (hr : RoomG 3 (A.deeper (envOfC "less" (defScope st_less) s.heap.objs.size f cdv))) :
    MSs (cxOf (L2.CX P w) P w K mg base N_less "less" (defScope st_less) f cdv A outer s H E) (fun cls d _ H => E cls d H) (defBody st_less) (m_less) :=
  mss_one (ms_ret (me_cP true c_plus hr.at_ (takes_of rfl rfl rfl rfl) (ma_cons (me_v 0) (ma_cons (me_cP true c_opposite_of hr.at_ (takes_of rfl rfl rfl rfl) (ma_cons (me_v 1) (ma_nil))) (ma_nil)))))
theorem cal_less {f : Addr} {fd : FuncData} (Dd : FunD K "less" "less" (defArgs st_less) (defBody st_less) (defScope st_less) [] [] f fd) (hm : mg "less" = some (.ref f)) (ub : ∀ x ∈ bls, mg (PySem.Str.ofString x) = none) (c_plus : Cal P w K mg base 3 "plus" ["x", "y"] (spP K 2 false pf_plus) []) (c_opposite_of : Cal P w K mg base 1 "opposite_of" ["x"] (spP K 1 false pf_opposite_of) []) (hs : specP 2 N_less.length false (m_less) pf_less) : Cal P w K mg base 4 "less" ["x", "y"] (spP K 2 false pf_less) [] :=
  ⟨f, fd, [], fnP_of Dd scope_less 2 rfl pf_less false (fun cdv A outer s H E hr => ms_less ub c_plus c_opposite_of f cdv A outer s H E hr) hs, hm, Dd.kp, .nil, Dd.bindsN fun _ _ _ _ _ _ us hl => match us, hl with | [_, _], _ => rfl⟩
abbrev st_times : Stmt := top 9
def N_times : List Str := ["x", "y"]
theorem scope_times : FnScope N_times ["x", "y"] (defScope st_times) := ⟨rfl, rfl, rfl, by decide +kernel, rfl, by decide +kernel, by decide +kernel⟩
def m_times : DS := mRet (dCallP 2 pf_fraction false true [] (dCons (dOp (dMul true) (dOp dIx (dVar 0) (dC (.int 0))) (dOp dIx (dVar 1) (dC (.int 0)))) (dCons (dOp (dMul true) (dOp dIx (dVar 0) (dC (.int 1))) (dOp dIx (dVar 1) (dC (.int 1)))) (dNil))))
theorem ms_times (ub : ∀ x ∈ bls, mg (PySem.Str.ofString x) = none) (c_fraction : Cal P w K mg base 2 "fraction" ["a", "b"] (spP K 2 false pf_fraction) []) (f : Addr) (cdv : Value) (A : Around) (outer : List Env) (s : Shared) (H : Hp) (E : XK) (hr : RoomG 2 (A.deeper (envOfC "times" (defScope st_times) s.heap.objs.size f cdv))) :
    MSs (cxOf (L2.CX P w) P w K mg base N_times "times" (defScope st_times) f cdv A outer s H E) (fun cls d _ H => E cls d H) (defBody st_times) (m_times) :=
  mss_one (ms_ret (me_cP true c_fraction hr.at_ (takes_of rfl rfl rfl rfl) (ma_cons (me_mul true (me_ix (me_v 0) (me_int)) (me_ix (me_v 1) (me_int))) (ma_cons (me_mul true (me_ix (me_v 0) (me_int)) (me_ix (me_v 1) (me_int))) (ma_nil)))))
theorem cal_times {f : Addr} {fd : FuncData} (Dd : FunD K "times" "times" (defArgs st_times) (defBody st_times) (defScope st_times) [] [] f fd) (hm : mg "times" = some (.ref f)) (ub : ∀ x ∈ bls, mg (PySem.Str.ofString x) = none) (c_fraction : Cal P w K mg base 2 "fraction" ["a", "b"] (spP K 2 false pf_fraction) []) (hs : specP 2 N_times.length false (m_times) pf_times) : Cal P w K mg base 3 "times" ["x", "y"] (spP K 2 false pf_times) [] :=
  ⟨f, fd, [], fnP_of Dd scope_times 2 rfl pf_times false (fun cdv A outer s H E hr => ms_times ub c_fraction f cdv A outer s H E hr) hs, hm, Dd.kp, .nil, Dd.bindsN fun _ _ _ _ _ _ us hl => match us, hl with | [_, _], _ => rfl⟩
abbrev st_over : Stmt := top 10
def N_over : List Str := ["x", "y"]
theorem scope_over : FnScope N_over ["x", "y"] (defScope st_over) := ⟨rfl, rfl, rfl, by decide +kernel, rfl, by decide +kernel, by decide +kernel⟩
def m_over  (C_NothingThere : Addr) : DS := mSeq (mIf (dTestB (dOp dEq (dOp dIx (dVar 1) (dC (.int 0))) (dC (.int 0)))) (mRaise C_NothingThere "NothingThere" dNil) (mNext)) (mRet (dCallP 2 pf_fraction false true [] (dCons (dOp (dMul true) (dOp dIx (dVar 0) (dC (.int 0))) (dOp dIx (dVar 1) (dC (.int 1)))) (dCons (dOp (dMul true) (dOp dIx (dVar 0) (dC (.int 1))) (dOp dIx (dVar 1) (dC (.int 0)))) (dNil)))))
theorem ms_over {C_NothingThere : Addr} (ub : ∀ x ∈ bls, mg (PySem.Str.ofString x) = none) (c_fraction : Cal P w K mg base 2 "fraction" ["a", "b"] (spP K 2 false pf_fraction) []) (k_NothingThere : MkC P w K mg base C_NothingThere "NothingThere") (g_NothingThere : mg "NothingThere" = some (.ref C_NothingThere)) (f : Addr) (cdv : Value) (A : Around) (outer : List Env) (s : Shared) (H : Hp) (E : XK) (hr : RoomG 2 (A.deeper (envOfC "over" (defScope st_over) s.heap.objs.size f cdv))) :
    MSs (cxOf (L2.CX P w) P w K mg base N_over "over" (defScope st_over) f cdv A outer s H E) (fun cls d _ H => E cls d H) (defBody st_over) (m_over C_NothingThere) :=
  mss_cons (ms_if (mt_c (cd_eq hr.u64) (me_ix (me_v 1) (me_int)) (me_int)) (mss_one (ms_raise0 rfl (takes_of rfl rfl rfl rfl) k_NothingThere hr.d3 g_NothingThere)) (mss_nil)) (mss_one (ms_ret (me_cP true c_fraction hr.at_ (takes_of rfl rfl rfl rfl) (ma_cons (me_mul true (me_ix (me_v 0) (me_int)) (me_ix (me_v 1) (me_int))) (ma_cons (me_mul true (me_ix (me_v 0) (me_int)) (me_ix (me_v 1) (me_int))) (ma_nil))))))
theorem cal_over {C_NothingThere : Addr} {f : Addr} {fd : FuncData} (Dd : FunD K "over" "over" (defArgs st_over) (defBody st_over) (defScope st_over) [] [] f fd) (hm : mg "over" = some (.ref f)) (ub : ∀ x ∈ bls, mg (PySem.Str.ofString x) = none) (c_fraction : Cal P w K mg base 2 "fraction" ["a", "b"] (spP K 2 false pf_fraction) []) (k_NothingThere : MkC P w K mg base C_NothingThere "NothingThere") (g_NothingThere : mg "NothingThere" = some (.ref C_NothingThere)) (hs : specP 2 N_over.length false (m_over C_NothingThere) (pf_over C_NothingThere)) : Cal P w K mg base 3 "over" ["x", "y"] (spP K 2 false (pf_over C_NothingThere)) [] :=
  ⟨f, fd, [], fnP_of Dd scope_over 2 rfl (pf_over C_NothingThere) false (fun cdv A outer s H E hr => ms_over ub c_fraction k_NothingThere g_NothingThere f cdv A outer s H E hr) hs, hm, Dd.kp, .nil, Dd.bindsN fun _ _ _ _ _ _ us hl => match us, hl with | [_, _], _ => rfl⟩
abbrev st_sign_of : Stmt := top 11
def N_sign_of : List Str := ["x"]
theorem scope_sign_of : FnScope N_sign_of ["x"] (defScope st_sign_of) := ⟨rfl, rfl, rfl, by decide +kernel, rfl, by decide +kernel, by decide +kernel⟩
def m_sign_of : DS := mRet (dOp dSub (dOp dGt (dOp dIx (dVar 0) (dC (.int 0))) (dC (.int 0))) (dOp dLt (dOp dIx (dVar 0) (dC (.int 0))) (dC (.int 0))))
theorem ms_sign_of (ub : ∀ x ∈ bls, mg (PySem.Str.ofString x) = none) (f : Addr) (cdv : Value) (A : Around) (outer : List Env) (s : Shared) (H : Hp) (E : XK) (hr : RoomG 0 (A.deeper (envOfC "sign_of" (defScope st_sign_of) s.heap.objs.size f cdv))) :
    MSs (cxOf (L2.CX P w) P w K mg base N_sign_of "sign_of" (defScope st_sign_of) f cdv A outer s H E) (fun cls d _ H => E cls d H) (defBody st_sign_of) (m_sign_of) :=
  mss_one (ms_ret (me_sub (me_c cd_gt (me_ix (me_v 0) (me_int)) (me_int)) (me_c cd_lt (me_ix (me_v 0) (me_int)) (me_int))))
theorem cal_sign_of {f : Addr} {fd : FuncData} (Dd : FunD K "sign_of" "sign_of" (defArgs st_sign_of) (defBody st_sign_of) (defScope st_sign_of) [] [] f fd) (hm : mg "sign_of" = some (.ref f)) (ub : ∀ x ∈ bls, mg (PySem.Str.ofString x) = none) (hs : specP 1 N_sign_of.length false (m_sign_of) pf_sign_of) : Cal P w K mg base 1 "sign_of" ["x"] (spP K 1 false pf_sign_of) [] :=
  ⟨f, fd, [], fnP_of Dd scope_sign_of 1 rfl pf_sign_of false (fun cdv A outer s H E hr => ms_sign_of ub f cdv A outer s H E hr) hs, hm, Dd.kp, .nil, Dd.bindsN fun _ _ _ _ _ _ us hl => match us, hl with | [_], _ => rfl⟩
abbrev st_below : Stmt := top 12
def N_below : List Str := ["x", "y"]
theorem scope_below : FnScope N_below ["x", "y"] (defScope st_below) := ⟨rfl, rfl, rfl, by decide +kernel, rfl, by decide +kernel, by decide +kernel⟩
def m_below : DS := mRet (dOp dLt (dOp (dMul true) (dOp dIx (dVar 0) (dC (.int 0))) (dOp dIx (dVar 1) (dC (.int 1)))) (dOp (dMul true) (dOp dIx (dVar 1) (dC (.int 0))) (dOp dIx (dVar 0) (dC (.int 1)))))
theorem ms_below (ub : ∀ x ∈ bls, mg (PySem.Str.ofString x) = none) (f : Addr) (cdv : Value) (A : Around) (outer : List Env) (s : Shared) (H : Hp) (E : XK) (hr : RoomG 0 (A.deeper (envOfC "below" (defScope st_below) s.heap.objs.size f cdv))) :
    MSs (cxOf (L2.CX P w) P w K mg base N_below "below" (defScope st_below) f cdv A outer s H E) (fun cls d _ H => E cls d H) (defBody st_below) (m_below) :=
  mss_one (ms_ret (me_c cd_lt (me_mul true (me_ix (me_v 0) (me_int)) (me_ix (me_v 1) (me_int))) (me_mul true (me_ix (me_v 1) (me_int)) (me_ix (me_v 0) (me_int)))))
theorem cal_below {f : Addr} {fd : FuncData} (Dd : FunD K "below" "below" (defArgs st_below) (defBody st_below) (defScope st_below) [] [] f fd) (hm : mg "below" = some (.ref f)) (ub : ∀ x ∈ bls, mg (PySem.Str.ofString x) = none) (hs : specP 2 N_below.length false (m_below) pf_below) : Cal P w K mg base 1 "below" ["x", "y"] (spP K 2 false pf_below) [] :=
  ⟨f, fd, [], fnP_of Dd scope_below 2 rfl pf_below false (fun cdv A outer s H E hr => ms_below ub f cdv A outer s H E hr) hs, hm, Dd.kp, .nil, Dd.bindsN fun _ _ _ _ _ _ us hl => match us, hl with | [_, _], _ => rfl⟩
abbrev st_is_integer : Stmt := top 13
def N_is_integer : List Str := ["value"]
theorem scope_is_integer : FnScope N_is_integer ["value"] (defScope st_is_integer) := ⟨rfl, rfl, rfl, by decide +kernel, rfl, by decide +kernel, by decide +kernel⟩
def m_is_integer : DS := mRet (dAndV (dCB dIsi (dCons (dVar 0) (dCons (dC (.ty "int")) (dNil)))) (dNotV (dCB dIsi (dCons (dVar 0) (dCons (dC (.ty "bool")) (dNil))))))
theorem ms_is_integer (ub : ∀ x ∈ bls, mg (PySem.Str.ofString x) = none) (f : Addr) (cdv : Value) (A : Around) (outer : List Env) (s : Shared) (H : Hp) (E : XK) (hr : RoomG 0 (A.deeper (envOfC "is_integer" (defScope st_is_integer) s.heap.objs.size f cdv))) :
    MSs (cxOf (L2.CX P w) P w K mg base N_is_integer "is_integer" (defScope st_is_integer) f cdv A outer s H E) (fun cls d _ H => E cls d H) (defBody st_is_integer) (m_is_integer) :=
  mss_one (ms_ret (me_and (me_bt bl_isi (ub _ (by decide)) (ma_cons (me_v 0) (ma_cons (me_t "int" (ub _ (by decide))) (ma_nil)))) (me_one (me_not (me_bt bl_isi (ub _ (by decide)) (ma_cons (me_v 0) (ma_cons (me_t "bool" (ub _ (by decide))) (ma_nil))))))))
theorem cal_is_integer {f : Addr} {fd : FuncData} (Dd : FunD K "is_integer" "is_integer" (defArgs st_is_integer) (defBody st_is_integer) (defScope st_is_integer) [] [] f fd) (hm : mg "is_integer" = some (.ref f)) (ub : ∀ x ∈ bls, mg (PySem.Str.ofString x) = none) (hs : specP 1 N_is_integer.length false (m_is_integer) pf_is_integer) : Cal P w K mg base 1 "is_integer" ["value"] (spP K 1 false pf_is_integer) [] :=
  ⟨f, fd, [], fnP_of Dd scope_is_integer 1 rfl pf_is_integer false (fun cdv A outer s H E hr => ms_is_integer ub f cdv A outer s H E hr) hs, hm, Dd.kp, .nil, Dd.bindsN fun _ _ _ _ _ _ us hl => match us, hl with | [_], _ => rfl⟩
abbrev st_is_fraction : Stmt := top 14
def N_is_fraction : List Str := ["value"]
theorem scope_is_fraction : FnScope N_is_fraction ["value"] (defScope st_is_fraction) := ⟨rfl, rfl, rfl, by decide +kernel, rfl, by decide +kernel, by decide +kernel⟩
def m_is_fraction : DS := mSeq (mIf (dOr (dNot (dTest (dCB dIsi (dCons (dVar 0) (dCons (dC (.ty "tuple")) (dNil)))))) (dOr (dTestB (dOp dNe (dCB dLen (dCons (dVar 0) (dNil))) (dC (.int 2)))) (dOr (dNot (dTest (dCallP 1 pf_is_integer false true [] (dCons (dOp dIx (dVar 0) (dC (.int 0))) (dNil))))) (dNot (dTest (dCallP 1 pf_is_integer false true [] (dCons (dOp dIx (dVar 0) (dC (.int 1))) (dNil)))))))) (mRet (dC (.bl false))) (mNext)) (mRet (dAndV (dOp dGt (dOp dIx (dVar 0) (dC (.int 1))) (dC (.int 0))) (dOp dEq (dCallP 2 pf_common false true [] (dCons (dOp dIx (dVar 0) (dC (.int 0))) (dCons (dOp dIx (dVar 0) (dC (.int 1))) (dNil)))) (dC (.int 1)))))
theorem ms_is_fraction (ub : ∀ x ∈ bls, mg (PySem.Str.ofString x) = none) (c_common : Cal P w K mg base 1 "common" ["a", "b"] (spP K 2 false pf_common) []) (c_is_integer : Cal P w K mg base 1 "is_integer" ["value"] (spP K 1 false pf_is_integer) []) (f : Addr) (cdv : Value) (A : Around) (outer : List Env) (s : Shared) (H : Hp) (E : XK) (hr : RoomG 1 (A.deeper (envOfC "is_fraction" (defScope st_is_fraction) s.heap.objs.size f cdv))) :
    MSs (cxOf (L2.CX P w) P w K mg base N_is_fraction "is_fraction" (defScope st_is_fraction) f cdv A outer s H E) (fun cls d _ H => E cls d H) (defBody st_is_fraction) (m_is_fraction) :=
  mss_cons (ms_if (MW.mt (mw_or (mt_not (mt_val (me_bt bl_isi (ub _ (by decide)) (ma_cons (me_v 0) (ma_cons (me_t "tuple" (ub _ (by decide))) (ma_nil)))))) (mw_or (mt_c (cd_ne hr.u64) (me_bt bl_len (ub _ (by decide)) (ma_cons (me_v 0) (ma_nil))) (me_int)) (mw_or (mt_not (mt_val (me_cP true c_is_integer hr.at_ (takes_of rfl rfl rfl rfl) (ma_cons (me_ix (me_v 0) (me_int)) (ma_nil))))) (mw_or1 (mt_not (mt_val (me_cP true c_is_integer hr.at_ (takes_of rfl rfl rfl rfl) (ma_cons (me_ix (me_v 0) (me_int)) (ma_nil)))))))))) (mss_one (ms_ret (me_bl))) (mss_nil)) (mss_one (ms_ret (me_and (me_c cd_gt (me_ix (me_v 0) (me_int)) (me_int)) (me_one (me_c (cd_eq hr.u64) (me_cP true c_common hr.at_ (takes_of rfl rfl rfl rfl) (ma_cons (me_ix (me_v 0) (me_int)) (ma_cons (me_ix (me_v 0) (me_int)) (ma_nil)))) (me_int))))))
theorem cal_is_fraction {f : Addr} {fd : FuncData} (Dd : FunD K "is_fraction" "is_fraction" (defArgs st_is_fraction) (defBody st_is_fraction) (defScope st_is_fraction) [] [] f fd) (hm : mg "is_fraction" = some (.ref f)) (ub : ∀ x ∈ bls, mg (PySem.Str.ofString x) = none) (c_common : Cal P w K mg base 1 "common" ["a", "b"] (spP K 2 false pf_common) []) (c_is_integer : Cal P w K mg base 1 "is_integer" ["value"] (spP K 1 false pf_is_integer) []) (hs : specP 1 N_is_fraction.length false (m_is_fraction) pf_is_fraction) : Cal P w K mg base 2 "is_fraction" ["value"] (spP K 1 false pf_is_fraction) [] :=
  ⟨f, fd, [], fnP_of Dd scope_is_fraction 1 rfl pf_is_fraction false (fun cdv A outer s H E hr => ms_is_fraction ub c_common c_is_integer f cdv A outer s H E hr) hs, hm, Dd.kp, .nil, Dd.bindsN fun _ _ _ _ _ _ us hl => match us, hl with | [_], _ => rfl⟩
abbrev st_is_point : Stmt := top 15
def N_is_point : List Str := ["value", "n", "item"]
theorem scope_is_point : FnScope N_is_point ["value", "n"] (defScope st_is_point) := ⟨rfl, rfl, rfl, by decide +kernel, rfl, by decide +kernel, by decide +kernel⟩
def m_is_point : DS := mRet (dAndV (dCB dIsi (dCons (dVar 0) (dCons (dC (.ty "tuple")) (dNil)))) (dAndV (dOp dEq (dCB dLen (dCons (dVar 0) (dNil))) (dVar 1)) (dCB (dAny true) (dCons (dLc true (dSeq (dVar 0)) (.nm 2) (tYesD) (dCallP 1 pf_is_fraction false true [] (dCons (dVar 2) (dNil))) [2]) (dNil)))))
theorem ms_is_point (ub : ∀ x ∈ bls, mg (PySem.Str.ofString x) = none) (c_is_fraction : Cal P w K mg base 2 "is_fraction" ["value"] (spP K 1 false pf_is_fraction) []) (f : Addr) (cdv : Value) (A : Around) (outer : List Env) (s : Shared) (H : Hp) (E : XK) (hr : RoomG 2 (A.deeper (envOfC "is_point" (defScope st_is_point) s.heap.objs.size f cdv))) :
    MSs (cxOf (L2.CX P w) P w K mg base N_is_point "is_point" (defScope st_is_point) f cdv A outer s H E) (fun cls d _ H => E cls d H) (defBody st_is_point) (m_is_point) :=
  mss_one (ms_ret (me_and (me_bt bl_isi (ub _ (by decide)) (ma_cons (me_v 0) (ma_cons (me_t "tuple" (ub _ (by decide))) (ma_nil)))) (me_and (me_c (cd_eq hr.u64) (me_bt bl_len (ub _ (by decide)) (ma_cons (me_v 0) (ma_nil))) (me_v 1)) (me_one (me_bt (bl_all rfl) (ub _ (by decide)) (ma_cons (me_l true [("item", 2)] scope_is_point.nd (mi_seq (me_v 0)) (fun _ _ _ _ _ => mg_n 2 scope_is_point.nd) (fun _ _ _ _ _ => mts_nil) (fun _ _ _ _ _ => me_cP true c_is_fraction hr.at_ takesF (ma_cons (me_v 2) (ma_nil)))) (ma_nil)))))))
theorem cal_is_point {f : Addr} {fd : FuncData} (Dd : FunD K "is_point" "is_point" (defArgs st_is_point) (defBody st_is_point) (defScope st_is_point) [] [] f fd) (hm : mg "is_point" = some (.ref f)) (ub : ∀ x ∈ bls, mg (PySem.Str.ofString x) = none) (c_is_fraction : Cal P w K mg base 2 "is_fraction" ["value"] (spP K 1 false pf_is_fraction) []) (hs : specP 2 N_is_point.length false (m_is_point) pf_is_point) : Cal P w K mg base 3 "is_point" ["value", "n"] (spP K 2 false pf_is_point) [] :=
  ⟨f, fd, [], fnP_of Dd scope_is_point 2 rfl pf_is_point false (fun cdv A outer s H E hr => ms_is_point ub c_is_fraction f cdv A outer s H E hr) hs, hm, Dd.kp, .nil, Dd.bindsN fun _ _ _ _ _ _ us hl => match us, hl with | [_, _], _ => rfl⟩
abbrev st_primitive : Stmt := top 16
def N_primitive : List Str := ["row", "shared", "item", "items", "divisor"]
theorem scope_primitive : FnScope N_primitive ["row"] (defScope st_primitive) := ⟨rfl, rfl, rfl, by decide +kernel, rfl, by decide +kernel, by decide +kernel⟩
def m_primitive : DS := mSeq (mSet 1 (dC (.int 1))) (mSeq (mFor (dSeq (dVar 0)) (.nm 2) (mSet 1 (dOp (dMul true) (dOp dFd (dVar 1) (dCallP 2 pf_common false true [] (dCons (dVar 1) (dCons (dOp dIx (dVar 2) (dC (.int 1))) (dNil))))) (dOp dIx (dVar 2) (dC (.int 1)))))) (mSeq (mSet 3 (dLc true (dSeq (dVar 0)) (.nm 2) (tYesD) (dOp (dMul true) (dOp dIx (dVar 2) (dC (.int 0))) (dOp dFd (dVar 1) (dOp dIx (dVar 2) (dC (.int 1))))) [2])) (mSeq (mSet 4 (dC (.int 0))) (mSeq (mFor (dSeq (dVar 3)) (.nm 2) (mSet 4 (dCallP 2 pf_common false true [] (dCons (dVar 4) (dCons (dVar 2) (dNil)))))) (mRet (dLc true (dSeq (dVar 3)) (.nm 2) (tYesD) (dOp dFd (dVar 2) (dVar 4)) [2]))))))
theorem ms_primitive (ub : ∀ x ∈ bls, mg (PySem.Str.ofString x) = none) (c_common : Cal P w K mg base 1 "common" ["a", "b"] (spP K 2 false pf_common) []) (f : Addr) (cdv : Value) (A : Around) (outer : List Env) (s : Shared) (H : Hp) (E : XK) (hr : RoomG 1 (A.deeper (envOfC "primitive" (defScope st_primitive) s.heap.objs.size f cdv))) :
    MSs (cxOf (L2.CX P w) P w K mg base N_primitive "primitive" (defScope st_primitive) f cdv A outer s H E) (fun cls d _ H => E cls d H) (defBody st_primitive) (m_primitive) :=
  mss_cons (ms_s 1 scope_primitive.nd (me_int)) (mss_cons (ms_for (passes_of rfl) rfl (mi_seq (me_v 0)) (mg_n 2 scope_primitive.nd) (mss_one (ms_s 1 scope_primitive.nd (me_mul true (me_fdiv (me_v 1) (me_cP true c_common hr.at_ (takes_of rfl rfl rfl rfl) (ma_cons (me_v 1) (ma_cons (me_ix (me_v 2) (me_int)) (ma_nil))))) (me_ix (me_v 2) (me_int)))))) (mss_cons (ms_lc true 3 [("item", 2)] scope_primitive.nd (mi_seq (me_v 0)) (fun _ _ _ _ _ => mg_n 2 scope_primitive.nd) (fun _ _ _ _ _ => mts_nil) (fun _ _ _ _ _ => me_mul true (me_ix (me_v 2) (me_int)) (me_fdiv (me_v 1) (me_ix (me_v 2) (me_int))))) (mss_cons (ms_s 4 scope_primitive.nd (me_int)) (mss_cons (ms_for (passes_of rfl) rfl (mi_seq (me_v 3)) (mg_n 2 scope_primitive.nd) (mss_one (ms_s 4 scope_primitive.nd (me_cP true c_common hr.at_ (takes_of rfl rfl rfl rfl) (ma_cons (me_v 4) (ma_cons (me_v 2) (ma_nil))))))) (mss_one (ms_ret (me_l true [("item", 2)] scope_primitive.nd (mi_seq (me_v 3)) (fun _ _ _ _ _ => mg_n 2 scope_primitive.nd) (fun _ _ _ _ _ => mts_nil) (fun _ _ _ _ _ => me_fdiv (me_v 2) (me_v 4)))))))))
theorem cal_primitive {f : Addr} {fd : FuncData} (Dd : FunD K "primitive" "primitive" (defArgs st_primitive) (defBody st_primitive) (defScope st_primitive) [] [] f fd) (hm : mg "primitive" = some (.ref f)) (ub : ∀ x ∈ bls, mg (PySem.Str.ofString x) = none) (c_common : Cal P w K mg base 1 "common" ["a", "b"] (spP K 2 false pf_common) []) (hs : specP 1 N_primitive.length false (m_primitive) pf_primitive) : Cal P w K mg base 2 "primitive" ["row"] (spP K 1 false pf_primitive) [] :=
  ⟨f, fd, [], fnP_of Dd scope_primitive 1 rfl pf_primitive false (fun cdv A outer s H E hr => ms_primitive ub c_common f cdv A outer s H E hr) hs, hm, Dd.kp, .nil, Dd.bindsN fun _ _ _ _ _ _ us hl => match us, hl with | [_], _ => rfl⟩
abbrev st__law_deck : Stmt := top 18
def N__law_deck : List Str := ["script", "seed", "cell"]
theorem scope__law_deck : FnScope N__law_deck ["script"] (defScope st__law_deck) := ⟨rfl, rfl, rfl, by decide +kernel, rfl, by decide +kernel, by decide +kernel⟩
def m__law_deck : DS := mSeq (mSet 1 (dC (.int 7))) (mSeq (mFor (dSeq (dVar 0)) (.nm 2) (mSet 1 (dOp dMd (dCB dInt (dCons (dOp (dAdd true) (dOp (dMul true) (dVar 1) (dC (.int 48271))) (dVar 2)) (dNil))) (dC (.int 2147483647))))) (mRet (dLst false (dCons (dC (.int 0)) (dCons (dC (.int 0)) (dCons (dVar 1) (dCons (dCB (dList true) (dCons (dVar 0) (dNil))) (dCons (dC (.int 0)) (dNil)))))))))
theorem ms__law_deck (ub : ∀ x ∈ bls, mg (PySem.Str.ofString x) = none) (f : Addr) (cdv : Value) (A : Around) (outer : List Env) (s : Shared) (H : Hp) (E : XK) (hr : RoomG 0 (A.deeper (envOfC "_law_deck" (defScope st__law_deck) s.heap.objs.size f cdv))) :
    MSs (cxOf (L2.CX P w) P w K mg base N__law_deck "_law_deck" (defScope st__law_deck) f cdv A outer s H E) (fun cls d _ H => E cls d H) (defBody st__law_deck) (m__law_deck) :=
  mss_cons (ms_s 1 scope__law_deck.nd (me_int)) (mss_cons (ms_for (passes_of rfl) rfl (mi_seq (me_v 0)) (mg_n 2 scope__law_deck.nd) (mss_one (ms_s 1 scope__law_deck.nd (me_mod (me_bt bl_int (ub _ (by decide)) (ma_cons (me_add true (me_mul true (me_v 1) (me_int)) (me_v 2)) (ma_nil))) (me_int))))) (mss_one (ms_ret (me_lst false (ma_cons (me_int) (ma_cons (me_int) (ma_cons (me_v 1) (ma_cons (me_bt (bl_list true) (ub _ (by decide)) (ma_cons (me_v 0) (ma_nil))) (ma_cons (me_int) (ma_nil))))))))))
theorem cal__law_deck {f : Addr} {fd : FuncData} (Dd : FunD K "_law_deck" "_law_deck" (defArgs st__law_deck) (defBody st__law_deck) (defScope st__law_deck) [] [] f fd) (hm : mg "_law_deck" = some (.ref f)) (ub : ∀ x ∈ bls, mg (PySem.Str.ofString x) = none) (hs : specP 1 N__law_deck.length true (m__law_deck) pf__law_deck) : Cal P w K mg base 1 "_law_deck" ["script"] (spP K 1 true pf__law_deck) [] :=
  ⟨f, fd, [], fnP_of Dd scope__law_deck 1 rfl pf__law_deck true (fun cdv A outer s H E hr => ms__law_deck ub f cdv A outer s H E hr) hs, hm, Dd.kp, .nil, Dd.bindsN fun _ _ _ _ _ _ us hl => match us, hl with | [_], _ => rfl⟩
abbrev st__law_draw : Stmt := top 19
def N__law_draw : List Str := ["deck", "bound", "number", "value"]
theorem scope__law_draw : FnScope N__law_draw ["deck", "bound"] (defScope st__law_draw) := ⟨rfl, rfl, rfl, by decide +kernel, rfl, by decide +kernel, by decide +kernel⟩
def m__law_draw : DS := mSeq (mIf (dAnd (dTestB (dOp dEq (dOp dIx (dVar 0) (dC (.int 0))) (dC (.int 0)))) (dTestB (dOp dLt (dOp dIx (dVar 0) (dC (.int 1))) (dCB dLen (dCons (dOp dIx (dVar 0) (dC (.int 3))) (dNil)))))) (mSeq (mPut (dVar 0) (dC (.int 0)) (dCB dAbs (dCons (dOp dIx (dOp dIx (dVar 0) (dC (.int 3))) (dOp dIx (dVar 0) (dC (.int 1)))) (dNil)))) (mPut (dVar 0) (dC (.int 1)) (dOp (dAdd true) (dOp dIx (dVar 0) (dC (.int 1))) (dC (.int 1))))) (mIf (dTestB (dOp dEq (dOp dIx (dVar 0) (dC (.int 0))) (dC (.int 0)))) (mSeq (mPut (dVar 0) (dC (.int 4)) (dOp (dAdd true) (dOp dIx (dVar 0) (dC (.int 4))) (dC (.int 1)))) (mSeq (mSet 2 (dOp dMd (dCB dInt (dCons (dOp (dAdd true) (dOp (dAdd true) (dOp (dMul true) (dOp dIx (dVar 0) (dC (.int 2))) (dC (.int 48271))) (dOp (dMul true) (dOp dIx (dVar 0) (dC (.int 4))) (dC (.int 69621)))) (dC (.int 12345))) (dNil))) (dC (.int 2147483647)))) (mSeq (mSet 2 (dOp dMd (dCB dInt (dCons (dOp (dAdd true) (dOp (dAdd true) (dOp (dMul true) (dVar 2) (dVar 2)) (dOp (dMul true) (dC (.int 16807)) (dOp dIx (dVar 0) (dC (.int 4))))) (dC (.int 7))) (dNil))) (dC (.int 998244353)))) (mSeq (mSet 2 (dOp dMd (dCB dInt (dCons (dOp (dAdd true) (dOp (dAdd true) (dOp (dMul true) (dVar 2) (dVar 2)) (dOp (dMul true) (dC (.int 48271)) (dOp dIx (dVar 0) (dC (.int 4))))) (dOp dIx (dVar 0) (dC (.int 2)))) (dNil))) (dC (.int 2147483629)))) (mPut (dVar 0) (dC (.int 0)) (dOp dFd (dVar 2) (dC (.int 13)))))))) (mNext))) (mSeq (mSet 3 (dOp dMd (dCB dInt (dCons (dOp dIx (dVar 0) (dC (.int 0))) (dNil))) (dVar 1))) (mSeq (mPut (dVar 0) (dC (.int 0)) (dOp dFd (dOp dIx (dVar 0) (dC (.int 0))) (dVar 1))) (mRet (dVar 3))))
theorem ms__law_draw (ub : ∀ x ∈ bls, mg (PySem.Str.ofString x) = none) (f : Addr) (cdv : Value) (A : Around) (outer : List Env) (s : Shared) (H : Hp) (E : XK) (hr : RoomG 0 (A.deeper (envOfC "_law_draw" (defScope st__law_draw) s.heap.objs.size f cdv))) :
    MSs (cxOf (L2.CX P w) P w K mg base N__law_draw "_law_draw" (defScope st__law_draw) f cdv A outer s H E) wF (defBody st__law_draw) (m__law_draw) :=
  mss_cons (ms_if (MW.mt (mw_and (mt_c (cd_eq hr.u64) (me_ix (me_v 0) (me_int)) (me_int)) (mw_and1 (mt_c cd_lt (me_ix (me_v 0) (me_int)) (me_bt bl_len (ub _ (by decide)) (ma_cons (me_ix (me_v 0) (me_int)) (ma_nil))))))) (mss_cons (ms_put (me_v 0) (me_int) (me_bt bl_abs (ub _ (by decide)) (ma_cons (me_ix (me_ix (me_v 0) (me_int)) (me_ix (me_v 0) (me_int))) (ma_nil)))) (mss_one (ms_put (me_v 0) (me_int) (me_add true (me_ix (me_v 0) (me_int)) (me_int))))) (mss_one (ms_if (mt_c (cd_eq hr.u64) (me_ix (me_v 0) (me_int)) (me_int)) (mss_cons (ms_put (me_v 0) (me_int) (me_add true (me_ix (me_v 0) (me_int)) (me_int))) (mss_cons (ms_s 2 scope__law_draw.nd (me_mod (me_bt bl_int (ub _ (by decide)) (ma_cons (me_add true (me_add true (me_mul true (me_ix (me_v 0) (me_int)) (me_int)) (me_mul true (me_ix (me_v 0) (me_int)) (me_int))) (me_int)) (ma_nil))) (me_int))) (mss_cons (ms_s 2 scope__law_draw.nd (me_mod (me_bt bl_int (ub _ (by decide)) (ma_cons (me_add true (me_add true (me_mul true (me_v 2) (me_v 2)) (me_mul true (me_int) (me_ix (me_v 0) (me_int)))) (me_int)) (ma_nil))) (me_int))) (mss_cons (ms_s 2 scope__law_draw.nd (me_mod (me_bt bl_int (ub _ (by decide)) (ma_cons (me_add true (me_add true (me_mul true (me_v 2) (me_v 2)) (me_mul true (me_int) (me_ix (me_v 0) (me_int)))) (me_ix (me_v 0) (me_int))) (ma_nil))) (me_int))) (mss_one (ms_put (me_v 0) (me_int) (me_fdiv (me_v 2) (me_int)))))))) (mss_nil)))) (mss_cons (ms_s 3 scope__law_draw.nd (me_mod (me_bt bl_int (ub _ (by decide)) (ma_cons (me_ix (me_v 0) (me_int)) (ma_nil))) (me_v 1))) (mss_cons (ms_put (me_v 0) (me_int) (me_fdiv (me_ix (me_v 0) (me_int)) (me_v 1))) (mss_one (ms_ret (me_v 3)))))
theorem cal__law_draw {f : Addr} {fd : FuncData} (Dd : FunD K "_law_draw" "_law_draw" (defArgs st__law_draw) (defBody st__law_draw) (defScope st__law_draw) [] [] f fd) (hm : mg "_law_draw" = some (.ref f)) (ub : ∀ x ∈ bls, mg (PySem.Str.ofString x) = none) (hs : specI 2 N__law_draw.length (m__law_draw) pf__law_draw) : Cal P w K mg base 1 "_law_draw" ["deck", "bound"] (spI K 2 false pf__law_draw) [] :=
  ⟨f, fd, [], fnI_of Dd scope__law_draw 2 rfl pf__law_draw (fun cdv A outer s H E hr => ms__law_draw ub f cdv A outer s H E hr) hs, hm, Dd.kp, .nil, Dd.bindsN fun _ _ _ _ _ _ us hl => match us, hl with | [_, _], _ => rfl⟩
abbrev st__law_is : Stmt := top 20
def N__law_is : List Str := ["value", "due"]
theorem scope__law_is : FnScope N__law_is ["value", "due"] (defScope st__law_is) := ⟨rfl, rfl, rfl, by decide +kernel, rfl, by decide +kernel, by decide +kernel⟩
def m__law_is : DS := mRet (dAndV (dOp dEq (dVar 0) (dVar 1)) (dOp dEq (dCB dRepr (dCons (dVar 0) (dNil))) (dCB dRepr (dCons (dVar 1) (dNil)))))
theorem ms__law_is (ub : ∀ x ∈ bls, mg (PySem.Str.ofString x) = none) (f : Addr) (cdv : Value) (A : Around) (outer : List Env) (s : Shared) (H : Hp) (E : XK) (hr : RoomG 0 (A.deeper (envOfC "_law_is" (defScope st__law_is) s.heap.objs.size f cdv))) :
    MSs (cxOf (L2.CX P w) P w K mg base N__law_is "_law_is" (defScope st__law_is) f cdv A outer s H E) (fun cls d _ H => E cls d H) (defBody st__law_is) (m__law_is) :=
  mss_one (ms_ret (me_and (me_c (cd_eq hr.u64) (me_v 0) (me_v 1)) (me_one (me_c (cd_eq hr.u64) (me_bt (bl_repr hr.g hr.u66) (ub _ (by decide)) (ma_cons (me_v 0) (ma_nil))) (me_bt (bl_repr hr.g hr.u66) (ub _ (by decide)) (ma_cons (me_v 1) (ma_nil)))))))
theorem cal__law_is {f : Addr} {fd : FuncData} (Dd : FunD K "_law_is" "_law_is" (defArgs st__law_is) (defBody st__law_is) (defScope st__law_is) [] [] f fd) (hm : mg "_law_is" = some (.ref f)) (ub : ∀ x ∈ bls, mg (PySem.Str.ofString x) = none) (hs : specP 2 N__law_is.length false (m__law_is) pf__law_is) : Cal P w K mg base 1 "_law_is" ["value", "due"] (spP K 2 false pf__law_is) [] :=
  ⟨f, fd, [], fnP_of Dd scope__law_is 2 rfl pf__law_is false (fun cdv A outer s H E hr => ms__law_is ub f cdv A outer s H E hr) hs, hm, Dd.kp, .nil, Dd.bindsN fun _ _ _ _ _ _ us hl => match us, hl with | [_, _], _ => rfl⟩
abbrev st__law_gcd : Stmt := top 21
def N__law_gcd : List Str := ["a", "b", "first", "second"]
theorem scope__law_gcd : FnScope N__law_gcd ["a", "b"] (defScope st__law_gcd) := ⟨rfl, rfl, rfl, by decide +kernel, rfl, by decide +kernel, by decide +kernel⟩
def m__law_gcd : DS := mSeq (mPar 2 3 (dCons (dCB dAbs (dCons (dVar 0) (dNil))) (dCons (dCB dAbs (dCons (dVar 1) (dNil))) (dNil)))) (mSeq (mWhile (dTestB (dOp dGt (dVar 3) (dC (.int 0)))) (mPar 2 3 (dCons (dVar 3) (dCons (dOp dMd (dCB dInt (dCons (dVar 2) (dNil))) (dVar 3)) (dNil))))) (mRet (dVar 2)))
theorem ms__law_gcd (ub : ∀ x ∈ bls, mg (PySem.Str.ofString x) = none) (f : Addr) (cdv : Value) (A : Around) (outer : List Env) (s : Shared) (H : Hp) (E : XK) (hr : RoomG 0 (A.deeper (envOfC "_law_gcd" (defScope st__law_gcd) s.heap.objs.size f cdv))) :
    MSs (cxOf (L2.CX P w) P w K mg base N__law_gcd "_law_gcd" (defScope st__law_gcd) f cdv A outer s H E) (fun cls d _ H => E cls d H) (defBody st__law_gcd) (m__law_gcd) :=
  mss_cons (ms_p 2 3 scope__law_gcd.nd (ma_cons (me_bt bl_abs (ub _ (by decide)) (ma_cons (me_v 0) (ma_nil))) (ma_cons (me_bt bl_abs (ub _ (by decide)) (ma_cons (me_v 1) (ma_nil))) (ma_nil)))) (mss_cons (ms_while (passes_of rfl) (mt_c cd_gt (me_v 3) (me_int)) (mss_one (ms_p 2 3 scope__law_gcd.nd (ma_cons (me_v 3) (ma_cons (me_mod (me_bt bl_int (ub _ (by decide)) (ma_cons (me_v 2) (ma_nil))) (me_v 3)) (ma_nil)))))) (mss_one (ms_ret (me_v 2))))
theorem cal__law_gcd {f : Addr} {fd : FuncData} (Dd : FunD K "_law_gcd" "_law_gcd" (defArgs st__law_gcd) (defBody st__law_gcd) (defScope st__law_gcd) [] [] f fd) (hm : mg "_law_gcd" = some (.ref f)) (ub : ∀ x ∈ bls, mg (PySem.Str.ofString x) = none) (hs : specP 2 N__law_gcd.length false (m__law_gcd) pf_common) : Cal P w K mg base 1 "_law_gcd" ["a", "b"] (spP K 2 false pf_common) [] :=
  ⟨f, fd, [], fnP_of Dd scope__law_gcd 2 rfl pf_common false (fun cdv A outer s H E hr => ms__law_gcd ub f cdv A outer s H E hr) hs, hm, Dd.kp, .nil, Dd.bindsN fun _ _ _ _ _ _ us hl => match us, hl with | [_, _], _ => rfl⟩
abbrev st__law_frac : Stmt := top 22
def N__law_frac : List Str := ["a", "b", "shared"]
theorem scope__law_frac : FnScope N__law_frac ["a", "b"] (defScope st__law_frac) := ⟨rfl, rfl, rfl, by decide +kernel, rfl, by decide +kernel, by decide +kernel⟩
def m__law_frac : DS := mSeq (mSet 2 (dCallP 2 pf_common false true [] (dCons (dVar 0) (dCons (dVar 1) (dNil))))) (mSeq (mIf (dTestB (dOp dLt (dVar 1) (dC (.int 0)))) (mSet 2 (dUn dNeg (dVar 2))) (mNext)) (mRet (dTup (dCons (dOp dFd (dVar 0) (dVar 2)) (dCons (dOp dFd (dVar 1) (dVar 2)) (dNil))))))
theorem ms__law_frac (ub : ∀ x ∈ bls, mg (PySem.Str.ofString x) = none) (c__law_gcd : Cal P w K mg base 1 "_law_gcd" ["a", "b"] (spP K 2 false pf_common) []) (f : Addr) (cdv : Value) (A : Around) (outer : List Env) (s : Shared) (H : Hp) (E : XK) (hr : RoomG 1 (A.deeper (envOfC "_law_frac" (defScope st__law_frac) s.heap.objs.size f cdv))) :
    MSs (cxOf (L2.CX P w) P w K mg base N__law_frac "_law_frac" (defScope st__law_frac) f cdv A outer s H E) (fun cls d _ H => E cls d H) (defBody st__law_frac) (m__law_frac) :=
  mss_cons (ms_s 2 scope__law_frac.nd (me_cP true c__law_gcd hr.at_ (takes_of rfl rfl rfl rfl) (ma_cons (me_v 0) (ma_cons (me_v 1) (ma_nil))))) (mss_cons (ms_if (mt_c cd_lt (me_v 1) (me_int)) (mss_one (ms_s 2 scope__law_frac.nd (me_neg (me_v 2)))) (mss_nil)) (mss_one (ms_ret (me_tup (ma_cons (me_fdiv (me_v 0) (me_v 2)) (ma_cons (me_fdiv (me_v 1) (me_v 2)) (ma_nil)))))))
theorem cal__law_frac {f : Addr} {fd : FuncData} (Dd : FunD K "_law_frac" "_law_frac" (defArgs st__law_frac) (defBody st__law_frac) (defScope st__law_frac) [] [] f fd) (hm : mg "_law_frac" = some (.ref f)) (ub : ∀ x ∈ bls, mg (PySem.Str.ofString x) = none) (c__law_gcd : Cal P w K mg base 1 "_law_gcd" ["a", "b"] (spP K 2 false pf_common) []) (hs : specP 2 N__law_frac.length false (m__law_frac) pf_fraction) : Cal P w K mg base 2 "_law_frac" ["a", "b"] (spP K 2 false pf_fraction) [] :=
  ⟨f, fd, [], fnP_of Dd scope__law_frac 2 rfl pf_fraction false (fun cdv A outer s H E hr => ms__law_frac ub c__law_gcd f cdv A outer s H E hr) hs, hm, Dd.kp, .nil, Dd.bindsN fun _ _ _ _ _ _ us hl => match us, hl with | [_, _], _ => rfl⟩
abbrev st__law_sign : Stmt := top 25
def N__law_sign : List Str := ["x"]
theorem scope__law_sign : FnScope N__law_sign ["x"] (defScope st__law_sign) := ⟨rfl, rfl, rfl, by decide +kernel, rfl, by decide +kernel, by decide +kernel⟩
def m__law_sign : DS := mRet (dOp dSub (dCB dInt (dCons (dOp dGt (dOp dIx (dVar 0) (dC (.int 0))) (dC (.int 0))) (dNil))) (dCB dInt (dCons (dOp dLt (dOp dIx (dVar 0) (dC (.int 0))) (dC (.int 0))) (dNil))))
theorem ms__law_sign (ub : ∀ x ∈ bls, mg (PySem.Str.ofString x) = none) (f : Addr) (cdv : Value) (A : Around) (outer : List Env) (s : Shared) (H : Hp) (E : XK) (hr : RoomG 0 (A.deeper (envOfC "_law_sign" (defScope st__law_sign) s.heap.objs.size f cdv))) :
    MSs (cxOf (L2.CX P w) P w K mg base N__law_sign "_law_sign" (defScope st__law_sign) f cdv A outer s H E) (fun cls d _ H => E cls d H) (defBody st__law_sign) (m__law_sign) :=
  mss_one (ms_ret (me_sub (me_bt bl_int (ub _ (by decide)) (ma_cons (me_c cd_gt (me_ix (me_v 0) (me_int)) (me_int)) (ma_nil))) (me_bt bl_int (ub _ (by decide)) (ma_cons (me_c cd_lt (me_ix (me_v 0) (me_int)) (me_int)) (ma_nil)))))
theorem cal__law_sign {f : Addr} {fd : FuncData} (Dd : FunD K "_law_sign" "_law_sign" (defArgs st__law_sign) (defBody st__law_sign) (defScope st__law_sign) [] [] f fd) (hm : mg "_law_sign" = some (.ref f)) (ub : ∀ x ∈ bls, mg (PySem.Str.ofString x) = none) (hs : specP 1 N__law_sign.length false (m__law_sign) pf_sign_of) : Cal P w K mg base 1 "_law_sign" ["x"] (spP K 1 false pf_sign_of) [] :=
  ⟨f, fd, [], fnP_of Dd scope__law_sign 1 rfl pf_sign_of false (fun cdv A outer s H E hr => ms__law_sign ub f cdv A outer s H E hr) hs, hm, Dd.kp, .nil, Dd.bindsN fun _ _ _ _ _ _ us hl => match us, hl with | [_], _ => rfl⟩
abbrev st__law_number : Stmt := top 27
def N__law_number : List Str := ["deck", "size"]
theorem scope__law_number : FnScope N__law_number ["deck"] (defScope st__law_number) := ⟨rfl, rfl, rfl, by decide +kernel, rfl, by decide +kernel, by decide +kernel⟩
def m__law_number : DS := mSeq (mSet 1 (dOp dIx (dLst true (dCons (dC (.int 9)) (dCons (dC (.int 9)) (dCons (dC (.int 99)) (dCons (dC (.int 999999)) (dCons (dOp dPw (dC (.int 10)) (dC (.int 30))) (dNil))))))) (dCallI 2 pf__law_draw false true (dVar 0) (dCons (dC (.int 5)) (dNil))))) (mRet (dOp dSub (dCallI 2 pf__law_draw false true (dVar 0) (dCons (dOp (dAdd true) (dOp (dMul true) (dC (.int 2)) (dVar 1)) (dC (.int 1))) (dNil))) (dVar 1)))
theorem ms__law_number (ub : ∀ x ∈ bls, mg (PySem.Str.ofString x) = none) (c__law_draw : Cal P w K mg base 1 "_law_draw" ["deck", "bound"] (spI K 2 false pf__law_draw) []) (f : Addr) (cdv : Value) (A : Around) (outer : List Env) (s : Shared) (H : Hp) (E : XK) (hr : RoomG 1 (A.deeper (envOfC "_law_number" (defScope st__law_number) s.heap.objs.size f cdv))) :
    MSs (cxOf (L2.CX P w) P w K mg base N__law_number "_law_number" (defScope st__law_number) f cdv A outer s H E) wF (defBody st__law_number) (m__law_number) :=
  mss_cons (ms_s 1 scope__law_number.nd (me_ix (me_lst true (ma_cons (me_int) (ma_cons (me_int) (ma_cons (me_int) (ma_cons (me_int) (ma_cons (me_pow (me_int) (me_int)) (ma_nil))))))) (me_cI true c__law_draw hr.at_ takesF (me_v 0) (ma_cons (me_int) (ma_nil))))) (mss_one (ms_ret (me_sub (me_cI true c__law_draw hr.at_ takesF (me_v 0) (ma_cons (me_add true (me_mul true (me_int) (me_v 1)) (me_int)) (ma_nil))) (me_v 1))))
theorem cal__law_number {f : Addr} {fd : FuncData} (Dd : FunD K "_law_number" "_law_number" (defArgs st__law_number) (defBody st__law_number) (defScope st__law_number) [] [] f fd) (hm : mg "_law_number" = some (.ref f)) (ub : ∀ x ∈ bls, mg (PySem.Str.ofString x) = none) (c__law_draw : Cal P w K mg base 1 "_law_draw" ["deck", "bound"] (spI K 2 false pf__law_draw) []) (hs : specI 1 N__law_number.length (m__law_number) pf__law_number) : Cal P w K mg base 2 "_law_number" ["deck"] (spI K 1 false pf__law_number) [] :=
  ⟨f, fd, [], fnI_of Dd scope__law_number 1 rfl pf__law_number (fun cdv A outer s H E hr => ms__law_number ub c__law_draw f cdv A outer s H E hr) hs, hm, Dd.kp, .nil, Dd.bindsN fun _ _ _ _ _ _ us hl => match us, hl with | [_], _ => rfl⟩
abbrev st__law_over : Stmt := top 28
def N__law_over : List Str := ["x", "y", "error"]
theorem scope__law_over : FnScope N__law_over ["x", "y"] (defScope st__law_over) := ⟨rfl, rfl, rfl, by decide +kernel, rfl, by decide +kernel, by decide +kernel⟩
def m__law_over (K : PySem.W.Frag)  (C_NothingThere : Addr) : DS := mTry K (.ref C_NothingThere) 2 (mRet (dCallP 2 (pf_over C_NothingThere) false true [] (dCons (dVar 0) (dCons (dVar 1) (dNil))))) (fun xa xC xd => mRet (dTup (dCons (dC (.str "nothing")) (dCons (dXf "place" xa xC xd (dVar 2)) (dNil)))))
theorem ms__law_over {C_NothingThere : Addr} (ub : ∀ x ∈ bls, mg (PySem.Str.ofString x) = none) (c_over : Cal P w K mg base 3 "over" ["x", "y"] (spP K 2 false (pf_over C_NothingThere)) []) (k_NothingThere : MkC P w K mg base C_NothingThere "NothingThere") (g_NothingThere : mg "NothingThere" = some (.ref C_NothingThere)) (f : Addr) (cdv : Value) (A : Around) (outer : List Env) (s : Shared) (H : Hp) (E : XK) (hr : RoomG 3 (A.deeper (envOfC "_law_over" (defScope st__law_over) s.heap.objs.size f cdv))) :
    MSs (cxOf (L2.CX P w) P w K mg base N__law_over "_law_over" (defScope st__law_over) f cdv A outer s H E) (fun cls d _ H => E cls d H) (defBody st__law_over) (m__law_over K C_NothingThere) :=
  mss_one (ms_try rfl rfl scope__law_over.nd rfl rfl ⟨rfl, by decide +kernel, .inl g_NothingThere⟩ (takes_of rfl rfl rfl rfl) (fun _ _ _ tk' ps' => mss_one (ms_ret (me_cP true c_over hr.at_ tk' (ma_cons (me_v 0) (ma_cons (me_v 1) (ma_nil)))))) (fun xa _ xC xd _ xT xz xf => mss_one (ms_ret (me_tup (ma_cons (me_str) (ma_cons (me_xp xT xz xf (me_v 2)) (ma_nil)))))))
theorem cal__law_over {C_NothingThere : Addr} {f : Addr} {fd : FuncData} (Dd : FunD K "_law_over" "_law_over" (defArgs st__law_over) (defBody st__law_over) (defScope st__law_over) [] [] f fd) (hm : mg "_law_over" = some (.ref f)) (ub : ∀ x ∈ bls, mg (PySem.Str.ofString x) = none) (c_over : Cal P w K mg base 3 "over" ["x", "y"] (spP K 2 false (pf_over C_NothingThere)) []) (k_NothingThere : MkC P w K mg base C_NothingThere "NothingThere") (g_NothingThere : mg "NothingThere" = some (.ref C_NothingThere)) (hs : specP 2 N__law_over.length false (m__law_over K C_NothingThere) pf__law_over) : Cal P w K mg base 4 "_law_over" ["x", "y"] (spP K 2 false pf__law_over) [] :=
  ⟨f, fd, [], fnP_of Dd scope__law_over 2 rfl pf__law_over false (fun cdv A outer s H E hr => ms__law_over ub c_over k_NothingThere g_NothingThere f cdv A outer s H E hr) hs, hm, Dd.kp, .nil, Dd.bindsN fun _ _ _ _ _ _ us hl => match us, hl with | [_, _], _ => rfl⟩
abbrev st_law : Stmt := top 29
def N_law : List Str := ["script", "deck", "a", "b", "c", "d", "x", "y", "due", "rows", "given", "told", "shared", "item", "lead", "odd", "value", "good", "spoilt", "n", "k"]
theorem scope_law : FnScope N_law ["script"] (defScope st_law) := ⟨rfl, rfl, rfl, by decide +kernel, rfl, by decide +kernel, by decide +kernel⟩
def s_law_0 : DS := mSet 1 (dCallP 1 pf__law_deck true false [] (dCons (dVar 0) (dNil)))
def s_law_1 : DS := mAsg (.tp [.nm 2, .nm 3, .nm 4, .nm 5]) (dTup (dCons (dCallI 1 pf__law_number false true (dVar 1) (dNil)) (dCons (dCallI 1 pf__law_number false true (dVar 1) (dNil)) (dCons (dCallI 1 pf__law_number false true (dVar 1) (dNil)) (dCons (dCallI 1 pf__law_number false true (dVar 1) (dNil)) (dNil))))))
def s_law_2 : DS := mPar 3 5 (dCons (dOp (dAdd true) (dVar 3) (dCB dInt (dCons (dOp dEq (dVar 3) (dC (.int 0))) (dNil)))) (dCons (dOp (dAdd true) (dVar 5) (dCB dInt (dCons (dOp dEq (dVar 5) (dC (.int 0))) (dNil)))) (dNil)))
def s_law_3 : DS := mPar 6 7 (dCons (dCallP 2 pf_fraction false true [] (dCons (dVar 2) (dCons (dVar 3) (dNil)))) (dCons (dCallP 2 pf_fraction false true [] (dCons (dVar 4) (dCons (dVar 5) (dNil)))) (dNil)))
def s_law_4 : DS := mIf (dNot (dTest (dCallP 2 pf__law_is false true [] (dCons (dLst true (dCons (dCallP 2 pf_fraction false true [] (dCons (dVar 2) (dCons (dVar 3) (dNil)))) (dCons (dCallP 2 pf_fraction false true [] (dCons (dVar 4) (dCons (dVar 5) (dNil)))) (dCons (dCallP 2 pf_fraction false true [] (dCons (dOp (dMul true) (dVar 2) (dVar 5)) (dCons (dOp (dMul true) (dVar 3) (dVar 5)) (dNil)))) (dNil))))) (dCons (dLst true (dCons (dVar 6) (dCons (dVar 7) (dCons (dVar 6) (dNil))))) (dNil)))))) (mRet (dC (.bl false))) (mNext)
def s_law_5 : DS := mSet 8 (dLst true (dCons (dCallP 2 pf_fraction false true [] (dCons (dOp (dAdd true) (dOp (dMul true) (dVar 2) (dVar 5)) (dOp (dMul true) (dVar 4) (dVar 3))) (dCons (dOp (dMul true) (dVar 3) (dVar 5)) (dNil)))) (dCons (dCallP 2 pf_fraction false true [] (dCons (dOp dSub (dOp (dMul true) (dVar 2) (dVar 5)) (dOp (dMul true) (dVar 4) (dVar 3))) (dCons (dOp (dMul true) (dVar 3) (dVar 5)) (dNil)))) (dCons (dCallP 2 pf_fraction false true [] (dCons (dOp (dMul true) (dVar 2) (dVar 4)) (dCons (dOp (dMul true) (dVar 3) (dVar 5)) (dNil)))) (dNil)))))
def s_law_6 : DS := mIf (dNot (dTest (dCallP 2 pf__law_is false true [] (dCons (dLst true (dCons (dCallP 2 pf_plus false true [] (dCons (dVar 6) (dCons (dVar 7) (dNil)))) (dCons (dCallP 2 pf_less false true [] (dCons (dVar 6) (dCons (dVar 7) (dNil)))) (dCons (dCallP 2 pf_times false true [] (dCons (dVar 6) (dCons (dVar 7) (dNil)))) (dNil))))) (dCons (dVar 8) (dNil)))))) (mRet (dC (.bl false))) (mNext)
def s_law_7 : DS := mSet 8 (dTup (dCons (dC (.str "nothing")) (dCons (dC .non) (dNil))))
def s_law_8 : DS := mIf (dTestB (dOp dNe (dVar 4) (dC (.int 0)))) (mSet 8 (dCallP 2 pf_fraction false true [] (dCons (dOp (dMul true) (dVar 2) (dVar 5)) (dCons (dOp (dMul true) (dVar 3) (dVar 4)) (dNil))))) (mNext)
def s_law_9 : DS := mIf (dOr (dNot (dTest (dCallP 2 pf__law_is false true [] (dCons (dCallP 2 pf__law_over false true [] (dCons (dVar 6) (dCons (dVar 7) (dNil)))) (dCons (dVar 8) (dNil)))))) (dNot (dTest (dCallP 2 pf__law_is false true [] (dCons (dLst true (dCons (dCallP 1 pf_sign_of false true [] (dCons (dVar 6) (dNil))) (dCons (dCallP 1 pf_sign_of false true [] (dCons (dVar 7) (dNil))) (dNil)))) (dCons (dLst true (dCons (dCallP 1 pf_sign_of false true [] (dCons (dVar 6) (dNil))) (dCons (dCallP 1 pf_sign_of false true [] (dCons (dVar 7) (dNil))) (dNil)))) (dNil))))))) (mRet (dC (.bl false))) (mNext)
def s_law_10 : DS := mIf (dNot (dTest (dCallP 2 pf__law_is false true [] (dCons (dLst true (dCons (dCallP 2 pf_below false true [] (dCons (dVar 6) (dCons (dVar 7) (dNil)))) (dCons (dCallP 2 pf_below false true [] (dCons (dVar 7) (dCons (dVar 6) (dNil)))) (dCons (dCallP 2 pf_below false true [] (dCons (dVar 6) (dCons (dVar 6) (dNil)))) (dNil))))) (dCons (dLst true (dCons (dOp dLt (dOp (dMul true) (dOp dIx (dVar 6) (dC (.int 0))) (dOp dIx (dVar 7) (dC (.int 1)))) (dOp (dMul true) (dOp dIx (dVar 7) (dC (.int 0))) (dOp dIx (dVar 6) (dC (.int 1))))) (dCons (dOp dLt (dOp (dMul true) (dOp dIx (dVar 7) (dC (.int 0))) (dOp dIx (dVar 6) (dC (.int 1)))) (dOp (dMul true) (dOp dIx (dVar 6) (dC (.int 0))) (dOp dIx (dVar 7) (dC (.int 1))))) (dCons (dC (.bl false)) (dNil))))) (dNil)))))) (mRet (dC (.bl false))) (mNext)
def s_law_11 : DS := mSet 9 (dOp (dAdd true) (dSl true (dLst true (dCons (dVar 6) (dCons (dVar 7) (dCons (dTup (dCons (dOp (dAdd true) (dC (.int 1)) (dCallI 2 pf__law_draw false true (dVar 1) (dCons (dC (.int 9)) (dNil)))) (dCons (dOp (dAdd true) (dC (.int 1)) (dCallI 2 pf__law_draw false true (dVar 1) (dCons (dC (.int 5)) (dNil)))) (dNil)))) (dNil))))) (dPart (dCallI 2 pf__law_draw false true (dVar 1) (dCons (dC (.int 2)) (dNil)))) (dNoPart)) (dOp (dMul true) (dLst true (dCons (dTup (dCons (dC (.int 0)) (dCons (dC (.int 1)) (dNil)))) (dNil))) (dCallI 2 pf__law_draw false true (dVar 1) (dCons (dC (.int 3)) (dNil)))))
def s_law_12 : DS := mSet 9 (dStep true (dLc true (dSeq (dVar 9)) (.nm 13) (tYesD) (dCallP 2 pf_fraction false true [] (dCons (dOp dIx (dVar 13) (dC (.int 0))) (dCons (dOp dIx (dVar 13) (dC (.int 1))) (dNil)))) [13]) (dOp dIx (dLst true (dCons (dC (.int 1)) (dCons (dUn dNeg (dC (.int 1))) (dNil)))) (dCallI 2 pf__law_draw false true (dVar 1) (dCons (dC (.int 2)) (dNil)))))
def s_law_13 : DS := mIf (dTestB (dOp dEq (dCallI 2 pf__law_draw false true (dVar 1) (dCons (dC (.int 4)) (dNil))) (dC (.int 0)))) (mSet 9 (dOp (dAdd true) (dVar 9) (dLc true (dRng1 (dCons (dCallI 2 pf__law_draw false true (dVar 1) (dCons (dC (.int 20)) (dNil))) (dNil))) (.nm 20) (tYesD) (dCallP 2 pf_fraction false true [] (dCons (dOp dSub (dCallI 2 pf__law_draw false true (dVar 1) (dCons (dC (.int 19)) (dNil))) (dC (.int 9))) (dCons (dOp (dAdd true) (dC (.int 1)) (dCallI 2 pf__law_draw false true (dVar 1) (dCons (dC (.int 9)) (dNil)))) (dNil)))) [20]))) (mNext)
def s_law_14 : DS := mIf (dTestB (dOp dEq (dCallI 2 pf__law_draw false true (dVar 1) (dCons (dC (.int 8)) (dNil))) (dC (.int 0)))) (mSet 9 (dSl true (dLc true (dSeq (dVar 9)) (.nm 13) (dTestB (dOp dNe (dOp dIx (dVar 13) (dC (.int 0))) (dC (.int 0)))) (dVar 13) [13]) (dNoPart) (dPart (dC (.int 1))))) (mNext)
def s_law_15 : DS := mSet 10 (dCB (dList true) (dCons (dVar 9) (dNil)))
def s_law_16 : DS := mSet 11 (dCallP 1 pf_primitive false true [] (dCons (dVar 10) (dNil)))
def s_law_17 : DS := mIf (dNot (dTest (dCallP 2 pf__law_is false true [] (dCons (dVar 10) (dCons (dVar 9) (dNil)))))) (mRet (dC (.bl false))) (mNext)
def s_law_18 : DS := mSet 12 (dC (.int 0))
def s_law_19 : DS := mFor (dSeq (dVar 11)) (.nm 13) (mSet 12 (dCallP 2 pf_common false true [] (dCons (dVar 12) (dCons (dVar 13) (dNil)))))
def s_law_20 : DS := mIf (dOr (dNot (dTest (dCB dIsi (dCons (dVar 11) (dCons (dC (.ty "list")) (dNil)))))) (dOr (dTestB (dOp dNe (dCB dLen (dCons (dVar 11) (dNil))) (dCB dLen (dCons (dVar 9) (dNil))))) (dOr (dTestB (dOp dNe (dVar 12) (dC (.int 1)))) (dTest (dCB (dAny false) (dCons (dLc true (dSeq (dVar 11)) (.nm 13) (tYesD) (dOrV (dCB dIsi (dCons (dVar 13) (dCons (dC (.ty "bool")) (dNil)))) (dNotV (dCB dIsi (dCons (dVar 13) (dCons (dC (.ty "int")) (dNil)))))) [13]) (dNil))))))) (mRet (dC (.bl false))) (mNext)
def s_law_21 : DS := mSet 14 (dOp dIx (dLc true (dRng1 (dCons (dCB dLen (dCons (dVar 9) (dNil))) (dNil))) (.nm 20) (dTestB (dOp dNe (dOp dIx (dOp dIx (dVar 9) (dVar 20)) (dC (.int 0))) (dC (.int 0)))) (dVar 20) [20]) (dC (.int 0)))
def s_law_22 : DS := mIf (dTestB (dOp dNe (dOp dGt (dOp dIx (dVar 11) (dVar 14)) (dC (.int 0))) (dOp dGt (dOp dIx (dOp dIx (dVar 9) (dVar 14)) (dC (.int 0))) (dC (.int 0))))) (mRet (dC (.bl false))) (mNext)
def s_law_23 : DS := mIf (dTest (dCB (dAny false) (dCons (dLc true (dRng1 (dCons (dCB dLen (dCons (dVar 9) (dNil))) (dNil))) (.nm 20) (tYesD) (dOp dNe (dOp (dMul true) (dOp (dMul true) (dOp dIx (dVar 11) (dVar 20)) (dOp dIx (dOp dIx (dVar 9) (dVar 14)) (dC (.int 0)))) (dOp dIx (dOp dIx (dVar 9) (dVar 20)) (dC (.int 1)))) (dOp (dMul true) (dOp (dMul true) (dOp dIx (dVar 11) (dVar 14)) (dOp dIx (dOp dIx (dVar 9) (dVar 20)) (dC (.int 0)))) (dOp dIx (dOp dIx (dVar 9) (dVar 14)) (dC (.int 1))))) [20]) (dNil)))) (mRet (dC (.bl false))) (mNext)
def s_law_24 : DS := mSet 15 (dLst true (dCons (dTup (dCons (dC (.int 2)) (dCons (dC (.int 4)) (dNil)))) (dCons (dTup (dCons (dC (.int 1)) (dCons (dC (.int 0)) (dNil)))) (dCons (dTup (dCons (dC (.int 1)) (dCons (dUn dNeg (dC (.int 2))) (dNil)))) (dCons (dTup (dCons (dC (.int 0)) (dCons (dC (.int 2)) (dNil)))) (dCons (dTup (dCons (dC (.int 0)) (dCons (dC (.int 1)) (dNil)))) (dCons (dTup (dCons (dC (.int 3)) (dCons (dC (.int 1)) (dNil)))) (dCons (dLst true (dCons (dC (.int 1)) (dCons (dC (.int 2)) (dNil)))) (dCons (dTup (dCons (dC (.int 1)) (dCons (dC (.int 2)) (dCons (dC (.int 3)) (dNil))))) (dCons (dTup (dCons (dC (.int 1)) (dNil))) (dCons (dC .non) (dCons (dC (.int 1)) (dCons (dTup (dCons (dC (.bl true)) (dCons (dC (.int 1)) (dNil)))) (dCons (dTup (dCons (dC (.int 1)) (dCons (dC (.bl true)) (dNil)))) (dCons (dTup (dCons (dC .non) (dCons (dC (.int 2)) (dNil)))) (dCons (dC (.str "12")) (dCons (dTup (dCons (dUn dNeg (dC (.int 3))) (dCons (dC (.int 2)) (dNil)))) (dNil))))))))))))))))))
def s_law_25 : DS := mSet 16 (dOp dIx (dVar 15) (dCallI 2 pf__law_draw false true (dVar 1) (dCons (dCB dLen (dCons (dVar 15) (dNil))) (dNil))))
def s_law_26 : DS := mIf (dNot (dTest (dCallP 2 pf__law_is false true [] (dCons (dCallP 1 pf_is_fraction false true [] (dCons (dVar 16) (dNil))) (dCons (dOrV (dOp (dIn false) (dVar 16) (dLst true (dCons (dTup (dCons (dC (.int 3)) (dCons (dC (.int 1)) (dNil)))) (dCons (dTup (dCons (dUn dNeg (dC (.int 3))) (dCons (dC (.int 2)) (dNil)))) (dNil))))) (dCallP 2 pf__law_is false true [] (dCons (dVar 16) (dCons (dTup (dCons (dC (.int 0)) (dCons (dC (.int 1)) (dNil)))) (dNil))))) (dNil)))))) (mRet (dC (.bl false))) (mNext)
def s_law_27 : DS := mSet 17 (dOp dIx (dLst true (dCons (dTup (dCons (dVar 6) (dNil))) (dCons (dTup (dCons (dVar 6) (dCons (dVar 7) (dNil)))) (dCons (dTup (dCons (dVar 6) (dCons (dVar 7) (dCons (dTup (dCons (dC (.int 0)) (dCons (dC (.int 1)) (dNil)))) (dNil))))) (dCons (dTup (dCons (dVar 6) (dCons (dVar 7) (dCons (dVar 6) (dCons (dVar 7) (dNil)))))) (dNil)))))) (dCallI 2 pf__law_draw false true (dVar 1) (dCons (dC (.int 4)) (dNil))))
def s_law_28 : DS := mSet 18 (dOp dIx (dLst true (dCons (dCB (dList true) (dCons (dVar 17) (dNil))) (dCons (dOp (dAdd true) (dVar 17) (dTup (dCons (dVar 16) (dNil)))) (dCons (dOp (dAdd true) (dSl true (dVar 17) (dNoPart) (dPart (dUn dNeg (dC (.int 1))))) (dTup (dCons (dC .non) (dNil)))) (dCons (dTup (dCons (dVar 17) (dNil))) (dCons (dSl true (dVar 17) (dNoPart) (dPart (dUn dNeg (dC (.int 1))))) (dNil))))))) (dCallI 2 pf__law_draw false true (dVar 1) (dCons (dC (.int 5)) (dNil))))
def s_law_29 : DS := mSet 19 (dCB dLen (dCons (dVar 17) (dNil)))
def s_law_30 : DS := mSet 11 (dLst true (dCons (dCallP 2 pf_is_point false true [] (dCons (dVar 17) (dCons (dVar 19) (dNil)))) (dCons (dCallP 2 pf_is_point false true [] (dCons (dVar 17) (dCons (dOp (dAdd true) (dVar 19) (dC (.int 1))) (dNil)))) (dCons (dCallP 2 pf_is_point false true [] (dCons (dVar 18) (dCons (dVar 19) (dNil)))) (dCons (dCallP 2 pf_is_point false true [] (dCons (dVar 18) (dCons (dOp (dAdd true) (dVar 19) (dC (.int 2))) (dNil)))) (dCons (dCallP 2 pf_is_point false true [] (dCons (dTup (dNil)) (dCons (dC (.int 0)) (dNil)))) (dCons (dCallP 2 pf_is_point false true [] (dCons (dOp (dAdd true) (dVar 17) (dVar 17)) (dCons (dOp (dMul true) (dC (.int 2)) (dVar 19)) (dNil)))) (dNil))))))))
def s_law_31 : DS := mRet (dCallP 2 pf__law_is false true [] (dCons (dVar 11) (dCons (dLst true (dCons (dC (.bl true)) (dCons (dC (.bl false)) (dCons (dC (.bl false)) (dCons (dC (.bl false)) (dCons (dC (.bl true)) (dCons (dC (.bl true)) (dNil)))))))) (dNil))))
def m_law : DS := mSeq s_law_0 (mSeq s_law_1 (mSeq s_law_2 (mSeq s_law_3 (mSeq s_law_4 (mSeq s_law_5 (mSeq s_law_6 (mSeq s_law_7 (mSeq s_law_8 (mSeq s_law_9 (mSeq s_law_10 (mSeq s_law_11 (mSeq s_law_12 (mSeq s_law_13 (mSeq s_law_14 (mSeq s_law_15 (mSeq s_law_16 (mSeq s_law_17 (mSeq s_law_18 (mSeq s_law_19 (mSeq s_law_20 (mSeq s_law_21 (mSeq s_law_22 (mSeq s_law_23 (mSeq s_law_24 (mSeq s_law_25 (mSeq s_law_26 (mSeq s_law_27 (mSeq s_law_28 (mSeq s_law_29 (mSeq s_law_30 (s_law_31)))))))))))))))))))))))))))))))
theorem ms_law (ub : ∀ x ∈ bls, mg (PySem.Str.ofString x) = none) (c_fraction : Cal P w K mg base 2 "fraction" ["a", "b"] (spP K 2 false pf_fraction) []) (c_plus : Cal P w K mg base 3 "plus" ["x", "y"] (spP K 2 false pf_plus) []) (c_less : Cal P w K mg base 4 "less" ["x", "y"] (spP K 2 false pf_less) []) (c_times : Cal P w K mg base 3 "times" ["x", "y"] (spP K 2 false pf_times) []) (c_sign_of : Cal P w K mg base 1 "sign_of" ["x"] (spP K 1 false pf_sign_of) []) (c_below : Cal P w K mg base 1 "below" ["x", "y"] (spP K 2 false pf_below) []) (c_is_fraction : Cal P w K mg base 2 "is_fraction" ["value"] (spP K 1 false pf_is_fraction) []) (c_is_point : Cal P w K mg base 3 "is_point" ["value", "n"] (spP K 2 false pf_is_point) []) (c_primitive : Cal P w K mg base 2 "primitive" ["row"] (spP K 1 false pf_primitive) []) (c__law_deck : Cal P w K mg base 1 "_law_deck" ["script"] (spP K 1 true pf__law_deck) []) (c__law_draw : Cal P w K mg base 1 "_law_draw" ["deck", "bound"] (spI K 2 false pf__law_draw) []) (c__law_is : Cal P w K mg base 1 "_law_is" ["value", "due"] (spP K 2 false pf__law_is) []) (c__law_gcd : Cal P w K mg base 1 "_law_gcd" ["a", "b"] (spP K 2 false pf_common) []) (c__law_frac : Cal P w K mg base 2 "_law_frac" ["a", "b"] (spP K 2 false pf_fraction) []) (c__law_sign : Cal P w K mg base 1 "_law_sign" ["x"] (spP K 1 false pf_sign_of) []) (c__law_number : Cal P w K mg base 2 "_law_number" ["deck"] (spI K 1 false pf__law_number) []) (c__law_over : Cal P w K mg base 4 "_law_over" ["x", "y"] (spP K 2 false pf__law_over) []) (f : Addr) (cdv : Value) (A : Around) (outer : List Env) (s : Shared) (H : Hp) (E : XK) (hr : RoomG 4 (A.deeper (envOfC "law" (defScope st_law) s.heap.objs.size f cdv))) :
    MSs (cxOf (L2.CX P w) P w K mg base N_law "law" (defScope st_law) f cdv A outer s H E) (fun cls d _ H => E cls d H) (defBody st_law) (m_law) :=
  mss_cons (ms_s 1 scope_law.nd (me_cP false c__law_deck hr.at_ (takes_of rfl rfl rfl rfl) (ma_cons (me_v 0) (ma_nil)))) (mss_cons (ms_asg (me_tup (ma_cons (me_cI true c__law_number hr.at_ (takes_of rfl rfl rfl rfl) (me_v 1) (ma_nil)) (ma_cons (me_cI true c__law_number hr.at_ (takes_of rfl rfl rfl rfl) (me_v 1) (ma_nil)) (ma_cons (me_cI true c__law_number hr.at_ (takes_of rfl rfl rfl rfl) (me_v 1) (ma_nil)) (ma_cons (me_cI true c__law_number hr.at_ (takes_of rfl rfl rfl rfl) (me_v 1) (ma_nil)) (ma_nil)))))) (mg_tup rfl (mgs_cons (mg_n 2 scope_law.nd) (mgs_cons (mg_n 3 scope_law.nd) (mgs_cons (mg_n 4 scope_law.nd) (mgs_cons (mg_n 5 scope_law.nd) (mgs_nil))))))) (mss_cons (ms_p 3 5 scope_law.nd (ma_cons (me_add true (me_v 3) (me_bt bl_int (ub _ (by decide)) (ma_cons (me_c (cd_eq hr.u64) (me_v 3) (me_int)) (ma_nil)))) (ma_cons (me_add true (me_v 5) (me_bt bl_int (ub _ (by decide)) (ma_cons (me_c (cd_eq hr.u64) (me_v 5) (me_int)) (ma_nil)))) (ma_nil)))) (mss_cons (ms_p 6 7 scope_law.nd (ma_cons (me_cP true c__law_frac hr.at_ (takes_of rfl rfl rfl rfl) (ma_cons (me_v 2) (ma_cons (me_v 3) (ma_nil)))) (ma_cons (me_cP true c__law_frac hr.at_ (takes_of rfl rfl rfl rfl) (ma_cons (me_v 4) (ma_cons (me_v 5) (ma_nil)))) (ma_nil)))) (mss_cons (ms_if (mt_not (mt_val (me_cP true c__law_is hr.at_ (takes_of rfl rfl rfl rfl) (ma_cons (me_lst true (ma_cons (me_cP true c_fraction hr.at_ (takes_of rfl rfl rfl rfl) (ma_cons (me_v 2) (ma_cons (me_v 3) (ma_nil)))) (ma_cons (me_cP true c_fraction hr.at_ (takes_of rfl rfl rfl rfl) (ma_cons (me_v 4) (ma_cons (me_v 5) (ma_nil)))) (ma_cons (me_cP true c_fraction hr.at_ (takes_of rfl rfl rfl rfl) (ma_cons (me_mul true (me_v 2) (me_v 5)) (ma_cons (me_mul true (me_v 3) (me_v 5)) (ma_nil)))) (ma_nil))))) (ma_cons (me_lst true (ma_cons (me_v 6) (ma_cons (me_v 7) (ma_cons (me_v 6) (ma_nil))))) (ma_nil)))))) (mss_one (ms_ret (me_bl))) (mss_nil)) (mss_cons (ms_s 8 scope_law.nd (me_lst true (ma_cons (me_cP true c__law_frac hr.at_ (takes_of rfl rfl rfl rfl) (ma_cons (me_add true (me_mul true (me_v 2) (me_v 5)) (me_mul true (me_v 4) (me_v 3))) (ma_cons (me_mul true (me_v 3) (me_v 5)) (ma_nil)))) (ma_cons (me_cP true c__law_frac hr.at_ (takes_of rfl rfl rfl rfl) (ma_cons (me_sub (me_mul true (me_v 2) (me_v 5)) (me_mul true (me_v 4) (me_v 3))) (ma_cons (me_mul true (me_v 3) (me_v 5)) (ma_nil)))) (ma_cons (me_cP true c__law_frac hr.at_ (takes_of rfl rfl rfl rfl) (ma_cons (me_mul true (me_v 2) (me_v 4)) (ma_cons (me_mul true (me_v 3) (me_v 5)) (ma_nil)))) (ma_nil)))))) (mss_cons (ms_if (mt_not (mt_val (me_cP true c__law_is hr.at_ (takes_of rfl rfl rfl rfl) (ma_cons (me_lst true (ma_cons (me_cP true c_plus hr.at_ (takes_of rfl rfl rfl rfl) (ma_cons (me_v 6) (ma_cons (me_v 7) (ma_nil)))) (ma_cons (me_cP true c_less hr.at_ (takes_of rfl rfl rfl rfl) (ma_cons (me_v 6) (ma_cons (me_v 7) (ma_nil)))) (ma_cons (me_cP true c_times hr.at_ (takes_of rfl rfl rfl rfl) (ma_cons (me_v 6) (ma_cons (me_v 7) (ma_nil)))) (ma_nil))))) (ma_cons (me_v 8) (ma_nil)))))) (mss_one (ms_ret (me_bl))) (mss_nil)) (mss_cons (ms_s 8 scope_law.nd (me_tup (ma_cons (me_str) (ma_cons (me_non) (ma_nil))))) (mss_cons (ms_if (mt_c (cd_ne hr.u64) (me_v 4) (me_int)) (mss_one (ms_s 8 scope_law.nd (me_cP true c__law_frac hr.at_ (takes_of rfl rfl rfl rfl) (ma_cons (me_mul true (me_v 2) (me_v 5)) (ma_cons (me_mul true (me_v 3) (me_v 4)) (ma_nil)))))) (mss_nil)) (mss_cons (ms_if (MW.mt (mw_or (mt_not (mt_val (me_cP true c__law_is hr.at_ (takes_of rfl rfl rfl rfl) (ma_cons (me_cP true c__law_over hr.at_ (takes_of rfl rfl rfl rfl) (ma_cons (me_v 6) (ma_cons (me_v 7) (ma_nil)))) (ma_cons (me_v 8) (ma_nil)))))) (mw_or1 (mt_not (mt_val (me_cP true c__law_is hr.at_ (takes_of rfl rfl rfl rfl) (ma_cons (me_lst true (ma_cons (me_cP true c_sign_of hr.at_ (takes_of rfl rfl rfl rfl) (ma_cons (me_v 6) (ma_nil))) (ma_cons (me_cP true c_sign_of hr.at_ (takes_of rfl rfl rfl rfl) (ma_cons (me_v 7) (ma_nil))) (ma_nil)))) (ma_cons (me_lst true (ma_cons (me_cP true c__law_sign hr.at_ (takes_of rfl rfl rfl rfl) (ma_cons (me_v 6) (ma_nil))) (ma_cons (me_cP true c__law_sign hr.at_ (takes_of rfl rfl rfl rfl) (ma_cons (me_v 7) (ma_nil))) (ma_nil)))) (ma_nil))))))))) (mss_one (ms_ret (me_bl))) (mss_nil)) (mss_cons (ms_if (mt_not (mt_val (me_cP true c__law_is hr.at_ (takes_of rfl rfl rfl rfl) (ma_cons (me_lst true (ma_cons (me_cP true c_below hr.at_ (takes_of rfl rfl rfl rfl) (ma_cons (me_v 6) (ma_cons (me_v 7) (ma_nil)))) (ma_cons (me_cP true c_below hr.at_ (takes_of rfl rfl rfl rfl) (ma_cons (me_v 7) (ma_cons (me_v 6) (ma_nil)))) (ma_cons (me_cP true c_below hr.at_ (takes_of rfl rfl rfl rfl) (ma_cons (me_v 6) (ma_cons (me_v 6) (ma_nil)))) (ma_nil))))) (ma_cons (me_lst true (ma_cons (me_c cd_lt (me_mul true (me_ix (me_v 6) (me_int)) (me_ix (me_v 7) (me_int))) (me_mul true (me_ix (me_v 7) (me_int)) (me_ix (me_v 6) (me_int)))) (ma_cons (me_c cd_lt (me_mul true (me_ix (me_v 7) (me_int)) (me_ix (me_v 6) (me_int))) (me_mul true (me_ix (me_v 6) (me_int)) (me_ix (me_v 7) (me_int)))) (ma_cons (me_bl) (ma_nil))))) (ma_nil)))))) (mss_one (ms_ret (me_bl))) (mss_nil)) (mss_cons (ms_s 9 scope_law.nd (me_add true (me_slice true (me_lst true (ma_cons (me_v 6) (ma_cons (me_v 7) (ma_cons (me_tup (ma_cons (me_add true (me_int) (me_cI true c__law_draw hr.at_ (takes_of rfl rfl rfl rfl) (me_v 1) (ma_cons (me_int) (ma_nil)))) (ma_cons (me_add true (me_int) (me_cI true c__law_draw hr.at_ (takes_of rfl rfl rfl rfl) (me_v 1) (ma_cons (me_int) (ma_nil)))) (ma_nil)))) (ma_nil))))) (mo_some (me_cI true c__law_draw hr.at_ (takes_of rfl rfl rfl rfl) (me_v 1) (ma_cons (me_int) (ma_nil)))) (mo_none)) (me_mul true (me_lst true (ma_cons (me_tup (ma_cons (me_int) (ma_cons (me_int) (ma_nil)))) (ma_nil))) (me_cI true c__law_draw hr.at_ (takes_of rfl rfl rfl rfl) (me_v 1) (ma_cons (me_int) (ma_nil)))))) (mss_cons (ms_s 9 scope_law.nd (me_step true (me_l true [("item", 13)] scope_law.nd (mi_seq (me_v 9)) (fun _ _ _ _ _ => mg_n 13 scope_law.nd) (fun _ _ _ _ _ => mts_nil) (fun _ _ _ _ _ => me_cP true c__law_frac hr.at_ takesF (ma_cons (me_ix (me_v 13) (me_int)) (ma_cons (me_ix (me_v 13) (me_int)) (ma_nil))))) (me_ix (me_lst true (ma_cons (me_int) (ma_cons (me_neg (me_int)) (ma_nil)))) (me_cI true c__law_draw hr.at_ (takes_of rfl rfl rfl rfl) (me_v 1) (ma_cons (me_int) (ma_nil)))))) (mss_cons (ms_if (mt_c (cd_eq hr.u64) (me_cI true c__law_draw hr.at_ (takes_of rfl rfl rfl rfl) (me_v 1) (ma_cons (me_int) (ma_nil))) (me_int)) (mss_one (ms_s 9 scope_law.nd (me_add true (me_v 9) (me_l true [("k", 20)] scope_law.nd (mi_rng1 (ub _ (by decide)) (ma_cons (me_cI true c__law_draw hr.at_ (takes_of rfl rfl rfl rfl) (me_v 1) (ma_cons (me_int) (ma_nil))) (ma_nil))) (fun _ _ _ _ _ => mg_n 20 scope_law.nd) (fun _ _ _ _ _ => mts_nil) (fun _ _ _ _ _ => me_cP true c__law_frac hr.at_ takesF (ma_cons (me_sub (me_cI true c__law_draw hr.at_ takesF (me_v 1) (ma_cons (me_int) (ma_nil))) (me_int)) (ma_cons (me_add true (me_int) (me_cI true c__law_draw hr.at_ takesF (me_v 1) (ma_cons (me_int) (ma_nil)))) (ma_nil)))))))) (mss_nil)) (mss_cons (ms_if (mt_c (cd_eq hr.u64) (me_cI true c__law_draw hr.at_ (takes_of rfl rfl rfl rfl) (me_v 1) (ma_cons (me_int) (ma_nil))) (me_int)) (mss_one (ms_s 9 scope_law.nd (me_slice true (me_l true [("item", 13)] scope_law.nd (mi_seq (me_v 9)) (fun _ _ _ _ _ => mg_n 13 scope_law.nd) (fun _ _ _ _ _ => mts_one (mt_c (cd_ne hr.u64) (me_ix (me_v 13) (me_int)) (me_int))) (fun _ _ _ _ _ => me_v 13)) (mo_none) (mo_some (me_int))))) (mss_nil)) (mss_cons (ms_s 10 scope_law.nd (me_bt (bl_list true) (ub _ (by decide)) (ma_cons (me_v 9) (ma_nil)))) (mss_cons (ms_s 11 scope_law.nd (me_cP true c_primitive hr.at_ (takes_of rfl rfl rfl rfl) (ma_cons (me_v 10) (ma_nil)))) (mss_cons (ms_if (mt_not (mt_val (me_cP true c__law_is hr.at_ (takes_of rfl rfl rfl rfl) (ma_cons (me_v 10) (ma_cons (me_v 9) (ma_nil)))))) (mss_one (ms_ret (me_bl))) (mss_nil)) (mss_cons (ms_s 12 scope_law.nd (me_int)) (mss_cons (ms_for (passes_of rfl) rfl (mi_seq (me_v 11)) (mg_n 13 scope_law.nd) (mss_one (ms_s 12 scope_law.nd (me_cP true c__law_gcd hr.at_ (takes_of rfl rfl rfl rfl) (ma_cons (me_v 12) (ma_cons (me_v 13) (ma_nil))))))) (mss_cons (ms_if (MW.mt (mw_or (mt_not (mt_val (me_bt bl_isi (ub _ (by decide)) (ma_cons (me_v 11) (ma_cons (me_t "list" (ub _ (by decide))) (ma_nil)))))) (mw_or (mt_c (cd_ne hr.u64) (me_bt bl_len (ub _ (by decide)) (ma_cons (me_v 11) (ma_nil))) (me_bt bl_len (ub _ (by decide)) (ma_cons (me_v 9) (ma_nil)))) (mw_or (mt_c (cd_ne hr.u64) (me_v 12) (me_int)) (mw_or1 (mt_val (me_bt (bl_any rfl) (ub _ (by decide)) (ma_cons (me_l true [("item", 13)] scope_law.nd (mi_seq (me_v 11)) (fun _ _ _ _ _ => mg_n 13 scope_law.nd) (fun _ _ _ _ _ => mts_nil) (fun _ _ _ _ _ => me_or (me_bt bl_isi (ub _ (by decide)) (ma_cons (me_v 13) (ma_cons (me_t "bool" (ub _ (by decide))) (ma_nil)))) (me_one (me_not (me_bt bl_isi (ub _ (by decide)) (ma_cons (me_v 13) (ma_cons (me_t "int" (ub _ (by decide))) (ma_nil)))))))) (ma_nil))))))))) (mss_one (ms_ret (me_bl))) (mss_nil)) (mss_cons (ms_s 14 scope_law.nd (me_ix (me_l true [("k", 20)] scope_law.nd (mi_rng1 (ub _ (by decide)) (ma_cons (me_bt bl_len (ub _ (by decide)) (ma_cons (me_v 9) (ma_nil))) (ma_nil))) (fun _ _ _ _ _ => mg_n 20 scope_law.nd) (fun _ _ _ _ _ => mts_one (mt_c (cd_ne hr.u64) (me_ix (me_ix (me_v 9) (me_v 20)) (me_int)) (me_int))) (fun _ _ _ _ _ => me_v 20)) (me_int))) (mss_cons (ms_if (mt_c (cd_ne hr.u64) (me_c cd_gt (me_ix (me_v 11) (me_v 14)) (me_int)) (me_c cd_gt (me_ix (me_ix (me_v 9) (me_v 14)) (me_int)) (me_int))) (mss_one (ms_ret (me_bl))) (mss_nil)) (mss_cons (ms_if (mt_val (me_bt (bl_any rfl) (ub _ (by decide)) (ma_cons (me_l true [("k", 20)] scope_law.nd (mi_rng1 (ub _ (by decide)) (ma_cons (me_bt bl_len (ub _ (by decide)) (ma_cons (me_v 9) (ma_nil))) (ma_nil))) (fun _ _ _ _ _ => mg_n 20 scope_law.nd) (fun _ _ _ _ _ => mts_nil) (fun _ _ _ _ _ => me_c (cd_ne hr.u64) (me_mul true (me_mul true (me_ix (me_v 11) (me_v 20)) (me_ix (me_ix (me_v 9) (me_v 14)) (me_int))) (me_ix (me_ix (me_v 9) (me_v 20)) (me_int))) (me_mul true (me_mul true (me_ix (me_v 11) (me_v 14)) (me_ix (me_ix (me_v 9) (me_v 20)) (me_int))) (me_ix (me_ix (me_v 9) (me_v 14)) (me_int))))) (ma_nil)))) (mss_one (ms_ret (me_bl))) (mss_nil)) (mss_cons (ms_s 15 scope_law.nd (me_lst true (ma_cons (me_tup (ma_cons (me_int) (ma_cons (me_int) (ma_nil)))) (ma_cons (me_tup (ma_cons (me_int) (ma_cons (me_int) (ma_nil)))) (ma_cons (me_tup (ma_cons (me_int) (ma_cons (me_neg (me_int)) (ma_nil)))) (ma_cons (me_tup (ma_cons (me_int) (ma_cons (me_int) (ma_nil)))) (ma_cons (me_tup (ma_cons (me_int) (ma_cons (me_int) (ma_nil)))) (ma_cons (me_tup (ma_cons (me_int) (ma_cons (me_int) (ma_nil)))) (ma_cons (me_lst true (ma_cons (me_int) (ma_cons (me_int) (ma_nil)))) (ma_cons (me_tup (ma_cons (me_int) (ma_cons (me_int) (ma_cons (me_int) (ma_nil))))) (ma_cons (me_tup (ma_cons (me_int) (ma_nil))) (ma_cons (me_non) (ma_cons (me_int) (ma_cons (me_tup (ma_cons (me_bl) (ma_cons (me_int) (ma_nil)))) (ma_cons (me_tup (ma_cons (me_int) (ma_cons (me_bl) (ma_nil)))) (ma_cons (me_tup (ma_cons (me_non) (ma_cons (me_int) (ma_nil)))) (ma_cons (me_str) (ma_cons (me_tup (ma_cons (me_neg (me_int)) (ma_cons (me_int) (ma_nil)))) (ma_nil))))))))))))))))))) (mss_cons (ms_s 16 scope_law.nd (me_ix (me_v 15) (me_cI true c__law_draw hr.at_ (takes_of rfl rfl rfl rfl) (me_v 1) (ma_cons (me_bt bl_len (ub _ (by decide)) (ma_cons (me_v 15) (ma_nil))) (ma_nil))))) (mss_cons (ms_if (mt_not (mt_val (me_cP true c__law_is hr.at_ (takes_of rfl rfl rfl rfl) (ma_cons (me_cP true c_is_fraction hr.at_ (takes_of rfl rfl rfl rfl) (ma_cons (me_v 16) (ma_nil))) (ma_cons (me_or (me_c (cd_in hr.u65) (me_v 16) (me_lst true (ma_cons (me_tup (ma_cons (me_int) (ma_cons (me_int) (ma_nil)))) (ma_cons (me_tup (ma_cons (me_neg (me_int)) (ma_cons (me_int) (ma_nil)))) (ma_nil))))) (me_one (me_cP true c__law_is hr.at_ (takes_of rfl rfl rfl rfl) (ma_cons (me_v 16) (ma_cons (me_tup (ma_cons (me_int) (ma_cons (me_int) (ma_nil)))) (ma_nil)))))) (ma_nil)))))) (mss_one (ms_ret (me_bl))) (mss_nil)) (mss_cons (ms_s 17 scope_law.nd (me_ix (me_lst true (ma_cons (me_tup (ma_cons (me_v 6) (ma_nil))) (ma_cons (me_tup (ma_cons (me_v 6) (ma_cons (me_v 7) (ma_nil)))) (ma_cons (me_tup (ma_cons (me_v 6) (ma_cons (me_v 7) (ma_cons (me_tup (ma_cons (me_int) (ma_cons (me_int) (ma_nil)))) (ma_nil))))) (ma_cons (me_tup (ma_cons (me_v 6) (ma_cons (me_v 7) (ma_cons (me_v 6) (ma_cons (me_v 7) (ma_nil)))))) (ma_nil)))))) (me_cI true c__law_draw hr.at_ (takes_of rfl rfl rfl rfl) (me_v 1) (ma_cons (me_int) (ma_nil))))) (mss_cons (ms_s 18 scope_law.nd (me_ix (me_lst true (ma_cons (me_bt (bl_list true) (ub _ (by decide)) (ma_cons (me_v 17) (ma_nil))) (ma_cons (me_add true (me_v 17) (me_tup (ma_cons (me_v 16) (ma_nil)))) (ma_cons (me_add true (me_slice true (me_v 17) (mo_none) (mo_some (me_neg (me_int)))) (me_tup (ma_cons (me_non) (ma_nil)))) (ma_cons (me_tup (ma_cons (me_v 17) (ma_nil))) (ma_cons (me_slice true (me_v 17) (mo_none) (mo_some (me_neg (me_int)))) (ma_nil))))))) (me_cI true c__law_draw hr.at_ (takes_of rfl rfl rfl rfl) (me_v 1) (ma_cons (me_int) (ma_nil))))) (mss_cons (ms_s 19 scope_law.nd (me_bt bl_len (ub _ (by decide)) (ma_cons (me_v 17) (ma_nil)))) (mss_cons (ms_s 11 scope_law.nd (me_lst true (ma_cons (me_cP true c_is_point hr.at_ (takes_of rfl rfl rfl rfl) (ma_cons (me_v 17) (ma_cons (me_v 19) (ma_nil)))) (ma_cons (me_cP true c_is_point hr.at_ (takes_of rfl rfl rfl rfl) (ma_cons (me_v 17) (ma_cons (me_add true (me_v 19) (me_int)) (ma_nil)))) (ma_cons (me_cP true c_is_point hr.at_ (takes_of rfl rfl rfl rfl) (ma_cons (me_v 18) (ma_cons (me_v 19) (ma_nil)))) (ma_cons (me_cP true c_is_point hr.at_ (takes_of rfl rfl rfl rfl) (ma_cons (me_v 18) (ma_cons (me_add true (me_v 19) (me_int)) (ma_nil)))) (ma_cons (me_cP true c_is_point hr.at_ (takes_of rfl rfl rfl rfl) (ma_cons (me_tup (ma_nil)) (ma_cons (me_int) (ma_nil)))) (ma_cons (me_cP true c_is_point hr.at_ (takes_of rfl rfl rfl rfl) (ma_cons (me_add true (me_v 17) (me_v 17)) (ma_cons (me_mul true (me_int) (me_v 19)) (ma_nil)))) (ma_nil))))))))) (mss_one (ms_ret (me_cP true c__law_is hr.at_ (takes_of rfl rfl rfl rfl) (ma_cons (me_v 11) (ma_cons (me_lst true (ma_cons (me_bl) (ma_cons (me_bl) (ma_cons (me_bl) (ma_cons (me_bl) (ma_cons (me_bl) (ma_cons (me_bl) (ma_nil)))))))) (ma_nil))))))))))))))))))))))))))))))))))))
theorem cal_law {f : Addr} {fd : FuncData} (Dd : FunD K "law" "law" (defArgs st_law) (defBody st_law) (defScope st_law) [] [] f fd) (hm : mg "law" = some (.ref f)) (ub : ∀ x ∈ bls, mg (PySem.Str.ofString x) = none) (c_fraction : Cal P w K mg base 2 "fraction" ["a", "b"] (spP K 2 false pf_fraction) []) (c_plus : Cal P w K mg base 3 "plus" ["x", "y"] (spP K 2 false pf_plus) []) (c_less : Cal P w K mg base 4 "less" ["x", "y"] (spP K 2 false pf_less) []) (c_times : Cal P w K mg base 3 "times" ["x", "y"] (spP K 2 false pf_times) []) (c_sign_of : Cal P w K mg base 1 "sign_of" ["x"] (spP K 1 false pf_sign_of) []) (c_below : Cal P w K mg base 1 "below" ["x", "y"] (spP K 2 false pf_below) []) (c_is_fraction : Cal P w K mg base 2 "is_fraction" ["value"] (spP K 1 false pf_is_fraction) []) (c_is_point : Cal P w K mg base 3 "is_point" ["value", "n"] (spP K 2 false pf_is_point) []) (c_primitive : Cal P w K mg base 2 "primitive" ["row"] (spP K 1 false pf_primitive) []) (c__law_deck : Cal P w K mg base 1 "_law_deck" ["script"] (spP K 1 true pf__law_deck) []) (c__law_draw : Cal P w K mg base 1 "_law_draw" ["deck", "bound"] (spI K 2 false pf__law_draw) []) (c__law_is : Cal P w K mg base 1 "_law_is" ["value", "due"] (spP K 2 false pf__law_is) []) (c__law_gcd : Cal P w K mg base 1 "_law_gcd" ["a", "b"] (spP K 2 false pf_common) []) (c__law_frac : Cal P w K mg base 2 "_law_frac" ["a", "b"] (spP K 2 false pf_fraction) []) (c__law_sign : Cal P w K mg base 1 "_law_sign" ["x"] (spP K 1 false pf_sign_of) []) (c__law_number : Cal P w K mg base 2 "_law_number" ["deck"] (spI K 1 false pf__law_number) []) (c__law_over : Cal P w K mg base 4 "_law_over" ["x", "y"] (spP K 2 false pf__law_over) []) (hs : specP 1 N_law.length false (m_law) pf_law) : Cal P w K mg base 5 "law" ["script"] (spP K 1 false pf_law) [] :=
  ⟨f, fd, [], fnP_of Dd scope_law 1 rfl pf_law false (fun cdv A outer s H E hr => ms_law ub c_fraction c_plus c_less c_times c_sign_of c_below c_is_fraction c_is_point c_primitive c__law_deck c__law_draw c__law_is c__law_gcd c__law_frac c__law_sign c__law_number c__law_over f cdv A outer s H E hr) hs, hm, Dd.kp, .nil, Dd.bindsN fun _ _ _ _ _ _ us hl => match us, hl with | [_], _ => rfl⟩
end
end K01

set_option Elab.async false
set_option linter.all false
set_option maxRecDepth 100000
set_option maxHeartbeats 4000000
namespace K01
open PySem PySem.Spec PyProof.Rows L2 DL

/-! ### sizes -/
theorem pyl {j : Int} (h : j.natAbs < 2 ^ 8900) (i : Int) : Builtin.divisionGoesByPylong i j = false := by
  unfold Builtin.divisionGoesByPylong
  by_cases h0 : j = 0
  · subst h0; simp
  · have h1 : j.natAbs.log2 < 8900 := (Nat.log2_lt (by omega)).mpr h
    simp only [Bool.and_eq_false_iff, decide_eq_false_iff_not]
    left
    have : (j == 0) = false := by simpa using h0
    rw [this]
    simp only [Bool.false_eq_true, if_false]
    omega
theorem cfd {i j : Int} (h0 : j ≠ 0) (h : j.natAbs < 2 ^ 8900) : CFd i j := ⟨h0, pyl h i⟩
theorem bits_le {a : Int} {n : Nat} (h : a.natAbs < 2 ^ n) : Builtin.Int.intBits a ≤ n := by
  unfold Builtin.Int.intBits
  split
  · omega
  · rename_i h0
    have h0' : a ≠ 0 := by simpa using h0
    exact (Nat.log2_lt (by omega)).mpr h
theorem mulOk {a b : Int} {n m : Nat} (ha : a.natAbs < 2 ^ n) (hb : b.natAbs < 2 ^ m) (h : n + m ≤ 1000000) : IntMulOk a b := by
  have h1 := bits_le ha
  have h2 := bits_le hb
  unfold IntMulOk Builtin.Int.intTooBig
  simp only [Bool.and_eq_true, decide_eq_true_eq, not_and]
  intro _ _
  have : (1000000 : Int) ≤ bitsLine := by decide +kernel
  omega
instance (k : Nat) (i : Int) : Decidable (Sm k i) := inferInstanceAs (Decidable (i.natAbs < 2 ^ k))
theorem sm_mul {a b : Int} {n m k : Nat} (ha : Sm n a) (hb : Sm m b) (h : n + m ≤ k) : Sm k (a * b) := by
  unfold Sm at *
  rw [Int.natAbs_mul]
  calc a.natAbs * b.natAbs < 2 ^ n * 2 ^ m := Nat.mul_lt_mul'' ha hb
    _ = 2 ^ (n + m) := (Nat.pow_add 2 n m).symm
    _ ≤ 2 ^ k := Nat.pow_le_pow_right (by decide) h
theorem sm_add {a b : Int} {n k : Nat} (ha : Sm n a) (hb : Sm n b) (h : n + 1 ≤ k) : Sm k (a + b) := by
  unfold Sm at *
  have : 2 ^ (n + 1) ≤ 2 ^ k := Nat.pow_le_pow_right (by decide) h
  rw [Nat.pow_succ] at this
  omega
theorem sm_neg {a : Int} {n : Nat} (ha : Sm n a) : Sm n (-a) := by
  unfold Sm at *
  omega
theorem sm_mono {a : Int} {n k : Nat} (ha : Sm n a) (h : n ≤ k) : Sm k a := Nat.lt_of_lt_of_le ha (Nat.pow_le_pow_right (by decide) h)
theorem smR_den {x : Rat} {k : Nat} (h : SmR k x) : Sm k (x.den : Int) := by
  unfold Sm
  rw [Int.natAbs_natCast]
  exact h.2
theorem den0 (x : Rat) : (x.den : Int) ≠ 0 := by
  have := x.den_nz
  omega
theorem p_int {M : MH} {i : Int} : prep1 M (.int i) = some (.int i, false) := rfl
theorem p_bl {M : MH} {i : Bool} : prep1 M (.bl i) = some (.bl i, false) := rfl
theorem p_non {M : MH} : prep1 M .non = some (.non, false) := rfl
theorem p_str {M : MH} {i : Str} : prep1 M (.str i) = some (.str i, false) := rfl
theorem p_rD {M : MH} {a b : Int} : prep1 M (.tup [.int a, .int b]) = some (.tup [.int a, .int b], false) := rfl
theorem prep1_plain {M : MH} {d : D} (h : D.plain d = true) : prep1 M d = some (d, false) := by
  cases d <;> first
    | rfl
    | (cases h)
    | (simp only [prep1]; rw [if_pos h])
theorem okV_plain {d : D} (h : okV d = true) : D.plain d = true := by
  cases d <;> first
    | rfl
    | exact h
    | cases h
/-! ### numbers -/
theorem abs_if (a : Int) : (if a < 0 then -a else a) = (a.natAbs : Int) := by split <;> omega
theorem h_common : specP 2 N_common.length false m_common pf_common := by
  rintro ds R RE hl ⟨a, b, rfl, hR⟩
  simp only [m_common, N_common, mSeq, mPar, mSet, mAsg, mWhile, mFor, mIf, mRet, mRetN, mNext, mPut, mDrop, dCons, dNil, dCB, dAbs, dInt, dLen, dVar, dC, slP, dOp, dUn, dNeg, dSub, dAdd, dMul, dMd, dFd, dI, dI0, dCmpI, dLt, dLe, dGt, dGe, dTest, dTestB, dTru, dTup, dLst, dIx, dCallP, dCallI, callIK, dAndV, dOrV, dNotV, dAnd, dOr, dNot, dIf, RH.put, List.length, List.map, List.getElem?_cons_zero, List.getElem?_cons_succ, List.cons_append, List.nil_append, List.append_nil, List.set, Nat.reduceSub, List.replicate, prepA, p_int, p_bl, p_non, p_str, D.plain, plainA, Bool.and_true, Bool.true_and, if_true, Bool.or_false, Bool.false_or, resK, rdS, rdL, bindP, bindPs, abs_if]
  refine ⟨fun n r M => ∃ x y : Nat, r.sl = [some (.int x), some (.int y)] ∧ M = [] ∧ n = y ∧ Nat.gcd x y = Int.gcd a b, ⟨_, a.natAbs, b.natAbs, rfl, rfl, rfl, rfl⟩, ?_⟩
  rintro n r M ⟨x, y, hs, rfl, rfl, hg⟩
  simp only [hs, mSeq, mPar, mSet, mAsg, mWhile, mFor, mIf, mRet, mRetN, mNext, mPut, mDrop, dCons, dNil, dCB, dAbs, dInt, dLen, dVar, dC, slP, dOp, dUn, dNeg, dSub, dAdd, dMul, dMd, dFd, dI, dI0, dCmpI, dLt, dLe, dGt, dGe, dTest, dTestB, dTru, dTup, dLst, dIx, dCallP, dCallI, callIK, dAndV, dOrV, dNotV, dAnd, dOr, dNot, dIf, RH.put, List.length, List.map, List.getElem?_cons_zero, List.getElem?_cons_succ, List.cons_append, List.nil_append, List.append_nil, List.set, Nat.reduceSub, List.replicate, prepA, p_int, p_bl, p_non, p_str, D.plain, plainA, Bool.and_true, Bool.true_and, if_true, Bool.or_false, Bool.false_or, resK, rdS, rdL, bindP, bindPs]
  split
  · rename_i h
    have hy : n ≠ 0 := by simpa using h
    refine ⟨fun r' M' => r'.sl = [some (.int n), some (.int ((x % n : Nat) : Int))] ∧ M' = [], ?_, by omega, ?_⟩
    · rintro r' M' ⟨h1, rfl⟩
      exact ⟨x % n, Nat.mod_lt _ (by omega), n, x % n, h1, rfl, rfl, by rw [← hg, Nat.gcd_comm n, ← Nat.gcd_rec, Nat.gcd_comm]⟩
    · refine ⟨?_, rfl⟩
      rw [Int.fmod_eq_emod_of_nonneg _ (by omega)]
      rfl
  · rename_i h
    have hy : n = 0 := by simpa using h
    subst hy
    rw [Nat.gcd_zero_right] at hg
    rw [hg]
    exact ⟨rfl, hR⟩
theorem h__law_gcd : specP 2 N__law_gcd.length false m__law_gcd pf_common := by
  rintro ds R RE hl ⟨a, b, rfl, hR⟩
  simp only [m__law_gcd, N__law_gcd, mSeq, mPar, mSet, mAsg, mWhile, mFor, mIf, mRet, mRetN, mNext, mPut, mDrop, dCons, dNil, dCB, dAbs, dInt, dLen, dVar, dC, slP, dOp, dUn, dNeg, dSub, dAdd, dMul, dMd, dFd, dI, dI0, dCmpI, dLt, dLe, dGt, dGe, dTest, dTestB, dTru, dTup, dLst, dIx, dCallP, dCallI, callIK, dAndV, dOrV, dNotV, dAnd, dOr, dNot, dIf, RH.put, List.length, List.map, List.getElem?_cons_zero, List.getElem?_cons_succ, List.cons_append, List.nil_append, List.append_nil, List.set, Nat.reduceSub, List.replicate, prepA, p_int, p_bl, p_non, p_str, D.plain, plainA, Bool.and_true, Bool.true_and, if_true, Bool.or_false, Bool.false_or, resK, rdS, rdL, bindP, bindPs, abs_if]
  refine ⟨fun n r M => ∃ x y : Nat, r.sl = [some (.int a), some (.int b), some (.int x), some (.int y)] ∧ M = [] ∧ n = y ∧ Nat.gcd x y = Int.gcd a b, ⟨_, a.natAbs, b.natAbs, rfl, rfl, rfl, rfl⟩, ?_⟩
  rintro n r M ⟨x, y, hs, rfl, rfl, hg⟩
  simp only [hs, mSeq, mPar, mSet, mAsg, mWhile, mFor, mIf, mRet, mRetN, mNext, mPut, mDrop, dCons, dNil, dCB, dAbs, dInt, dLen, dVar, dC, slP, dOp, dUn, dNeg, dSub, dAdd, dMul, dMd, dFd, dI, dI0, dCmpI, dLt, dLe, dGt, dGe, dTest, dTestB, dTru, dTup, dLst, dIx, dCallP, dCallI, callIK, dAndV, dOrV, dNotV, dAnd, dOr, dNot, dIf, RH.put, List.length, List.map, List.getElem?_cons_zero, List.getElem?_cons_succ, List.cons_append, List.nil_append, List.append_nil, List.set, Nat.reduceSub, List.replicate, prepA, p_int, p_bl, p_non, p_str, D.plain, plainA, Bool.and_true, Bool.true_and, if_true, Bool.or_false, Bool.false_or, resK, rdS, rdL, bindP, bindPs]
  split
  · rename_i h
    have hy : n ≠ 0 := by
      have := of_decide_eq_true h
      omega
    refine ⟨fun r' M' => r'.sl = [some (.int a), some (.int b), some (.int n), some (.int ((x % n : Nat) : Int))] ∧ M' = [], ?_, by omega, ?_⟩
    · rintro r' M' ⟨h1, rfl⟩
      exact ⟨x % n, Nat.mod_lt _ (by omega), n, x % n, h1, rfl, rfl, by rw [← hg, Nat.gcd_comm n, ← Nat.gcd_rec, Nat.gcd_comm]⟩
    · refine ⟨?_, rfl⟩
      rw [Int.fmod_eq_emod_of_nonneg _ (by omega)]
      rfl
  · rename_i h
    have hy : n = 0 := by
      have : ¬ ((0 : Int) < n) := by simpa using h
      omega
    subst hy
    rw [Nat.gcd_zero_right] at hg
    rw [hg]
    exact ⟨rfl, hR⟩
theorem frac_num {a b : Int} (hb : b ≠ 0) : a.fdiv (if b < 0 then -(Int.gcd a b : Int) else (Int.gcd a b : Int)) = (Rat.divInt a b).num ∧ b.fdiv (if b < 0 then -(Int.gcd a b : Int) else (Int.gcd a b : Int)) = ((Rat.divInt a b).den : Int) := by
  have ga : ((Int.gcd a b : Int)) ∣ a := Int.gcd_dvd_left ..
  have gb : ((Int.gcd a b : Int)) ∣ b := Int.gcd_dvd_right ..
  have e1 : Int.gcd b a = Int.gcd a b := Int.gcd_comm b a
  rw [Rat.num_divInt, Rat.den_divInt, if_neg hb, e1]
  by_cases h : b < 0
  · rw [if_pos h]
    have s : b.sign = -1 := Int.sign_eq_neg_one_of_neg h
    rw [Int.fdiv_eq_ediv_of_dvd (Int.neg_dvd.mpr ga), Int.fdiv_eq_ediv_of_dvd (Int.neg_dvd.mpr gb), s, Int.ediv_neg, Int.ediv_neg]
    refine ⟨by rw [show (-1 : Int) * a = -a by omega, Int.neg_ediv_of_dvd ga], ?_⟩
    rw [Int.natCast_ediv, Int.ofNat_natAbs_of_nonpos (Int.le_of_lt h), Int.neg_ediv_of_dvd gb]
  · rw [if_neg h]
    have h' : 0 < b := by omega
    have s : b.sign = 1 := Int.sign_eq_one_of_pos h'
    rw [Int.fdiv_eq_ediv_of_dvd ga, Int.fdiv_eq_ediv_of_dvd gb, s, Int.one_mul]
    refine ⟨rfl, ?_⟩
    rw [Int.natCast_ediv, Int.natAbs_of_nonneg (Int.le_of_lt h')]
theorem gcd_sm {a b : Int} {k : Nat} (hb : b ≠ 0) (h : Sm k b) : Sm k (Int.gcd a b : Int) ∧ (Int.gcd a b : Int) ≠ 0 := by
  have hp : 0 < b.natAbs := by omega
  have gb : Int.gcd a b ∣ b.natAbs := Nat.gcd_dvd_right ..
  have := Nat.le_of_dvd hp gb
  have h0 : Int.gcd a b ≠ 0 := fun z => by
    rw [z] at gb
    have := Nat.eq_zero_of_zero_dvd gb
    omega
  unfold Sm at *
  refine ⟨?_, by omega⟩
  rw [Int.natAbs_natCast]
  omega
theorem core_fraction {n : Nat} {a b : Int} {R : D → Prop} (hb : b ≠ 0) (hs : Sm 4000 b) (hR : R (rD (Rat.divInt a b))) : CFd a (if b < 0 then -(Int.gcd a b : Int) else (Int.gcd a b : Int)) ∧ CFd b (if b < 0 then -(Int.gcd a b : Int) else (Int.gcd a b : Int)) ∧
    R (.tup [.int (a.fdiv (if b < 0 then -(Int.gcd a b : Int) else (Int.gcd a b : Int))), .int (b.fdiv (if b < 0 then -(Int.gcd a b : Int) else (Int.gcd a b : Int)))]) := by
  obtain ⟨h1, h2⟩ := gcd_sm (a := a) hb hs
  have hg : Sm 8900 (if b < 0 then -(Int.gcd a b : Int) else (Int.gcd a b : Int)) ∧ (if b < 0 then -(Int.gcd a b : Int) else (Int.gcd a b : Int)) ≠ 0 := by
    split
    · exact ⟨sm_mono (sm_neg h1) (by decide), by omega⟩
    · exact ⟨sm_mono h1 (by decide), h2⟩
  obtain ⟨e1, e2⟩ := frac_num (a := a) hb
  refine ⟨cfd hg.2 hg.1, cfd hg.2 hg.1, ?_⟩
  rw [e1, e2]
  exact hR
theorem h_fraction : specP 2 N_fraction.length false m_fraction pf_fraction := by
  rintro ds R RE hl ⟨a, b, rfl, hb, hs, hR⟩
  simp only [m_fraction, N_fraction, mSeq, mPar, mSet, mAsg, mWhile, mFor, mIf, mRet, mRetN, mNext, mPut, mDrop, dCons, dNil, dCB, dAbs, dInt, dLen, dVar, dC, slP, dOp, dUn, dNeg, dSub, dAdd, dMul, dMd, dFd, dI, dI0, dCmpI, dLt, dLe, dGt, dGe, dTest, dTestB, dTru, dTup, dLst, dIx, dCallP, dCallI, callIK, dAndV, dOrV, dNotV, dAnd, dOr, dNot, dIf, RH.put, List.length, List.map, List.getElem?_cons_zero, List.getElem?_cons_succ, List.cons_append, List.nil_append, List.append_nil, List.set, Nat.reduceSub, List.replicate, prepA, p_int, p_bl, p_non, p_str, D.plain, plainA, Bool.and_true, Bool.true_and, if_true, Bool.or_false, Bool.false_or, resK, rdS, rdL, bindP, bindPs]
  refine ⟨trivial, a, b, rfl, fun z => (by cases z), ?_⟩
  have key := core_fraction (n := 0) hb hs hR
  by_cases h : b < 0
  · simp only [h, decide_true, if_true, mSeq, mPar, mSet, mAsg, mWhile, mFor, mIf, mRet, mRetN, mNext, mPut, mDrop, dCons, dNil, dCB, dAbs, dInt, dLen, dVar, dC, slP, dOp, dUn, dNeg, dSub, dAdd, dMul, dMd, dFd, dI, dI0, dCmpI, dLt, dLe, dGt, dGe, dTest, dTestB, dTru, dTup, dLst, dIx, dCallP, dCallI, callIK, dAndV, dOrV, dNotV, dAnd, dOr, dNot, dIf, RH.put, List.length, List.map, List.getElem?_cons_zero, List.getElem?_cons_succ, List.cons_append, List.nil_append, List.append_nil, List.set, Nat.reduceSub, List.replicate, prepA, p_int, p_bl, p_non, p_str, D.plain, plainA, Bool.and_true, Bool.true_and, if_true, Bool.or_false, Bool.false_or, resK, rdS, rdL, bindP, bindPs] at key ⊢
    exact ⟨key.1, key.2.1, by decide, rfl, key.2.2⟩
  · simp only [h, decide_false, if_false, Bool.false_eq_true, mSeq, mPar, mSet, mAsg, mWhile, mFor, mIf, mRet, mRetN, mNext, mPut, mDrop, dCons, dNil, dCB, dAbs, dInt, dLen, dVar, dC, slP, dOp, dUn, dNeg, dSub, dAdd, dMul, dMd, dFd, dI, dI0, dCmpI, dLt, dLe, dGt, dGe, dTest, dTestB, dTru, dTup, dLst, dIx, dCallP, dCallI, callIK, dAndV, dOrV, dNotV, dAnd, dOr, dNot, dIf, RH.put, List.length, List.map, List.getElem?_cons_zero, List.getElem?_cons_succ, List.cons_append, List.nil_append, List.append_nil, List.set, Nat.reduceSub, List.replicate, prepA, p_int, p_bl, p_non, p_str, D.plain, plainA, Bool.and_true, Bool.true_and, if_true, Bool.or_false, Bool.false_or, resK, rdS, rdL, bindP, bindPs] at key ⊢
    exact ⟨key.1, key.2.1, by decide, rfl, key.2.2⟩
theorem at0 {a b : D} : atI [a, b] 0 = some a := rfl
theorem at1 {a b : D} : atI [a, b] 1 = some b := rfl
theorem rD_plain (x : Rat) : (rD x).plain = true := rfl
theorem h_plus : specP 2 N_plus.length false m_plus pf_plus := by
  rintro ds R RE hl ⟨x, y, rfl, hx, hy, hR⟩
  simp only [m_plus, N_plus, rD, at0, at1, mSeq, mPar, mSet, mAsg, mWhile, mFor, mIf, mRet, mRetN, mNext, mPut, mDrop, dCons, dNil, dCB, dAbs, dInt, dLen, dVar, dC, slP, dOp, dUn, dNeg, dSub, dAdd, dMul, dMd, dFd, dI, dI0, dCmpI, dLt, dLe, dGt, dGe, dTest, dTestB, dTru, dTup, dLst, dIx, dCallP, dCallI, callIK, dAndV, dOrV, dNotV, dAnd, dOr, dNot, dIf, RH.put, List.length, List.map, List.getElem?_cons_zero, List.getElem?_cons_succ, List.cons_append, List.nil_append, List.append_nil, List.set, Nat.reduceSub, List.replicate, prepA, p_int, p_bl, p_non, p_str, D.plain, plainA, Bool.and_true, Bool.true_and, if_true, Bool.or_false, Bool.false_or, resK, rdS, rdL, bindP, bindPs]
  have dx := smR_den hx
  have dy := smR_den hy
  refine ⟨mulOk hx.1 dy (by decide), mulOk hy.1 dx (by decide), mulOk dx dy (by decide), trivial, _, _, rfl, Int.mul_ne_zero (den0 x) (den0 y), sm_mul dx dy (by decide), fun z => (by cases z), rfl, ?_⟩
  rw [← Rat.divInt_add_divInt _ _ (den0 x) (den0 y), Rat.num_divInt_den, Rat.num_divInt_den]
  exact hR
theorem h_times : specP 2 N_times.length false m_times pf_times := by
  rintro ds R RE hl ⟨x, y, rfl, hx, hy, hR⟩
  simp only [m_times, N_times, rD, at0, at1, mSeq, mPar, mSet, mAsg, mWhile, mFor, mIf, mRet, mRetN, mNext, mPut, mDrop, dCons, dNil, dCB, dAbs, dInt, dLen, dVar, dC, slP, dOp, dUn, dNeg, dSub, dAdd, dMul, dMd, dFd, dI, dI0, dCmpI, dLt, dLe, dGt, dGe, dTest, dTestB, dTru, dTup, dLst, dIx, dCallP, dCallI, callIK, dAndV, dOrV, dNotV, dAnd, dOr, dNot, dIf, RH.put, List.length, List.map, List.getElem?_cons_zero, List.getElem?_cons_succ, List.cons_append, List.nil_append, List.append_nil, List.set, Nat.reduceSub, List.replicate, prepA, p_int, p_bl, p_non, p_str, D.plain, plainA, Bool.and_true, Bool.true_and, if_true, Bool.or_false, Bool.false_or, resK, rdS, rdL, bindP, bindPs]
  have dx := smR_den hx
  have dy := smR_den hy
  refine ⟨mulOk hx.1 hy.1 (by decide), mulOk dx dy (by decide), trivial, _, _, rfl, Int.mul_ne_zero (den0 x) (den0 y), sm_mul dx dy (by decide), fun z => (by cases z), rfl, ?_⟩
  rw [← Rat.divInt_mul_divInt, Rat.num_divInt_den, Rat.num_divInt_den]
  exact hR
theorem h_opposite_of : specP 1 N_opposite_of.length false m_opposite_of pf_opposite_of := by
  rintro ds R RE hl ⟨x, rfl, hR⟩
  simp only [m_opposite_of, N_opposite_of, rD, at0, at1, mSeq, mPar, mSet, mAsg, mWhile, mFor, mIf, mRet, mRetN, mNext, mPut, mDrop, dCons, dNil, dCB, dAbs, dInt, dLen, dVar, dC, slP, dOp, dUn, dNeg, dSub, dAdd, dMul, dMd, dFd, dI, dI0, dCmpI, dLt, dLe, dGt, dGe, dTest, dTestB, dTru, dTup, dLst, dIx, dCallP, dCallI, callIK, dAndV, dOrV, dNotV, dAnd, dOr, dNot, dIf, RH.put, List.length, List.map, List.getElem?_cons_zero, List.getElem?_cons_succ, List.cons_append, List.nil_append, List.append_nil, List.set, Nat.reduceSub, List.replicate, prepA, p_int, p_bl, p_non, p_str, D.plain, plainA, Bool.and_true, Bool.true_and, if_true, Bool.or_false, Bool.false_or, resK, rdS, rdL, bindP, bindPs]
  exact ⟨by decide, rfl, hR⟩
theorem smR_neg {x : Rat} {k : Nat} (h : SmR k x) : SmR k (-x) := ⟨by rw [Rat.neg_num]; exact sm_neg h.1, h.2⟩
theorem h_less : specP 2 N_less.length false m_less pf_less := by
  rintro ds R RE hl ⟨x, y, rfl, hx, hy, hR⟩
  simp only [m_less, N_less, rD, at0, at1, mSeq, mPar, mSet, mAsg, mWhile, mFor, mIf, mRet, mRetN, mNext, mPut, mDrop, dCons, dNil, dCB, dAbs, dInt, dLen, dVar, dC, slP, dOp, dUn, dNeg, dSub, dAdd, dMul, dMd, dFd, dI, dI0, dCmpI, dLt, dLe, dGt, dGe, dTest, dTestB, dTru, dTup, dLst, dIx, dCallP, dCallI, callIK, dAndV, dOrV, dNotV, dAnd, dOr, dNot, dIf, RH.put, List.length, List.map, List.getElem?_cons_zero, List.getElem?_cons_succ, List.cons_append, List.nil_append, List.append_nil, List.set, Nat.reduceSub, List.replicate, prepA, p_int, p_bl, p_non, p_str, D.plain, plainA, Bool.and_true, Bool.true_and, if_true, Bool.or_false, Bool.false_or, resK, rdS, rdL, bindP, bindPs]
  refine ⟨rfl, y, rfl, fun z => (by cases z), ?_⟩
  simp only [rD, at0, at1, p_rD, mSeq, mPar, mSet, mAsg, mWhile, mFor, mIf, mRet, mRetN, mNext, mPut, mDrop, dCons, dNil, dCB, dAbs, dInt, dLen, dVar, dC, slP, dOp, dUn, dNeg, dSub, dAdd, dMul, dMd, dFd, dI, dI0, dCmpI, dLt, dLe, dGt, dGe, dTest, dTestB, dTru, dTup, dLst, dIx, dCallP, dCallI, callIK, dAndV, dOrV, dNotV, dAnd, dOr, dNot, dIf, RH.put, List.length, List.map, List.getElem?_cons_zero, List.getElem?_cons_succ, List.cons_append, List.nil_append, List.append_nil, List.set, Nat.reduceSub, List.replicate, prepA, p_int, p_bl, p_non, p_str, D.plain, plainA, Bool.and_true, Bool.true_and, if_true, Bool.or_false, Bool.false_or, resK, rdS, rdL, bindP, bindPs]
  refine ⟨trivial, x, -y, rfl, hx, smR_neg hy, fun z => (by cases z), rfl, ?_⟩
  rw [← Rat.sub_eq_add_neg]
  exact hR
theorem div_eq (x y : Rat) (hy : y ≠ 0) : Rat.divInt (x.num * y.den) (x.den * y.num) = x / y := by
  have h0 : y.num ≠ 0 := fun z => hy (Rat.num_eq_zero.mp z)
  rw [Rat.div_def]
  conv => rhs; rw [← Rat.num_divInt_den x, ← Rat.num_divInt_den y]
  rw [Rat.inv_divInt, Rat.divInt_mul_divInt]
theorem shap_int (a : Int) : SeqAt.shaped (.int a) = true := rfl
theorem eqv_int (a b : Int) : PyData.eqv (.int a) (.int b) = (a == b) := rfl
theorem h_over (C : Addr) : specP 2 N_over.length false (m_over C) (pf_over C) := by
  rintro ds R RE hl ⟨x, y, rfl, hx, hy, h0, hR⟩
  simp only [m_over, N_over, rD, at0, at1, mRaise, dEq, pyM, D.dat, py, shap_int, eqv_int, mSeq, mPar, mSet, mAsg, mWhile, mFor, mIf, mRet, mRetN, mNext, mPut, mDrop, dCons, dNil, dCB, dAbs, dInt, dLen, dVar, dC, slP, dOp, dUn, dNeg, dSub, dAdd, dMul, dMd, dFd, dI, dI0, dCmpI, dLt, dLe, dGt, dGe, dTest, dTestB, dTru, dTup, dLst, dIx, dCallP, dCallI, callIK, dAndV, dOrV, dNotV, dAnd, dOr, dNot, dIf, RH.put, List.length, List.map, List.getElem?_cons_zero, List.getElem?_cons_succ, List.cons_append, List.nil_append, List.append_nil, List.set, Nat.reduceSub, List.replicate, prepA, p_int, p_bl, p_non, p_str, D.plain, plainA, Bool.and_true, Bool.true_and, if_true, Bool.or_false, Bool.false_or, resK, rdS, rdL, bindP, bindPs]
  refine ⟨⟨trivial, trivial⟩, ?_⟩
  by_cases h : y = 0
  · subst h
    exact ⟨.non, .inr ⟨trivial, rfl⟩, rfl, h0 rfl⟩
  · have hn : y.num ≠ 0 := fun z => h (Rat.num_eq_zero.mp z)
    rw [if_neg (by simpa using hn)]
    have dx := smR_den hx
    have dy := smR_den hy
    refine ⟨mulOk hx.1 dy (by decide), mulOk dx hy.1 (by decide), trivial, _, _, rfl, Int.mul_ne_zero (den0 x) hn, sm_mul dx hy.1 (by decide), fun z => (by cases z), rfl, ?_⟩
    rw [div_eq x y h]
    exact hR h
theorem sign_eq (a : Int) : b2i (decide (0 < a)) - b2i (decide (a < 0)) = a.sign := by
  rcases Int.lt_trichotomy a 0 with h | h | h
  · rw [Int.sign_eq_neg_one_of_neg h]
    simp [b2i, h, Int.not_lt.mpr (Int.le_of_lt h)]
  · subst h; rfl
  · rw [Int.sign_eq_one_of_pos h]
    simp [b2i, h, Int.not_lt.mpr (Int.le_of_lt h)]
theorem h_sign_of : specP 1 N_sign_of.length false m_sign_of pf_sign_of := by
  rintro ds R RE hl ⟨x, rfl, hR⟩
  simp only [m_sign_of, N_sign_of, rD, at0, at1, sign_eq, mSeq, mPar, mSet, mAsg, mWhile, mFor, mIf, mRet, mRetN, mNext, mPut, mDrop, dCons, dNil, dCB, dAbs, dInt, dLen, dVar, dC, slP, dOp, dUn, dNeg, dSub, dAdd, dMul, dMd, dFd, dI, dI0, dCmpI, dLt, dLe, dGt, dGe, dTest, dTestB, dTru, dTup, dLst, dIx, dCallP, dCallI, callIK, dAndV, dOrV, dNotV, dAnd, dOr, dNot, dIf, RH.put, List.length, List.map, List.getElem?_cons_zero, List.getElem?_cons_succ, List.cons_append, List.nil_append, List.append_nil, List.set, Nat.reduceSub, List.replicate, prepA, p_int, p_bl, p_non, p_str, D.plain, plainA, Bool.and_true, Bool.true_and, if_true, Bool.or_false, Bool.false_or, resK, rdS, rdL, bindP, bindPs]
  exact ⟨rfl, hR⟩
theorem h__law_sign : specP 1 N__law_sign.length false m__law_sign pf_sign_of := by
  rintro ds R RE hl ⟨x, rfl, hR⟩
  simp only [m__law_sign, N__law_sign, rD, at0, at1, mSeq, mPar, mSet, mAsg, mWhile, mFor, mIf, mRet, mRetN, mNext, mPut, mDrop, dCons, dNil, dCB, dAbs, dInt, dLen, dVar, dC, slP, dOp, dUn, dNeg, dSub, dAdd, dMul, dMd, dFd, dI, dI0, dCmpI, dLt, dLe, dGt, dGe, dTest, dTestB, dTru, dTup, dLst, dIx, dCallP, dCallI, callIK, dAndV, dOrV, dNotV, dAnd, dOr, dNot, dIf, RH.put, List.length, List.map, List.getElem?_cons_zero, List.getElem?_cons_succ, List.cons_append, List.nil_append, List.append_nil, List.set, Nat.reduceSub, List.replicate, prepA, p_int, p_bl, p_non, p_str, D.plain, plainA, Bool.and_true, Bool.true_and, if_true, Bool.or_false, Bool.false_or, resK, rdS, rdL, bindP, bindPs]
  rw [← sign_eq] at hR
  exact ⟨rfl, hR⟩
theorem h_below : specP 2 N_below.length false m_below pf_below := by
  rintro ds R RE hl ⟨x, y, rfl, hx, hy, hR⟩
  simp only [m_below, N_below, rD, at0, at1, mSeq, mPar, mSet, mAsg, mWhile, mFor, mIf, mRet, mRetN, mNext, mPut, mDrop, dCons, dNil, dCB, dAbs, dInt, dLen, dVar, dC, slP, dOp, dUn, dNeg, dSub, dAdd, dMul, dMd, dFd, dI, dI0, dCmpI, dLt, dLe, dGt, dGe, dTest, dTestB, dTru, dTup, dLst, dIx, dCallP, dCallI, callIK, dAndV, dOrV, dNotV, dAnd, dOr, dNot, dIf, RH.put, List.length, List.map, List.getElem?_cons_zero, List.getElem?_cons_succ, List.cons_append, List.nil_append, List.append_nil, List.set, Nat.reduceSub, List.replicate, prepA, p_int, p_bl, p_non, p_str, D.plain, plainA, Bool.and_true, Bool.true_and, if_true, Bool.or_false, Bool.false_or, resK, rdS, rdL, bindP, bindPs]
  exact ⟨mulOk hx.1 (smR_den hy) (by decide), mulOk hy.1 (smR_den hx) (by decide), rfl, hR⟩
theorem h__law_frac : specP 2 N__law_frac.length false m__law_frac pf_fraction := by
  rintro ds R RE hl ⟨a, b, rfl, hb, hs, hR⟩
  simp only [m__law_frac, N__law_frac, mSeq, mPar, mSet, mAsg, mWhile, mFor, mIf, mRet, mRetN, mNext, mPut, mDrop, dCons, dNil, dCB, dAbs, dInt, dLen, dVar, dC, slP, dOp, dUn, dNeg, dSub, dAdd, dMul, dMd, dFd, dI, dI0, dCmpI, dLt, dLe, dGt, dGe, dTest, dTestB, dTru, dTup, dLst, dIx, dCallP, dCallI, callIK, dAndV, dOrV, dNotV, dAnd, dOr, dNot, dIf, RH.put, List.length, List.map, List.getElem?_cons_zero, List.getElem?_cons_succ, List.cons_append, List.nil_append, List.append_nil, List.set, Nat.reduceSub, List.replicate, prepA, p_int, p_bl, p_non, p_str, D.plain, plainA, Bool.and_true, Bool.true_and, if_true, Bool.or_false, Bool.false_or, resK, rdS, rdL, bindP, bindPs]
  refine ⟨trivial, a, b, rfl, fun z => (by cases z), ?_⟩
  have key := core_fraction (n := 0) hb hs hR
  by_cases h : b < 0
  · simp only [h, decide_true, if_true, mSeq, mPar, mSet, mAsg, mWhile, mFor, mIf, mRet, mRetN, mNext, mPut, mDrop, dCons, dNil, dCB, dAbs, dInt, dLen, dVar, dC, slP, dOp, dUn, dNeg, dSub, dAdd, dMul, dMd, dFd, dI, dI0, dCmpI, dLt, dLe, dGt, dGe, dTest, dTestB, dTru, dTup, dLst, dIx, dCallP, dCallI, callIK, dAndV, dOrV, dNotV, dAnd, dOr, dNot, dIf, RH.put, List.length, List.map, List.getElem?_cons_zero, List.getElem?_cons_succ, List.cons_append, List.nil_append, List.append_nil, List.set, Nat.reduceSub, List.replicate, prepA, p_int, p_bl, p_non, p_str, D.plain, plainA, Bool.and_true, Bool.true_and, if_true, Bool.or_false, Bool.false_or, resK, rdS, rdL, bindP, bindPs] at key ⊢
    exact ⟨key.1, key.2.1, by decide, rfl, key.2.2⟩
  · simp only [h, decide_false, if_false, Bool.false_eq_true, mSeq, mPar, mSet, mAsg, mWhile, mFor, mIf, mRet, mRetN, mNext, mPut, mDrop, dCons, dNil, dCB, dAbs, dInt, dLen, dVar, dC, slP, dOp, dUn, dNeg, dSub, dAdd, dMul, dMd, dFd, dI, dI0, dCmpI, dLt, dLe, dGt, dGe, dTest, dTestB, dTru, dTup, dLst, dIx, dCallP, dCallI, callIK, dAndV, dOrV, dNotV, dAnd, dOr, dNot, dIf, RH.put, List.length, List.map, List.getElem?_cons_zero, List.getElem?_cons_succ, List.cons_append, List.nil_append, List.append_nil, List.set, Nat.reduceSub, List.replicate, prepA, p_int, p_bl, p_non, p_str, D.plain, plainA, Bool.and_true, Bool.true_and, if_true, Bool.or_false, Bool.false_or, resK, rdS, rdL, bindP, bindPs] at key ⊢
    exact ⟨key.1, key.2.1, by decide, rfl, key.2.2⟩
theorem h_is_integer : specP 1 N_is_integer.length false m_is_integer pf_is_integer := by
  rintro ds R RE hl ⟨d, rfl, hd, hR⟩
  cases d <;> (try cases hd) <;> simp only [m_is_integer, N_is_integer, dIsi, tyD, isInt, mSeq, mPar, mSet, mAsg, mWhile, mFor, mIf, mRet, mRetN, mNext, mPut, mDrop, dCons, dNil, dCB, dAbs, dInt, dLen, dVar, dC, slP, dOp, dUn, dNeg, dSub, dAdd, dMul, dMd, dFd, dI, dI0, dCmpI, dLt, dLe, dGt, dGe, dTest, dTestB, dTru, dTup, dLst, dIx, dCallP, dCallI, callIK, dAndV, dOrV, dNotV, dAnd, dOr, dNot, dIf, RH.put, List.length, List.map, List.getElem?_cons_zero, List.getElem?_cons_succ, List.cons_append, List.nil_append, List.append_nil, List.set, Nat.reduceSub, List.replicate, prepA, p_int, p_bl, p_non, p_str, D.plain, plainA, Bool.and_true, Bool.true_and, if_true, Bool.or_false, Bool.false_or, resK, rdS, rdL, bindP, bindPs] <;> (refine ⟨by decide, ?_⟩)
  all_goals first
    | (rw [if_neg (by decide)]; exact ⟨rfl, hR⟩)
    | (rw [if_pos (by decide)]; exact ⟨by decide, rfl, hR⟩)
/-! ### lists that are made -/
theorem lcD_map {i : Nat} {sl0 : SL} {src : List Nat} {M0 M : MH} {me : DE} (g : D → D) (hs : SrcOk src M0 M) : ∀ (ds acc : List D) (R : List D → MH → Prop), (∀ d ∈ ds, ∀ R' : DK, R' (g d) M → me (rB (sl0.set i (some d))) M R') → R (acc ++ ds.map g) M → lcD (.nm i) tYesD me sl0 src M0 ds acc M R
  | [], acc, R, _, h => by simpa [lcD] using h
  | d :: ds, acc, R, hm, h => by
    simp only [lcD, bindP, tYesD, if_true]
    refine hm d (List.mem_cons_self ..) _ ⟨hs, ?_⟩
    refine lcD_map g hs ds (acc ++ [g d]) R (fun d hd => hm d (List.mem_cons_of_mem _ hd)) ?_
    rw [List.append_assoc]
    exact h
theorem h_is_fraction : specP 1 N_is_fraction.length false m_is_fraction pf_is_fraction := by
  rintro ds R RE hl ⟨d, rfl, hd, hR⟩
  cases d with
  | tup ds =>
    match ds, hd, hR with
    | [a, b], hd, hR =>
      have hd' : okV a = true ∧ okV b = true := by simpa [okA] using hd
      have pa : ∀ M, prep1 M a = some (a, false) := fun M => prep1_plain (okV_plain hd'.1)
      have pb : ∀ M, prep1 M b = some (b, false) := fun M => prep1_plain (okV_plain hd'.2)
      simp only [m_is_fraction, N_is_fraction, dIsi, tyD, dNe, pyM, D.dat, py, shap_int, eqv_int, at0, at1, pa, pb, mSeq, mPar, mSet, mAsg, mWhile, mFor, mIf, mRet, mRetN, mNext, mPut, mDrop, dCons, dNil, dCB, dAbs, dInt, dLen, dVar, dC, slP, dOp, dUn, dNeg, dSub, dAdd, dMul, dMd, dFd, dI, dI0, dCmpI, dLt, dLe, dGt, dGe, dTest, dTestB, dTru, dTup, dLst, dIx, dCallP, dCallI, callIK, dAndV, dOrV, dNotV, dAnd, dOr, dNot, dIf, RH.put, List.length, List.map, List.getElem?_cons_zero, List.getElem?_cons_succ, List.cons_append, List.nil_append, List.append_nil, List.set, Nat.reduceSub, List.replicate, prepA, p_int, p_bl, p_non, p_str, D.plain, plainA, Bool.and_true, Bool.true_and, if_true, Bool.or_false, Bool.false_or, resK, rdS, rdL, bindP, bindPs]
      refine ⟨by decide, ?_⟩
      rw [if_neg (by decide)]
      refine ⟨⟨trivial, trivial⟩, ?_⟩
      rw [if_neg (by decide)]
      refine ⟨trivial, a, rfl, hd'.1, fun z => (by cases z), ?_⟩
      by_cases ha : isInt a = true
      · cases a with
        | int i =>
          simp only [isInt, Bool.not_true, Bool.false_eq_true, if_false, mSeq, mPar, mSet, mAsg, mWhile, mFor, mIf, mRet, mRetN, mNext, mPut, mDrop, dCons, dNil, dCB, dAbs, dInt, dLen, dVar, dC, slP, dOp, dUn, dNeg, dSub, dAdd, dMul, dMd, dFd, dI, dI0, dCmpI, dLt, dLe, dGt, dGe, dTest, dTestB, dTru, dTup, dLst, dIx, dCallP, dCallI, callIK, dAndV, dOrV, dNotV, dAnd, dOr, dNot, dIf, RH.put, List.length, List.map, List.getElem?_cons_zero, List.getElem?_cons_succ, List.cons_append, List.nil_append, List.append_nil, List.set, Nat.reduceSub, List.replicate, prepA, p_int, p_bl, p_non, p_str, D.plain, plainA, Bool.and_true, Bool.true_and, if_true, Bool.or_false, Bool.false_or, resK, rdS, rdL, bindP, bindPs]
          refine ⟨trivial, b, rfl, hd'.2, fun z => (by cases z), ?_⟩
          by_cases hb : isInt b = true
          · cases b with
            | int j =>
              simp only [isInt, Bool.not_true, Bool.false_eq_true, if_false, mSeq, mPar, mSet, mAsg, mWhile, mFor, mIf, mRet, mRetN, mNext, mPut, mDrop, dCons, dNil, dCB, dAbs, dInt, dLen, dVar, dC, slP, dOp, dUn, dNeg, dSub, dAdd, dMul, dMd, dFd, dI, dI0, dCmpI, dLt, dLe, dGt, dGe, dTest, dTestB, dTru, dTup, dLst, dIx, dCallP, dCallI, callIK, dAndV, dOrV, dNotV, dAnd, dOr, dNot, dIf, RH.put, List.length, List.map, List.getElem?_cons_zero, List.getElem?_cons_succ, List.cons_append, List.nil_append, List.append_nil, List.set, Nat.reduceSub, List.replicate, prepA, p_int, p_bl, p_non, p_str, D.plain, plainA, Bool.and_true, Bool.true_and, if_true, Bool.or_false, Bool.false_or, resK, rdS, rdL, bindP, bindPs]
              by_cases hj : 0 < j
              · simp only [hj, decide_true, if_true, mSeq, mPar, mSet, mAsg, mWhile, mFor, mIf, mRet, mRetN, mNext, mPut, mDrop, dCons, dNil, dCB, dAbs, dInt, dLen, dVar, dC, slP, dOp, dUn, dNeg, dSub, dAdd, dMul, dMd, dFd, dI, dI0, dCmpI, dLt, dLe, dGt, dGe, dTest, dTestB, dTru, dTup, dLst, dIx, dCallP, dCallI, callIK, dAndV, dOrV, dNotV, dAnd, dOr, dNot, dIf, RH.put, List.length, List.map, List.getElem?_cons_zero, List.getElem?_cons_succ, List.cons_append, List.nil_append, List.append_nil, List.set, Nat.reduceSub, List.replicate, prepA, p_int, p_bl, p_non, p_str, D.plain, plainA, Bool.and_true, Bool.true_and, if_true, Bool.or_false, Bool.false_or, resK, rdS, rdL, bindP, bindPs]
                refine ⟨trivial, i, j, rfl, fun z => (by cases z), ?_⟩
                simp only [dEq, pyM, D.dat, py, shap_int, eqv_int, if_true]
                refine ⟨⟨trivial, trivial⟩, rfl, ?_⟩
                have e : isFr (.tup [.int i, .int j]) = ((Int.gcd i j : Int) == 1) := by
                  simp only [isFr, hj, true_and]
                  by_cases hg : Int.gcd i j = 1
                  · simp [hg]
                  · have : (Int.gcd i j : Int) ≠ 1 := by omega
                    simp [hg, this]
                rw [← e]
                exact hR
              · simp only [hj, decide_false, if_false, Bool.false_eq_true, mSeq, mPar, mSet, mAsg, mWhile, mFor, mIf, mRet, mRetN, mNext, mPut, mDrop, dCons, dNil, dCB, dAbs, dInt, dLen, dVar, dC, slP, dOp, dUn, dNeg, dSub, dAdd, dMul, dMd, dFd, dI, dI0, dCmpI, dLt, dLe, dGt, dGe, dTest, dTestB, dTru, dTup, dLst, dIx, dCallP, dCallI, callIK, dAndV, dOrV, dNotV, dAnd, dOr, dNot, dIf, RH.put, List.length, List.map, List.getElem?_cons_zero, List.getElem?_cons_succ, List.cons_append, List.nil_append, List.append_nil, List.set, Nat.reduceSub, List.replicate, prepA, p_int, p_bl, p_non, p_str, D.plain, plainA, Bool.and_true, Bool.true_and, if_true, Bool.or_false, Bool.false_or, resK, rdS, rdL, bindP, bindPs]
                have e : isFr (.tup [.int i, .int j]) = false := by simp [isFr, hj]
                rw [e] at hR
                exact ⟨rfl, hR⟩
            | _ => cases hb
          · have hb' : isInt b = false := by simpa using hb
            rw [hb']
            simp only [Bool.not_false, if_true, mSeq, mPar, mSet, mAsg, mWhile, mFor, mIf, mRet, mRetN, mNext, mPut, mDrop, dCons, dNil, dCB, dAbs, dInt, dLen, dVar, dC, slP, dOp, dUn, dNeg, dSub, dAdd, dMul, dMd, dFd, dI, dI0, dCmpI, dLt, dLe, dGt, dGe, dTest, dTestB, dTru, dTup, dLst, dIx, dCallP, dCallI, callIK, dAndV, dOrV, dNotV, dAnd, dOr, dNot, dIf, RH.put, List.length, List.map, List.getElem?_cons_zero, List.getElem?_cons_succ, List.cons_append, List.nil_append, List.append_nil, List.set, Nat.reduceSub, List.replicate, prepA, p_int, p_bl, p_non, p_str, D.plain, plainA, Bool.and_true, Bool.true_and, if_true, Bool.or_false, Bool.false_or, resK, rdS, rdL, bindP, bindPs]
            have e : isFr (.tup [.int i, b]) = false := by cases b <;> first | rfl | exact absurd rfl hb
            rw [e] at hR
            exact ⟨rfl, hR⟩
        | _ => cases ha
      · have ha' : isInt a = false := by simpa using ha
        rw [ha']
        simp only [Bool.not_false, if_true, mSeq, mPar, mSet, mAsg, mWhile, mFor, mIf, mRet, mRetN, mNext, mPut, mDrop, dCons, dNil, dCB, dAbs, dInt, dLen, dVar, dC, slP, dOp, dUn, dNeg, dSub, dAdd, dMul, dMd, dFd, dI, dI0, dCmpI, dLt, dLe, dGt, dGe, dTest, dTestB, dTru, dTup, dLst, dIx, dCallP, dCallI, callIK, dAndV, dOrV, dNotV, dAnd, dOr, dNot, dIf, RH.put, List.length, List.map, List.getElem?_cons_zero, List.getElem?_cons_succ, List.cons_append, List.nil_append, List.append_nil, List.set, Nat.reduceSub, List.replicate, prepA, p_int, p_bl, p_non, p_str, D.plain, plainA, Bool.and_true, Bool.true_and, if_true, Bool.or_false, Bool.false_or, resK, rdS, rdL, bindP, bindPs]
        have e : isFr (.tup [a, b]) = false := by cases a <;> first | rfl | exact absurd rfl ha
        rw [e] at hR
        exact ⟨rfl, hR⟩
    | [], hd, hR =>
      simp only [m_is_fraction, N_is_fraction, dIsi, tyD, dNe, pyM, D.dat, py, shap_int, eqv_int, mSeq, mPar, mSet, mAsg, mWhile, mFor, mIf, mRet, mRetN, mNext, mPut, mDrop, dCons, dNil, dCB, dAbs, dInt, dLen, dVar, dC, slP, dOp, dUn, dNeg, dSub, dAdd, dMul, dMd, dFd, dI, dI0, dCmpI, dLt, dLe, dGt, dGe, dTest, dTestB, dTru, dTup, dLst, dIx, dCallP, dCallI, callIK, dAndV, dOrV, dNotV, dAnd, dOr, dNot, dIf, RH.put, List.length, List.map, List.getElem?_cons_zero, List.getElem?_cons_succ, List.cons_append, List.nil_append, List.append_nil, List.set, Nat.reduceSub, List.replicate, prepA, p_int, p_bl, p_non, p_str, D.plain, plainA, Bool.and_true, Bool.true_and, if_true, Bool.or_false, Bool.false_or, resK, rdS, rdL, bindP, bindPs]
      refine ⟨by decide, ?_⟩
      rw [if_neg (by decide)]
      exact ⟨⟨trivial, trivial⟩, by rw [if_pos (by decide)]; exact ⟨rfl, hR⟩⟩
    | [a], hd, hR =>
      simp only [m_is_fraction, N_is_fraction, dIsi, tyD, dNe, pyM, D.dat, py, shap_int, eqv_int, mSeq, mPar, mSet, mAsg, mWhile, mFor, mIf, mRet, mRetN, mNext, mPut, mDrop, dCons, dNil, dCB, dAbs, dInt, dLen, dVar, dC, slP, dOp, dUn, dNeg, dSub, dAdd, dMul, dMd, dFd, dI, dI0, dCmpI, dLt, dLe, dGt, dGe, dTest, dTestB, dTru, dTup, dLst, dIx, dCallP, dCallI, callIK, dAndV, dOrV, dNotV, dAnd, dOr, dNot, dIf, RH.put, List.length, List.map, List.getElem?_cons_zero, List.getElem?_cons_succ, List.cons_append, List.nil_append, List.append_nil, List.set, Nat.reduceSub, List.replicate, prepA, p_int, p_bl, p_non, p_str, D.plain, plainA, Bool.and_true, Bool.true_and, if_true, Bool.or_false, Bool.false_or, resK, rdS, rdL, bindP, bindPs]
      refine ⟨by decide, ?_⟩
      rw [if_neg (by decide)]
      have e : isFr (.tup [a]) = false := by cases a <;> rfl
      rw [e] at hR
      exact ⟨⟨trivial, trivial⟩, by rw [if_pos (by decide)]; exact ⟨rfl, hR⟩⟩
    | a :: b :: c :: r, hd, hR =>
      simp only [m_is_fraction, N_is_fraction, dIsi, tyD, dNe, pyM, D.dat, py, shap_int, eqv_int, mSeq, mPar, mSet, mAsg, mWhile, mFor, mIf, mRet, mRetN, mNext, mPut, mDrop, dCons, dNil, dCB, dAbs, dInt, dLen, dVar, dC, slP, dOp, dUn, dNeg, dSub, dAdd, dMul, dMd, dFd, dI, dI0, dCmpI, dLt, dLe, dGt, dGe, dTest, dTestB, dTru, dTup, dLst, dIx, dCallP, dCallI, callIK, dAndV, dOrV, dNotV, dAnd, dOr, dNot, dIf, RH.put, List.length, List.map, List.getElem?_cons_zero, List.getElem?_cons_succ, List.cons_append, List.nil_append, List.append_nil, List.set, Nat.reduceSub, List.replicate, prepA, p_int, p_bl, p_non, p_str, D.plain, plainA, Bool.and_true, Bool.true_and, if_true, Bool.or_false, Bool.false_or, resK, rdS, rdL, bindP, bindPs]
      refine ⟨by decide, ?_⟩
      rw [if_neg (by decide)]
      have e : isFr (.tup (a :: b :: c :: r)) = false := by cases a <;> cases b <;> rfl
      rw [e] at hR
      refine ⟨⟨trivial, trivial⟩, ?_⟩
      rw [if_pos (by simp; omega)]
      exact ⟨rfl, hR⟩
  | _ =>
    first
      | (simp only [m_is_fraction, N_is_fraction, dIsi, tyD, dNe, pyM, D.dat, py, shap_int, eqv_int, mSeq, mPar, mSet, mAsg, mWhile, mFor, mIf, mRet, mRetN, mNext, mPut, mDrop, dCons, dNil, dCB, dAbs, dInt, dLen, dVar, dC, slP, dOp, dUn, dNeg, dSub, dAdd, dMul, dMd, dFd, dI, dI0, dCmpI, dLt, dLe, dGt, dGe, dTest, dTestB, dTru, dTup, dLst, dIx, dCallP, dCallI, callIK, dAndV, dOrV, dNotV, dAnd, dOr, dNot, dIf, RH.put, List.length, List.map, List.getElem?_cons_zero, List.getElem?_cons_succ, List.cons_append, List.nil_append, List.append_nil, List.set, Nat.reduceSub, List.replicate, prepA, p_int, p_bl, p_non, p_str, D.plain, plainA, Bool.and_true, Bool.true_and, if_true, Bool.or_false, Bool.false_or, resK, rdS, rdL, bindP, bindPs]
         refine ⟨by decide, ?_⟩
         rw [if_pos (by decide)]
         exact ⟨rfl, hR⟩)
      | (exact absurd hd (by decide))
      | (cases hd; done)
theorem truA_bl : ∀ bs : List Bool, truA (bs.map D.bl) = some bs
  | [] => rfl
  | b :: bs => by
    simp only [List.map, truA, truA_bl bs]
    rfl
theorem all_map (ds : List D) : (ds.map isFr).all id = ds.all isFr := by
  induction ds with
  | nil => rfl
  | cons d ds ih => simp [List.all_cons, ih]
theorem okA_plain {d : D} (h : okA d = true) : D.plain d = true := by
  cases d with
  | tup ds =>
    have h' : ds.all okV = true := h
    show plainA ds = true
    clear h
    induction ds with
    | nil => rfl
    | cons d ds ih =>
      rw [List.all_cons, Bool.and_eq_true] at h'
      show (D.plain d && plainA ds) = true
      rw [okV_plain h'.1, ih h'.2]; rfl
  | _ => first
    | rfl
    | exact h
    | cases h
theorem h_is_point : specP 2 N_is_point.length false m_is_point pf_is_point := by
  rintro ds R RE hl ⟨d, n, rfl, hd, hR⟩
  cases d with
  | tup ds =>
    have hd' : ds.length ≤ 1000 ∧ ds.all okA = true := by simpa [okP] using hd
    simp only [m_is_point, N_is_point, dIsi, tyD, dEq, pyM, D.dat, py, shap_int, eqv_int, dLc, dSeq, wipeD, dAny, mSeq, mPar, mSet, mAsg, mWhile, mFor, mIf, mRet, mRetN, mNext, mPut, mDrop, dCons, dNil, dCB, dAbs, dInt, dLen, dVar, dC, slP, dOp, dUn, dNeg, dSub, dAdd, dMul, dMd, dFd, dI, dI0, dCmpI, dLt, dLe, dGt, dGe, dTest, dTestB, dTru, dTup, dLst, dIx, dCallP, dCallI, callIK, dAndV, dOrV, dNotV, dAnd, dOr, dNot, dIf, RH.put, List.length, List.map, List.getElem?_cons_zero, List.getElem?_cons_succ, List.cons_append, List.nil_append, List.append_nil, List.set, Nat.reduceSub, List.replicate, prepA, p_int, p_bl, p_non, p_str, D.plain, plainA, Bool.and_true, Bool.true_and, if_true, Bool.or_false, Bool.false_or, resK, rdS, rdL, bindP, bindPs]
    refine ⟨by decide, ?_⟩
    rw [if_pos (by decide)]
    refine ⟨⟨trivial, trivial⟩, ?_⟩
    by_cases hn : (ds.length : Int) = n
    · rw [if_pos (by simpa using hn)]
      refine ⟨by have : (1000 : Nat) ≤ sizeLine := by decide
                 omega, ?_⟩
      refine lcD_map (fun d => .bl (isFr d)) (fun _ h => by cases h) ds [] _ (fun d hd2 R' hR' => ?_) ?_
      · have ho : okA d = true := List.all_eq_true.mp hd'.2 d hd2
        simp only [rB, prep1_plain (okA_plain ho), mSeq, mPar, mSet, mAsg, mWhile, mFor, mIf, mRet, mRetN, mNext, mPut, mDrop, dCons, dNil, dCB, dAbs, dInt, dLen, dVar, dC, slP, dOp, dUn, dNeg, dSub, dAdd, dMul, dMd, dFd, dI, dI0, dCmpI, dLt, dLe, dGt, dGe, dTest, dTestB, dTru, dTup, dLst, dIx, dCallP, dCallI, callIK, dAndV, dOrV, dNotV, dAnd, dOr, dNot, dIf, RH.put, List.length, List.map, List.getElem?_cons_zero, List.getElem?_cons_succ, List.cons_append, List.nil_append, List.append_nil, List.set, Nat.reduceSub, List.replicate, prepA, p_int, p_bl, p_non, p_str, D.plain, plainA, Bool.and_true, Bool.true_and, if_true, Bool.or_false, Bool.false_or, resK, rdS, rdL, bindP, bindPs]
        exact ⟨trivial, d, rfl, ho, fun z => (by cases z), hR'⟩
      · simp only [nw, List.nil_append]
        have e : ds.map (fun d => D.bl (isFr d)) = (ds.map isFr).map D.bl := by rw [List.map_map]; rfl
        rw [e, truA_bl]
        simp only [all_map]
        have e2 : isPt (.tup ds) n = ds.all isFr := by simp [isPt, hn]
        rw [e2] at hR
        exact ⟨rfl, hR⟩
    · rw [if_neg (by simpa using hn)]
      have e2 : isPt (.tup ds) n = false := by simp [isPt, hn]
      rw [e2] at hR
      exact ⟨rfl, hR⟩
  | _ =>
    first
      | (simp only [m_is_point, N_is_point, dIsi, tyD, mSeq, mPar, mSet, mAsg, mWhile, mFor, mIf, mRet, mRetN, mNext, mPut, mDrop, dCons, dNil, dCB, dAbs, dInt, dLen, dVar, dC, slP, dOp, dUn, dNeg, dSub, dAdd, dMul, dMd, dFd, dI, dI0, dCmpI, dLt, dLe, dGt, dGe, dTest, dTestB, dTru, dTup, dLst, dIx, dCallP, dCallI, callIK, dAndV, dOrV, dNotV, dAnd, dOr, dNot, dIf, RH.put, List.length, List.map, List.getElem?_cons_zero, List.getElem?_cons_succ, List.cons_append, List.nil_append, List.append_nil, List.set, Nat.reduceSub, List.replicate, prepA, p_int, p_bl, p_non, p_str, D.plain, plainA, Bool.and_true, Bool.true_and, if_true, Bool.or_false, Bool.false_or, resK, rdS, rdL, bindP, bindPs]
         refine ⟨by decide, ?_⟩
         rw [if_neg (by decide)]
         exact ⟨rfl, hR⟩)
      | (exact absurd hd (by decide))
      | (cases hd; done)
/-! ### the law's own -/
mutual
theorem short1 : ∀ p : PyData, p.showable = true → p.intsShort 1921 = true
  | .none, _ => rfl
  | .bool _, _ => rfl
  | .str _, _ => rfl
  | .dict _, _ => rfl
  | .int i, h => by
    have h1 : i.natAbs.log2 < 1920 := by simpa [PyData.showable] using h
    have h2 := int_text_length_le (a := i) (k := 1920) (by decide) h1
    unfold PyData.intsShort
    refine decide_eq_true ?_
    show (PySem.Str.ofString (toString i)).length ≤ 1921
    have e : (PySem.Str.ofString (toString i)).length = (toString i).length := PySem.ofString_length _
    omega
  | .list xs, h => shortA xs h
  | .tuple xs, h => shortA xs h
theorem shortA : ∀ xs : List PyData, PyData.showableAll xs = true → PyData.intsShortAll 1921 xs = true
  | [], _ => rfl
  | x :: xs, h => by
    have h' : (x.showable && PyData.showableAll xs) = true := h
    rw [Bool.and_eq_true] at h'
    show (x.intsShort 1921 && PyData.intsShortAll 1921 xs) = true
    rw [short1 x h'.1, shortA xs h'.2]; rfl
end
theorem shown_ok {n b : Nat} {d : D} (h : Gd n b d) (hb : b ≤ 8000) : (py d).shown.length ≤ sizeLine := by
  have h1 := PyData.shown_le_bulk 1921 (by decide) (py d) (PyData.leavesShort_of_canLay0 1921 _ h.lay (short1 _ h.sho))
  have h2 : (1921 + 2) * (py d).bulk ≤ (1921 + 2) * 8000 := Nat.mul_le_mul_left _ (Nat.le_trans h.blk hb)
  have : (1921 + 2) * 8000 + 1921 ≤ sizeLine := by decide
  omega
theorem pyM_dat {M : MH} {d : D} (h : d.dat = true) : pyM M d = some (py d) := by
  cases d <;> first
    | rfl
    | (cases h; done)
    | (simp only [pyM]; rw [if_pos h])
theorem Gd.shap {n b : Nat} {d : D} (h : Gd n b d) (hn : n ≤ 64) : SeqAt.shaped (py d) = true := by
  unfold SeqAt.shaped
  rw [h.lay, Bool.true_and]
  exact decide_eq_true (Nat.le_trans h.dep hn)
theorem Gd.refl {n b : Nat} {d : D} (h : Gd n b d) : (py d).eqv (py d) = true := SeqAt.eqv_refl _ h.lay
theorem dEq_of {d e : D} {M : MH} {R : DK} {b : Bool} (hd : d.dat = true) (he : e.dat = true) (h1 : SeqAt.shaped (py d) = true) (h2 : SeqAt.shaped (py e) = true) (hb : (py d).eqv (py e) = b) (h : R (.bl b) M) : dEq d e M R := by
  unfold dEq
  split
  · rename_i x y
    have e1 : decide (x = y) = b := by
      rw [← hb]
      show decide (x = y) = (x == y)
      rw [Bool.eq_iff_iff]
      simp
    rw [e1]
    exact h
  · rw [pyM_dat hd, pyM_dat he]
    exact ⟨⟨h1, h2⟩, by rw [hb]; exact h⟩
theorem h__law_is : specP 2 N__law_is.length false m__law_is pf__law_is := by
  rintro ds R RE hl ⟨d, e, rfl, hd, he, h⟩
  simp only [m__law_is, N__law_is, mSeq, mPar, mSet, mAsg, mWhile, mFor, mIf, mRet, mRetN, mNext, mPut, mDrop, dCons, dNil, dCB, dAbs, dInt, dLen, dVar, dC, slP, dOp, dUn, dNeg, dSub, dAdd, dMul, dMd, dFd, dI, dI0, dCmpI, dLt, dLe, dGt, dGe, dTest, dTestB, dTru, dTup, dLst, dIx, dCallP, dCallI, callIK, dAndV, dOrV, dNotV, dAnd, dOr, dNot, dIf, RH.put, List.length, List.map, List.getElem?_cons_zero, List.getElem?_cons_succ, List.cons_append, List.nil_append, List.append_nil, List.set, Nat.reduceSub, List.replicate, prepA, p_int, p_bl, p_non, p_str, D.plain, plainA, Bool.and_true, Bool.true_and, if_true, Bool.or_false, Bool.false_or, resK, rdS, rdL, bindP, bindPs]
  rcases h with ⟨rfl, h⟩ | ⟨h1, h⟩
  · refine dEq_of hd.dat he.dat (hd.shap (by decide)) (he.shap (by decide)) hd.refl ?_
    simp only [dRepr, pyM_dat hd.dat, dEq, mSeq, mPar, mSet, mAsg, mWhile, mFor, mIf, mRet, mRetN, mNext, mPut, mDrop, dCons, dNil, dCB, dAbs, dInt, dLen, dVar, dC, slP, dOp, dUn, dNeg, dSub, dAdd, dMul, dMd, dFd, dI, dI0, dCmpI, dLt, dLe, dGt, dGe, dTest, dTestB, dTru, dTup, dLst, dIx, dCallP, dCallI, callIK, dAndV, dOrV, dNotV, dAnd, dOr, dNot, dIf, RH.put, List.length, List.map, List.getElem?_cons_zero, List.getElem?_cons_succ, List.cons_append, List.nil_append, List.append_nil, List.set, Nat.reduceSub, List.replicate, prepA, p_int, p_bl, p_non, p_str, D.plain, plainA, Bool.and_true, Bool.true_and, if_true, Bool.or_false, Bool.false_or, resK, rdS, rdL, bindP, bindPs]
    exact ⟨⟨hd.sho, hd.shap (by decide), shown_ok hd (by decide)⟩, ⟨hd.sho, hd.shap (by decide), shown_ok hd (by decide)⟩, rfl, h⟩
  · refine dEq_of hd.dat he.dat (hd.shap (by decide)) (he.shap (by decide)) h1 ?_
    simp only [mSeq, mPar, mSet, mAsg, mWhile, mFor, mIf, mRet, mRetN, mNext, mPut, mDrop, dCons, dNil, dCB, dAbs, dInt, dLen, dVar, dC, slP, dOp, dUn, dNeg, dSub, dAdd, dMul, dMd, dFd, dI, dI0, dCmpI, dLt, dLe, dGt, dGe, dTest, dTestB, dTru, dTup, dLst, dIx, dCallP, dCallI, callIK, dAndV, dOrV, dNotV, dAnd, dOr, dNot, dIf, RH.put, List.length, List.map, List.getElem?_cons_zero, List.getElem?_cons_succ, List.cons_append, List.nil_append, List.append_nil, List.set, Nat.reduceSub, List.replicate, prepA, p_int, p_bl, p_non, p_str, D.plain, plainA, Bool.and_true, Bool.true_and, if_true, Bool.or_false, Bool.false_or, resK, rdS, rdL, bindP, bindPs]
    exact ⟨rfl, h⟩
theorem h__law_over (K : PySem.W.Frag) (C : Addr) (xp : XP K C) (hx : PySem.W.exmOne K (.ref C) (.ref C) = some true) : specP 2 N__law_over.length false (m__law_over K C) pf__law_over := by
  rintro ds R RE hl ⟨x, y, rfl, sx, sy, h⟩
  simp only [m__law_over, N__law_over, mTry, rD, p_rD, mSeq, mPar, mSet, mAsg, mWhile, mFor, mIf, mRet, mRetN, mNext, mPut, mDrop, dCons, dNil, dCB, dAbs, dInt, dLen, dVar, dC, slP, dOp, dUn, dNeg, dSub, dAdd, dMul, dMd, dFd, dI, dI0, dCmpI, dLt, dLe, dGt, dGe, dTest, dTestB, dTru, dTup, dLst, dIx, dCallP, dCallI, callIK, dAndV, dOrV, dNotV, dAnd, dOr, dNot, dIf, RH.put, List.length, List.map, List.getElem?_cons_zero, List.getElem?_cons_succ, List.cons_append, List.nil_append, List.append_nil, List.set, Nat.reduceSub, List.replicate, prepA, p_int, p_bl, p_non, p_str, D.plain, plainA, Bool.and_true, Bool.true_and, if_true, Bool.or_false, Bool.false_or, resK, rdS, rdL, bindP, bindPs]
  refine ⟨trivial, x, y, rfl, sx, sy, fun h0 => ⟨fun z => (by cases z), true, hx, fun _ => ⟨xp, fun a dd => ?_⟩, fun z => (by cases z)⟩, fun h0 => ⟨fun z => (by cases z), ?_⟩⟩
  · rw [if_pos h0] at h
    simp only [dXf, mSeq, mPar, mSet, mAsg, mWhile, mFor, mIf, mRet, mRetN, mNext, mPut, mDrop, dCons, dNil, dCB, dAbs, dInt, dLen, dVar, dC, slP, dOp, dUn, dNeg, dSub, dAdd, dMul, dMd, dFd, dI, dI0, dCmpI, dLt, dLe, dGt, dGe, dTest, dTestB, dTru, dTup, dLst, dIx, dCallP, dCallI, callIK, dAndV, dOrV, dNotV, dAnd, dOr, dNot, dIf, RH.put, List.length, List.map, List.getElem?_cons_zero, List.getElem?_cons_succ, List.cons_append, List.nil_append, List.append_nil, List.set, Nat.reduceSub, List.replicate, prepA, p_int, p_bl, p_non, p_str, D.plain, plainA, Bool.and_true, Bool.true_and, if_true, Bool.or_false, Bool.false_or, resK, rdS, rdL, bindP, bindPs]
    exact ⟨trivial, dd, .non, _, rfl, rfl, .inl ⟨trivial, by decide, rfl, h⟩⟩
  · rw [if_neg h0] at h
    exact ⟨rfl, h⟩
theorem a50 {a b c d e : D} : atI [a, b, c, d, e] 0 = some a := rfl
theorem a51 {a b c d e : D} : atI [a, b, c, d, e] 1 = some b := rfl
theorem a52 {a b c d e : D} : atI [a, b, c, d, e] 2 = some c := rfl
theorem a53 {a b c d e : D} : atI [a, b, c, d, e] 3 = some d := rfl
theorem a54 {a b c d e : D} : atI [a, b, c, d, e] 4 = some e := rfl
theorem u50 {a b c d e v : D} {nx : MH → Prop} : DL.putK 0 0 v [.lst [a, b, c, d, e]] nx = nx [.lst [v, b, c, d, e]] := rfl
theorem u51 {a b c d e v : D} {nx : MH → Prop} : DL.putK 0 1 v [.lst [a, b, c, d, e]] nx = nx [.lst [a, v, c, d, e]] := rfl
theorem u54 {a b c d e v : D} {nx : MH → Prop} : DL.putK 0 4 v [.lst [a, b, c, d, e]] nx = nx [.lst [a, b, c, d, v]] := rfl
theorem atI_map {ns : List Int} {p : Int} (h0 : 0 ≤ p) (h1 : p < ns.length) : ∃ z, atI (ns.map D.int) p = some (.int z) := by
  obtain ⟨n, rfl⟩ := Int.eq_ofNat_of_zero_le h0
  have hn : n < ns.length := by omega
  refine ⟨ns[n], ?_⟩
  unfold atI ixN
  rw [List.length_map, if_pos h0, if_pos h1]
  simp [hn]
theorem cp_i {a b : Int} {R : DK} {M : MH} : dEq (.int a) (.int b) M R = (((true = true) ∧ (true = true)) ∧ R (.bl (a == b)) M) := rfl
theorem mulK {a k : Int} (h : Sm 60 k) : IntMulOk a k := by
  unfold IntMulOk
  have : Builtin.Int.intBits k ≤ 60 := bits_le h
  have e : decide (Builtin.Int.intBits k > shortFactorBits) = false := decide_eq_false (by unfold shortFactorBits; omega)
  rw [e, Bool.and_false, Bool.false_and]
  simp
theorem mulK' {a k : Int} (h : Sm 60 k) : IntMulOk k a := by
  unfold IntMulOk
  have : Builtin.Int.intBits k ≤ 60 := bits_le h
  have e : decide (Builtin.Int.intBits k > shortFactorBits) = false := decide_eq_false (by unfold shortFactorBits; omega)
  rw [e, Bool.false_and, Bool.false_and]
  simp
theorem fmod_sm {a m : Int} (h0 : 0 < m) (h : m ≤ 1099511627776) : Sm 40 (a.fmod m) := by
  unfold Sm
  rw [Int.fmod_eq_emod_of_nonneg _ (by omega)]
  have h1 := Int.emod_nonneg a (show m ≠ 0 by omega)
  have h2 := Int.emod_lt_of_pos a h0
  omega
theorem fin_draw {h p s c b : Int} {ns : List Int} {R : D → List D → Prop} (hb : 0 < b) (sb : Sm 8000 b) (hp : 0 ≤ p) (hpl : plainA (dk h p s ns c) = true) (hR : ∀ (v : Int) (dk1 : List D), 0 ≤ v → v < b → Dk dk1 → R (.int v) dk1) :
    b ≠ 0 ∧ CFd h b ∧ endI R (.int (h.fmod b)) [.lst (dk (h.fdiv b) p s ns c)] := by
  refine ⟨by omega, cfd (by omega) (sm_mono sb (by decide)), rfl, hpl, ?_⟩
  refine hR _ _ ?_ ?_ ⟨_, _, _, _, _, rfl, hp⟩
  · rw [Int.fmod_eq_emod_of_nonneg _ (by omega)]; exact Int.emod_nonneg _ (by omega)
  · rw [Int.fmod_eq_emod_of_nonneg _ (by omega)]; exact Int.emod_lt_of_pos _ hb
theorem h__law_draw : specI 2 N__law_draw.length m__law_draw pf__law_draw := by
  rintro dk0 ds R hl hpl ⟨b, rfl, hb, sb, ⟨h, p, s, ns, c, rfl, hp⟩, hR⟩
  have pl : ∀ h p s c, plainA (dk h p s ns c) = true := fun _ _ _ _ => hpl
  simp only [m__law_draw, N__law_draw, dk, cp_i, a50, a51, a52, a53, a54, u50, u51, u54, mSeq, mPar, mSet, mAsg, mWhile, mFor, mIf, mRet, mRetN, mNext, mPut, mDrop, dCons, dNil, dCB, dAbs, dInt, dLen, dVar, dC, slP, dOp, dUn, dNeg, dSub, dAdd, dMul, dMd, dFd, dI, dI0, dCmpI, dLt, dLe, dGt, dGe, dTest, dTestB, dTru, dTup, dLst, dIx, dCallP, dCallI, callIK, dAndV, dOrV, dNotV, dAnd, dOr, dNot, dIf, RH.put, List.length, List.map, List.getElem?_cons_zero, List.getElem?_cons_succ, List.cons_append, List.nil_append, List.append_nil, List.set, Nat.reduceSub, List.replicate, prepA, p_int, p_bl, p_non, p_str, D.plain, plainA, Bool.and_true, Bool.true_and, if_true, Bool.or_false, Bool.false_or, resK, rdS, rdL, bindP, bindPs]
  refine ⟨⟨trivial, trivial⟩, ?_⟩
  have fin : ∀ h p s c, 0 ≤ p → b ≠ 0 ∧ CFd h b ∧ endI R (.int (h.fmod b)) [.lst (dk (h.fdiv b) p s ns c)] := fun h p s c hp => fin_draw hb sb hp (pl _ _ _ _) hR
  by_cases h0 : h = 0
  · rw [if_pos (by simpa using h0)]
    by_cases h1 : p < ns.length
    · rw [if_pos (by rw [List.length_map]; exact decide_eq_true h1)]
      obtain ⟨z, hz⟩ := atI_map hp h1
      simp only [hz, a50, a51, a52, a53, a54, u50, u51, u54, mSeq, mPar, mSet, mAsg, mWhile, mFor, mIf, mRet, mRetN, mNext, mPut, mDrop, dCons, dNil, dCB, dAbs, dInt, dLen, dVar, dC, slP, dOp, dUn, dNeg, dSub, dAdd, dMul, dMd, dFd, dI, dI0, dCmpI, dLt, dLe, dGt, dGe, dTest, dTestB, dTru, dTup, dLst, dIx, dCallP, dCallI, callIK, dAndV, dOrV, dNotV, dAnd, dOr, dNot, dIf, RH.put, List.length, List.map, List.getElem?_cons_zero, List.getElem?_cons_succ, List.cons_append, List.nil_append, List.append_nil, List.set, Nat.reduceSub, List.replicate, prepA, p_int, p_bl, p_non, p_str, D.plain, plainA, Bool.and_true, Bool.true_and, if_true, Bool.or_false, Bool.false_or, resK, rdS, rdL, bindP, bindPs]
      exact fin _ (p + 1) s c (by omega)
    · rw [if_neg (by rw [List.length_map]; simpa using h1)]
      refine ⟨⟨trivial, trivial⟩, ?_⟩
      rw [if_pos (by simpa using h0)]
      refine ⟨mulK (by decide), mulK (by decide), by decide, mulOk (n := 40) (m := 40) (fmod_sm (by decide) (by decide)) (fmod_sm (by decide) (by decide)) (by decide), mulK' (by decide), by decide, mulOk (n := 40) (m := 40) (fmod_sm (by decide) (by decide)) (fmod_sm (by decide) (by decide)) (by decide), mulK' (by decide), by decide, cfd (by decide) (sm_mono (a := 13) (n := 10) (by decide) (by decide)), ?_⟩
      exact fin _ p s (c + 1) hp
  · rw [if_neg (by simpa using h0), if_neg (by decide)]
    refine ⟨⟨trivial, trivial⟩, ?_⟩
    rw [if_neg (by simpa using h0)]
    exact fin h p s c hp
theorem h__law_number : specI 1 N__law_number.length m__law_number pf__law_number := by
  rintro dk0 ds R hl hpl ⟨rfl, hd, h⟩
  simp only [m__law_number, N__law_number, dPw, nw, mSeq, mPar, mSet, mAsg, mWhile, mFor, mIf, mRet, mRetN, mNext, mPut, mDrop, dCons, dNil, dCB, dAbs, dInt, dLen, dVar, dC, slP, dOp, dUn, dNeg, dSub, dAdd, dMul, dMd, dFd, dI, dI0, dCmpI, dLt, dLe, dGt, dGe, dTest, dTestB, dTru, dTup, dLst, dIx, dCallP, dCallI, callIK, dAndV, dOrV, dNotV, dAnd, dOr, dNot, dIf, RH.put, List.length, List.map, List.getElem?_cons_zero, List.getElem?_cons_succ, List.cons_append, List.nil_append, List.append_nil, List.set, Nat.reduceSub, List.replicate, prepA, p_int, p_bl, p_non, p_str, D.plain, plainA, Bool.and_true, Bool.true_and, if_true, Bool.or_false, Bool.false_or, resK, rdS, rdL, bindP, bindPs]
  refine ⟨by unfold CPow; decide +kernel, by decide, ⟨trivial, hpl, trivial⟩, 5, rfl, by decide, sm_mono (a := 5) (n := 10) (by decide) (by decide), hd, ?_⟩
  intro v dk1 v0 v5 hd1
  have pl1 : plainA dk1 = true := by
    obtain ⟨a, b, c, ns, e, rfl, _⟩ := hd1
    have : ∀ ns : List Int, plainA (ns.map D.int) = true := fun ns => by
      induction ns with
      | nil => rfl
      | cons n ns ih => exact ih
    show (plainA (ns.map D.int) && true) = true
    rw [this]; rfl
  refine ⟨pl1, ?_⟩
  obtain ⟨z, hz, z0, zb⟩ : ∃ z : Int, atI [D.int 9, .int 9, .int 99, .int 999999, .int (10 ^ Int.toNat 30)] v = some (.int z) ∧ 0 ≤ z ∧ z ≤ 10 ^ 30 := by
    have hv : v = 0 ∨ v = 1 ∨ v = 2 ∨ v = 3 ∨ v = 4 := by omega
    rcases hv with rfl | rfl | rfl | rfl | rfl
    · exact ⟨9, rfl, by decide, by decide⟩
    · exact ⟨9, rfl, by decide, by decide⟩
    · exact ⟨99, rfl, by decide, by decide⟩
    · exact ⟨999999, rfl, by decide, by decide⟩
    · exact ⟨10 ^ 30, rfl, by decide, by decide⟩
  simp only [hz, mSeq, mPar, mSet, mAsg, mWhile, mFor, mIf, mRet, mRetN, mNext, mPut, mDrop, dCons, dNil, dCB, dAbs, dInt, dLen, dVar, dC, slP, dOp, dUn, dNeg, dSub, dAdd, dMul, dMd, dFd, dI, dI0, dCmpI, dLt, dLe, dGt, dGe, dTest, dTestB, dTru, dTup, dLst, dIx, dCallP, dCallI, callIK, dAndV, dOrV, dNotV, dAnd, dOr, dNot, dIf, RH.put, List.length, List.map, List.getElem?_cons_zero, List.getElem?_cons_succ, List.cons_append, List.nil_append, List.append_nil, List.set, Nat.reduceSub, List.replicate, prepA, p_int, p_bl, p_non, p_str, D.plain, plainA, Bool.and_true, Bool.true_and, if_true, Bool.or_false, Bool.false_or, resK, rdS, rdL, bindP, bindPs]
  have e30 : (10 : Int) ^ 30 = 1000000000000000000000000000000 := by decide
  rw [e30] at zb
  refine ⟨mulK' (by decide), ⟨trivial, pl1, trivial⟩, _, rfl, by omega, ?_, hd1, ?_⟩
  · have : Sm 200 (2 * z + 1) := by
      unfold Sm
      have : (2 : Nat) ^ 200 = 1606938044258990275541962092341162602522202993782792835301376 := by decide
      omega
    exact sm_mono this (by decide)
  · intro v2 dk2 w0 w1 hd2
    have pl2 : plainA dk2 = true := by
      obtain ⟨a, b, c, ns, e, rfl, _⟩ := hd2
      have : ∀ ns : List Int, plainA (ns.map D.int) = true := fun ns => by
        induction ns with
        | nil => rfl
        | cons n ns ih => exact ih
      show (plainA (ns.map D.int) && true) = true
      rw [this]; rfl
    refine ⟨pl2, rfl, pl2, h _ _ ?_ hd2⟩
    have : (10 : Nat) ^ 30 = 1000000000000000000000000000000 := by decide
    omega
theorem h__law_deck : specP 1 N__law_deck.length true m__law_deck pf__law_deck := by
  rintro ds R RE hl ⟨ns, rfl, hn, h⟩
  have loop : ∀ (E : DEnds) (ms : List Int) (r : RH) (s : Int), r.sl.length = 3 → r.sl[0]? = some (some (.scr (ns.map D.int))) → r.sl[1]? = some (some (.int s)) →
      (∀ r' : RH, r'.sl.length = 3 → r'.sl[0]? = some (some (.scr (ns.map D.int))) → (∃ s, r'.sl[1]? = some (some (.int s))) → E.nx r' []) →
      forD (.nm 2) (mSet 1 (dOp dMd (dCB dInt (dCons (dOp (dAdd true) (dOp (dMul true) (dVar 1) (dC (.int 48271))) (dVar 2)) (dNil))) (dC (.int 2147483647)))) E [] [] (ms.map D.int) r [] := by
    intro E ms
    induction ms with
    | nil =>
      intro r s h1 h2 h3 hE
      exact hE r h1 h2 ⟨s, h3⟩
    | cons m ms ih =>
      intro r s h1 h2 h3 hE
      have g1 : (r.sl.set 2 (some (D.int m)))[1]? = some (some (.int s)) := by rw [List.getElem?_set_ne (by decide)]; exact h3
      have g2 : (r.sl.set 2 (some (D.int m)))[2]? = some (some (.int m)) := by rw [List.getElem?_set_self (by omega)]
      simp only [List.map, forD, bindP, mSet, dOp, dMd, dI, dCB, dInt, dCons, dNil, dAdd, dMul, dVar, dC, g1, g2]
      refine ⟨mulK (by decide), by decide, fun _ z => (by cases z), ?_⟩
      refine ih _ ((s * 48271 + m).fmod 2147483647) (by simp [RH.put, h1]) ?_ ?_ hE
      · simp only [RH.put]
        rw [List.getElem?_set_ne (by decide), List.getElem?_set_ne (by decide)]; exact h2
      · simp only [RH.put]
        rw [List.getElem?_set_self (by simp [h1])]
  simp only [m__law_deck, N__law_deck, dSeq, dList, nw, mSeq, mPar, mSet, mAsg, mWhile, mFor, mIf, mRet, mRetN, mNext, mPut, mDrop, dCons, dNil, dCB, dAbs, dInt, dLen, dVar, dC, slP, dOp, dUn, dNeg, dSub, dAdd, dMul, dMd, dFd, dI, dI0, dCmpI, dLt, dLe, dGt, dGe, dTest, dTestB, dTru, dTup, dLst, dIx, dCallP, dCallI, callIK, dAndV, dOrV, dNotV, dAnd, dOr, dNot, dIf, RH.put, List.length, List.map, List.getElem?_cons_zero, List.getElem?_cons_succ, List.cons_append, List.nil_append, List.append_nil, List.set, Nat.reduceSub, List.replicate, prepA, p_int, p_bl, p_non, p_str, D.plain, plainA, Bool.and_true, Bool.true_and, if_true, Bool.or_false, Bool.false_or, resK, rdS, rdL, bindP, bindPs]
  refine loop _ ns _ 7 rfl rfl rfl ?_
  intro r' h1 h2 ⟨s, h3⟩
  simp only [h2, h3, mSeq, mPar, mSet, mAsg, mWhile, mFor, mIf, mRet, mRetN, mNext, mPut, mDrop, dCons, dNil, dCB, dAbs, dInt, dLen, dVar, dC, slP, dOp, dUn, dNeg, dSub, dAdd, dMul, dMd, dFd, dI, dI0, dCmpI, dLt, dLe, dGt, dGe, dTest, dTestB, dTru, dTup, dLst, dIx, dCallP, dCallI, callIK, dAndV, dOrV, dNotV, dAnd, dOr, dNot, dIf, RH.put, List.length, List.map, List.getElem?_cons_zero, List.getElem?_cons_succ, List.cons_append, List.nil_append, List.append_nil, List.set, Nat.reduceSub, List.replicate, prepA, p_int, p_bl, p_non, p_str, D.plain, plainA, Bool.and_true, Bool.true_and, if_true, Bool.or_false, Bool.false_or, resK, rdS, rdL, bindP, bindPs]
  refine ⟨by decide, ?_⟩
  have pl : plainA (dk 0 0 s ns 0) = true := by
    have : ∀ ns : List Int, plainA (ns.map D.int) = true := fun ns => by
      induction ns with
      | nil => rfl
      | cons n ns ih => exact ih
    show (plainA (ns.map D.int) && true) = true
    rw [this]; rfl
  exact ⟨pl, h _ ⟨0, 0, s, ns, 0, rfl, by decide⟩⟩
end K01

set_option Elab.async false
set_option linter.all false
set_option maxRecDepth 100000
set_option maxHeartbeats 4000000
namespace K01
open PySem PySem.Spec PyProof.Rows L2 DL

/-! ### the plain law of primitive -/
def lcmS (s : Int) (q : Rat) : Int := s.fdiv (Int.gcd s q.den) * q.den
theorem lcmS_ok {s : Int} (q : Rat) (hs : 0 < s) : 0 < lcmS s q ∧ s ∣ lcmS s q ∧ (q.den : Int) ∣ lcmS s q ∧ lcmS s q ≤ s * q.den := by
  have hd : (0 : Int) < q.den := by have := q.den_pos; omega
  have gs : (Int.gcd s q.den : Int) ∣ s := Int.gcd_dvd_left ..
  have gd : (Int.gcd s q.den : Int) ∣ q.den := Int.gcd_dvd_right ..
  have g0 : (0 : Int) < Int.gcd s q.den := by
    have : 0 < Int.gcd s q.den := Int.gcd_pos_of_ne_zero_left _ (by omega)
    omega
  have e : s.fdiv (Int.gcd s q.den) = s / (Int.gcd s q.den) := Int.fdiv_eq_ediv_of_dvd gs
  obtain ⟨t, ht⟩ := gs
  obtain ⟨u, hu⟩ := gd
  have e2 : s / (Int.gcd s q.den) = t := by
    conv => lhs; lhs; rw [ht]
    exact Int.mul_ediv_cancel_left _ (by omega)
  have ht0 : 0 < t := by
    rw [ht] at hs
    exact Int.pos_of_mul_pos_right hs g0 |> fun h => h
  unfold lcmS
  rw [e, e2]
  refine ⟨Int.mul_pos ht0 hd, ⟨u, ?_⟩, Int.dvd_mul_left .., ?_⟩
  · conv => lhs; rw [hu]
    conv => rhs; rw [ht]
    rw [Int.mul_left_comm, Int.mul_assoc]
  · refine Int.mul_le_mul_of_nonneg_right ?_ (by omega)
    rw [ht]
    have := Int.mul_le_mul_of_nonneg_right (show (1 : Int) ≤ Int.gcd s q.den by omega) (show 0 ≤ t by omega)
    omega
theorem lcm_fold : ∀ (qs : List Rat) (s : Int) (n : Nat), 0 < s → Sm n s → (∀ q ∈ qs, q.den < 2 ^ 110) → 0 < qs.foldl lcmS s ∧ s ∣ qs.foldl lcmS s ∧ (∀ q ∈ qs, (q.den : Int) ∣ qs.foldl lcmS s) ∧ Sm (n + 110 * qs.length) (qs.foldl lcmS s)
  | [], s, n, hs, hn, _ => ⟨hs, Int.dvd_refl _, fun q hq => (by cases hq), hn⟩
  | q :: qs, s, n, hs, hn, hq => by
    obtain ⟨h1, h2, h3, h4⟩ := lcmS_ok q hs
    have hd := hq q (List.mem_cons_self ..)
    have hn2 : Sm (n + 110) (lcmS s q) := by
      have : Sm (n + 110) (s * q.den) := sm_mul hn (show Sm 110 (q.den : Int) by unfold Sm; rw [Int.natAbs_natCast]; exact hd) (Nat.le_refl _)
      unfold Sm at this ⊢
      omega
    obtain ⟨g1, g2, g3, g4⟩ := lcm_fold qs (lcmS s q) (n + 110) h1 hn2 fun q hq2 => hq q (List.mem_cons_of_mem _ hq2)
    refine ⟨g1, Int.dvd_trans h2 g2, fun p hp => ?_, ?_⟩
    · rcases List.mem_cons.mp hp with rfl | hp
      · exact Int.dvd_trans h3 g2
      · exact g3 p hp
    · have e : n + 110 + 110 * qs.length = n + 110 * (q :: qs).length := by rw [List.length_cons]; omega
      rw [← e]
      exact g4
def gcdS (s i : Int) : Int := Int.gcd s i
theorem gcd_fold : ∀ (is : List Int) (s : Int), is.foldl gcdS s ∣ s ∧ (∀ i ∈ is, is.foldl gcdS s ∣ i) ∧ (0 ≤ s → 0 ≤ is.foldl gcdS s) ∧ ∀ d, d ∣ s → (∀ i ∈ is, d ∣ i) → d ∣ is.foldl gcdS s
  | [], s => ⟨Int.dvd_refl _, fun i hi => (by cases hi), fun h => h, fun d h _ => h⟩
  | i :: is, s => by
    obtain ⟨h1, h2, h3, h4⟩ := gcd_fold is (gcdS s i)
    have a : gcdS s i ∣ s := Int.gcd_dvd_left ..
    have b : gcdS s i ∣ i := Int.gcd_dvd_right ..
    refine ⟨Int.dvd_trans h1 a, fun j hj => ?_, fun _ => h3 (by unfold gcdS; omega), fun d hd hi => h4 d ?_ fun j hj => hi j (List.mem_cons_of_mem _ hj)⟩
    · rcases List.mem_cons.mp hj with rfl | hj
      · exact Int.dvd_trans h1 b
      · exact h2 j hj
    · exact Int.dvd_coe_gcd hd (hi i (List.mem_cons_self ..))
def Lq (qs : List Rat) : Int := qs.foldl lcmS 1
def itq (qs : List Rat) (q : Rat) : Int := q.num * (Lq qs).fdiv q.den
def gq (qs : List Rat) : Int := (qs.map (itq qs)).foldl gcdS 0
theorem prim_eq (qs : List Rat) : prim qs = qs.map fun q => (itq qs q).fdiv (gq qs) := by
  show ((qs.map (itq qs)).map fun i => i.fdiv (gq qs)) = _
  rw [List.map_map]
  rfl
theorem Lq_ok {qs : List Rat} (hl : qs.length ≤ 40) (hq : ∀ x ∈ qs, SmR 110 x) : 0 < Lq qs ∧ (∀ q ∈ qs, (q.den : Int) ∣ Lq qs) ∧ Sm 4401 (Lq qs) := by
  obtain ⟨h1, _, h3, h4⟩ := lcm_fold qs 1 1 (by decide) (by decide) fun q h => (hq q h).2
  exact ⟨h1, h3, sm_mono h4 (by omega)⟩
/-- L over a denominator -/
theorem Lq_div {qs : List Rat} (hl : qs.length ≤ 40) (hq : ∀ x ∈ qs, SmR 110 x) {q : Rat} (h : q ∈ qs) : ∃ t : Int, 0 < t ∧ Lq qs = q.den * t ∧ (Lq qs).fdiv q.den = t := by
  obtain ⟨h1, h2, _⟩ := Lq_ok hl hq
  obtain ⟨t, ht⟩ := h2 q h
  have hd : (0 : Int) < q.den := by have := q.den_pos; omega
  refine ⟨t, ?_, ht, ?_⟩
  · rw [ht] at h1
    exact Int.pos_of_mul_pos_right h1 hd
  · rw [Int.fdiv_eq_ediv_of_dvd ⟨t, ht⟩, ht]
    exact Int.mul_ediv_cancel_left _ (by omega)
theorem itq_ok {qs : List Rat} (hl : qs.length ≤ 40) (hq : ∀ x ∈ qs, SmR 110 x) {q : Rat} (h : q ∈ qs) : Sm 4600 ((Lq qs).fdiv q.den) ∧ Sm 4800 (itq qs q) ∧ (itq qs q = 0 ↔ q = 0) := by
  obtain ⟨t, t0, e1, e2⟩ := Lq_div hl hq h
  obtain ⟨_, _, hs⟩ := Lq_ok hl hq
  have hd : (0 : Int) < q.den := by have := q.den_pos; omega
  have st : Sm 4401 t := by
    rw [e1] at hs
    have : t ≤ q.den * t := by
      have := Int.mul_le_mul_of_nonneg_right (show (1 : Int) ≤ q.den by omega) (show 0 ≤ t by omega)
      omega
    unfold Sm at *
    omega
  unfold itq
  rw [e2]
  refine ⟨sm_mono st (by decide), sm_mul (hq q h).1 st (by decide), ?_⟩
  rw [Int.mul_eq_zero, Rat.num_eq_zero]
  constructor
  · rintro (h | h)
    · exact h
    · omega
  · exact .inl
theorem gq_ok {qs : List Rat} (hl : qs.length ≤ 40) (hq : ∀ x ∈ qs, SmR 110 x) (hz : ∃ x ∈ qs, x ≠ 0) : 0 < gq qs ∧ Sm 4800 (gq qs) ∧ ∀ q ∈ qs, gq qs ∣ itq qs q := by
  obtain ⟨x, hx, x0⟩ := hz
  obtain ⟨_, h2, h3, _⟩ := gcd_fold (qs.map (itq qs)) 0
  have hd : gq qs ∣ itq qs x := h2 _ (List.mem_map_of_mem hx)
  have n0 : itq qs x ≠ 0 := fun z => x0 ((itq_ok hl hq hx).2.2.mp z)
  have p : 0 ≤ gq qs := h3 (by decide)
  have g0 : gq qs ≠ 0 := fun z => by
    rw [z] at hd
    exact n0 (Int.zero_dvd.mp hd)
  refine ⟨by omega, ?_, fun q hq2 => h2 _ (List.mem_map_of_mem hq2)⟩
  have := Int.natAbs_dvd_natAbs.mpr hd
  have := Nat.le_of_dvd (by omega) this
  have s := (itq_ok hl hq hx).2.1
  unfold Sm at *
  omega
/-- a comprehension over what stands for xs -/
theorem lcD_enc {α : Type} {i : Nat} {sl0 : SL} {src : List Nat} {M0 M : MH} {me : DE} (enc f : α → D) (hs : SrcOk src M0 M) : ∀ (xs : List α) (acc : List D) (R : List D → MH → Prop), (∀ x ∈ xs, ∀ R' : DK, R' (f x) M → me (rB (sl0.set i (some (enc x)))) M R') → R (acc ++ xs.map f) M → lcD (.nm i) tYesD me sl0 src M0 (xs.map enc) acc M R
  | [], acc, R, _, h => by simpa [lcD] using h
  | x :: xs, acc, R, hm, h => by
    simp only [lcD, bindP, tYesD, if_true, List.map]
    refine hm x (List.mem_cons_self ..) _ ⟨hs, ?_⟩
    refine lcD_enc enc f hs xs (acc ++ [f x]) R (fun x hx => hm x (List.mem_cons_of_mem _ hx)) ?_
    rw [List.append_assoc]
    exact h
theorem h_primitive : specP 1 N_primitive.length false m_primitive pf_primitive := by
  rintro ds R RE hl ⟨qs, rfl, hn, hq, hz, hR⟩
  have loop1 : ∀ (E : DEnds) (ps : List Rat) (a0 a2 a3 a4 : Option D) (ex) (s : Int) (n : Nat), 0 < s → Sm n s → n + 110 * ps.length ≤ 6000 → (∀ p ∈ ps, p.den < 2 ^ 110) →
      (∀ a2, E.nx { sl := [a0, some (.int (ps.foldl lcmS s)), a2, a3, a4], ex := ex } []) →
      forD (.nm 2) (mSet 1 (dOp (dMul true) (dOp dFd (dVar 1) (dCallP 2 pf_common false true [] (dCons (dVar 1) (dCons (dOp dIx (dVar 2) (dC (.int 1))) (dNil))))) (dOp dIx (dVar 2) (dC (.int 1))))) E [] [] (ps.map rD) { sl := [a0, some (.int s), a2, a3, a4], ex := ex } [] := by
    intro E ps
    induction ps with
    | nil => intro a0 a2 a3 a4 ex s n _ _ _ _ hE; exact hE a2
    | cons p ps ih =>
      intro a0 a2 a3 a4 ex s n s0 hs hb hp hE
      obtain ⟨g1, g2⟩ := gcd_sm (a := s) (b := p.den) (k := 110) (den0 p) (by unfold Sm; rw [Int.natAbs_natCast]; exact hp p (List.mem_cons_self ..))
      obtain ⟨l1, l2, l3, l4⟩ := lcmS_ok p s0
      have hdp : Sm 110 (p.den : Int) := by unfold Sm; rw [Int.natAbs_natCast]; exact hp p (List.mem_cons_self ..)
      simp only [forD, rD, at0, at1, mSeq, mPar, mSet, mAsg, mWhile, mFor, mIf, mRet, mRetN, mNext, mPut, mDrop, dCons, dNil, dCB, dAbs, dInt, dLen, dVar, dC, slP, dOp, dUn, dNeg, dSub, dAdd, dMul, dMd, dFd, dI, dI0, dCmpI, dLt, dLe, dGt, dGe, dTest, dTestB, dTru, dTup, dLst, dIx, dCallP, dCallI, callIK, dAndV, dOrV, dNotV, dAnd, dOr, dNot, dIf, RH.put, List.length, List.map, List.getElem?_cons_zero, List.getElem?_cons_succ, List.cons_append, List.nil_append, List.append_nil, List.set, Nat.reduceSub, List.replicate, prepA, p_int, p_bl, p_non, p_str, D.plain, plainA, Bool.and_true, Bool.true_and, if_true, Bool.or_false, Bool.false_or, resK, rdS, rdL, bindP, bindPs]
      refine ⟨trivial, _, _, rfl, fun z => (by cases z), cfd g2 (sm_mono g1 (by decide)), ?_, fun _ z => (by cases z), ?_⟩
      · have : Sm 6000 (s.fdiv (Int.gcd s p.den)) := by
          have gs : (Int.gcd s p.den : Int) ∣ s := Int.gcd_dvd_left ..
          have e : (s.fdiv (Int.gcd s p.den)).natAbs ≤ s.natAbs := by
            rw [Int.fdiv_eq_ediv_of_dvd gs]
            exact Int.natAbs_ediv_le_natAbs ..
          have s6 := sm_mono hs (show n ≤ 6000 by omega)
          unfold Sm at *
          omega
        exact mulOk this hdp (by decide)
      · have hn2 : Sm (n + 110) (lcmS s p) := by
          have : Sm (n + 110) (s * p.den) := sm_mul hs hdp (Nat.le_refl _)
          unfold Sm at this ⊢
          omega
        refine ih a0 _ a3 a4 ex (lcmS s p) (n + 110) l1 hn2 ?_ (fun p hp2 => hp p (List.mem_cons_of_mem _ hp2)) hE
        rw [List.length_cons] at hb
        omega
  have loop2 : ∀ (E : DEnds) (is : List Int) (a0 a1 a2 a3 : Option D) (ex) (s : Int),
      (∀ a2, E.nx { sl := [a0, a1, a2, a3, some (.int (is.foldl gcdS s))], ex := ex } []) →
      forD (.nm 2) (mSet 4 (dCallP 2 pf_common false true [] (dCons (dVar 4) (dCons (dVar 2) (dNil))))) E [] [] (is.map D.int) { sl := [a0, a1, a2, a3, some (.int s)], ex := ex } [] := by
    intro E is
    induction is with
    | nil => intro a0 a1 a2 a3 ex s hE; exact hE a2
    | cons i is ih =>
      intro a0 a1 a2 a3 ex s hE
      simp only [forD, mSeq, mPar, mSet, mAsg, mWhile, mFor, mIf, mRet, mRetN, mNext, mPut, mDrop, dCons, dNil, dCB, dAbs, dInt, dLen, dVar, dC, slP, dOp, dUn, dNeg, dSub, dAdd, dMul, dMd, dFd, dI, dI0, dCmpI, dLt, dLe, dGt, dGe, dTest, dTestB, dTru, dTup, dLst, dIx, dCallP, dCallI, callIK, dAndV, dOrV, dNotV, dAnd, dOr, dNot, dIf, RH.put, List.length, List.map, List.getElem?_cons_zero, List.getElem?_cons_succ, List.cons_append, List.nil_append, List.append_nil, List.set, Nat.reduceSub, List.replicate, prepA, p_int, p_bl, p_non, p_str, D.plain, plainA, Bool.and_true, Bool.true_and, if_true, Bool.or_false, Bool.false_or, resK, rdS, rdL, bindP, bindPs]
      exact ⟨trivial, _, _, rfl, fun z => (by cases z), fun _ z => (by cases z), ih a0 a1 _ a3 ex (gcdS s i) hE⟩
  obtain ⟨L0, Ld, Ls⟩ := Lq_ok hn hq
  obtain ⟨G0, Gs, Gd⟩ := gq_ok hn hq hz
  have sz : ∀ n, n ≤ 40 → n ≤ sizeLine := fun n h => by
    have : 40 ≤ sizeLine := by decide
    omega
  simp only [m_primitive, N_primitive, dSeq, mSeq, mPar, mSet, mAsg, mWhile, mFor, mIf, mRet, mRetN, mNext, mPut, mDrop, dCons, dNil, dCB, dAbs, dInt, dLen, dVar, dC, slP, dOp, dUn, dNeg, dSub, dAdd, dMul, dMd, dFd, dI, dI0, dCmpI, dLt, dLe, dGt, dGe, dTest, dTestB, dTru, dTup, dLst, dIx, dCallP, dCallI, callIK, dAndV, dOrV, dNotV, dAnd, dOr, dNot, dIf, RH.put, List.length, List.map, List.getElem?_cons_zero, List.getElem?_cons_succ, List.cons_append, List.nil_append, List.append_nil, List.set, Nat.reduceSub, List.replicate, prepA, p_int, p_bl, p_non, p_str, D.plain, plainA, Bool.and_true, Bool.true_and, if_true, Bool.or_false, Bool.false_or, resK, rdS, rdL, bindP, bindPs]
  refine loop1 _ qs _ _ _ _ _ 1 1 (by decide) (by decide) (by omega) (fun p hp => (hq p hp).2) fun a2 => ?_
  simp only [dLc, dSeq, wipeD, mSeq, mPar, mSet, mAsg, mWhile, mFor, mIf, mRet, mRetN, mNext, mPut, mDrop, dCons, dNil, dCB, dAbs, dInt, dLen, dVar, dC, slP, dOp, dUn, dNeg, dSub, dAdd, dMul, dMd, dFd, dI, dI0, dCmpI, dLt, dLe, dGt, dGe, dTest, dTestB, dTru, dTup, dLst, dIx, dCallP, dCallI, callIK, dAndV, dOrV, dNotV, dAnd, dOr, dNot, dIf, RH.put, List.length, List.map, List.getElem?_cons_zero, List.getElem?_cons_succ, List.cons_append, List.nil_append, List.append_nil, List.set, Nat.reduceSub, List.replicate, prepA, p_int, p_bl, p_non, p_str, D.plain, plainA, Bool.and_true, Bool.true_and, if_true, Bool.or_false, Bool.false_or, resK, rdS, rdL, bindP, bindPs]
  refine ⟨by rw [List.length_map]; exact sz _ hn, ?_⟩
  refine lcD_enc rD (fun q => .int (itq qs q)) (fun _ h => by cases h) qs [] _ (fun q hq2 R' hR' => ?_) ?_
  · obtain ⟨i1, i2, i3⟩ := itq_ok hn hq hq2
    simp only [rB, rD, at0, at1, mSeq, mPar, mSet, mAsg, mWhile, mFor, mIf, mRet, mRetN, mNext, mPut, mDrop, dCons, dNil, dCB, dAbs, dInt, dLen, dVar, dC, slP, dOp, dUn, dNeg, dSub, dAdd, dMul, dMd, dFd, dI, dI0, dCmpI, dLt, dLe, dGt, dGe, dTest, dTestB, dTru, dTup, dLst, dIx, dCallP, dCallI, callIK, dAndV, dOrV, dNotV, dAnd, dOr, dNot, dIf, RH.put, List.length, List.map, List.getElem?_cons_zero, List.getElem?_cons_succ, List.cons_append, List.nil_append, List.append_nil, List.set, Nat.reduceSub, List.replicate, prepA, p_int, p_bl, p_non, p_str, D.plain, plainA, Bool.and_true, Bool.true_and, if_true, Bool.or_false, Bool.false_or, resK, rdS, rdL, bindP, bindPs]
    exact ⟨cfd (den0 q) (sm_mono (smR_den (hq q hq2)) (by decide)), mulOk (hq q hq2).1 i1 (by decide), hR'⟩
  · have e : (qs.map fun q => D.int (itq qs q)) = (qs.map (itq qs)).map D.int := by rw [List.map_map]; rfl
    simp only [nw, e, mSeq, mPar, mSet, mAsg, mWhile, mFor, mIf, mRet, mRetN, mNext, mPut, mDrop, dCons, dNil, dCB, dAbs, dInt, dLen, dVar, dC, slP, dOp, dUn, dNeg, dSub, dAdd, dMul, dMd, dFd, dI, dI0, dCmpI, dLt, dLe, dGt, dGe, dTest, dTestB, dTru, dTup, dLst, dIx, dCallP, dCallI, callIK, dAndV, dOrV, dNotV, dAnd, dOr, dNot, dIf, RH.put, List.length, List.map, List.getElem?_cons_zero, List.getElem?_cons_succ, List.cons_append, List.nil_append, List.append_nil, List.set, Nat.reduceSub, List.replicate, prepA, p_int, p_bl, p_non, p_str, D.plain, plainA, Bool.and_true, Bool.true_and, if_true, Bool.or_false, Bool.false_or, resK, rdS, rdL, bindP, bindPs]
    refine loop2 _ (qs.map (itq qs)) _ _ _ _ _ 0 fun a2 => ?_
    simp only [mSeq, mPar, mSet, mAsg, mWhile, mFor, mIf, mRet, mRetN, mNext, mPut, mDrop, dCons, dNil, dCB, dAbs, dInt, dLen, dVar, dC, slP, dOp, dUn, dNeg, dSub, dAdd, dMul, dMd, dFd, dI, dI0, dCmpI, dLt, dLe, dGt, dGe, dTest, dTestB, dTru, dTup, dLst, dIx, dCallP, dCallI, callIK, dAndV, dOrV, dNotV, dAnd, dOr, dNot, dIf, RH.put, List.length, List.map, List.getElem?_cons_zero, List.getElem?_cons_succ, List.cons_append, List.nil_append, List.append_nil, List.set, Nat.reduceSub, List.replicate, prepA, p_int, p_bl, p_non, p_str, D.plain, plainA, Bool.and_true, Bool.true_and, if_true, Bool.or_false, Bool.false_or, resK, rdS, rdL, bindP, bindPs]
    refine ⟨by rw [List.length_map, List.length_map]; exact sz _ hn, ?_⟩
    rw [List.map_map]
    refine lcD_enc (D.int ∘ itq qs) (fun q => .int ((itq qs q).fdiv (gq qs))) (fun _ h => by cases h) qs [] _ (fun q hq2 R' hR' => ?_) ?_
    · simp only [rB, Function.comp, mSeq, mPar, mSet, mAsg, mWhile, mFor, mIf, mRet, mRetN, mNext, mPut, mDrop, dCons, dNil, dCB, dAbs, dInt, dLen, dVar, dC, slP, dOp, dUn, dNeg, dSub, dAdd, dMul, dMd, dFd, dI, dI0, dCmpI, dLt, dLe, dGt, dGe, dTest, dTestB, dTru, dTup, dLst, dIx, dCallP, dCallI, callIK, dAndV, dOrV, dNotV, dAnd, dOr, dNot, dIf, RH.put, List.length, List.map, List.getElem?_cons_zero, List.getElem?_cons_succ, List.cons_append, List.nil_append, List.append_nil, List.set, Nat.reduceSub, List.replicate, prepA, p_int, p_bl, p_non, p_str, D.plain, plainA, Bool.and_true, Bool.true_and, if_true, Bool.or_false, Bool.false_or, resK, rdS, rdL, bindP, bindPs]
      exact ⟨cfd (by have := G0; unfold gq at this; omega) (sm_mono Gs (by decide)), hR'⟩
    · have e2 : ([] ++ qs.map fun q => D.int ((itq qs q).fdiv (gq qs))) = (prim qs).map D.int := by
        rw [prim_eq, List.map_map]; rfl
      simp only [nw, e2]
      have pl : ∀ is : List Int, plainA (is.map D.int) = true := fun is => by
        induction is with
        | nil => rfl
        | cons n ns ih => exact ih
      exact ⟨pl _, hR⟩
end K01

set_option Elab.async false
set_option linter.all false
set_option maxRecDepth 100000
set_option maxHeartbeats 8000000
namespace K01
open PySem PySem.Spec PyProof.Rows L2 DL

/-! ### what is compared -/
structure GA (n b : Nat) (ds : List D) : Prop where
  dat : datA ds = true
  lay : PyData.canLayAll0 (pyA ds) = true
  dep : PyData.depthAll (pyA ds) ≤ n
  sho : PyData.showableAll (pyA ds) = true
  blk : PyData.bulkAll (pyA ds) ≤ b
theorem gA_nil {n b : Nat} : GA n b [] := ⟨rfl, rfl, Nat.zero_le _, rfl, Nat.zero_le _⟩
theorem gA_cons {n b b' : Nat} {d : D} {ds : List D} (h : Gd n b d) (g : GA n b' ds) : GA n (b + 1 + b') (d :: ds) := by
  refine ⟨?_, ?_, ?_, ?_, ?_⟩
  · show (D.dat d && datA ds) = true
    rw [h.dat, g.dat]; rfl
  · show ((py d).canLay0 && PyData.canLayAll0 (pyA ds)) = true
    rw [h.lay, g.lay]; rfl
  · exact Nat.max_le.mpr ⟨h.dep, g.dep⟩
  · show ((py d).showable && PyData.showableAll (pyA ds)) = true
    rw [h.sho, g.sho]; rfl
  · have h1 := h.blk
    have h2 := g.blk
    show (py d).bulk + 1 + PyData.bulkAll (pyA ds) ≤ _
    omega
theorem g_tup {n b : Nat} {ds : List D} (g : GA n b ds) : Gd (n + 1) b (.tup ds) := ⟨g.dat, g.lay, Nat.add_le_add_right g.dep 1, g.sho, g.blk⟩
theorem g_lst {n b : Nat} {ds : List D} (g : GA n b ds) : Gd (n + 1) b (.lst ds) := ⟨g.dat, g.lay, Nat.add_le_add_right g.dep 1, g.sho, g.blk⟩
theorem Gd.mono {n b n' b' : Nat} {d : D} (h : Gd n b d) (h1 : n ≤ n') (h2 : b ≤ b') : Gd n' b' d := ⟨h.dat, h.lay, Nat.le_trans h.dep h1, h.sho, Nat.le_trans h.blk h2⟩
theorem g_int {n b : Nat} {i : Int} (h : Sm 1900 i) : Gd n b (.int i) := by
  refine ⟨rfl, rfl, Nat.zero_le _, decide_eq_true ?_, Nat.zero_le _⟩
  by_cases h0 : i.natAbs = 0
  · rw [h0]; decide
  · exact Nat.lt_trans ((Nat.log2_lt h0).mpr h) (by decide)
theorem g_bl {n b : Nat} {i : Bool} : Gd n b (.bl i) := ⟨rfl, rfl, Nat.zero_le _, rfl, Nat.zero_le _⟩
theorem g_non {n b : Nat} : Gd n b .non := ⟨rfl, rfl, Nat.zero_le _, rfl, Nat.zero_le _⟩
theorem g_rD {x : Rat} (h : SmR 1900 x) : Gd 1 2 (rD x) := g_tup (gA_cons (b := 0) (g_int h.1) (gA_cons (b := 0) (b' := 0) (g_int (smR_den h)) gA_nil))
theorem gA_map {α : Type} {f : α → D} {n b : Nat} : ∀ (xs : List α), (∀ x ∈ xs, Gd n b (f x)) → GA n ((b + 1) * xs.length) (xs.map f)
  | [], _ => gA_nil
  | x :: xs, h => by
    have e : (b + 1) * (x :: xs).length = b + 1 + (b + 1) * xs.length := by rw [List.length_cons, Nat.mul_succ]; omega
    rw [e]
    exact gA_cons (h x (List.mem_cons_self ..)) (gA_map xs fun y hy => h y (List.mem_cons_of_mem _ hy))
theorem smR_mono {x : Rat} {n k : Nat} (h : SmR n x) (l : n ≤ k) : SmR k x := ⟨sm_mono h.1 l, Nat.lt_of_lt_of_le h.2 (Nat.pow_le_pow_right (by decide) l)⟩
mutual
theorem dat_plain : ∀ {d : D}, d.dat = true → d.plain = true
  | .non, _ => rfl
  | .bl _, _ => rfl
  | .int _, _ => rfl
  | .str _, _ => rfl
  | .tup ds, h => datA_plain (ds := ds) h
  | .lst ds, h => datA_plain (ds := ds) h
  | .scr ds, h => datA_plain (ds := ds) h
  | .loc _, h => by cases h
  | .ty _, h => by cases h
  | .cls _, h => by cases h
theorem datA_plain : ∀ {ds : List D}, datA ds = true → plainA ds = true
  | [], _ => rfl
  | d :: ds, h => by
    have h' : (D.dat d && datA ds) = true := h
    rw [Bool.and_eq_true] at h'
    show (D.plain d && plainA ds) = true
    rw [dat_plain h'.1, datA_plain h'.2]; rfl
end
theorem smR_divInt {a b : Int} {k : Nat} (hb : b ≠ 0) (ha : Sm k a) (sb : Sm k b) : SmR k (Rat.divInt a b) := by
  obtain ⟨e1, e2⟩ := frac_num (a := a) hb
  have key : ∀ c : Int, (c.fdiv (if b < 0 then -(Int.gcd a b : Int) else (Int.gcd a b : Int))).natAbs ≤ c.natAbs ∨ ¬ ((if b < 0 then -(Int.gcd a b : Int) else (Int.gcd a b : Int)) ∣ c) := fun c => by
    by_cases hd : (if b < 0 then -(Int.gcd a b : Int) else (Int.gcd a b : Int)) ∣ c
    · rw [Int.fdiv_eq_ediv_of_dvd hd]
      exact .inl (Int.natAbs_ediv_le_natAbs ..)
    · exact .inr hd
  have ga : (if b < 0 then -(Int.gcd a b : Int) else (Int.gcd a b : Int)) ∣ a := by
    split
    · exact Int.neg_dvd.mpr (Int.gcd_dvd_left ..)
    · exact Int.gcd_dvd_left ..
  have gb : (if b < 0 then -(Int.gcd a b : Int) else (Int.gcd a b : Int)) ∣ b := by
    split
    · exact Int.neg_dvd.mpr (Int.gcd_dvd_right ..)
    · exact Int.gcd_dvd_right ..
  constructor
  · rw [← e1]
    rcases key a with h | h
    · unfold Sm at *; omega
    · exact absurd ga h
  · have : ((Rat.divInt a b).den : Int).natAbs ≤ b.natAbs := by
      rw [← e2]
      rcases key b with h | h
      · exact h
      · exact absurd gb h
    rw [Int.natAbs_natCast] at this
    unfold Sm at sb
    omega
/-! ### primitive rows -/
theorem prim_len (qs : List Rat) : (prim qs).length = qs.length := by rw [prim_eq, List.length_map]
theorem prim_mul {qs : List Rat} (hl : qs.length ≤ 40) (hq : ∀ x ∈ qs, SmR 110 x) (hz : ∃ x ∈ qs, x ≠ 0) {q : Rat} (h : q ∈ qs) : (itq qs q).fdiv (gq qs) * gq qs = itq qs q ∧ itq qs q * q.den = q.num * Lq qs := by
  obtain ⟨g0, _, gd⟩ := gq_ok hl hq hz
  obtain ⟨t, t0, e1, e2⟩ := Lq_div hl hq h
  refine ⟨?_, ?_⟩
  · rw [Int.fdiv_eq_ediv_of_dvd (gd q h)]
    exact Int.ediv_mul_cancel (gd q h)
  · unfold itq
    rw [e2, e1, Int.mul_assoc, Int.mul_comm t]
theorem prim_gcd {qs : List Rat} (hl : qs.length ≤ 40) (hq : ∀ x ∈ qs, SmR 110 x) (hz : ∃ x ∈ qs, x ≠ 0) : (prim qs).foldl gcdS 0 = 1 := by
  obtain ⟨g0, _, gd⟩ := gq_ok hl hq hz
  obtain ⟨_, h2, h3, _⟩ := gcd_fold (prim qs) 0
  obtain ⟨_, _, _, k4⟩ := gcd_fold (qs.map (itq qs)) 0
  have key : (prim qs).foldl gcdS 0 * gq qs ∣ gq qs := by
    refine k4 _ (Int.dvd_zero _) fun i hi => ?_
    obtain ⟨q, hq2, rfl⟩ := List.mem_map.mp hi
    rw [← (prim_mul hl hq hz hq2).1]
    refine Int.mul_dvd_mul (h2 _ ?_) (Int.dvd_refl _)
    rw [prim_eq]
    exact List.mem_map_of_mem hq2
  have h1 : (prim qs).foldl gcdS 0 ∣ 1 := by
    obtain ⟨c, hc⟩ := key
    refine ⟨c, ?_⟩
    have : gq qs * ((prim qs).foldl gcdS 0 * c) = gq qs * 1 := by
      rw [Int.mul_one]
      conv => rhs; rw [hc]
      rw [Int.mul_left_comm, ← Int.mul_assoc]
    exact (Int.eq_of_mul_eq_mul_left (by omega) this).symm
  have := h3 (by decide)
  exact Int.eq_one_of_dvd_one this h1
theorem prim_sign {qs : List Rat} (hl : qs.length ≤ 40) (hq : ∀ x ∈ qs, SmR 110 x) (hz : ∃ x ∈ qs, x ≠ 0) {q : Rat} (h : q ∈ qs) : 0 < (itq qs q).fdiv (gq qs) ↔ 0 < q.num := by
  obtain ⟨g0, _, _⟩ := gq_ok hl hq hz
  obtain ⟨L0, _, _⟩ := Lq_ok hl hq
  obtain ⟨e1, e2⟩ := prim_mul hl hq hz h
  have hd : (0 : Int) < q.den := by have := q.den_pos; omega
  constructor
  · intro hp
    have h1 : 0 < itq qs q := by rw [← e1]; exact Int.mul_pos hp g0
    have h2 : 0 < q.num * Lq qs := by rw [← e2]; exact Int.mul_pos h1 hd
    exact Int.pos_of_mul_pos_left h2 L0
  · intro hp
    have h2 : 0 < itq qs q * q.den := by rw [e2]; exact Int.mul_pos hp L0
    have h1 : 0 < itq qs q := Int.pos_of_mul_pos_left h2 hd
    rw [← e1] at h1
    exact Int.pos_of_mul_pos_left h1 g0
theorem prim_cross {qs : List Rat} (hl : qs.length ≤ 40) (hq : ∀ x ∈ qs, SmR 110 x) (hz : ∃ x ∈ qs, x ≠ 0) {p q : Rat} (hp : p ∈ qs) (h : q ∈ qs) :
    (itq qs p).fdiv (gq qs) * q.num * p.den = (itq qs q).fdiv (gq qs) * p.num * q.den := by
  obtain ⟨g0, _, _⟩ := gq_ok hl hq hz
  obtain ⟨e1, e2⟩ := prim_mul hl hq hz h
  obtain ⟨f1, f2⟩ := prim_mul hl hq hz hp
  have key : ∀ A B : Int, A * gq qs = itq qs p → B * gq qs = itq qs q → A * q.num * p.den = B * p.num * q.den := by
    intro A B f1 e1
    apply Int.eq_of_mul_eq_mul_left (show gq qs ≠ 0 by omega)
    have l1 : gq qs * (A * q.num * p.den) = itq qs p * p.den * q.num := by rw [← f1]; simp only [Int.mul_assoc, Int.mul_comm, Int.mul_left_comm]
    have l2 : gq qs * (B * p.num * q.den) = itq qs q * q.den * p.num := by rw [← e1]; simp only [Int.mul_assoc, Int.mul_comm, Int.mul_left_comm]
    rw [l1, l2, e2, f2]
    simp only [Int.mul_assoc, Int.mul_comm, Int.mul_left_comm]
  exact key _ _ f1 e1
end K01

set_option Elab.async false
set_option linter.all false
set_option maxRecDepth 100000
set_option maxHeartbeats 8000000
namespace K01
open PySem PySem.Spec PyProof.Rows L2 DL

theorem plain_ints : ∀ ns : List Int, plainA (ns.map D.int) = true
  | [] => rfl
  | _ :: ns => plain_ints ns
theorem dk_plain {ds : List D} (h : Dk ds) : plainA ds = true := by
  obtain ⟨a, b, c, ns, e, rfl, _⟩ := h
  show (plainA (ns.map D.int) && true) = true
  rw [plain_ints]; rfl
theorem sm30 {v : Int} (h : v.natAbs ≤ 10 ^ 30) : Sm 100 v := by
  unfold Sm
  have e1 : (10 : Nat) ^ 30 = 1000000000000000000000000000000 := by decide
  have e2 : (2 : Nat) ^ 100 = 1267650600228229401496703205376 := by decide
  omega
theorem st0 {u : DS} {E : DEnds} {ex : SL → Addr → D → Str → MH → Prop} {z1 z2 z3 z4 z5 z6 z7 z8 z9 z10 z11 z12 z13 z14 z15 z16 z17 z18 z19 z20 : Option D} {ns : List Int} (hn : ns.length ≤ 63) (k : ∀ dk0, Dk dk0 → u E { sl := [(some (.scr (ns.map D.int))), (some (.loc 0)), z2, z3, z4, z5, z6, z7, z8, z9, z10, z11, z12, z13, z14, z15, z16, z17, z18, z19, z20], ex := ex } [.lst dk0]) : mSeq s_law_0 u E { sl := [(some (.scr (ns.map D.int))), z1, z2, z3, z4, z5, z6, z7, z8, z9, z10, z11, z12, z13, z14, z15, z16, z17, z18, z19, z20], ex := ex } [] := by
  have hp : ∀ M, prep1 M (.scr (ns.map D.int)) = some (.scr (ns.map D.int), false) := fun M => prep1_plain (plain_ints ns)
  simp only [s_law_0, nw, hp, mSeq, mPar, mSet, mAsg, mWhile, mFor, mIf, mRet, mRetN, mNext, mPut, mDrop, dCons, dNil, dCB, dAbs, dInt, dLen, dVar, dC, slP, dOp, dUn, dNeg, dSub, dAdd, dMul, dMd, dFd, dI, dI0, dCmpI, dLt, dLe, dGt, dGe, dTest, dTestB, dTru, dTup, dLst, dIx, dCallP, dCallI, callIK, dAndV, dOrV, dNotV, dAnd, dOr, dNot, dIf, RH.put, List.length, List.map, List.getElem?_cons_zero, List.getElem?_cons_succ, List.cons_append, List.nil_append, List.append_nil, List.set, Nat.reduceSub, List.replicate, prepA, nw, p_int, p_bl, p_non, p_str, D.plain, plainA, Bool.and_true, Bool.true_and, if_true, Bool.or_false, Bool.false_or, resK, rdS, rdL, bindP, bindPs]
  exact ⟨trivial, ns, rfl, hn, fun dk0 hd0 => ⟨fun z => (by cases z), k dk0 hd0⟩⟩

theorem st1 {u : DS} {E : DEnds} {ex : SL → Addr → D → Str → MH → Prop} {z0 z2 z3 z4 z5 z6 z7 z8 z9 z10 z11 z12 z13 z14 z15 z16 z17 z18 z19 z20 : Option D} {dk0 : List D} (hd : Dk dk0) (k : ∀ (a b c d : Int) dk1, a.natAbs ≤ 10 ^ 30 → b.natAbs ≤ 10 ^ 30 → c.natAbs ≤ 10 ^ 30 → d.natAbs ≤ 10 ^ 30 → Dk dk1 → u E { sl := [z0, (some (.loc 0)), (some (.int a)), (some (.int b)), (some (.int c)), (some (.int d)), z6, z7, z8, z9, z10, z11, z12, z13, z14, z15, z16, z17, z18, z19, z20], ex := ex } [.lst dk1]) : mSeq s_law_1 u E { sl := [z0, (some (.loc 0)), z2, z3, z4, z5, z6, z7, z8, z9, z10, z11, z12, z13, z14, z15, z16, z17, z18, z19, z20], ex := ex } [.lst dk0] := by
  simp only [s_law_1, mSeq, mPar, mSet, mAsg, mWhile, mFor, mIf, mRet, mRetN, mNext, mPut, mDrop, dCons, dNil, dCB, dAbs, dInt, dLen, dVar, dC, slP, dOp, dUn, dNeg, dSub, dAdd, dMul, dMd, dFd, dI, dI0, dCmpI, dLt, dLe, dGt, dGe, dTest, dTestB, dTru, dTup, dLst, dIx, dCallP, dCallI, callIK, dAndV, dOrV, dNotV, dAnd, dOr, dNot, dIf, RH.put, List.length, List.map, List.getElem?_cons_zero, List.getElem?_cons_succ, List.cons_append, List.nil_append, List.append_nil, List.set, Nat.reduceSub, List.replicate, prepA, nw, p_int, p_bl, p_non, p_str, D.plain, plainA, Bool.and_true, Bool.true_and, if_true, Bool.or_false, Bool.false_or, resK, rdS, rdL, bindP, bindPs]
  refine ⟨⟨trivial, dk_plain hd, trivial⟩, rfl, hd, fun a d1 ha h1 => ⟨dk_plain h1, ⟨trivial, dk_plain h1, trivial⟩, rfl, h1, fun b d2 hb h2 => ⟨dk_plain h2, ⟨trivial, dk_plain h2, trivial⟩, rfl, h2, fun c d3 hc h3 => ⟨dk_plain h3, ⟨trivial, dk_plain h3, trivial⟩, rfl, h3, fun d d4 hd h4 => ⟨dk_plain h4, by decide, ?_⟩⟩⟩⟩⟩
  exact k a b c d d4 ha hb hc hd h4

theorem st2 {u : DS} {E : DEnds} {ex : SL → Addr → D → Str → MH → Prop} {z0 z6 z7 z8 z9 z10 z11 z12 z13 z14 z15 z16 z17 z18 z19 z20 : Option D} {dk0 : List D} {a b c d : Int} (hb : b.natAbs ≤ 10 ^ 30) (hd : d.natAbs ≤ 10 ^ 30) (k : ∀ b' d' : Int, b' ≠ 0 → d' ≠ 0 → b'.natAbs ≤ 10 ^ 30 → d'.natAbs ≤ 10 ^ 30 → u E { sl := [z0, (some (.loc 0)), (some (.int a)), (some (.int b')), (some (.int c)), (some (.int d')), z6, z7, z8, z9, z10, z11, z12, z13, z14, z15, z16, z17, z18, z19, z20], ex := ex } [.lst dk0]) : mSeq s_law_2 u E { sl := [z0, (some (.loc 0)), (some (.int a)), (some (.int b)), (some (.int c)), (some (.int d)), z6, z7, z8, z9, z10, z11, z12, z13, z14, z15, z16, z17, z18, z19, z20], ex := ex } [.lst dk0] := by
  have key : ∀ b : Int, b.natAbs ≤ 10 ^ 30 → (b + if (b == 0) = true then 1 else 0) ≠ 0 ∧ (b + if (b == 0) = true then 1 else 0).natAbs ≤ 10 ^ 30 := fun b hb => by
    have e : (10 : Nat) ^ 30 = 1000000000000000000000000000000 := by decide
    by_cases h : b = 0
    · subst h; decide
    · rw [if_neg (by simpa using h)]
      exact ⟨by omega, by omega⟩
  simp only [s_law_2, cp_i, mSeq, mPar, mSet, mAsg, mWhile, mFor, mIf, mRet, mRetN, mNext, mPut, mDrop, dCons, dNil, dCB, dAbs, dInt, dLen, dVar, dC, slP, dOp, dUn, dNeg, dSub, dAdd, dMul, dMd, dFd, dI, dI0, dCmpI, dLt, dLe, dGt, dGe, dTest, dTestB, dTru, dTup, dLst, dIx, dCallP, dCallI, callIK, dAndV, dOrV, dNotV, dAnd, dOr, dNot, dIf, RH.put, List.length, List.map, List.getElem?_cons_zero, List.getElem?_cons_succ, List.cons_append, List.nil_append, List.append_nil, List.set, Nat.reduceSub, List.replicate, prepA, nw, p_int, p_bl, p_non, p_str, D.plain, plainA, Bool.and_true, Bool.true_and, if_true, Bool.or_false, Bool.false_or, resK, rdS, rdL, bindP, bindPs]
  exact ⟨⟨trivial, trivial⟩, ⟨trivial, trivial⟩, k _ _ (key b hb).1 (key d hd).1 (key b hb).2 (key d hd).2⟩

theorem st3 {u : DS} {E : DEnds} {ex : SL → Addr → D → Str → MH → Prop} {z0 z6 z7 z8 z9 z10 z11 z12 z13 z14 z15 z16 z17 z18 z19 z20 : Option D} {dk0 : List D} {a b c d : Int} (hb : b ≠ 0) (hd : d ≠ 0) (sb : Sm 100 b) (sd : Sm 100 d) (k :  u E { sl := [z0, (some (.loc 0)), (some (.int a)), (some (.int b)), (some (.int c)), (some (.int d)), (some (rD (Rat.divInt a b))), (some (rD (Rat.divInt c d))), z8, z9, z10, z11, z12, z13, z14, z15, z16, z17, z18, z19, z20], ex := ex } [.lst dk0]) : mSeq s_law_3 u E { sl := [z0, (some (.loc 0)), (some (.int a)), (some (.int b)), (some (.int c)), (some (.int d)), z6, z7, z8, z9, z10, z11, z12, z13, z14, z15, z16, z17, z18, z19, z20], ex := ex } [.lst dk0] := by
  simp only [s_law_3, mSeq, mPar, mSet, mAsg, mWhile, mFor, mIf, mRet, mRetN, mNext, mPut, mDrop, dCons, dNil, dCB, dAbs, dInt, dLen, dVar, dC, slP, dOp, dUn, dNeg, dSub, dAdd, dMul, dMd, dFd, dI, dI0, dCmpI, dLt, dLe, dGt, dGe, dTest, dTestB, dTru, dTup, dLst, dIx, dCallP, dCallI, callIK, dAndV, dOrV, dNotV, dAnd, dOr, dNot, dIf, RH.put, List.length, List.map, List.getElem?_cons_zero, List.getElem?_cons_succ, List.cons_append, List.nil_append, List.append_nil, List.set, Nat.reduceSub, List.replicate, prepA, nw, p_int, p_bl, p_non, p_str, D.plain, plainA, Bool.and_true, Bool.true_and, if_true, Bool.or_false, Bool.false_or, resK, rdS, rdL, bindP, bindPs]
  exact ⟨trivial, a, b, rfl, hb, sm_mono sb (by decide), fun z => (by cases z), trivial, c, d, rfl, hd, sm_mono sd (by decide), fun z => (by cases z), k⟩

theorem sxy {a b : Int} {x : Rat} (e : Rat.divInt a b = x) (hb : b ≠ 0) (sa : Sm 100 a) (sb : Sm 100 b) : SmR 100 x := by
  rw [← e]; exact smR_divInt hb sa sb
theorem p_l3 {M : MH} {x y z : Rat} : prep1 M (.lst [rD x, rD y, rD z]) = some (.lst [rD x, rD y, rD z], false) := rfl
theorem p_R {M : MH} {x : Rat} : prep1 M (rD x) = some (rD x, false) := rfl
theorem g_l3 {x y z : Rat} (hx : SmR 1900 x) (hy : SmR 1900 y) (hz : SmR 1900 z) : Gd 60 8000 (.lst [rD x, rD y, rD z]) := (g_lst (gA_cons (g_rD hx) (gA_cons (g_rD hy) (gA_cons (b' := 0) (g_rD hz) gA_nil)))).mono (by decide) (by decide)
theorem p_lst {M : MH} {n b : Nat} {ds : List D} (h : Gd n b (.lst ds)) : prep1 M (.lst ds) = some (.lst ds, false) := prep1_plain (dat_plain h.dat)

theorem st4 {u : DS} {E : DEnds} {ex : SL → Addr → D → Str → MH → Prop} {z0 z8 z9 z10 z11 z12 z13 z14 z15 z16 z17 z18 z19 z20 : Option D} {dk0 : List D} {a b c d : Int} {x y : Rat} (ex0 : Rat.divInt a b = x) (ey0 : Rat.divInt c d = y) (hb : b ≠ 0) (hd : d ≠ 0) (sa : Sm 100 a) (sb : Sm 100 b) (sc : Sm 100 c) (sd : Sm 100 d) (k :  u E { sl := [z0, (some (.loc 0)), (some (.int a)), (some (.int b)), (some (.int c)), (some (.int d)), (some (rD x)), (some (rD y)), z8, z9, z10, z11, z12, z13, z14, z15, z16, z17, z18, z19, z20], ex := ex } [.lst dk0]) : mSeq s_law_4 u E { sl := [z0, (some (.loc 0)), (some (.int a)), (some (.int b)), (some (.int c)), (some (.int d)), (some (rD x)), (some (rD y)), z8, z9, z10, z11, z12, z13, z14, z15, z16, z17, z18, z19, z20], ex := ex } [.lst dk0] := by
  have sx := sxy ex0 hb sa sb
  have sy := sxy ey0 hd sc sd
  simp only [s_law_4, p_l3, mSeq, mPar, mSet, mAsg, mWhile, mFor, mIf, mRet, mRetN, mNext, mPut, mDrop, dCons, dNil, dCB, dAbs, dInt, dLen, dVar, dC, slP, dOp, dUn, dNeg, dSub, dAdd, dMul, dMd, dFd, dI, dI0, dCmpI, dLt, dLe, dGt, dGe, dTest, dTestB, dTru, dTup, dLst, dIx, dCallP, dCallI, callIK, dAndV, dOrV, dNotV, dAnd, dOr, dNot, dIf, RH.put, List.length, List.map, List.getElem?_cons_zero, List.getElem?_cons_succ, List.cons_append, List.nil_append, List.append_nil, List.set, Nat.reduceSub, List.replicate, prepA, nw, p_int, p_bl, p_non, p_str, D.plain, plainA, Bool.and_true, Bool.true_and, if_true, Bool.or_false, Bool.false_or, resK, rdS, rdL, bindP, bindPs]
  refine ⟨trivial, a, b, rfl, hb, sm_mono sb (by decide), fun z => (by cases z), trivial, c, d, rfl, hd, sm_mono sd (by decide), fun z => (by cases z), mulOk sa sd (by decide), mulOk sb sd (by decide), trivial, _, _, rfl, Int.mul_ne_zero hb hd, sm_mono (sm_mul sb sd (Nat.le_refl _)) (by decide), fun z => (by cases z), ?_⟩
  have e : Rat.divInt (a * d) (b * d) = x := by
    rw [← ex0]
    exact (Rat.divInt_eq_divInt_iff (Int.mul_ne_zero hb hd) hb).mpr (by simp only [Int.mul_assoc, Int.mul_comm, Int.mul_left_comm])
  rw [ex0, ey0, e]
  simp only [p_l3, mSeq, mPar, mSet, mAsg, mWhile, mFor, mIf, mRet, mRetN, mNext, mPut, mDrop, dCons, dNil, dCB, dAbs, dInt, dLen, dVar, dC, slP, dOp, dUn, dNeg, dSub, dAdd, dMul, dMd, dFd, dI, dI0, dCmpI, dLt, dLe, dGt, dGe, dTest, dTestB, dTru, dTup, dLst, dIx, dCallP, dCallI, callIK, dAndV, dOrV, dNotV, dAnd, dOr, dNot, dIf, RH.put, List.length, List.map, List.getElem?_cons_zero, List.getElem?_cons_succ, List.cons_append, List.nil_append, List.append_nil, List.set, Nat.reduceSub, List.replicate, prepA, nw, p_int, p_bl, p_non, p_str, D.plain, plainA, Bool.and_true, Bool.true_and, if_true, Bool.or_false, Bool.false_or, resK, rdS, rdL, bindP, bindPs]
  have g := g_l3 (smR_mono sx (show 100 ≤ 1900 by decide)) (smR_mono sy (show 100 ≤ 1900 by decide)) (smR_mono sx (show 100 ≤ 1900 by decide))
  refine ⟨by decide, by decide, trivial, _, _, rfl, g, g, .inl ⟨rfl, fun z => (by cases z), ?_⟩⟩
  simp only [Bool.not_true, Bool.false_eq_true, if_false, mSeq, mPar, mSet, mAsg, mWhile, mFor, mIf, mRet, mRetN, mNext, mPut, mDrop, dCons, dNil, dCB, dAbs, dInt, dLen, dVar, dC, slP, dOp, dUn, dNeg, dSub, dAdd, dMul, dMd, dFd, dI, dI0, dCmpI, dLt, dLe, dGt, dGe, dTest, dTestB, dTru, dTup, dLst, dIx, dCallP, dCallI, callIK, dAndV, dOrV, dNotV, dAnd, dOr, dNot, dIf, RH.put, List.length, List.map, List.getElem?_cons_zero, List.getElem?_cons_succ, List.cons_append, List.nil_append, List.append_nil, List.set, Nat.reduceSub, List.replicate, prepA, nw, p_int, p_bl, p_non, p_str, D.plain, plainA, Bool.and_true, Bool.true_and, if_true, Bool.or_false, Bool.false_or, resK, rdS, rdL, bindP, bindPs]
  exact k

theorem st5 {u : DS} {E : DEnds} {ex : SL → Addr → D → Str → MH → Prop} {z0 z8 z9 z10 z11 z12 z13 z14 z15 z16 z17 z18 z19 z20 : Option D} {dk0 : List D} {a b c d : Int} {x y : Rat} (ex0 : Rat.divInt a b = x) (ey0 : Rat.divInt c d = y) (hb : b ≠ 0) (hd : d ≠ 0) (sa : Sm 100 a) (sb : Sm 100 b) (sc : Sm 100 c) (sd : Sm 100 d) (k :  u E { sl := [z0, (some (.loc 0)), (some (.int a)), (some (.int b)), (some (.int c)), (some (.int d)), (some (rD x)), (some (rD y)), (some (.lst [rD (x + y), rD (x - y), rD (x * y)])), z9, z10, z11, z12, z13, z14, z15, z16, z17, z18, z19, z20], ex := ex } [.lst dk0]) : mSeq s_law_5 u E { sl := [z0, (some (.loc 0)), (some (.int a)), (some (.int b)), (some (.int c)), (some (.int d)), (some (rD x)), (some (rD y)), z8, z9, z10, z11, z12, z13, z14, z15, z16, z17, z18, z19, z20], ex := ex } [.lst dk0] := by
  have e1 : Rat.divInt (a * d + c * b) (b * d) = x + y := by rw [← ex0, ← ey0, Rat.divInt_add_divInt _ _ hb hd]
  have e2 : Rat.divInt (a * d - c * b) (b * d) = x - y := by rw [← ex0, ← ey0, Rat.sub_eq_add_neg, Rat.neg_divInt, Rat.divInt_add_divInt _ _ hb hd, Int.neg_mul, ← Int.sub_eq_add_neg]
  have e3 : Rat.divInt (a * c) (b * d) = x * y := by rw [← ex0, ← ey0, Rat.divInt_mul_divInt]
  have h0 := Int.mul_ne_zero hb hd
  have hs : Sm 4000 (b * d) := sm_mono (sm_mul sb sd (Nat.le_refl _)) (by decide)
  simp only [s_law_5, nw, mSeq, mPar, mSet, mAsg, mWhile, mFor, mIf, mRet, mRetN, mNext, mPut, mDrop, dCons, dNil, dCB, dAbs, dInt, dLen, dVar, dC, slP, dOp, dUn, dNeg, dSub, dAdd, dMul, dMd, dFd, dI, dI0, dCmpI, dLt, dLe, dGt, dGe, dTest, dTestB, dTru, dTup, dLst, dIx, dCallP, dCallI, callIK, dAndV, dOrV, dNotV, dAnd, dOr, dNot, dIf, RH.put, List.length, List.map, List.getElem?_cons_zero, List.getElem?_cons_succ, List.cons_append, List.nil_append, List.append_nil, List.set, Nat.reduceSub, List.replicate, prepA, nw, p_int, p_bl, p_non, p_str, D.plain, plainA, Bool.and_true, Bool.true_and, if_true, Bool.or_false, Bool.false_or, resK, rdS, rdL, bindP, bindPs]
  refine ⟨mulOk sa sd (by decide), mulOk sc sb (by decide), mulOk sb sd (by decide), trivial, _, _, rfl, h0, hs, fun z => (by cases z), mulOk sa sd (by decide), mulOk sc sb (by decide), mulOk sb sd (by decide), trivial, _, _, rfl, h0, hs, fun z => (by cases z), mulOk sa sc (by decide), mulOk sb sd (by decide), trivial, _, _, rfl, h0, hs, fun z => (by cases z), by decide, ?_⟩
  rw [e1, e2, e3]
  exact k

theorem smR_add {x y : Rat} (hx : SmR 100 x) (hy : SmR 100 y) : SmR 1900 (x + y) := by
  have e : x + y = Rat.divInt (x.num * y.den + y.num * x.den) (x.den * y.den) := by
    rw [← Rat.divInt_add_divInt _ _ (den0 x) (den0 y), Rat.num_divInt_den, Rat.num_divInt_den]
  rw [e]
  refine smR_mono (smR_divInt (k := 300) (Int.mul_ne_zero (den0 x) (den0 y)) ?_ (sm_mul (smR_den hx) (smR_den hy) (by decide))) (by decide)
  exact sm_add (n := 200) (sm_mul hx.1 (smR_den hy) (by decide)) (sm_mul hy.1 (smR_den hx) (by decide)) (by decide)
theorem smR_sub {x y : Rat} (hx : SmR 100 x) (hy : SmR 100 y) : SmR 1900 (x - y) := by
  rw [Rat.sub_eq_add_neg]; exact smR_add hx (smR_neg hy)
theorem smR_mul {x y : Rat} (hx : SmR 100 x) (hy : SmR 100 y) : SmR 1900 (x * y) := by
  have e : x * y = Rat.divInt (x.num * y.num) (x.den * y.den) := by
    rw [← Rat.divInt_mul_divInt, Rat.num_divInt_den, Rat.num_divInt_den]
  rw [e]
  exact smR_mono (smR_divInt (k := 300) (Int.mul_ne_zero (den0 x) (den0 y)) (sm_mul hx.1 hy.1 (by decide)) (sm_mul (smR_den hx) (smR_den hy) (by decide))) (by decide)

theorem st6 {u : DS} {E : DEnds} {ex : SL → Addr → D → Str → MH → Prop} {z0 z9 z10 z11 z12 z13 z14 z15 z16 z17 z18 z19 z20 : Option D} {dk0 : List D} {a b c d : Int} {x y : Rat} (sx : SmR 100 x) (sy : SmR 100 y) (k :  u E { sl := [z0, (some (.loc 0)), (some (.int a)), (some (.int b)), (some (.int c)), (some (.int d)), (some (rD x)), (some (rD y)), (some (.lst [rD (x + y), rD (x - y), rD (x * y)])), z9, z10, z11, z12, z13, z14, z15, z16, z17, z18, z19, z20], ex := ex } [.lst dk0]) : mSeq s_law_6 u E { sl := [z0, (some (.loc 0)), (some (.int a)), (some (.int b)), (some (.int c)), (some (.int d)), (some (rD x)), (some (rD y)), (some (.lst [rD (x + y), rD (x - y), rD (x * y)])), z9, z10, z11, z12, z13, z14, z15, z16, z17, z18, z19, z20], ex := ex } [.lst dk0] := by
  have mx := smR_mono sx (show 100 ≤ 1000 by decide)
  have my := smR_mono sy (show 100 ≤ 1000 by decide)
  simp only [s_law_6, p_R, mSeq, mPar, mSet, mAsg, mWhile, mFor, mIf, mRet, mRetN, mNext, mPut, mDrop, dCons, dNil, dCB, dAbs, dInt, dLen, dVar, dC, slP, dOp, dUn, dNeg, dSub, dAdd, dMul, dMd, dFd, dI, dI0, dCmpI, dLt, dLe, dGt, dGe, dTest, dTestB, dTru, dTup, dLst, dIx, dCallP, dCallI, callIK, dAndV, dOrV, dNotV, dAnd, dOr, dNot, dIf, RH.put, List.length, List.map, List.getElem?_cons_zero, List.getElem?_cons_succ, List.cons_append, List.nil_append, List.append_nil, List.set, Nat.reduceSub, List.replicate, prepA, nw, p_int, p_bl, p_non, p_str, D.plain, plainA, Bool.and_true, Bool.true_and, if_true, Bool.or_false, Bool.false_or, resK, rdS, rdL, bindP, bindPs]
  refine ⟨trivial, x, y, rfl, mx, my, fun z => (by cases z), trivial, x, y, rfl, mx, my, fun z => (by cases z), trivial, x, y, rfl, mx, my, fun z => (by cases z), ?_⟩
  simp only [p_l3, mSeq, mPar, mSet, mAsg, mWhile, mFor, mIf, mRet, mRetN, mNext, mPut, mDrop, dCons, dNil, dCB, dAbs, dInt, dLen, dVar, dC, slP, dOp, dUn, dNeg, dSub, dAdd, dMul, dMd, dFd, dI, dI0, dCmpI, dLt, dLe, dGt, dGe, dTest, dTestB, dTru, dTup, dLst, dIx, dCallP, dCallI, callIK, dAndV, dOrV, dNotV, dAnd, dOr, dNot, dIf, RH.put, List.length, List.map, List.getElem?_cons_zero, List.getElem?_cons_succ, List.cons_append, List.nil_append, List.append_nil, List.set, Nat.reduceSub, List.replicate, prepA, nw, p_int, p_bl, p_non, p_str, D.plain, plainA, Bool.and_true, Bool.true_and, if_true, Bool.or_false, Bool.false_or, resK, rdS, rdL, bindP, bindPs]
  have g := g_l3 (smR_add sx sy) (smR_sub sx sy) (smR_mul sx sy)
  refine ⟨by decide, trivial, _, _, rfl, g, g, .inl ⟨rfl, fun z => (by cases z), ?_⟩⟩
  simp only [Bool.not_true, Bool.false_eq_true, if_false, mSeq, mPar, mSet, mAsg, mWhile, mFor, mIf, mRet, mRetN, mNext, mPut, mDrop, dCons, dNil, dCB, dAbs, dInt, dLen, dVar, dC, slP, dOp, dUn, dNeg, dSub, dAdd, dMul, dMd, dFd, dI, dI0, dCmpI, dLt, dLe, dGt, dGe, dTest, dTestB, dTru, dTup, dLst, dIx, dCallP, dCallI, callIK, dAndV, dOrV, dNotV, dAnd, dOr, dNot, dIf, RH.put, List.length, List.map, List.getElem?_cons_zero, List.getElem?_cons_succ, List.cons_append, List.nil_append, List.append_nil, List.set, Nat.reduceSub, List.replicate, prepA, nw, p_int, p_bl, p_non, p_str, D.plain, plainA, Bool.and_true, Bool.true_and, if_true, Bool.or_false, Bool.false_or, resK, rdS, rdL, bindP, bindPs]
  exact k

theorem st7 {u : DS} {E : DEnds} {ex : SL → Addr → D → Str → MH → Prop} {z0 z1 z2 z3 z4 z5 z6 z7 z8 z9 z10 z11 z12 z13 z14 z15 z16 z17 z18 z19 z20 : Option D} {dk0 : List D} (k :  u E { sl := [z0, z1, z2, z3, z4, z5, z6, z7, (some (.tup [.str "nothing", .non])), z9, z10, z11, z12, z13, z14, z15, z16, z17, z18, z19, z20], ex := ex } [.lst dk0]) : mSeq s_law_7 u E { sl := [z0, z1, z2, z3, z4, z5, z6, z7, z8, z9, z10, z11, z12, z13, z14, z15, z16, z17, z18, z19, z20], ex := ex } [.lst dk0] := by
  simp only [s_law_7, mSeq, mPar, mSet, mAsg, mWhile, mFor, mIf, mRet, mRetN, mNext, mPut, mDrop, dCons, dNil, dCB, dAbs, dInt, dLen, dVar, dC, slP, dOp, dUn, dNeg, dSub, dAdd, dMul, dMd, dFd, dI, dI0, dCmpI, dLt, dLe, dGt, dGe, dTest, dTestB, dTru, dTup, dLst, dIx, dCallP, dCallI, callIK, dAndV, dOrV, dNotV, dAnd, dOr, dNot, dIf, RH.put, List.length, List.map, List.getElem?_cons_zero, List.getElem?_cons_succ, List.cons_append, List.nil_append, List.append_nil, List.set, Nat.reduceSub, List.replicate, prepA, nw, p_int, p_bl, p_non, p_str, D.plain, plainA, Bool.and_true, Bool.true_and, if_true, Bool.or_false, Bool.false_or, resK, rdS, rdL, bindP, bindPs]
  exact ⟨by decide, k⟩

theorem st8 {u : DS} {E : DEnds} {ex : SL → Addr → D → Str → MH → Prop} {z0 z9 z10 z11 z12 z13 z14 z15 z16 z17 z18 z19 z20 : Option D} {dk0 : List D} {a b c d : Int} {x y : Rat} (ex0 : Rat.divInt a b = x) (ey0 : Rat.divInt c d = y) (hb : b ≠ 0) (hd : d ≠ 0) (sa : Sm 100 a) (sb : Sm 100 b) (sc : Sm 100 c) (sd : Sm 100 d) (k :  u E { sl := [z0, (some (.loc 0)), (some (.int a)), (some (.int b)), (some (.int c)), (some (.int d)), (some (rD x)), (some (rD y)), (some (if y = 0 then .tup [.str "nothing", .non] else rD (x / y))), z9, z10, z11, z12, z13, z14, z15, z16, z17, z18, z19, z20], ex := ex } [.lst dk0]) : mSeq s_law_8 u E { sl := [z0, (some (.loc 0)), (some (.int a)), (some (.int b)), (some (.int c)), (some (.int d)), (some (rD x)), (some (rD y)), (some (.tup [.str "nothing", .non])), z9, z10, z11, z12, z13, z14, z15, z16, z17, z18, z19, z20], ex := ex } [.lst dk0] := by
  have yc : y = 0 ↔ c = 0 := by
    rw [← ey0]
    constructor
    · intro h
      rw [show (0 : Rat) = Rat.divInt 0 1 from rfl, Rat.divInt_eq_divInt_iff hd (by decide)] at h
      omega
    · intro h
      rw [h, show (0 : Rat) = Rat.divInt 0 1 from rfl, Rat.divInt_eq_divInt_iff hd (by decide)]
      omega
  simp only [s_law_8, dNe, pyM, D.dat, py, shap_int, eqv_int, mSeq, mPar, mSet, mAsg, mWhile, mFor, mIf, mRet, mRetN, mNext, mPut, mDrop, dCons, dNil, dCB, dAbs, dInt, dLen, dVar, dC, slP, dOp, dUn, dNeg, dSub, dAdd, dMul, dMd, dFd, dI, dI0, dCmpI, dLt, dLe, dGt, dGe, dTest, dTestB, dTru, dTup, dLst, dIx, dCallP, dCallI, callIK, dAndV, dOrV, dNotV, dAnd, dOr, dNot, dIf, RH.put, List.length, List.map, List.getElem?_cons_zero, List.getElem?_cons_succ, List.cons_append, List.nil_append, List.append_nil, List.set, Nat.reduceSub, List.replicate, prepA, nw, p_int, p_bl, p_non, p_str, D.plain, plainA, Bool.and_true, Bool.true_and, if_true, Bool.or_false, Bool.false_or, resK, rdS, rdL, bindP, bindPs]
  refine ⟨⟨trivial, trivial⟩, ?_⟩
  by_cases h : c = 0
  · rw [if_neg (by simp [h])]
    rw [if_pos (yc.mpr h)] at k
    exact k
  · rw [if_pos (by simpa using h)]
    rw [if_neg (fun z => h (yc.mp z))] at k
    refine ⟨mulOk sa sd (by decide), mulOk sb sc (by decide), trivial, _, _, rfl, Int.mul_ne_zero hb h, sm_mono (sm_mul sb sc (Nat.le_refl _)) (by decide), fun z => (by cases z), ?_⟩
    have e : Rat.divInt (a * d) (b * c) = x / y := by rw [← ex0, ← ey0, Rat.div_def, Rat.inv_divInt, Rat.divInt_mul_divInt]
    rw [e]
    exact k

theorem ix0 (x : Rat) (M : MH) (R : DK) : dIx (rD x) (.int 0) M R = R (.int x.num) M := by
  simp only [rD, dIx, rdS, at0]
theorem ix1 (x : Rat) (M : MH) (R : DK) : dIx (rD x) (.int 1) M R = R (.int x.den) M := by
  simp only [rD, dIx, rdS, at1]
theorem ml0 {i j : Int} {M : MH} {R : DK} : dMul true (.int i) (.int j) M R = (IntMulOk i j ∧ R (.int (i * j)) M) := rfl
theorem g_over {x y : Rat} (sx : SmR 100 x) (sy : SmR 100 y) : Gd 60 8000 (if y = 0 then .tup [.str "nothing", .non] else rD (x / y)) := by
  split
  · exact (g_tup (n := 0) (b := 20) ⟨rfl, by decide +kernel, by decide, rfl, by decide +kernel⟩).mono (by decide) (by decide)
  · rename_i h
    have e := div_eq x y h
    rw [← e]
    have h0 : y.num ≠ 0 := fun z => h (Rat.num_eq_zero.mp z)
    exact (g_rD (smR_mono (smR_divInt (k := 300) (Int.mul_ne_zero (den0 x) h0) (sm_mul sx.1 (smR_den sy) (by decide)) (sm_mul (smR_den sx) sy.1 (by decide))) (by decide))).mono (by decide) (by decide)
theorem g_i2 {i j : Int} (hi : Sm 1900 i) (hj : Sm 1900 j) : Gd 60 8000 (.lst [.int i, .int j]) := (g_lst (n := 0) (gA_cons (b := 0) (g_int hi) (gA_cons (b := 0) (b' := 0) (g_int hj) gA_nil))).mono (by decide) (by decide)
theorem g_b3 {i j l : Bool} : Gd 60 8000 (.lst [.bl i, .bl j, .bl l]) := (g_lst (n := 0) (gA_cons (b := 0) g_bl (gA_cons (b := 0) g_bl (gA_cons (b := 0) (b' := 0) g_bl gA_nil)))).mono (by decide) (by decide)
theorem sm_sign (i : Int) : Sm 1900 i.sign := by
  refine sm_mono (n := 10) ?_ (by decide)
  unfold Sm
  have : i.sign.natAbs ≤ 1 := by
    rcases Int.lt_trichotomy i 0 with h | h | h
    · rw [Int.sign_eq_neg_one_of_neg h]; decide
    · subst h; decide
    · rw [Int.sign_eq_one_of_pos h]; decide
  omega

theorem st9 {u : DS} {E : DEnds} {ex : SL → Addr → D → Str → MH → Prop} {z0 z9 z10 z11 z12 z13 z14 z15 z16 z17 z18 z19 z20 : Option D} {dk0 : List D} {a b c d : Int} {x y : Rat} (sx : SmR 100 x) (sy : SmR 100 y) (k :  u E { sl := [z0, (some (.loc 0)), (some (.int a)), (some (.int b)), (some (.int c)), (some (.int d)), (some (rD x)), (some (rD y)), (some (if y = 0 then .tup [.str "nothing", .non] else rD (x / y))), z9, z10, z11, z12, z13, z14, z15, z16, z17, z18, z19, z20], ex := ex } [.lst dk0]) : mSeq s_law_9 u E { sl := [z0, (some (.loc 0)), (some (.int a)), (some (.int b)), (some (.int c)), (some (.int d)), (some (rD x)), (some (rD y)), (some (if y = 0 then .tup [.str "nothing", .non] else rD (x / y))), z9, z10, z11, z12, z13, z14, z15, z16, z17, z18, z19, z20], ex := ex } [.lst dk0] := by
  have mx := smR_mono sx (show 100 ≤ 1000 by decide)
  have my := smR_mono sy (show 100 ≤ 1000 by decide)
  have g := g_over sx sy
  have gp : ∀ M, prep1 M (if y = 0 then D.tup [.str "nothing", .non] else rD (x / y)) = some (if y = 0 then D.tup [.str "nothing", .non] else rD (x / y), false) := fun M => prep1_plain (dat_plain g.dat)
  simp only [s_law_9, p_R, mSeq, mPar, mSet, mAsg, mWhile, mFor, mIf, mRet, mRetN, mNext, mPut, mDrop, dCons, dNil, dCB, dAbs, dInt, dLen, dVar, dC, slP, dOp, dUn, dNeg, dSub, dAdd, dMul, dMd, dFd, dI, dI0, dCmpI, dLt, dLe, dGt, dGe, dTest, dTestB, dTru, dTup, dLst, dIx, dCallP, dCallI, callIK, dAndV, dOrV, dNotV, dAnd, dOr, dNot, dIf, RH.put, List.length, List.map, List.getElem?_cons_zero, List.getElem?_cons_succ, List.cons_append, List.nil_append, List.append_nil, List.set, Nat.reduceSub, List.replicate, prepA, nw, p_int, p_bl, p_non, p_str, D.plain, plainA, Bool.and_true, Bool.true_and, if_true, Bool.or_false, Bool.false_or, resK, rdS, rdL, bindP, bindPs]
  refine ⟨trivial, x, y, rfl, mx, my, fun z => (by cases z), ?_⟩
  rw [gp]
  simp only [mSeq, mPar, mSet, mAsg, mWhile, mFor, mIf, mRet, mRetN, mNext, mPut, mDrop, dCons, dNil, dCB, dAbs, dInt, dLen, dVar, dC, slP, dOp, dUn, dNeg, dSub, dAdd, dMul, dMd, dFd, dI, dI0, dCmpI, dLt, dLe, dGt, dGe, dTest, dTestB, dTru, dTup, dLst, dIx, dCallP, dCallI, callIK, dAndV, dOrV, dNotV, dAnd, dOr, dNot, dIf, RH.put, List.length, List.map, List.getElem?_cons_zero, List.getElem?_cons_succ, List.cons_append, List.nil_append, List.append_nil, List.set, Nat.reduceSub, List.replicate, prepA, nw, p_int, p_bl, p_non, p_str, D.plain, plainA, Bool.and_true, Bool.true_and, if_true, Bool.or_false, Bool.false_or, resK, rdS, rdL, bindP, bindPs]
  refine ⟨trivial, _, _, rfl, g, g, .inl ⟨rfl, fun z => (by cases z), ?_⟩⟩
  simp only [Bool.not_true, Bool.false_eq_true, if_false, mSeq, mPar, mSet, mAsg, mWhile, mFor, mIf, mRet, mRetN, mNext, mPut, mDrop, dCons, dNil, dCB, dAbs, dInt, dLen, dVar, dC, slP, dOp, dUn, dNeg, dSub, dAdd, dMul, dMd, dFd, dI, dI0, dCmpI, dLt, dLe, dGt, dGe, dTest, dTestB, dTru, dTup, dLst, dIx, dCallP, dCallI, callIK, dAndV, dOrV, dNotV, dAnd, dOr, dNot, dIf, RH.put, List.length, List.map, List.getElem?_cons_zero, List.getElem?_cons_succ, List.cons_append, List.nil_append, List.append_nil, List.set, Nat.reduceSub, List.replicate, prepA, nw, p_int, p_bl, p_non, p_str, D.plain, plainA, Bool.and_true, Bool.true_and, if_true, Bool.or_false, Bool.false_or, resK, rdS, rdL, bindP, bindPs]
  have g2 := g_i2 (sm_sign x.num) (sm_sign y.num)
  refine ⟨trivial, x, rfl, fun z => (by cases z), trivial, y, rfl, fun z => (by cases z), by decide, trivial, x, rfl, fun z => (by cases z), trivial, y, rfl, fun z => (by cases z), by decide, ?_⟩
  simp only [p_lst g2, mSeq, mPar, mSet, mAsg, mWhile, mFor, mIf, mRet, mRetN, mNext, mPut, mDrop, dCons, dNil, dCB, dAbs, dInt, dLen, dVar, dC, slP, dOp, dUn, dNeg, dSub, dAdd, dMul, dMd, dFd, dI, dI0, dCmpI, dLt, dLe, dGt, dGe, dTest, dTestB, dTru, dTup, dLst, dIx, dCallP, dCallI, callIK, dAndV, dOrV, dNotV, dAnd, dOr, dNot, dIf, RH.put, List.length, List.map, List.getElem?_cons_zero, List.getElem?_cons_succ, List.cons_append, List.nil_append, List.append_nil, List.set, Nat.reduceSub, List.replicate, prepA, nw, p_int, p_bl, p_non, p_str, D.plain, plainA, Bool.and_true, Bool.true_and, if_true, Bool.or_false, Bool.false_or, resK, rdS, rdL, bindP, bindPs]
  refine ⟨trivial, _, _, rfl, g2, g2, .inl ⟨rfl, fun z => (by cases z), ?_⟩⟩
  simp only [Bool.not_true, Bool.false_eq_true, if_false, mSeq, mPar, mSet, mAsg, mWhile, mFor, mIf, mRet, mRetN, mNext, mPut, mDrop, dCons, dNil, dCB, dAbs, dInt, dLen, dVar, dC, slP, dOp, dUn, dNeg, dSub, dAdd, dMul, dMd, dFd, dI, dI0, dCmpI, dLt, dLe, dGt, dGe, dTest, dTestB, dTru, dTup, dLst, dIx, dCallP, dCallI, callIK, dAndV, dOrV, dNotV, dAnd, dOr, dNot, dIf, RH.put, List.length, List.map, List.getElem?_cons_zero, List.getElem?_cons_succ, List.cons_append, List.nil_append, List.append_nil, List.set, Nat.reduceSub, List.replicate, prepA, nw, p_int, p_bl, p_non, p_str, D.plain, plainA, Bool.and_true, Bool.true_and, if_true, Bool.or_false, Bool.false_or, resK, rdS, rdL, bindP, bindPs]
  exact k

theorem st10 {u : DS} {E : DEnds} {ex : SL → Addr → D → Str → MH → Prop} {z0 z8 z9 z10 z11 z12 z13 z14 z15 z16 z17 z18 z19 z20 : Option D} {dk0 : List D} {a b c d : Int} {x y : Rat} (sx : SmR 100 x) (sy : SmR 100 y) (k :  u E { sl := [z0, (some (.loc 0)), (some (.int a)), (some (.int b)), (some (.int c)), (some (.int d)), (some (rD x)), (some (rD y)), z8, z9, z10, z11, z12, z13, z14, z15, z16, z17, z18, z19, z20], ex := ex } [.lst dk0]) : mSeq s_law_10 u E { sl := [z0, (some (.loc 0)), (some (.int a)), (some (.int b)), (some (.int c)), (some (.int d)), (some (rD x)), (some (rD y)), z8, z9, z10, z11, z12, z13, z14, z15, z16, z17, z18, z19, z20], ex := ex } [.lst dk0] := by
  have mx := smR_mono sx (show 100 ≤ 1000 by decide)
  have my := smR_mono sy (show 100 ≤ 1000 by decide)
  simp only [s_law_10, p_R, ix0, ix1, mSeq, mPar, mSet, mAsg, mWhile, mFor, mIf, mRet, mRetN, mNext, mPut, mDrop, dCons, dNil, dCB, dAbs, dInt, dLen, dVar, dC, slP, dOp, dUn, dNeg, dSub, dAdd, ml0, dMd, dFd, dI, dI0, dCmpI, dLt, dLe, dGt, dGe, dTest, dTestB, dTru, dTup, dLst, dCallP, dCallI, callIK, dAndV, dOrV, dNotV, dAnd, dOr, dNot, dIf, RH.put, List.length, List.map, List.getElem?_cons_zero, List.getElem?_cons_succ, List.cons_append, List.nil_append, List.append_nil, List.set, Nat.reduceSub, List.replicate, prepA, nw, p_int, p_bl, p_non, p_str, D.plain, plainA, Bool.and_true, Bool.true_and, if_true, Bool.or_false, Bool.false_or, resK, rdS, rdL, bindP, bindPs]
  refine ⟨trivial, x, y, rfl, mx, my, fun z => (by cases z), trivial, y, x, rfl, my, mx, fun z => (by cases z), trivial, x, x, rfl, mx, mx, fun z => (by cases z), ?_⟩
  have e : decide (x.num * x.den < x.num * x.den) = false := decide_eq_false (Int.lt_irrefl _)
  have g : Gd 60 8000 (.lst [.bl (decide (x.num * ↑y.den < y.num * ↑x.den)), .bl (decide (y.num * ↑x.den < x.num * ↑y.den)), .bl false]) := g_b3
  rw [e]
  refine ⟨by decide, mulOk sx.1 (smR_den sy) (by decide), mulOk sy.1 (smR_den sx) (by decide), mulOk sy.1 (smR_den sx) (by decide), mulOk sx.1 (smR_den sy) (by decide), by decide, ?_⟩
  simp only [p_lst g, mSeq, mPar, mSet, mAsg, mWhile, mFor, mIf, mRet, mRetN, mNext, mPut, mDrop, dCons, dNil, dCB, dAbs, dInt, dLen, dVar, dC, slP, dOp, dUn, dNeg, dSub, dAdd, ml0, dMd, dFd, dI, dI0, dCmpI, dLt, dLe, dGt, dGe, dTest, dTestB, dTru, dTup, dLst, dCallP, dCallI, callIK, dAndV, dOrV, dNotV, dAnd, dOr, dNot, dIf, RH.put, List.length, List.map, List.getElem?_cons_zero, List.getElem?_cons_succ, List.cons_append, List.nil_append, List.append_nil, List.set, Nat.reduceSub, List.replicate, prepA, nw, p_int, p_bl, p_non, p_str, D.plain, plainA, Bool.and_true, Bool.true_and, if_true, Bool.or_false, Bool.false_or, resK, rdS, rdL, bindP, bindPs]
  refine ⟨trivial, _, _, rfl, g, g, .inl ⟨rfl, fun z => (by cases z), ?_⟩⟩
  simp only [Bool.not_true, Bool.false_eq_true, if_false, mSeq, mPar, mSet, mAsg, mWhile, mFor, mIf, mRet, mRetN, mNext, mPut, mDrop, dCons, dNil, dCB, dAbs, dInt, dLen, dVar, dC, slP, dOp, dUn, dNeg, dSub, dAdd, ml0, dMd, dFd, dI, dI0, dCmpI, dLt, dLe, dGt, dGe, dTest, dTestB, dTru, dTup, dLst, dCallP, dCallI, callIK, dAndV, dOrV, dNotV, dAnd, dOr, dNot, dIf, RH.put, List.length, List.map, List.getElem?_cons_zero, List.getElem?_cons_succ, List.cons_append, List.nil_append, List.append_nil, List.set, Nat.reduceSub, List.replicate, prepA, nw, p_int, p_bl, p_non, p_str, D.plain, plainA, Bool.and_true, Bool.true_and, if_true, Bool.or_false, Bool.false_or, resK, rdS, rdL, bindP, bindPs]
  exact k

/-- rows that may come -/
def Rw (qs : List Rat) : Prop := qs.length ≤ 30 ∧ (∀ q ∈ qs, SmR 100 q) ∧ ∃ q ∈ qs, q ≠ 0
theorem draw_go {dk0 : List D} {b : Int} {R : D → List D → Prop} (hb : 0 < b) (sb : Sm 8000 b) (hd : Dk dk0) (h : ∀ v dk1, 0 ≤ v → v < b → Dk dk1 → R (.int v) dk1) : pf__law_draw dk0 [.int b] R := ⟨b, rfl, hb, sb, hd, h⟩
theorem sm_s {i : Int} {k : Nat} (h : i.natAbs < 1000000) (hk : 20 ≤ k) : Sm k i := by
  have e : (2 : Nat) ^ 20 = 1048576 := by decide
  have h2 : Sm 20 i := by unfold Sm; omega
  exact sm_mono h2 hk
theorem ml1 {ds : List D} {j : Int} {M : MH} {R : DK} : dMul true (.lst ds) (.int j) M R = ((0 ≤ j ∧ j < 2 ^ 62 ∧ ds.length * j.toNat ≤ sizeLine) ∧ R (.lst (List.replicate j.toNat ds).flatten) M) := rfl
def pD (q : Int × Int) : D := .tup [.int q.1, .int q.2]
def Ps (ps : List D) : Prop := ∃ qs : List (Int × Int), ps = qs.map pD ∧ qs.length ≤ 5 ∧ (∀ q ∈ qs, q.2 ≠ 0 ∧ Sm 100 q.1 ∧ Sm 100 q.2) ∧ ∃ q ∈ qs, q.1 ≠ 0
theorem ps_ok {x y : Rat} {t1 t2 v n : Int} (sx : SmR 100 x) (sy : SmR 100 y) (h1 : 0 < t1 ∧ t1 < 10) (h2 : 0 < t2 ∧ t2 < 10) (hv : 0 ≤ v) (hv2 : v < 2) (hn : 0 ≤ n) (hn2 : n < 3) :
    Ps (cutD [rD x, rD y, .tup [.int t1, .int t2]] (some v) none ++ (List.replicate n.toNat [D.tup [.int 0, .int 1]]).flatten) := by
  have ht : t2 ≠ 0 ∧ Sm 100 t1 ∧ Sm 100 t2 := ⟨by omega, sm_s (by omega) (by decide), sm_s (by omega) (by decide)⟩
  have h01 : (1 : Int) ≠ 0 ∧ Sm 100 0 ∧ Sm 100 1 := ⟨by decide, by decide, by decide⟩
  have hx : (x.den : Int) ≠ 0 ∧ Sm 100 x.num ∧ Sm 100 (x.den : Int) := ⟨den0 x, sx.1, smR_den sx⟩
  have hy : (y.den : Int) ≠ 0 ∧ Sm 100 y.num ∧ Sm 100 (y.den : Int) := ⟨den0 y, sy.1, smR_den sy⟩
  have hv3 : v = 0 ∨ v = 1 := by omega
  have hn3 : n = 0 ∨ n = 1 ∨ n = 2 := by omega
  have t0 : t1 ≠ 0 := by omega
  rcases hv3 with rfl | rfl
  · rcases hn3 with rfl | rfl | rfl
    · exact ⟨[(x.num, x.den), (y.num, y.den), (t1, t2)], rfl, by simp, by simp [ht, hx, hy, x.den_nz, y.den_nz], (t1, t2), by simp, t0⟩
    · exact ⟨[(x.num, x.den), (y.num, y.den), (t1, t2), (0, 1)], rfl, by simp, by simp [ht, hx, hy, h01, x.den_nz, y.den_nz], (t1, t2), by simp, t0⟩
    · exact ⟨[(x.num, x.den), (y.num, y.den), (t1, t2), (0, 1), (0, 1)], rfl, by simp, by simp [ht, hx, hy, h01, x.den_nz, y.den_nz], (t1, t2), by simp, t0⟩
  · rcases hn3 with rfl | rfl | rfl
    · exact ⟨[(y.num, y.den), (t1, t2)], rfl, by simp, by simp [ht, hx, hy, x.den_nz, y.den_nz], (t1, t2), by simp, t0⟩
    · exact ⟨[(y.num, y.den), (t1, t2), (0, 1)], rfl, by simp, by simp [ht, hx, hy, h01, x.den_nz, y.den_nz], (t1, t2), by simp, t0⟩
    · exact ⟨[(y.num, y.den), (t1, t2), (0, 1), (0, 1)], rfl, by simp, by simp [ht, hx, hy, h01, x.den_nz, y.den_nz], (t1, t2), by simp, t0⟩
theorem sl3 : ∀ n : Nat, n < 3 → 1 * n ≤ sizeLine := fun n h => by
  have : 3 ≤ sizeLine := by decide
  omega

theorem st11 {u : DS} {E : DEnds} {ex : SL → Addr → D → Str → MH → Prop} {z0 z2 z3 z4 z5 z8 z9 z10 z11 z12 z13 z14 z15 z16 z17 z18 z19 z20 : Option D} {dk0 : List D} {x y : Rat} (hd : Dk dk0) (sx : SmR 100 x) (sy : SmR 100 y) (k : ∀ ps dk1, Dk dk1 → Ps ps → u E { sl := [z0, (some (.loc 0)), z2, z3, z4, z5, (some (rD x)), (some (rD y)), z8, (some (.lst ps)), z10, z11, z12, z13, z14, z15, z16, z17, z18, z19, z20], ex := ex } [.lst dk1]) : mSeq s_law_11 u E { sl := [z0, (some (.loc 0)), z2, z3, z4, z5, (some (rD x)), (some (rD y)), z8, z9, z10, z11, z12, z13, z14, z15, z16, z17, z18, z19, z20], ex := ex } [.lst dk0] := by
  simp only [s_law_11, dSl, dPart, dNoPart, dSlV, ml1, mSeq, mPar, mSet, mAsg, mWhile, mFor, mIf, mRet, mRetN, mNext, mPut, mDrop, dCons, dNil, dCB, dAbs, dInt, dLen, dVar, dC, slP, dOp, dUn, dNeg, dSub, dAdd, ml0, dMd, dFd, dI, dI0, dCmpI, dLt, dLe, dGt, dGe, dTest, dTestB, dTru, dTup, dLst, dCallP, dCallI, callIK, dAndV, dOrV, dNotV, dAnd, dOr, dNot, dIf, RH.put, List.length, List.map, List.getElem?_cons_zero, List.getElem?_cons_succ, List.cons_append, List.nil_append, List.append_nil, List.set, Nat.reduceSub, List.replicate, prepA, nw, p_int, p_bl, p_non, p_str, D.plain, plainA, Bool.and_true, Bool.true_and, if_true, Bool.or_false, Bool.false_or, resK, rdS, rdL, bindP, bindPs]
  refine ⟨⟨trivial, dk_plain hd, trivial⟩, draw_go (by decide) (by decide +kernel) hd fun v1 d1 a1 b1 h1 => ⟨dk_plain h1, ?_⟩⟩
  simp only [ml1, mSeq, mPar, mSet, mAsg, mWhile, mFor, mIf, mRet, mRetN, mNext, mPut, mDrop, dCons, dNil, dCB, dAbs, dInt, dLen, dVar, dC, slP, dOp, dUn, dNeg, dSub, dAdd, ml0, dMd, dFd, dI, dI0, dCmpI, dLt, dLe, dGt, dGe, dTest, dTestB, dTru, dTup, dLst, dCallP, dCallI, callIK, dAndV, dOrV, dNotV, dAnd, dOr, dNot, dIf, RH.put, List.length, List.map, List.getElem?_cons_zero, List.getElem?_cons_succ, List.cons_append, List.nil_append, List.append_nil, List.set, Nat.reduceSub, List.replicate, prepA, nw, p_int, p_bl, p_non, p_str, D.plain, plainA, Bool.and_true, Bool.true_and, if_true, Bool.or_false, Bool.false_or, resK, rdS, rdL, bindP, bindPs]
  refine ⟨⟨trivial, dk_plain h1, trivial⟩, draw_go (by decide) (by decide +kernel) h1 fun v2 d2 a2 b2 h2 => ⟨dk_plain h2, ?_⟩⟩
  simp only [ml1, mSeq, mPar, mSet, mAsg, mWhile, mFor, mIf, mRet, mRetN, mNext, mPut, mDrop, dCons, dNil, dCB, dAbs, dInt, dLen, dVar, dC, slP, dOp, dUn, dNeg, dSub, dAdd, ml0, dMd, dFd, dI, dI0, dCmpI, dLt, dLe, dGt, dGe, dTest, dTestB, dTru, dTup, dLst, dCallP, dCallI, callIK, dAndV, dOrV, dNotV, dAnd, dOr, dNot, dIf, RH.put, List.length, List.map, List.getElem?_cons_zero, List.getElem?_cons_succ, List.cons_append, List.nil_append, List.append_nil, List.set, Nat.reduceSub, List.replicate, prepA, nw, p_int, p_bl, p_non, p_str, D.plain, plainA, Bool.and_true, Bool.true_and, if_true, Bool.or_false, Bool.false_or, resK, rdS, rdL, bindP, bindPs]
  refine ⟨by decide, by decide, ⟨trivial, dk_plain h2, trivial⟩, draw_go (by decide) (by decide +kernel) h2 fun v3 d3 a3 b3 h3 => ⟨dk_plain h3, ?_⟩⟩
  simp only [ml1, mSeq, mPar, mSet, mAsg, mWhile, mFor, mIf, mRet, mRetN, mNext, mPut, mDrop, dCons, dNil, dCB, dAbs, dInt, dLen, dVar, dC, slP, dOp, dUn, dNeg, dSub, dAdd, ml0, dMd, dFd, dI, dI0, dCmpI, dLt, dLe, dGt, dGe, dTest, dTestB, dTru, dTup, dLst, dCallP, dCallI, callIK, dAndV, dOrV, dNotV, dAnd, dOr, dNot, dIf, RH.put, List.length, List.map, List.getElem?_cons_zero, List.getElem?_cons_succ, List.cons_append, List.nil_append, List.append_nil, List.set, Nat.reduceSub, List.replicate, prepA, nw, p_int, p_bl, p_non, p_str, D.plain, plainA, Bool.and_true, Bool.true_and, if_true, Bool.or_false, Bool.false_or, resK, rdS, rdL, bindP, bindPs]
  refine ⟨by decide, by decide, ⟨trivial, dk_plain h3, trivial⟩, draw_go (by decide) (by decide +kernel) h3 fun v4 d4 a4 b4 h4 => ⟨dk_plain h4, ?_⟩⟩
  simp only [ml1, rdW, mSeq, mPar, mSet, mAsg, mWhile, mFor, mIf, mRet, mRetN, mNext, mPut, mDrop, dCons, dNil, dCB, dAbs, dInt, dLen, dVar, dC, slP, dOp, dUn, dNeg, dSub, dAdd, ml0, dMd, dFd, dI, dI0, dCmpI, dLt, dLe, dGt, dGe, dTest, dTestB, dTru, dTup, dLst, dCallP, dCallI, callIK, dAndV, dOrV, dNotV, dAnd, dOr, dNot, dIf, RH.put, List.length, List.map, List.getElem?_cons_zero, List.getElem?_cons_succ, List.cons_append, List.nil_append, List.append_nil, List.set, Nat.reduceSub, List.replicate, prepA, nw, p_int, p_bl, p_non, p_str, D.plain, plainA, Bool.and_true, Bool.true_and, if_true, Bool.or_false, Bool.false_or, resK, rdS, rdL, bindP, bindPs]
  have hp := ps_ok sx sy (t1 := 1 + v1) (t2 := 1 + v2) ⟨by omega, by omega⟩ ⟨by omega, by omega⟩ a3 b3 a4 b4
  refine ⟨⟨a4, by omega, sl3 _ (by omega)⟩, ?_, k _ d4 h4 hp⟩
  obtain ⟨qs, e, hq, _⟩ := hp
  have e2 := congrArg List.length e
  rw [List.length_append, List.length_map] at e2
  have : 5 ≤ sizeLine := by decide
  omega


theorem Rw.rev {qs : List Rat} (h : Rw qs) : Rw qs.reverse := ⟨by rw [List.length_reverse]; exact h.1, fun q hq => h.2.1 q (List.mem_reverse.mp hq), let ⟨q, a, b⟩ := h.2.2; ⟨q, List.mem_reverse.mpr a, b⟩⟩
theorem fr0 {a b : Int} (hb : b ≠ 0) (ha : a ≠ 0) : Rat.divInt a b ≠ 0 := fun h => by
  rw [show (0 : Rat) = Rat.divInt 0 1 from rfl, Rat.divInt_eq_divInt_iff hb (by decide)] at h
  omega
theorem px0 (q : Int × Int) (M : MH) (R : DK) : dIx (pD q) (.int 0) M R = R (.int q.1) M := by
  simp only [pD, dIx, rdS, at0]
theorem px1 (q : Int × Int) (M : MH) (R : DK) : dIx (pD q) (.int 1) M R = R (.int q.2) M := by
  simp only [pD, dIx, rdS, at1]

theorem st12 {u : DS} {E : DEnds} {ex : SL → Addr → D → Str → MH → Prop} {z0 z2 z3 z4 z5 z6 z7 z8 z10 z11 z12 z13 z14 z15 z16 z17 z18 z19 z20 : Option D} {dk0 : List D} {ps : List D} (hd : Dk dk0) (hp : Ps ps) (k : ∀ (qs : List Rat) dk1, Dk dk1 → Rw qs → qs.length ≤ 5 → u E { sl := [z0, (some (.loc 0)), z2, z3, z4, z5, z6, z7, z8, (some (.lst (qs.map rD))), z10, z11, z12, z13, z14, z15, z16, z17, z18, z19, z20], ex := ex } [.lst dk1]) : mSeq s_law_12 u E { sl := [z0, (some (.loc 0)), z2, z3, z4, z5, z6, z7, z8, (some (.lst ps)), z10, z11, z12, z13, z14, z15, z16, z17, z18, z19, z20], ex := ex } [.lst dk0] := by
  obtain ⟨ws, rfl, hl, hw, w0, hw0, w1⟩ := hp
  have hz : ws.length ≤ sizeLine := by
    have : 5 ≤ sizeLine := by decide
    omega
  simp only [s_law_12, dStep, dLc, dSeq, wipeD, mSeq, mPar, mSet, mAsg, mWhile, mFor, mIf, mRet, mRetN, mNext, mPut, mDrop, dCons, dNil, dCB, dAbs, dInt, dLen, dVar, dC, slP, dOp, dUn, dNeg, dSub, dAdd, ml0, dMd, dFd, dI, dI0, dCmpI, dLt, dLe, dGt, dGe, dTest, dTestB, dTru, dTup, dLst, dCallP, dCallI, callIK, dAndV, dOrV, dNotV, dAnd, dOr, dNot, dIf, RH.put, List.length, List.map, List.getElem?_cons_zero, List.getElem?_cons_succ, List.cons_append, List.nil_append, List.append_nil, List.set, Nat.reduceSub, List.replicate, prepA, nw, p_int, p_bl, p_non, p_str, D.plain, plainA, Bool.and_true, Bool.true_and, if_true, Bool.or_false, Bool.false_or, resK, rdS, rdL, bindP, bindPs]
  refine ⟨by rw [List.length_map]; exact hz, ?_⟩
  refine lcD_enc pD (fun w => rD (Rat.divInt w.1 w.2)) (fun _ h => by cases h) ws [] _ (fun w hw2 R' hR' => ?_) ?_
  · obtain ⟨g1, g2, g3⟩ := hw w hw2
    simp only [rB, px0, px1, mSeq, mPar, mSet, mAsg, mWhile, mFor, mIf, mRet, mRetN, mNext, mPut, mDrop, dCons, dNil, dCB, dAbs, dInt, dLen, dVar, dC, slP, dOp, dUn, dNeg, dSub, dAdd, ml0, dMd, dFd, dI, dI0, dCmpI, dLt, dLe, dGt, dGe, dTest, dTestB, dTru, dTup, dLst, dCallP, dCallI, callIK, dAndV, dOrV, dNotV, dAnd, dOr, dNot, dIf, RH.put, List.length, List.map, List.getElem?_cons_zero, List.getElem?_cons_succ, List.cons_append, List.nil_append, List.append_nil, List.set, Nat.reduceSub, List.replicate, prepA, nw, p_int, p_bl, p_non, p_str, D.plain, plainA, Bool.and_true, Bool.true_and, if_true, Bool.or_false, Bool.false_or, resK, rdS, rdL, bindP, bindPs]
    exact ⟨trivial, w.1, w.2, rfl, g1, sm_mono g3 (by decide), fun z => (by cases z), hR'⟩
  · have e : ([] ++ ws.map fun w => rD (Rat.divInt w.1 w.2)) = (ws.map fun w => Rat.divInt w.1 w.2).map rD := by rw [List.map_map]; rfl
    have rw0 : Rw (ws.map fun w => Rat.divInt w.1 w.2) := by
      refine ⟨by rw [List.length_map]; omega, fun q hq => ?_, Rat.divInt w0.1 w0.2, List.mem_map_of_mem hw0, fr0 (hw w0 hw0).1 w1⟩
      obtain ⟨w, hw2, rfl⟩ := List.mem_map.mp hq
      exact smR_divInt (hw w hw2).1 (hw w hw2).2.1 (hw w hw2).2.2
    rw [e]
    simp only [mSeq, mPar, mSet, mAsg, mWhile, mFor, mIf, mRet, mRetN, mNext, mPut, mDrop, dCons, dNil, dCB, dAbs, dInt, dLen, dVar, dC, slP, dOp, dUn, dNeg, dSub, dAdd, ml0, dMd, dFd, dI, dI0, dCmpI, dLt, dLe, dGt, dGe, dTest, dTestB, dTru, dTup, dLst, dCallP, dCallI, callIK, dAndV, dOrV, dNotV, dAnd, dOr, dNot, dIf, RH.put, List.length, List.map, List.getElem?_cons_zero, List.getElem?_cons_succ, List.cons_append, List.nil_append, List.append_nil, List.set, Nat.reduceSub, List.replicate, prepA, nw, p_int, p_bl, p_non, p_str, D.plain, plainA, Bool.and_true, Bool.true_and, if_true, Bool.or_false, Bool.false_or, resK, rdS, rdL, bindP, bindPs]
    refine ⟨by decide, ⟨trivial, dk_plain hd, trivial⟩, draw_go (by decide) (by decide +kernel) hd fun v d1 v0 v1 h1 => ⟨dk_plain h1, ?_⟩⟩
    have hv : v = 0 ∨ v = 1 := by omega
    have kk : ∀ qs : List Rat, Rw qs → qs.length ≤ 5 → u E { sl := [z0, some (.loc 0), z2, z3, z4, z5, z6, z7, z8, some (.lst (qs.map rD)), z10, z11, z12, z13, z14, z15, z16, z17, z18, z19, z20], ex := ex } [.lst d1] := fun qs h hl => k qs d1 h1 h hl
    rcases hv with rfl | rfl
    · simp only [at0, at1, mSeq, mPar, mSet, mAsg, mWhile, mFor, mIf, mRet, mRetN, mNext, mPut, mDrop, dCons, dNil, dCB, dAbs, dInt, dLen, dVar, dC, slP, dOp, dUn, dNeg, dSub, dAdd, dMul, dMd, dFd, dI, dI0, dCmpI, dLt, dLe, dGt, dGe, dTest, dTestB, dTru, dTup, dLst, dIx, dCallP, dCallI, callIK, dAndV, dOrV, dNotV, dAnd, dOr, dNot, dIf, RH.put, List.length, List.map, List.getElem?_cons_zero, List.getElem?_cons_succ, List.cons_append, List.nil_append, List.append_nil, List.set, Nat.reduceSub, List.replicate, prepA, nw, p_int, p_bl, p_non, p_str, D.plain, plainA, Bool.and_true, Bool.true_and, if_true, Bool.or_false, Bool.false_or, resK, rdS, rdL, bindP, bindPs]
      exact .inl ⟨trivial, kk _ rw0 (by rw [List.length_map]; exact hl)⟩
    · simp only [at0, at1, mSeq, mPar, mSet, mAsg, mWhile, mFor, mIf, mRet, mRetN, mNext, mPut, mDrop, dCons, dNil, dCB, dAbs, dInt, dLen, dVar, dC, slP, dOp, dUn, dNeg, dSub, dAdd, dMul, dMd, dFd, dI, dI0, dCmpI, dLt, dLe, dGt, dGe, dTest, dTestB, dTru, dTup, dLst, dIx, dCallP, dCallI, callIK, dAndV, dOrV, dNotV, dAnd, dOr, dNot, dIf, RH.put, List.length, List.map, List.getElem?_cons_zero, List.getElem?_cons_succ, List.cons_append, List.nil_append, List.append_nil, List.set, Nat.reduceSub, List.replicate, prepA, nw, p_int, p_bl, p_non, p_str, D.plain, plainA, Bool.and_true, Bool.true_and, if_true, Bool.or_false, Bool.false_or, resK, rdS, rdL, bindP, bindPs]
      refine .inr ⟨trivial, ?_⟩
      rw [← List.map_reverse]
      exact kk _ rw0.rev (by rw [List.length_reverse, List.length_map]; exact hl)


theorem lcD_dk {i : Nat} {sl0 : SL} {me : DE} : ∀ (ds acc : List D) (M0 : MH) (dk0 : List D) (R : List D → MH → Prop), Dk dk0 →
    (∀ d ∈ ds, ∀ (dk1 : List D) (R' : DK), Dk dk1 → (∀ q dk2, SmR 100 q → Dk dk2 → R' (rD q) [.lst dk2]) → me (rB (sl0.set i (some d))) [.lst dk1] R') →
    (∀ (qs : List Rat) dk1, Dk dk1 → (∀ q ∈ qs, SmR 100 q) → qs.length = ds.length → R (acc ++ qs.map rD) [.lst dk1]) → lcD (.nm i) tYesD me sl0 [] M0 ds acc [.lst dk0] R
  | [], acc, M0, dk0, R, hd, _, h => by
    have := h [] dk0 hd (fun q hq => by cases hq) rfl
    simpa [lcD] using this
  | d :: ds, acc, M0, dk0, R, hd, hm, h => by
    simp only [lcD, bindP, tYesD, if_true]
    refine hm d (List.mem_cons_self ..) dk0 _ hd fun q dk2 hq h2 => ⟨fun _ z => (by cases z), ?_⟩
    refine lcD_dk ds (acc ++ [rD q]) M0 dk2 R h2 (fun d hd => hm d (List.mem_cons_of_mem _ hd)) fun qs dk1 h1 hqs hl => ?_
    have := h (q :: qs) dk1 h1 (fun p hp => by
      rcases List.mem_cons.mp hp with rfl | hp
      · exact hq
      · exact hqs p hp) (by simp [hl])
    rw [List.append_assoc]
    exact this
theorem lcD_filt {i : Nat} {sl0 : SL} {mt : DT} {me : DE} {M : MH} (p : Rat → Bool) : ∀ (qs : List Rat) (acc : List D) (M0 : MH) (R : List D → MH → Prop),
    (∀ q ∈ qs, ∀ R' : Bool → MH → Prop, R' (p q) M → mt (rB (sl0.set i (some (rD q)))) M R') → (∀ q ∈ qs, ∀ R' : DK, R' (rD q) M → me (rB (sl0.set i (some (rD q)))) M R') →
    R (acc ++ (qs.filter p).map rD) M → lcD (.nm i) mt me sl0 [] M0 (qs.map rD) acc M R
  | [], acc, M0, R, _, _, h => by simpa [lcD] using h
  | q :: qs, acc, M0, R, ht, hm, h => by
    simp only [lcD, bindP, List.map]
    refine ht q (List.mem_cons_self ..) _ ?_
    have next : ∀ acc, R (acc ++ (qs.filter p).map rD) M → lcD (.nm i) mt me sl0 [] M0 (qs.map rD) acc M R := fun acc h => lcD_filt p qs acc M0 R (fun q hq => ht q (List.mem_cons_of_mem _ hq)) (fun q hq => hm q (List.mem_cons_of_mem _ hq)) h
    cases hp : p q with
    | true =>
      rw [if_pos rfl]
      refine hm q (List.mem_cons_self ..) _ ⟨fun _ z => (by cases z), next _ ?_⟩
      rw [List.filter_cons_of_pos hp] at h
      rw [List.append_assoc]
      exact h
    | false =>
      rw [if_neg Bool.false_ne_true]
      rw [List.filter_cons_of_neg (by rw [hp]; decide)] at h
      exact ⟨fun _ z => (by cases z), next _ h⟩
theorem Rw.app {qs ps : List Rat} (h : Rw qs) (h5 : qs.length ≤ 5) (hp : ∀ q ∈ ps, SmR 100 q) (hl : ps.length < 20) : Rw (qs ++ ps) := ⟨by rw [List.length_append]; omega, fun q hq => by
    rcases List.mem_append.mp hq with a | a
    · exact h.2.1 q a
    · exact hp q a, let ⟨q, a, b⟩ := h.2.2; ⟨q, List.mem_append_left _ a, b⟩⟩

theorem st13 {u : DS} {E : DEnds} {ex : SL → Addr → D → Str → MH → Prop} {z0 z2 z3 z4 z5 z6 z7 z8 z10 z11 z12 z13 z14 z15 z16 z17 z18 z19 z20 : Option D} {dk0 : List D} {qs : List Rat} (hd : Dk dk0) (hq : Rw qs) (h5 : qs.length ≤ 5) (k : ∀ (qs : List Rat) dk1, Dk dk1 → Rw qs → u E { sl := [z0, (some (.loc 0)), z2, z3, z4, z5, z6, z7, z8, (some (.lst (qs.map rD))), z10, z11, z12, z13, z14, z15, z16, z17, z18, z19, z20], ex := ex } [.lst dk1]) : mSeq s_law_13 u E { sl := [z0, (some (.loc 0)), z2, z3, z4, z5, z6, z7, z8, (some (.lst (qs.map rD))), z10, z11, z12, z13, z14, z15, z16, z17, z18, z19, z20], ex := ex } [.lst dk0] := by
  simp only [s_law_13, cp_i, mSeq, mPar, mSet, mAsg, mWhile, mFor, mIf, mRet, mRetN, mNext, mPut, mDrop, dCons, dNil, dCB, dAbs, dInt, dLen, dVar, dC, slP, dOp, dUn, dNeg, dSub, dAdd, ml0, dMd, dFd, dI, dI0, dCmpI, dLt, dLe, dGt, dGe, dTest, dTestB, dTru, dTup, dLst, dCallP, dCallI, callIK, dAndV, dOrV, dNotV, dAnd, dOr, dNot, dIf, RH.put, List.length, List.map, List.getElem?_cons_zero, List.getElem?_cons_succ, List.cons_append, List.nil_append, List.append_nil, List.set, Nat.reduceSub, List.replicate, prepA, nw, p_int, p_bl, p_non, p_str, D.plain, plainA, Bool.and_true, Bool.true_and, if_true, Bool.or_false, Bool.false_or, resK, rdS, rdL, bindP, bindPs]
  refine ⟨⟨trivial, dk_plain hd, trivial⟩, draw_go (by decide) (by decide +kernel) hd fun v d1 v0 v1 h1 => ⟨dk_plain h1, ?_⟩⟩
  simp only [cp_i, mSeq, mPar, mSet, mAsg, mWhile, mFor, mIf, mRet, mRetN, mNext, mPut, mDrop, dCons, dNil, dCB, dAbs, dInt, dLen, dVar, dC, slP, dOp, dUn, dNeg, dSub, dAdd, ml0, dMd, dFd, dI, dI0, dCmpI, dLt, dLe, dGt, dGe, dTest, dTestB, dTru, dTup, dLst, dCallP, dCallI, callIK, dAndV, dOrV, dNotV, dAnd, dOr, dNot, dIf, RH.put, List.length, List.map, List.getElem?_cons_zero, List.getElem?_cons_succ, List.cons_append, List.nil_append, List.append_nil, List.set, Nat.reduceSub, List.replicate, prepA, nw, p_int, p_bl, p_non, p_str, D.plain, plainA, Bool.and_true, Bool.true_and, if_true, Bool.or_false, Bool.false_or, resK, rdS, rdL, bindP, bindPs]
  refine ⟨⟨trivial, trivial⟩, ?_⟩
  by_cases hv : v = 0
  · rw [if_pos (by simpa using hv)]
    simp only [dLc, dRng1, wipeD, mSeq, mPar, mSet, mAsg, mWhile, mFor, mIf, mRet, mRetN, mNext, mPut, mDrop, dCons, dNil, dCB, dAbs, dInt, dLen, dVar, dC, slP, dOp, dUn, dNeg, dSub, dAdd, ml0, dMd, dFd, dI, dI0, dCmpI, dLt, dLe, dGt, dGe, dTest, dTestB, dTru, dTup, dLst, dCallP, dCallI, callIK, dAndV, dOrV, dNotV, dAnd, dOr, dNot, dIf, RH.put, List.length, List.map, List.getElem?_cons_zero, List.getElem?_cons_succ, List.cons_append, List.nil_append, List.append_nil, List.set, Nat.reduceSub, List.replicate, prepA, nw, p_int, p_bl, p_non, p_str, D.plain, plainA, Bool.and_true, Bool.true_and, if_true, Bool.or_false, Bool.false_or, resK, rdS, rdL, bindP, bindPs]
    refine ⟨⟨trivial, dk_plain h1, trivial⟩, draw_go (by decide) (by decide +kernel) h1 fun v d2 v0 v1 h2 => ⟨dk_plain h2, ⟨by omega, by omega⟩, by rw [rng_len]; have : 5 ≤ sizeLine := (by decide); have : 20 ≤ sizeLine := (by decide); omega, ?_⟩⟩
    refine lcD_dk _ _ _ d2 _ h2 (fun d _ dk1 R' hd1 hR' => ?_) fun ps d3 h3 hps hl => ?_
    · simp only [rB, mSeq, mPar, mSet, mAsg, mWhile, mFor, mIf, mRet, mRetN, mNext, mPut, mDrop, dCons, dNil, dCB, dAbs, dInt, dLen, dVar, dC, slP, dOp, dUn, dNeg, dSub, dAdd, ml0, dMd, dFd, dI, dI0, dCmpI, dLt, dLe, dGt, dGe, dTest, dTestB, dTru, dTup, dLst, dCallP, dCallI, callIK, dAndV, dOrV, dNotV, dAnd, dOr, dNot, dIf, RH.put, List.length, List.map, List.getElem?_cons_zero, List.getElem?_cons_succ, List.cons_append, List.nil_append, List.append_nil, List.set, Nat.reduceSub, List.replicate, prepA, nw, p_int, p_bl, p_non, p_str, D.plain, plainA, Bool.and_true, Bool.true_and, if_true, Bool.or_false, Bool.false_or, resK, rdS, rdL, bindP, bindPs]
      refine ⟨⟨trivial, dk_plain hd1, trivial⟩, draw_go (by decide) (by decide +kernel) hd1 fun va da a0 a1 ha => ⟨dk_plain ha, ?_⟩⟩
      simp only [mSeq, mPar, mSet, mAsg, mWhile, mFor, mIf, mRet, mRetN, mNext, mPut, mDrop, dCons, dNil, dCB, dAbs, dInt, dLen, dVar, dC, slP, dOp, dUn, dNeg, dSub, dAdd, ml0, dMd, dFd, dI, dI0, dCmpI, dLt, dLe, dGt, dGe, dTest, dTestB, dTru, dTup, dLst, dCallP, dCallI, callIK, dAndV, dOrV, dNotV, dAnd, dOr, dNot, dIf, RH.put, List.length, List.map, List.getElem?_cons_zero, List.getElem?_cons_succ, List.cons_append, List.nil_append, List.append_nil, List.set, Nat.reduceSub, List.replicate, prepA, nw, p_int, p_bl, p_non, p_str, D.plain, plainA, Bool.and_true, Bool.true_and, if_true, Bool.or_false, Bool.false_or, resK, rdS, rdL, bindP, bindPs]
      refine ⟨⟨trivial, dk_plain ha, trivial⟩, draw_go (by decide) (by decide +kernel) ha fun vb db b0 b1 hb => ⟨dk_plain hb, ?_⟩⟩
      simp only [mSeq, mPar, mSet, mAsg, mWhile, mFor, mIf, mRet, mRetN, mNext, mPut, mDrop, dCons, dNil, dCB, dAbs, dInt, dLen, dVar, dC, slP, dOp, dUn, dNeg, dSub, dAdd, ml0, dMd, dFd, dI, dI0, dCmpI, dLt, dLe, dGt, dGe, dTest, dTestB, dTru, dTup, dLst, dCallP, dCallI, callIK, dAndV, dOrV, dNotV, dAnd, dOr, dNot, dIf, RH.put, List.length, List.map, List.getElem?_cons_zero, List.getElem?_cons_succ, List.cons_append, List.nil_append, List.append_nil, List.set, Nat.reduceSub, List.replicate, prepA, nw, p_int, p_bl, p_non, p_str, D.plain, plainA, Bool.and_true, Bool.true_and, if_true, Bool.or_false, Bool.false_or, resK, rdS, rdL, bindP, bindPs]
      refine ⟨trivial, va - 9, 1 + vb, rfl, by omega, sm_s (by omega) (by decide), fun z => (by cases z), hR' _ db ?_ hb⟩
      exact smR_divInt (by omega) (sm_s (by omega) (by decide)) (sm_s (by omega) (by decide))
    · rw [rng_len] at hl
      have hr : Rw (qs ++ ps) := hq.app h5 hps (by omega)
      simp only [List.nil_append, rdW, mSeq, mPar, mSet, mAsg, mWhile, mFor, mIf, mRet, mRetN, mNext, mPut, mDrop, dCons, dNil, dCB, dAbs, dInt, dLen, dVar, dC, slP, dOp, dUn, dNeg, dSub, dAdd, ml0, dMd, dFd, dI, dI0, dCmpI, dLt, dLe, dGt, dGe, dTest, dTestB, dTru, dTup, dLst, dCallP, dCallI, callIK, dAndV, dOrV, dNotV, dAnd, dOr, dNot, dIf, RH.put, List.length, List.map, List.getElem?_cons_zero, List.getElem?_cons_succ, List.cons_append, List.nil_append, List.append_nil, List.set, Nat.reduceSub, List.replicate, prepA, nw, p_int, p_bl, p_non, p_str, D.plain, plainA, Bool.and_true, Bool.true_and, if_true, Bool.or_false, Bool.false_or, resK, rdS, rdL, bindP, bindPs]
      refine ⟨?_, ?_⟩
      · have := hr.1
        rw [List.length_append] at this
        rw [List.length_map, List.length_map]
        have : 30 ≤ sizeLine := by decide
        omega
      · rw [← List.map_append]
        exact k _ d3 h3 hr
  · rw [if_neg (by simpa using hv)]
    exact k qs d1 h1 hq


theorem Rw.one {qs : List Rat} (h : Rw qs) : ∃ q ps, qs.filter (fun q => decide (q.num ≠ 0)) = q :: ps ∧ Rw [q] := by
  obtain ⟨q0, hq0, n0⟩ := h.2.2
  have hm : q0 ∈ qs.filter (fun q => decide (q.num ≠ 0)) := List.mem_filter.mpr ⟨hq0, decide_eq_true fun z => n0 (Rat.num_eq_zero.mp z)⟩
  cases e : qs.filter (fun q => decide (q.num ≠ 0)) with
  | nil => rw [e] at hm; cases hm
  | cons q ps =>
    have hq : q ∈ qs.filter (fun q => decide (q.num ≠ 0)) := by rw [e]; exact List.mem_cons_self ..
    obtain ⟨h1, h2⟩ := List.mem_filter.mp hq
    exact ⟨q, ps, rfl, by simp, fun p hp => by rw [List.mem_singleton.mp hp]; exact h.2.1 q h1, q, List.mem_singleton.mpr rfl, fun z => (of_decide_eq_true h2) (Rat.num_eq_zero.mpr z)⟩

theorem st14 {u : DS} {E : DEnds} {ex : SL → Addr → D → Str → MH → Prop} {z0 z2 z3 z4 z5 z6 z7 z8 z10 z11 z12 z13 z14 z15 z16 z17 z18 z19 z20 : Option D} {dk0 : List D} {qs : List Rat} (hd : Dk dk0) (hq : Rw qs) (k : ∀ (qs : List Rat) dk1, Dk dk1 → Rw qs → u E { sl := [z0, (some (.loc 0)), z2, z3, z4, z5, z6, z7, z8, (some (.lst (qs.map rD))), z10, z11, z12, z13, z14, z15, z16, z17, z18, z19, z20], ex := ex } [.lst dk1]) : mSeq s_law_14 u E { sl := [z0, (some (.loc 0)), z2, z3, z4, z5, z6, z7, z8, (some (.lst (qs.map rD))), z10, z11, z12, z13, z14, z15, z16, z17, z18, z19, z20], ex := ex } [.lst dk0] := by
  simp only [s_law_14, cp_i, mSeq, mPar, mSet, mAsg, mWhile, mFor, mIf, mRet, mRetN, mNext, mPut, mDrop, dCons, dNil, dCB, dAbs, dInt, dLen, dVar, dC, slP, dOp, dUn, dNeg, dSub, dAdd, ml0, dMd, dFd, dI, dI0, dCmpI, dLt, dLe, dGt, dGe, dTest, dTestB, dTru, dTup, dLst, dCallP, dCallI, callIK, dAndV, dOrV, dNotV, dAnd, dOr, dNot, dIf, RH.put, List.length, List.map, List.getElem?_cons_zero, List.getElem?_cons_succ, List.cons_append, List.nil_append, List.append_nil, List.set, Nat.reduceSub, List.replicate, prepA, nw, p_int, p_bl, p_non, p_str, D.plain, plainA, Bool.and_true, Bool.true_and, if_true, Bool.or_false, Bool.false_or, resK, rdS, rdL, bindP, bindPs]
  refine ⟨⟨trivial, dk_plain hd, trivial⟩, draw_go (by decide) (by decide +kernel) hd fun v d1 v0 v1 h1 => ⟨dk_plain h1, ?_⟩⟩
  simp only [cp_i, mSeq, mPar, mSet, mAsg, mWhile, mFor, mIf, mRet, mRetN, mNext, mPut, mDrop, dCons, dNil, dCB, dAbs, dInt, dLen, dVar, dC, slP, dOp, dUn, dNeg, dSub, dAdd, ml0, dMd, dFd, dI, dI0, dCmpI, dLt, dLe, dGt, dGe, dTest, dTestB, dTru, dTup, dLst, dCallP, dCallI, callIK, dAndV, dOrV, dNotV, dAnd, dOr, dNot, dIf, RH.put, List.length, List.map, List.getElem?_cons_zero, List.getElem?_cons_succ, List.cons_append, List.nil_append, List.append_nil, List.set, Nat.reduceSub, List.replicate, prepA, nw, p_int, p_bl, p_non, p_str, D.plain, plainA, Bool.and_true, Bool.true_and, if_true, Bool.or_false, Bool.false_or, resK, rdS, rdL, bindP, bindPs]
  refine ⟨⟨trivial, trivial⟩, ?_⟩
  by_cases hv : v = 0
  · rw [if_pos (by simpa using hv)]
    simp only [dSl, dLc, dSeq, wipeD, mSeq, mPar, mSet, mAsg, mWhile, mFor, mIf, mRet, mRetN, mNext, mPut, mDrop, dCons, dNil, dCB, dAbs, dInt, dLen, dVar, dC, slP, dOp, dUn, dNeg, dSub, dAdd, ml0, dMd, dFd, dI, dI0, dCmpI, dLt, dLe, dGt, dGe, dTest, dTestB, dTru, dTup, dLst, dCallP, dCallI, callIK, dAndV, dOrV, dNotV, dAnd, dOr, dNot, dIf, RH.put, List.length, List.map, List.getElem?_cons_zero, List.getElem?_cons_succ, List.cons_append, List.nil_append, List.append_nil, List.set, Nat.reduceSub, List.replicate, prepA, nw, p_int, p_bl, p_non, p_str, D.plain, plainA, Bool.and_true, Bool.true_and, if_true, Bool.or_false, Bool.false_or, resK, rdS, rdL, bindP, bindPs]
    refine ⟨by rw [List.length_map]; have := hq.1; have : 30 ≤ sizeLine := (by decide); omega, ?_⟩
    refine lcD_filt (fun q => decide (q.num ≠ 0)) qs _ _ _ (fun q hq2 R' hR' => ?_) (fun q hq2 R' hR' => ?_) ?_
    · simp only [rB, ix0, dNe, pyM, D.dat, py, shap_int, eqv_int, mSeq, mPar, mSet, mAsg, mWhile, mFor, mIf, mRet, mRetN, mNext, mPut, mDrop, dCons, dNil, dCB, dAbs, dInt, dLen, dVar, dC, slP, dOp, dUn, dNeg, dSub, dAdd, ml0, dMd, dFd, dI, dI0, dCmpI, dLt, dLe, dGt, dGe, dTest, dTestB, dTru, dTup, dLst, dCallP, dCallI, callIK, dAndV, dOrV, dNotV, dAnd, dOr, dNot, dIf, RH.put, List.length, List.map, List.getElem?_cons_zero, List.getElem?_cons_succ, List.cons_append, List.nil_append, List.append_nil, List.set, Nat.reduceSub, List.replicate, prepA, nw, p_int, p_bl, p_non, p_str, D.plain, plainA, Bool.and_true, Bool.true_and, if_true, Bool.or_false, Bool.false_or, resK, rdS, rdL, bindP, bindPs]
      refine ⟨⟨trivial, trivial⟩, ?_⟩
      have e : (!(q.num == 0)) = decide (q.num ≠ 0) := by
        by_cases h : q.num = 0 <;> simp [h]
      rw [e]
      exact hR'
    · simp only [rB, mSeq, mPar, mSet, mAsg, mWhile, mFor, mIf, mRet, mRetN, mNext, mPut, mDrop, dCons, dNil, dCB, dAbs, dInt, dLen, dVar, dC, slP, dOp, dUn, dNeg, dSub, dAdd, ml0, dMd, dFd, dI, dI0, dCmpI, dLt, dLe, dGt, dGe, dTest, dTestB, dTru, dTup, dLst, dCallP, dCallI, callIK, dAndV, dOrV, dNotV, dAnd, dOr, dNot, dIf, RH.put, List.length, List.map, List.getElem?_cons_zero, List.getElem?_cons_succ, List.cons_append, List.nil_append, List.append_nil, List.set, Nat.reduceSub, List.replicate, prepA, nw, p_int, p_bl, p_non, p_str, D.plain, plainA, Bool.and_true, Bool.true_and, if_true, Bool.or_false, Bool.false_or, resK, rdS, rdL, bindP, bindPs]
      exact hR'
    · obtain ⟨q, ps, e, hr⟩ := hq.one
      rw [e]
      simp only [dPart, dNoPart, dSlV, mSeq, mPar, mSet, mAsg, mWhile, mFor, mIf, mRet, mRetN, mNext, mPut, mDrop, dCons, dNil, dCB, dAbs, dInt, dLen, dVar, dC, slP, dOp, dUn, dNeg, dSub, dAdd, ml0, dMd, dFd, dI, dI0, dCmpI, dLt, dLe, dGt, dGe, dTest, dTestB, dTru, dTup, dLst, dCallP, dCallI, callIK, dAndV, dOrV, dNotV, dAnd, dOr, dNot, dIf, RH.put, List.length, List.map, List.getElem?_cons_zero, List.getElem?_cons_succ, List.cons_append, List.nil_append, List.append_nil, List.set, Nat.reduceSub, List.replicate, prepA, nw, p_int, p_bl, p_non, p_str, D.plain, plainA, Bool.and_true, Bool.true_and, if_true, Bool.or_false, Bool.false_or, resK, rdS, rdL, bindP, bindPs]
      exact k [q] d1 h1 hr
  · rw [if_neg (by simpa using hv)]
    exact k qs d1 h1 hq


theorem Rw.m {qs : List Rat} (h : Rw qs) : ∀ x ∈ qs, SmR 110 x := fun x hx => smR_mono (h.2.1 x hx) (by decide)
theorem Rw.l {qs : List Rat} (h : Rw qs) : qs.length ≤ 40 := by have := h.1; omega
theorem Rw.g {qs : List Rat} (h : Rw qs) : Gd 60 8000 (.lst (qs.map rD)) := by
  refine (g_lst (gA_map (n := 1) (b := 2) qs fun q hq => g_rD (smR_mono (h.2.1 q hq) (by decide)))).mono (by decide) ?_
  have := h.1
  omega
theorem Rw.z {qs : List Rat} (h : Rw qs) : qs.length ≤ sizeLine := by
  have := h.1
  have : 30 ≤ sizeLine := by decide
  omega

theorem st15 {u : DS} {E : DEnds} {ex : SL → Addr → D → Str → MH → Prop} {z0 z2 z3 z4 z5 z6 z7 z8 z10 z11 z12 z13 z14 z15 z16 z17 z18 z19 z20 : Option D} {dk0 : List D} {qs : List Rat} (k :  u E { sl := [z0, (some (.loc 0)), z2, z3, z4, z5, z6, z7, z8, (some (.lst (qs.map rD))), (some (.lst (qs.map rD))), z11, z12, z13, z14, z15, z16, z17, z18, z19, z20], ex := ex } [.lst dk0]) : mSeq s_law_15 u E { sl := [z0, (some (.loc 0)), z2, z3, z4, z5, z6, z7, z8, (some (.lst (qs.map rD))), z10, z11, z12, z13, z14, z15, z16, z17, z18, z19, z20], ex := ex } [.lst dk0] := by
  simp only [s_law_15, dList, mSeq, mPar, mSet, mAsg, mWhile, mFor, mIf, mRet, mRetN, mNext, mPut, mDrop, dCons, dNil, dCB, dAbs, dInt, dLen, dVar, dC, slP, dOp, dUn, dNeg, dSub, dAdd, ml0, dMd, dFd, dI, dI0, dCmpI, dLt, dLe, dGt, dGe, dTest, dTestB, dTru, dTup, dLst, dCallP, dCallI, callIK, dAndV, dOrV, dNotV, dAnd, dOr, dNot, dIf, RH.put, List.length, List.map, List.getElem?_cons_zero, List.getElem?_cons_succ, List.cons_append, List.nil_append, List.append_nil, List.set, Nat.reduceSub, List.replicate, prepA, nw, p_int, p_bl, p_non, p_str, D.plain, plainA, Bool.and_true, Bool.true_and, if_true, Bool.or_false, Bool.false_or, resK, rdS, rdL, bindP, bindPs]
  exact k

theorem st16 {u : DS} {E : DEnds} {ex : SL → Addr → D → Str → MH → Prop} {z0 z2 z3 z4 z5 z6 z7 z8 z11 z12 z13 z14 z15 z16 z17 z18 z19 z20 : Option D} {dk0 : List D} {qs : List Rat} (hq : Rw qs) (k :  u E { sl := [z0, (some (.loc 0)), z2, z3, z4, z5, z6, z7, z8, (some (.lst (qs.map rD))), (some (.lst (qs.map rD))), (some (.lst ((prim qs).map D.int))), z12, z13, z14, z15, z16, z17, z18, z19, z20], ex := ex } [.lst dk0]) : mSeq s_law_16 u E { sl := [z0, (some (.loc 0)), z2, z3, z4, z5, z6, z7, z8, (some (.lst (qs.map rD))), (some (.lst (qs.map rD))), z11, z12, z13, z14, z15, z16, z17, z18, z19, z20], ex := ex } [.lst dk0] := by
  simp only [s_law_16, p_lst hq.g, mSeq, mPar, mSet, mAsg, mWhile, mFor, mIf, mRet, mRetN, mNext, mPut, mDrop, dCons, dNil, dCB, dAbs, dInt, dLen, dVar, dC, slP, dOp, dUn, dNeg, dSub, dAdd, ml0, dMd, dFd, dI, dI0, dCmpI, dLt, dLe, dGt, dGe, dTest, dTestB, dTru, dTup, dLst, dCallP, dCallI, callIK, dAndV, dOrV, dNotV, dAnd, dOr, dNot, dIf, RH.put, List.length, List.map, List.getElem?_cons_zero, List.getElem?_cons_succ, List.cons_append, List.nil_append, List.append_nil, List.set, Nat.reduceSub, List.replicate, prepA, nw, p_int, p_bl, p_non, p_str, D.plain, plainA, Bool.and_true, Bool.true_and, if_true, Bool.or_false, Bool.false_or, resK, rdS, rdL, bindP, bindPs]
  exact ⟨trivial, qs, rfl, hq.l, hq.m, hq.2.2, fun z => (by cases z), k⟩

theorem st17 {u : DS} {E : DEnds} {ex : SL → Addr → D → Str → MH → Prop} {z0 z2 z3 z4 z5 z6 z7 z8 z12 z13 z14 z15 z16 z17 z18 z19 z20 : Option D} {dk0 : List D} {qs : List Rat} (hq : Rw qs) (k :  u E { sl := [z0, (some (.loc 0)), z2, z3, z4, z5, z6, z7, z8, (some (.lst (qs.map rD))), (some (.lst (qs.map rD))), (some (.lst ((prim qs).map D.int))), z12, z13, z14, z15, z16, z17, z18, z19, z20], ex := ex } [.lst dk0]) : mSeq s_law_17 u E { sl := [z0, (some (.loc 0)), z2, z3, z4, z5, z6, z7, z8, (some (.lst (qs.map rD))), (some (.lst (qs.map rD))), (some (.lst ((prim qs).map D.int))), z12, z13, z14, z15, z16, z17, z18, z19, z20], ex := ex } [.lst dk0] := by
  simp only [s_law_17, p_lst hq.g, mSeq, mPar, mSet, mAsg, mWhile, mFor, mIf, mRet, mRetN, mNext, mPut, mDrop, dCons, dNil, dCB, dAbs, dInt, dLen, dVar, dC, slP, dOp, dUn, dNeg, dSub, dAdd, ml0, dMd, dFd, dI, dI0, dCmpI, dLt, dLe, dGt, dGe, dTest, dTestB, dTru, dTup, dLst, dCallP, dCallI, callIK, dAndV, dOrV, dNotV, dAnd, dOr, dNot, dIf, RH.put, List.length, List.map, List.getElem?_cons_zero, List.getElem?_cons_succ, List.cons_append, List.nil_append, List.append_nil, List.set, Nat.reduceSub, List.replicate, prepA, nw, p_int, p_bl, p_non, p_str, D.plain, plainA, Bool.and_true, Bool.true_and, if_true, Bool.or_false, Bool.false_or, resK, rdS, rdL, bindP, bindPs]
  refine ⟨trivial, _, _, rfl, hq.g, hq.g, .inl ⟨rfl, fun z => (by cases z), ?_⟩⟩
  simp only [Bool.not_true, Bool.false_eq_true, if_false, mSeq, mPar, mSet, mAsg, mWhile, mFor, mIf, mRet, mRetN, mNext, mPut, mDrop, dCons, dNil, dCB, dAbs, dInt, dLen, dVar, dC, slP, dOp, dUn, dNeg, dSub, dAdd, ml0, dMd, dFd, dI, dI0, dCmpI, dLt, dLe, dGt, dGe, dTest, dTestB, dTru, dTup, dLst, dCallP, dCallI, callIK, dAndV, dOrV, dNotV, dAnd, dOr, dNot, dIf, RH.put, List.length, List.map, List.getElem?_cons_zero, List.getElem?_cons_succ, List.cons_append, List.nil_append, List.append_nil, List.set, Nat.reduceSub, List.replicate, prepA, nw, p_int, p_bl, p_non, p_str, D.plain, plainA, Bool.and_true, Bool.true_and, if_true, Bool.or_false, Bool.false_or, resK, rdS, rdL, bindP, bindPs]
  exact k

theorem st18 {u : DS} {E : DEnds} {ex : SL → Addr → D → Str → MH → Prop} {z0 z2 z3 z4 z5 z6 z7 z8 z12 z13 z14 z15 z16 z17 z18 z19 z20 : Option D} {dk0 : List D} {qs : List Rat} (k :  u E { sl := [z0, (some (.loc 0)), z2, z3, z4, z5, z6, z7, z8, (some (.lst (qs.map rD))), (some (.lst (qs.map rD))), (some (.lst ((prim qs).map D.int))), (some (.int 0)), z13, z14, z15, z16, z17, z18, z19, z20], ex := ex } [.lst dk0]) : mSeq s_law_18 u E { sl := [z0, (some (.loc 0)), z2, z3, z4, z5, z6, z7, z8, (some (.lst (qs.map rD))), (some (.lst (qs.map rD))), (some (.lst ((prim qs).map D.int))), z12, z13, z14, z15, z16, z17, z18, z19, z20], ex := ex } [.lst dk0] := by
  simp only [s_law_18, mSeq, mPar, mSet, mAsg, mWhile, mFor, mIf, mRet, mRetN, mNext, mPut, mDrop, dCons, dNil, dCB, dAbs, dInt, dLen, dVar, dC, slP, dOp, dUn, dNeg, dSub, dAdd, ml0, dMd, dFd, dI, dI0, dCmpI, dLt, dLe, dGt, dGe, dTest, dTestB, dTru, dTup, dLst, dCallP, dCallI, callIK, dAndV, dOrV, dNotV, dAnd, dOr, dNot, dIf, RH.put, List.length, List.map, List.getElem?_cons_zero, List.getElem?_cons_succ, List.cons_append, List.nil_append, List.append_nil, List.set, Nat.reduceSub, List.replicate, prepA, nw, p_int, p_bl, p_non, p_str, D.plain, plainA, Bool.and_true, Bool.true_and, if_true, Bool.or_false, Bool.false_or, resK, rdS, rdL, bindP, bindPs]
  exact k


theorem loopG {is : List Int} {M : MH} : ∀ (js : List Int) (E : DEnds) (sl : SL) (ex) (s : Int), sl.length = 21 → sl[12]? = some (some (.int s)) →
      (∀ sl' : SL, sl'.length = 21 → sl'[12]? = some (some (.int (js.foldl gcdS s))) → (∀ j : Nat, j ≠ 12 → j ≠ 13 → sl'[j]? = sl[j]?) → E.nx { sl := sl', ex := ex } M) →
      forD (.nm 13) (mSet 12 (dCallP 2 pf_common false true [] (dCons (dVar 12) (dCons (dVar 13) (dNil))))) E [] M (js.map D.int) { sl := sl, ex := ex } M
  | [], E, sl, ex, s, hl, h, k => k sl hl h fun _ _ _ => rfl
  | j :: js, E, sl, ex, s, hl, h, k => by
    have g1 : (sl.set 13 (some (D.int j)))[12]? = some (some (.int s)) := by rw [List.getElem?_set_ne (by decide)]; exact h
    have g2 : (sl.set 13 (some (D.int j)))[13]? = some (some (.int j)) := by rw [List.getElem?_set_self (by omega)]
    simp only [List.map, forD, bindP, mSet, dCallP, dCons, dNil, dVar, g1, g2, prepA, p_int, RH.put]
    refine ⟨rfl, s, j, rfl, fun z => (by cases z), fun _ z => (by cases z), ?_⟩
    refine loopG (is := is) js E _ ex (gcdS s j) (by simp [hl]) (by rw [List.getElem?_set_self (by simp [hl])]; rfl) fun sl' h1 h2 h3 => k sl' h1 h2 fun i a b => ?_
    rw [h3 i a b, List.getElem?_set_ne (fun z => a z.symm), List.getElem?_set_ne (fun z => b z.symm)]
theorem list21 {sl : SL} (h : sl.length = 21) {l : SL} (hl : l.length = 21) (he : ∀ j : Nat, sl[j]? = l[j]?) : sl = l := List.ext_getElem? he

theorem st19 {u : DS} {E : DEnds} {ex : SL → Addr → D → Str → MH → Prop} {z0 z2 z3 z4 z5 z6 z7 z8 z13 z14 z15 z16 z17 z18 z19 z20 : Option D} {dk0 : List D} {qs : List Rat} (hq : Rw qs) (k : ∀ z' : Option D, u E { sl := [z0, (some (.loc 0)), z2, z3, z4, z5, z6, z7, z8, (some (.lst (qs.map rD))), (some (.lst (qs.map rD))), (some (.lst ((prim qs).map D.int))), (some (.int 1)), z', z14, z15, z16, z17, z18, z19, z20], ex := ex } [.lst dk0]) : mSeq s_law_19 u E { sl := [z0, (some (.loc 0)), z2, z3, z4, z5, z6, z7, z8, (some (.lst (qs.map rD))), (some (.lst (qs.map rD))), (some (.lst ((prim qs).map D.int))), (some (.int 0)), z13, z14, z15, z16, z17, z18, z19, z20], ex := ex } [.lst dk0] := by
  simp only [s_law_19, mSeq, mFor, dSeq, dVar, List.getElem?_cons_zero, List.getElem?_cons_succ]
  refine loopG (is := []) (prim qs) _ _ ex 0 rfl rfl fun sl' h1 h2 h3 => ?_
  have e1 : (prim qs).foldl gcdS 0 = 1 := prim_gcd hq.l hq.m hq.2.2
  rw [e1] at h2
  obtain ⟨zz, hz⟩ : ∃ zz, sl'[13]? = some zz := ⟨sl'[13], List.getElem?_eq_getElem (by omega)⟩
  have e : sl' = [z0, (some (.loc 0)), z2, z3, z4, z5, z6, z7, z8, (some (.lst (qs.map rD))), (some (.lst (qs.map rD))), (some (.lst ((prim qs).map D.int))), (some (.int 1)), zz, z14, z15, z16, z17, z18, z19, z20] := by
    refine List.ext_getElem? fun j => ?_
    by_cases a : j = 12
    · subst a; rw [h2]; rfl
    · by_cases b : j = 13
      · subst b; rw [hz]; rfl
      · rw [h3 j a b]
        match j, a, b with
        | 0, _, _ => rfl
        | 1, _, _ => rfl
        | 2, _, _ => rfl
        | 3, _, _ => rfl
        | 4, _, _ => rfl
        | 5, _, _ => rfl
        | 6, _, _ => rfl
        | 7, _, _ => rfl
        | 8, _, _ => rfl
        | 9, _, _ => rfl
        | 10, _, _ => rfl
        | 11, _, _ => rfl
        | 14, _, _ => rfl
        | 15, _, _ => rfl
        | 16, _, _ => rfl
        | 17, _, _ => rfl
        | 18, _, _ => rfl
        | 19, _, _ => rfl
        | 20, _, _ => rfl
        | n + 21, _, _ => rfl
  rw [e]
  exact k zz


theorem any_false {bs : List Bool} (h : ∀ b ∈ bs, b = false) : bs.any id = false := by
  rw [List.any_eq_false]
  intro b hb
  rw [h b hb]; decide
theorem truA_false : ∀ n : Nat, truA (List.replicate n (D.bl false)) = some (List.replicate n false)
  | 0 => rfl
  | n + 1 => by
    rw [List.replicate_succ, List.replicate_succ]
    unfold truA
    rw [truA_false n]
    rfl
theorem any_rep (n : Nat) : (List.replicate n false).any id = false := any_false fun b hb => (List.mem_replicate.mp hb).2

theorem st20 {u : DS} {E : DEnds} {ex : SL → Addr → D → Str → MH → Prop} {z0 z2 z3 z4 z5 z6 z7 z8 z13 z14 z15 z16 z17 z18 z19 z20 : Option D} {dk0 : List D} {qs : List Rat} (hq : Rw qs) (k :  u E { sl := [z0, (some (.loc 0)), z2, z3, z4, z5, z6, z7, z8, (some (.lst (qs.map rD))), (some (.lst (qs.map rD))), (some (.lst ((prim qs).map D.int))), (some (.int 1)), z13, z14, z15, z16, z17, z18, z19, z20], ex := ex } [.lst dk0]) : mSeq s_law_20 u E { sl := [z0, (some (.loc 0)), z2, z3, z4, z5, z6, z7, z8, (some (.lst (qs.map rD))), (some (.lst (qs.map rD))), (some (.lst ((prim qs).map D.int))), (some (.int 1)), z13, z14, z15, z16, z17, z18, z19, z20], ex := ex } [.lst dk0] := by
  simp only [s_law_20, dIsi, tyD, dNe, pyM, D.dat, py, shap_int, eqv_int, List.length_map, prim_len, dAny, dLc, dSeq, wipeD, mSeq, mPar, mSet, mAsg, mWhile, mFor, mIf, mRet, mRetN, mNext, mPut, mDrop, dCons, dNil, dCB, dAbs, dInt, dLen, dVar, dC, slP, dOp, dUn, dNeg, dSub, dAdd, ml0, dMd, dFd, dI, dI0, dCmpI, dLt, dLe, dGt, dGe, dTest, dTestB, dTru, dTup, dLst, dCallP, dCallI, callIK, dAndV, dOrV, dNotV, dAnd, dOr, dNot, dIf, RH.put, List.length, List.map, List.getElem?_cons_zero, List.getElem?_cons_succ, List.cons_append, List.nil_append, List.append_nil, List.set, Nat.reduceSub, List.replicate, prepA, nw, p_int, p_bl, p_non, p_str, D.plain, plainA, Bool.and_true, Bool.true_and, if_true, Bool.or_false, Bool.false_or, resK, rdS, rdL, bindP, bindPs]
  refine ⟨by decide, ?_⟩
  rw [if_neg (by decide)]
  refine ⟨⟨trivial, trivial⟩, ?_⟩
  rw [if_neg (by simp)]
  refine ⟨⟨trivial, trivial⟩, ?_⟩
  rw [if_neg (by decide)]
  refine ⟨hq.z, ?_⟩
  refine lcD_enc D.int (fun _ => D.bl false) (fun _ h => by cases h) (prim qs) [] _ (fun i hi R' hR' => ?_) ?_
  · simp only [rB, dIsi, tyD, mSeq, mPar, mSet, mAsg, mWhile, mFor, mIf, mRet, mRetN, mNext, mPut, mDrop, dCons, dNil, dCB, dAbs, dInt, dLen, dVar, dC, slP, dOp, dUn, dNeg, dSub, dAdd, ml0, dMd, dFd, dI, dI0, dCmpI, dLt, dLe, dGt, dGe, dTest, dTestB, dTru, dTup, dLst, dCallP, dCallI, callIK, dAndV, dOrV, dNotV, dAnd, dOr, dNot, dIf, RH.put, List.length, List.map, List.getElem?_cons_zero, List.getElem?_cons_succ, List.cons_append, List.nil_append, List.append_nil, List.set, Nat.reduceSub, List.replicate, prepA, nw, p_int, p_bl, p_non, p_str, D.plain, plainA, Bool.and_true, Bool.true_and, if_true, Bool.or_false, Bool.false_or, resK, rdS, rdL, bindP, bindPs]
    refine ⟨by decide, ?_⟩
    rw [if_neg (by decide)]
    exact ⟨by decide, hR'⟩
  · have e : ([] ++ (prim qs).map fun _ => D.bl false) = List.replicate (prim qs).length (D.bl false) := by
      rw [List.nil_append, List.map_const']
    rw [e]
    simp only [truA_false, any_rep, mSeq, mPar, mSet, mAsg, mWhile, mFor, mIf, mRet, mRetN, mNext, mPut, mDrop, dCons, dNil, dCB, dAbs, dInt, dLen, dVar, dC, slP, dOp, dUn, dNeg, dSub, dAdd, ml0, dMd, dFd, dI, dI0, dCmpI, dLt, dLe, dGt, dGe, dTest, dTestB, dTru, dTup, dLst, dCallP, dCallI, callIK, dAndV, dOrV, dNotV, dAnd, dOr, dNot, dIf, RH.put, List.length, List.map, List.getElem?_cons_zero, List.getElem?_cons_succ, List.cons_append, List.nil_append, List.append_nil, List.set, Nat.reduceSub, List.replicate, prepA, nw, p_int, p_bl, p_non, p_str, D.plain, plainA, Bool.and_true, Bool.true_and, if_true, Bool.or_false, Bool.false_or, resK, rdS, rdL, bindP, bindPs]
    exact k


def at_ (qs : List Rat) (i : Nat) : Rat := qs.getD i 0
theorem at_get {qs : List Rat} {i : Nat} (h : i < qs.length) : qs[i]? = some (at_ qs i) := by
  unfold at_
  rw [List.getD_eq_getElem?_getD, List.getElem?_eq_getElem h]
  rfl
theorem at_mem {qs : List Rat} {i : Nat} (h : i < qs.length) : at_ qs i ∈ qs := List.mem_of_getElem? (at_get h)
theorem atI_nat {α : Type} {xs : List α} {i : Nat} (h : i < xs.length) : atI xs (i : Int) = xs[i]? := by
  unfold atI ixN
  rw [if_pos (by omega), if_pos (by omega)]
  simp
theorem rx {qs : List Rat} {i : Nat} (h : i < qs.length) (M : MH) (R : DK) : dIx (.lst (qs.map rD)) (.int (i : Int)) M R = R (rD (at_ qs i)) M := by
  have e : atI (qs.map rD) (i : Int) = some (rD (at_ qs i)) := by
    rw [atI_nat (by rw [List.length_map]; exact h), List.getElem?_map, at_get h]
    rfl
  simp only [dIx, rdS, rdL, e]
theorem tx {qs : List Rat} {i : Nat} (h : i < qs.length) (M : MH) (R : DK) : dIx (.lst ((prim qs).map D.int)) (.int (i : Int)) M R = R (.int ((itq qs (at_ qs i)).fdiv (gq qs))) M := by
  have e : atI ((prim qs).map D.int) (i : Int) = some (.int ((itq qs (at_ qs i)).fdiv (gq qs))) := by
    rw [atI_nat (by rw [List.length_map, prim_len]; exact h), List.getElem?_map, prim_eq, List.getElem?_map, at_get h]
    rfl
  simp only [dIx, rdS, rdL, e]
theorem lcD_filtG {α : Type} {i : Nat} {sl0 : SL} {mt : DT} {me : DE} {M : MH} (enc f : α → D) (p : α → Bool) : ∀ (xs : List α) (acc : List D) (M0 : MH) (R : List D → MH → Prop),
    (∀ x ∈ xs, ∀ R' : Bool → MH → Prop, R' (p x) M → mt (rB (sl0.set i (some (enc x)))) M R') → (∀ x ∈ xs, ∀ R' : DK, R' (f x) M → me (rB (sl0.set i (some (enc x)))) M R') →
    R (acc ++ (xs.filter p).map f) M → lcD (.nm i) mt me sl0 [] M0 (xs.map enc) acc M R
  | [], acc, M0, R, _, _, h => by simpa [lcD] using h
  | x :: xs, acc, M0, R, ht, hm, h => by
    simp only [lcD, bindP, List.map]
    refine ht x (List.mem_cons_self ..) _ ?_
    have next : ∀ acc, R (acc ++ (xs.filter p).map f) M → lcD (.nm i) mt me sl0 [] M0 (xs.map enc) acc M R := fun acc h => lcD_filtG enc f p xs acc M0 R (fun q hq => ht q (List.mem_cons_of_mem _ hq)) (fun q hq => hm q (List.mem_cons_of_mem _ hq)) h
    cases hp : p x with
    | true =>
      rw [if_pos rfl]
      refine hm x (List.mem_cons_self ..) _ ⟨fun _ z => (by cases z), next _ ?_⟩
      rw [List.filter_cons_of_pos hp] at h
      rw [List.append_assoc]
      exact h
    | false =>
      rw [if_neg Bool.false_ne_true]
      rw [List.filter_cons_of_neg (by rw [hp]; decide)] at h
      exact ⟨fun _ z => (by cases z), next _ h⟩
theorem rng0 (n : Nat) : rng 0 n = (List.range n).map fun i : Nat => D.int (i : Int) := by
  unfold rng
  refine List.map_congr_left fun i _ => ?_
  rw [Int.zero_add]
theorem lead_ok {qs : List Rat} (h : Rw qs) : ∃ l ls, (List.range qs.length).filter (fun i => decide ((at_ qs i).num ≠ 0)) = l :: ls ∧ l < qs.length := by
  obtain ⟨q, hq, n0⟩ := h.2.2
  obtain ⟨i, hi, e⟩ := List.getElem_of_mem hq
  have hm : i ∈ (List.range qs.length).filter (fun i => decide ((at_ qs i).num ≠ 0)) := by
    refine List.mem_filter.mpr ⟨List.mem_range.mpr hi, decide_eq_true fun z => n0 ?_⟩
    have := at_get hi
    rw [List.getElem?_eq_getElem hi, e] at this
    rw [Option.some.inj this]
    exact Rat.num_eq_zero.mp z
  cases e : (List.range qs.length).filter (fun i => decide ((at_ qs i).num ≠ 0)) with
  | nil => rw [e] at hm; cases hm
  | cons l ls =>
    have hl : l ∈ (List.range qs.length).filter (fun i => decide ((at_ qs i).num ≠ 0)) := by rw [e]; exact List.mem_cons_self ..
    exact ⟨l, ls, rfl, List.mem_range.mp (List.mem_filter.mp hl).1⟩
theorem c0 {d : D} {ds : List D} : atI (d :: ds) 0 = some d := by
  have := atI_nat (xs := d :: ds) (i := 0) (by simp)
  exact this
theorem rng_room (h : 30 ≤ sizeLine) {n : Nat} (hn : n ≤ 30) : (rng 0 n).length ≤ sizeLine := by rw [rng_len]; omega

theorem st21 {u : DS} {E : DEnds} {ex : SL → Addr → D → Str → MH → Prop} {z0 z2 z3 z4 z5 z6 z7 z8 z13 z14 z15 z16 z17 z18 z19 z20 : Option D} {dk0 : List D} {qs : List Rat} (hq : Rw qs) (k : ∀ l : Nat, l < qs.length → u E { sl := [z0, (some (.loc 0)), z2, z3, z4, z5, z6, z7, z8, (some (.lst (qs.map rD))), (some (.lst (qs.map rD))), (some (.lst ((prim qs).map D.int))), (some (.int 1)), z13, (some (.int (l : Int))), z15, z16, z17, z18, z19, z20], ex := ex } [.lst dk0]) : mSeq s_law_21 u E { sl := [z0, (some (.loc 0)), z2, z3, z4, z5, z6, z7, z8, (some (.lst (qs.map rD))), (some (.lst (qs.map rD))), (some (.lst ((prim qs).map D.int))), (some (.int 1)), z13, z14, z15, z16, z17, z18, z19, z20], ex := ex } [.lst dk0] := by
  simp only [s_law_21, dLc, dRng1, wipeD, List.length_map, mSeq, mPar, mSet, mAsg, mWhile, mFor, mIf, mRet, mRetN, mNext, mPut, mDrop, dCons, dNil, dCB, dAbs, dInt, dLen, dVar, dC, slP, dOp, dUn, dNeg, dSub, dAdd, ml0, dMd, dFd, dI, dI0, dCmpI, dLt, dLe, dGt, dGe, dTest, dTestB, dTru, dTup, dLst, dCallP, dCallI, callIK, dAndV, dOrV, dNotV, dAnd, dOr, dNot, dIf, RH.put, List.length, List.map, List.getElem?_cons_zero, List.getElem?_cons_succ, List.cons_append, List.nil_append, List.append_nil, List.set, Nat.reduceSub, List.replicate, prepA, nw, p_int, p_bl, p_non, p_str, D.plain, plainA, Bool.and_true, Bool.true_and, if_true, Bool.or_false, Bool.false_or, resK, rdS, rdL, bindP, bindPs]
  have h30 := hq.1
  refine ⟨⟨by omega, by omega⟩, rng_room (by decide) (by omega), ?_⟩
  rw [Int.toNat_natCast, rng0]
  refine lcD_filtG (fun i : Nat => D.int (i : Int)) (fun i : Nat => D.int (i : Int)) (fun i => decide ((at_ qs i).num ≠ 0)) (List.range qs.length) _ _ _ (fun i hi R' hR' => ?_) (fun i hi R' hR' => ?_) ?_
  · have hi' := List.mem_range.mp hi
    simp only [rB, rx hi', ix0, dNe, pyM, D.dat, py, shap_int, eqv_int, mSeq, mPar, mSet, mAsg, mWhile, mFor, mIf, mRet, mRetN, mNext, mPut, mDrop, dCons, dNil, dCB, dAbs, dInt, dLen, dVar, dC, slP, dOp, dUn, dNeg, dSub, dAdd, ml0, dMd, dFd, dI, dI0, dCmpI, dLt, dLe, dGt, dGe, dTest, dTestB, dTru, dTup, dLst, dCallP, dCallI, callIK, dAndV, dOrV, dNotV, dAnd, dOr, dNot, dIf, RH.put, List.length, List.map, List.getElem?_cons_zero, List.getElem?_cons_succ, List.cons_append, List.nil_append, List.append_nil, List.set, Nat.reduceSub, List.replicate, prepA, nw, p_int, p_bl, p_non, p_str, D.plain, plainA, Bool.and_true, Bool.true_and, if_true, Bool.or_false, Bool.false_or, resK, rdS, rdL, bindP, bindPs]
    refine ⟨⟨trivial, trivial⟩, ?_⟩
    have e : (!((at_ qs i).num == 0)) = decide ((at_ qs i).num ≠ 0) := by
      by_cases h : (at_ qs i).num = 0 <;> simp [h]
    rw [e]
    exact hR'
  · simp only [rB, mSeq, mPar, mSet, mAsg, mWhile, mFor, mIf, mRet, mRetN, mNext, mPut, mDrop, dCons, dNil, dCB, dAbs, dInt, dLen, dVar, dC, slP, dOp, dUn, dNeg, dSub, dAdd, ml0, dMd, dFd, dI, dI0, dCmpI, dLt, dLe, dGt, dGe, dTest, dTestB, dTru, dTup, dLst, dCallP, dCallI, callIK, dAndV, dOrV, dNotV, dAnd, dOr, dNot, dIf, RH.put, List.length, List.map, List.getElem?_cons_zero, List.getElem?_cons_succ, List.cons_append, List.nil_append, List.append_nil, List.set, Nat.reduceSub, List.replicate, prepA, nw, p_int, p_bl, p_non, p_str, D.plain, plainA, Bool.and_true, Bool.true_and, if_true, Bool.or_false, Bool.false_or, resK, rdS, rdL, bindP, bindPs]
    exact hR'
  · obtain ⟨l, ls, e, hl⟩ := lead_ok hq
    rw [e]
    simp only [c0, mSeq, mPar, mSet, mAsg, mWhile, mFor, mIf, mRet, mRetN, mNext, mPut, mDrop, dCons, dNil, dCB, dAbs, dInt, dLen, dVar, dC, slP, dOp, dUn, dNeg, dSub, dAdd, dMul, dMd, dFd, dI, dI0, dCmpI, dLt, dLe, dGt, dGe, dTest, dTestB, dTru, dTup, dLst, dIx, dCallP, dCallI, callIK, dAndV, dOrV, dNotV, dAnd, dOr, dNot, dIf, RH.put, List.length, List.map, List.getElem?_cons_zero, List.getElem?_cons_succ, List.cons_append, List.nil_append, List.append_nil, List.set, Nat.reduceSub, List.replicate, prepA, nw, p_int, p_bl, p_non, p_str, D.plain, plainA, Bool.and_true, Bool.true_and, if_true, Bool.or_false, Bool.false_or, resK, rdS, rdL, bindP, bindPs]
    exact k l hl


theorem shap_bl (a : Bool) : SeqAt.shaped (.bool a) = true := rfl
theorem eqv_bl (a b : Bool) : PyData.eqv (.bool a) (.bool b) = (a == b) := rfl
theorem told_sm {qs : List Rat} (hq : Rw qs) {q : Rat} (h : q ∈ qs) : Sm 4800 ((itq qs q).fdiv (gq qs)) := by
  obtain ⟨_, h2, _⟩ := itq_ok hq.l hq.m h
  obtain ⟨g0, _, gd⟩ := gq_ok hq.l hq.m hq.2.2
  rw [Int.fdiv_eq_ediv_of_dvd (gd q h)]
  unfold Sm at *
  exact Nat.lt_of_le_of_lt (Int.natAbs_ediv_le_natAbs ..) h2

theorem st22 {u : DS} {E : DEnds} {ex : SL → Addr → D → Str → MH → Prop} {z0 z2 z3 z4 z5 z6 z7 z8 z13 z15 z16 z17 z18 z19 z20 : Option D} {dk0 : List D} {qs : List Rat} {l : Nat} (hq : Rw qs) (hl : l < qs.length) (k :  u E { sl := [z0, (some (.loc 0)), z2, z3, z4, z5, z6, z7, z8, (some (.lst (qs.map rD))), (some (.lst (qs.map rD))), (some (.lst ((prim qs).map D.int))), (some (.int 1)), z13, (some (.int (l : Int))), z15, z16, z17, z18, z19, z20], ex := ex } [.lst dk0]) : mSeq s_law_22 u E { sl := [z0, (some (.loc 0)), z2, z3, z4, z5, z6, z7, z8, (some (.lst (qs.map rD))), (some (.lst (qs.map rD))), (some (.lst ((prim qs).map D.int))), (some (.int 1)), z13, (some (.int (l : Int))), z15, z16, z17, z18, z19, z20], ex := ex } [.lst dk0] := by
  simp only [s_law_22, rx hl, tx hl, ix0, dNe, pyM, D.dat, py, shap_bl, eqv_bl, mSeq, mPar, mSet, mAsg, mWhile, mFor, mIf, mRet, mRetN, mNext, mPut, mDrop, dCons, dNil, dCB, dAbs, dInt, dLen, dVar, dC, slP, dOp, dUn, dNeg, dSub, dAdd, ml0, dMd, dFd, dI, dI0, dCmpI, dLt, dLe, dGt, dGe, dTest, dTestB, dTru, dTup, dLst, dCallP, dCallI, callIK, dAndV, dOrV, dNotV, dAnd, dOr, dNot, dIf, RH.put, List.length, List.map, List.getElem?_cons_zero, List.getElem?_cons_succ, List.cons_append, List.nil_append, List.append_nil, List.set, Nat.reduceSub, List.replicate, prepA, nw, p_int, p_bl, p_non, p_str, D.plain, plainA, Bool.and_true, Bool.true_and, if_true, Bool.or_false, Bool.false_or, resK, rdS, rdL, bindP, bindPs]
  refine ⟨⟨trivial, trivial⟩, ?_⟩
  have e : decide (0 < (itq qs (at_ qs l)).fdiv (gq qs)) = decide (0 < (at_ qs l).num) := decide_eq_decide.mpr (prim_sign hq.l hq.m hq.2.2 (at_mem hl))
  simp only [e, beq_self_eq_true, Bool.not_true, Bool.false_eq_true, if_false]
  exact k

theorem st23 {u : DS} {E : DEnds} {ex : SL → Addr → D → Str → MH → Prop} {z0 z2 z3 z4 z5 z6 z7 z8 z13 z15 z16 z17 z18 z19 z20 : Option D} {dk0 : List D} {qs : List Rat} {l : Nat} (hq : Rw qs) (hl : l < qs.length) (k :  u E { sl := [z0, (some (.loc 0)), z2, z3, z4, z5, z6, z7, z8, (some (.lst (qs.map rD))), (some (.lst (qs.map rD))), (some (.lst ((prim qs).map D.int))), (some (.int 1)), z13, (some (.int (l : Int))), z15, z16, z17, z18, z19, z20], ex := ex } [.lst dk0]) : mSeq s_law_23 u E { sl := [z0, (some (.loc 0)), z2, z3, z4, z5, z6, z7, z8, (some (.lst (qs.map rD))), (some (.lst (qs.map rD))), (some (.lst ((prim qs).map D.int))), (some (.int 1)), z13, (some (.int (l : Int))), z15, z16, z17, z18, z19, z20], ex := ex } [.lst dk0] := by
  simp only [s_law_23, dAny, dLc, dRng1, wipeD, List.length_map, mSeq, mPar, mSet, mAsg, mWhile, mFor, mIf, mRet, mRetN, mNext, mPut, mDrop, dCons, dNil, dCB, dAbs, dInt, dLen, dVar, dC, slP, dOp, dUn, dNeg, dSub, dAdd, ml0, dMd, dFd, dI, dI0, dCmpI, dLt, dLe, dGt, dGe, dTest, dTestB, dTru, dTup, dLst, dCallP, dCallI, callIK, dAndV, dOrV, dNotV, dAnd, dOr, dNot, dIf, RH.put, List.length, List.map, List.getElem?_cons_zero, List.getElem?_cons_succ, List.cons_append, List.nil_append, List.append_nil, List.set, Nat.reduceSub, List.replicate, prepA, nw, p_int, p_bl, p_non, p_str, D.plain, plainA, Bool.and_true, Bool.true_and, if_true, Bool.or_false, Bool.false_or, resK, rdS, rdL, bindP, bindPs]
  have h30 := hq.1
  refine ⟨⟨by omega, by omega⟩, rng_room (by decide) (by omega), ?_⟩
  rw [Int.toNat_natCast, rng0]
  refine lcD_enc (fun i : Nat => D.int (i : Int)) (fun _ => D.bl false) (fun _ h => by cases h) (List.range qs.length) [] _ (fun i hi R' hR' => ?_) ?_
  · have hi' := List.mem_range.mp hi
    have t1 := told_sm hq (at_mem hi')
    have t2 := told_sm hq (at_mem hl)
    have m1 := hq.2.1 _ (at_mem hi')
    have m2 := hq.2.1 _ (at_mem hl)
    simp only [rB, rx hi', rx hl, tx hi', tx hl, ix0, ix1, dNe, pyM, D.dat, py, shap_int, eqv_int, mSeq, mPar, mSet, mAsg, mWhile, mFor, mIf, mRet, mRetN, mNext, mPut, mDrop, dCons, dNil, dCB, dAbs, dInt, dLen, dVar, dC, slP, dOp, dUn, dNeg, dSub, dAdd, ml0, dMd, dFd, dI, dI0, dCmpI, dLt, dLe, dGt, dGe, dTest, dTestB, dTru, dTup, dLst, dCallP, dCallI, callIK, dAndV, dOrV, dNotV, dAnd, dOr, dNot, dIf, RH.put, List.length, List.map, List.getElem?_cons_zero, List.getElem?_cons_succ, List.cons_append, List.nil_append, List.append_nil, List.set, Nat.reduceSub, List.replicate, prepA, nw, p_int, p_bl, p_non, p_str, D.plain, plainA, Bool.and_true, Bool.true_and, if_true, Bool.or_false, Bool.false_or, resK, rdS, rdL, bindP, bindPs]
    refine ⟨mulOk t1 m2.1 (by decide), mulOk (sm_mul t1 m2.1 (Nat.le_refl _)) (smR_den m1) (by decide), mulOk t2 m1.1 (by decide), mulOk (sm_mul t2 m1.1 (Nat.le_refl _)) (smR_den m2) (by decide), ⟨trivial, trivial⟩, ?_⟩
    rw [prim_cross hq.l hq.m hq.2.2 (at_mem hi') (at_mem hl)]
    simpa using hR'
  · have e : ([] ++ (List.range qs.length).map fun _ => D.bl false) = List.replicate (List.range qs.length).length (D.bl false) := by
      rw [List.nil_append, List.map_const']
    rw [e]
    simp only [truA_false, any_rep, Bool.false_eq_true, if_false, mSeq, mPar, mSet, mAsg, mWhile, mFor, mIf, mRet, mRetN, mNext, mPut, mDrop, dCons, dNil, dCB, dAbs, dInt, dLen, dVar, dC, slP, dOp, dUn, dNeg, dSub, dAdd, ml0, dMd, dFd, dI, dI0, dCmpI, dLt, dLe, dGt, dGe, dTest, dTestB, dTru, dTup, dLst, dCallP, dCallI, callIK, dAndV, dOrV, dNotV, dAnd, dOr, dNot, dIf, RH.put, List.length, List.map, List.getElem?_cons_zero, List.getElem?_cons_succ, List.cons_append, List.nil_append, List.append_nil, List.set, Nat.reduceSub, List.replicate, prepA, nw, p_int, p_bl, p_non, p_str, D.plain, plainA, Bool.and_true, Bool.true_and, if_true, Bool.or_false, Bool.false_or, resK, rdS, rdL, bindP, bindPs]
    exact k


def oddL : List D := [.tup [.int 2, .int 4], .tup [.int 1, .int 0], .tup [.int 1, .int (-2)], .tup [.int 0, .int 2], .tup [.int 0, .int 1], .tup [.int 3, .int 1], .lst [.int 1, .int 2], .tup [.int 1, .int 2, .int 3], .tup [.int 1], .non, .int 1, .tup [.bl true, .int 1], .tup [.int 1, .bl true], .tup [.non, .int 2], .str "12", .tup [.int (-3), .int 2]]
def t01 : D := .tup [.int 0, .int 1]
def inB (d : D) : Bool := (PyData.tuple [.int 3, .int 1]).eqv (py d) || (PyData.tuple [.int (-3), .int 2]).eqv (py d)
structure OddOk (d : D) : Prop where
  a : okA d = true
  g : Gd 60 100 d
  e : inB d = true ∧ isFr d = true ∨ inB d = false ∧ ((d = t01 ∧ isFr d = true) ∨ ((py d).eqv (py t01) = false ∧ isFr d = false))
theorem odd_ok : ∀ d ∈ oddL, OddOk d := by
  have g : ∀ d : D, d.dat = true → (py d).canLay0 = true → decide ((py d).depth ≤ 60) = true → (py d).showable = true → decide ((py d).bulk ≤ 100) = true → Gd 60 100 d := fun d a b c e f => ⟨a, b, of_decide_eq_true c, e, of_decide_eq_true f⟩
  intro d hd
  simp only [oddL, List.mem_cons, List.not_mem_nil, or_false] at hd
  rcases hd with rfl | rfl | rfl | rfl | rfl | rfl | rfl | rfl | rfl | rfl | rfl | rfl | rfl | rfl | rfl | rfl
  all_goals refine ⟨by decide +kernel, g _ (by decide +kernel) (by decide +kernel) (by decide +kernel) (by decide +kernel) (by decide +kernel), ?_⟩
  all_goals first
    | exact .inl ⟨by decide +kernel, by decide +kernel⟩
    | exact .inr ⟨by decide +kernel, .inl ⟨rfl, by decide +kernel⟩⟩
    | exact .inr ⟨by decide +kernel, .inr ⟨by decide +kernel, by decide +kernel⟩⟩

theorem st24 {u : DS} {E : DEnds} {ex : SL → Addr → D → Str → MH → Prop} {z0 z1 z2 z3 z4 z5 z6 z7 z8 z9 z10 z11 z12 z13 z14 z15 z16 z17 z18 z19 z20 : Option D} {M : MH} (k :  u E { sl := [z0, z1, z2, z3, z4, z5, z6, z7, z8, z9, z10, z11, z12, z13, z14, (some (.lst oddL)), z16, z17, z18, z19, z20], ex := ex } M) : mSeq s_law_24 u E { sl := [z0, z1, z2, z3, z4, z5, z6, z7, z8, z9, z10, z11, z12, z13, z14, z15, z16, z17, z18, z19, z20], ex := ex } M := by
  simp only [s_law_24, mSeq, mPar, mSet, mAsg, mWhile, mFor, mIf, mRet, mRetN, mNext, mPut, mDrop, dCons, dNil, dCB, dAbs, dInt, dLen, dVar, dC, slP, dOp, dUn, dNeg, dSub, dAdd, ml0, dMd, dFd, dI, dI0, dCmpI, dLt, dLe, dGt, dGe, dTest, dTestB, dTru, dTup, dLst, dCallP, dCallI, callIK, dAndV, dOrV, dNotV, dAnd, dOr, dNot, dIf, RH.put, List.length, List.map, List.getElem?_cons_zero, List.getElem?_cons_succ, List.cons_append, List.nil_append, List.append_nil, List.set, Nat.reduceSub, List.replicate, prepA, nw, p_int, p_bl, p_non, p_str, D.plain, plainA, Bool.and_true, Bool.true_and, if_true, Bool.or_false, Bool.false_or, resK, rdS, rdL, bindP, bindPs]
  refine ⟨by decide, by decide, by decide, by decide, by decide, by decide, by decide, by decide, by decide, by decide, by decide, by decide, by decide, by decide, ?_⟩
  exact k

theorem st25 {u : DS} {E : DEnds} {ex : SL → Addr → D → Str → MH → Prop} {z0 z2 z3 z4 z5 z6 z7 z8 z9 z10 z11 z12 z13 z14 z16 z17 z18 z19 z20 : Option D} {dk0 : List D} (hd : Dk dk0) (k : ∀ d dk1, d ∈ oddL → Dk dk1 → u E { sl := [z0, (some (.loc 0)), z2, z3, z4, z5, z6, z7, z8, z9, z10, z11, z12, z13, z14, (some (.lst oddL)), (some d), z17, z18, z19, z20], ex := ex } [.lst dk1]) : mSeq s_law_25 u E { sl := [z0, (some (.loc 0)), z2, z3, z4, z5, z6, z7, z8, z9, z10, z11, z12, z13, z14, (some (.lst oddL)), z16, z17, z18, z19, z20], ex := ex } [.lst dk0] := by
  have hl : oddL.length = 16 := rfl
  simp only [s_law_25, hl, mSeq, mPar, mSet, mAsg, mWhile, mFor, mIf, mRet, mRetN, mNext, mPut, mDrop, dCons, dNil, dCB, dAbs, dInt, dLen, dVar, dC, slP, dOp, dUn, dNeg, dSub, dAdd, ml0, dMd, dFd, dI, dI0, dCmpI, dLt, dLe, dGt, dGe, dTest, dTestB, dTru, dTup, dLst, dCallP, dCallI, callIK, dAndV, dOrV, dNotV, dAnd, dOr, dNot, dIf, RH.put, List.length, List.map, List.getElem?_cons_zero, List.getElem?_cons_succ, List.cons_append, List.nil_append, List.append_nil, List.set, Nat.reduceSub, List.replicate, prepA, nw, p_int, p_bl, p_non, p_str, D.plain, plainA, Bool.and_true, Bool.true_and, if_true, Bool.or_false, Bool.false_or, resK, rdS, rdL, bindP, bindPs]
  refine ⟨⟨trivial, dk_plain hd, trivial⟩, draw_go (by decide) (by decide +kernel) hd fun v d1 v0 v1 h1 => ⟨dk_plain h1, ?_⟩⟩
  obtain ⟨n, rfl⟩ := Int.eq_ofNat_of_zero_le v0
  have hn : n < oddL.length := by rw [hl]; omega
  have e : atI oddL (n : Int) = some oddL[n] := by rw [atI_nat hn, List.getElem?_eq_getElem hn]
  simp only [e, mSeq, mPar, mSet, mAsg, mWhile, mFor, mIf, mRet, mRetN, mNext, mPut, mDrop, dCons, dNil, dCB, dAbs, dInt, dLen, dVar, dC, slP, dOp, dUn, dNeg, dSub, dAdd, dMul, dMd, dFd, dI, dI0, dCmpI, dLt, dLe, dGt, dGe, dTest, dTestB, dTru, dTup, dLst, dIx, dCallP, dCallI, callIK, dAndV, dOrV, dNotV, dAnd, dOr, dNot, dIf, RH.put, List.length, List.map, List.getElem?_cons_zero, List.getElem?_cons_succ, List.cons_append, List.nil_append, List.append_nil, List.set, Nat.reduceSub, List.replicate, prepA, nw, p_int, p_bl, p_non, p_str, D.plain, plainA, Bool.and_true, Bool.true_and, if_true, Bool.or_false, Bool.false_or, resK, rdS, rdL, bindP, bindPs]
  exact k _ d1 (List.getElem_mem hn) h1

theorem st26 {u : DS} {E : DEnds} {ex : SL → Addr → D → Str → MH → Prop} {z0 z1 z2 z3 z4 z5 z6 z7 z8 z9 z10 z11 z12 z13 z14 z15 z17 z18 z19 z20 : Option D} {M : MH} {d : D} (hd : OddOk d) (k :  u E { sl := [z0, z1, z2, z3, z4, z5, z6, z7, z8, z9, z10, z11, z12, z13, z14, z15, (some d), z17, z18, z19, z20], ex := ex } M) : mSeq s_law_26 u E { sl := [z0, z1, z2, z3, z4, z5, z6, z7, z8, z9, z10, z11, z12, z13, z14, z15, (some d), z17, z18, z19, z20], ex := ex } M := by
  have pd : ∀ M, prep1 M d = some (d, false) := fun M => prep1_plain (dat_plain hd.g.dat)
  have g1 : Gd 60 8000 d := hd.g.mono (by decide) (by decide)
  have g2 : Gd 60 8000 t01 := ⟨rfl, rfl, by decide, by decide, by decide⟩
  have sh : SeqAt.shaped (py d) = true := g1.shap (by decide)
  have gb : ∀ b : Bool, Gd 60 8000 (.bl b) := fun b => g_bl
  have pL : ∀ M : MH, pyM M (.lst [.tup [.int 3, .int 1], .tup [.int (-3), .int 2]]) = some (.list [.tuple [.int 3, .int 1], .tuple [.int (-3), .int 2]]) := fun _ => rfl
  have hany : (false ^^ ([PyData.tuple [.int 3, .int 1], .tuple [.int (-3), .int 2]].any fun z => z.eqv (py d))) = inB d := by simp [inB]
  simp only [s_law_26, pd, dIn, pyM_dat hd.g.dat, pL, sh, hany, p_rD, mSeq, mPar, mSet, mAsg, mWhile, mFor, mIf, mRet, mRetN, mNext, mPut, mDrop, dCons, dNil, dCB, dAbs, dInt, dLen, dVar, dC, slP, dOp, dUn, dNeg, dSub, dAdd, ml0, dMd, dFd, dI, dI0, dCmpI, dLt, dLe, dGt, dGe, dTest, dTestB, dTru, dTup, dLst, dCallP, dCallI, callIK, dAndV, dOrV, dNotV, dAnd, dOr, dNot, dIf, RH.put, List.length, List.map, List.getElem?_cons_zero, List.getElem?_cons_succ, List.cons_append, List.nil_append, List.append_nil, List.set, Nat.reduceSub, List.replicate, prepA, nw, p_int, p_bl, p_non, p_str, D.plain, plainA, Bool.and_true, Bool.true_and, if_true, Bool.or_false, Bool.false_or, resK, rdS, rdL, bindP, bindPs]
  refine ⟨trivial, d, rfl, hd.a, fun z => (by cases z), by decide, by decide, by decide, ⟨trivial, by decide⟩, ?_⟩
  rcases hd.e with ⟨h1, h2⟩ | ⟨h1, h2⟩
  · simp only [h1, h2, if_true, mSeq, mPar, mSet, mAsg, mWhile, mFor, mIf, mRet, mRetN, mNext, mPut, mDrop, dCons, dNil, dCB, dAbs, dInt, dLen, dVar, dC, slP, dOp, dUn, dNeg, dSub, dAdd, ml0, dMd, dFd, dI, dI0, dCmpI, dLt, dLe, dGt, dGe, dTest, dTestB, dTru, dTup, dLst, dCallP, dCallI, callIK, dAndV, dOrV, dNotV, dAnd, dOr, dNot, dIf, RH.put, List.length, List.map, List.getElem?_cons_zero, List.getElem?_cons_succ, List.cons_append, List.nil_append, List.append_nil, List.set, Nat.reduceSub, List.replicate, prepA, nw, p_int, p_bl, p_non, p_str, D.plain, plainA, Bool.and_true, Bool.true_and, if_true, Bool.or_false, Bool.false_or, resK, rdS, rdL, bindP, bindPs]
    refine ⟨trivial, _, _, rfl, gb _, gb _, .inl ⟨rfl, fun z => (by cases z), ?_⟩⟩
    simp only [Bool.not_true, Bool.false_eq_true, if_false, mSeq, mPar, mSet, mAsg, mWhile, mFor, mIf, mRet, mRetN, mNext, mPut, mDrop, dCons, dNil, dCB, dAbs, dInt, dLen, dVar, dC, slP, dOp, dUn, dNeg, dSub, dAdd, ml0, dMd, dFd, dI, dI0, dCmpI, dLt, dLe, dGt, dGe, dTest, dTestB, dTru, dTup, dLst, dCallP, dCallI, callIK, dAndV, dOrV, dNotV, dAnd, dOr, dNot, dIf, RH.put, List.length, List.map, List.getElem?_cons_zero, List.getElem?_cons_succ, List.cons_append, List.nil_append, List.append_nil, List.set, Nat.reduceSub, List.replicate, prepA, nw, p_int, p_bl, p_non, p_str, D.plain, plainA, Bool.and_true, Bool.true_and, if_true, Bool.or_false, Bool.false_or, resK, rdS, rdL, bindP, bindPs]
    exact k
  · simp only [h1, Bool.false_eq_true, if_false, mSeq, mPar, mSet, mAsg, mWhile, mFor, mIf, mRet, mRetN, mNext, mPut, mDrop, dCons, dNil, dCB, dAbs, dInt, dLen, dVar, dC, slP, dOp, dUn, dNeg, dSub, dAdd, ml0, dMd, dFd, dI, dI0, dCmpI, dLt, dLe, dGt, dGe, dTest, dTestB, dTru, dTup, dLst, dCallP, dCallI, callIK, dAndV, dOrV, dNotV, dAnd, dOr, dNot, dIf, RH.put, List.length, List.map, List.getElem?_cons_zero, List.getElem?_cons_succ, List.cons_append, List.nil_append, List.append_nil, List.set, Nat.reduceSub, List.replicate, prepA, nw, p_int, p_bl, p_non, p_str, D.plain, plainA, Bool.and_true, Bool.true_and, if_true, Bool.or_false, Bool.false_or, resK, rdS, rdL, bindP, bindPs]
    refine ⟨by decide, trivial, d, t01, rfl, g1, g2, ?_⟩
    rcases h2 with ⟨h2, h3⟩ | ⟨h2, h3⟩
    · refine .inl ⟨h2, fun z => (by cases z), ?_⟩
      simp only [h3, mSeq, mPar, mSet, mAsg, mWhile, mFor, mIf, mRet, mRetN, mNext, mPut, mDrop, dCons, dNil, dCB, dAbs, dInt, dLen, dVar, dC, slP, dOp, dUn, dNeg, dSub, dAdd, ml0, dMd, dFd, dI, dI0, dCmpI, dLt, dLe, dGt, dGe, dTest, dTestB, dTru, dTup, dLst, dCallP, dCallI, callIK, dAndV, dOrV, dNotV, dAnd, dOr, dNot, dIf, RH.put, List.length, List.map, List.getElem?_cons_zero, List.getElem?_cons_succ, List.cons_append, List.nil_append, List.append_nil, List.set, Nat.reduceSub, List.replicate, prepA, nw, p_int, p_bl, p_non, p_str, D.plain, plainA, Bool.and_true, Bool.true_and, if_true, Bool.or_false, Bool.false_or, resK, rdS, rdL, bindP, bindPs]
      refine ⟨trivial, _, _, rfl, gb _, gb _, .inl ⟨rfl, fun z => (by cases z), ?_⟩⟩
      simp only [Bool.not_true, Bool.false_eq_true, if_false, mSeq, mPar, mSet, mAsg, mWhile, mFor, mIf, mRet, mRetN, mNext, mPut, mDrop, dCons, dNil, dCB, dAbs, dInt, dLen, dVar, dC, slP, dOp, dUn, dNeg, dSub, dAdd, ml0, dMd, dFd, dI, dI0, dCmpI, dLt, dLe, dGt, dGe, dTest, dTestB, dTru, dTup, dLst, dCallP, dCallI, callIK, dAndV, dOrV, dNotV, dAnd, dOr, dNot, dIf, RH.put, List.length, List.map, List.getElem?_cons_zero, List.getElem?_cons_succ, List.cons_append, List.nil_append, List.append_nil, List.set, Nat.reduceSub, List.replicate, prepA, nw, p_int, p_bl, p_non, p_str, D.plain, plainA, Bool.and_true, Bool.true_and, if_true, Bool.or_false, Bool.false_or, resK, rdS, rdL, bindP, bindPs]
      exact k
    · refine .inr ⟨h2, fun z => (by cases z), ?_⟩
      simp only [h3, mSeq, mPar, mSet, mAsg, mWhile, mFor, mIf, mRet, mRetN, mNext, mPut, mDrop, dCons, dNil, dCB, dAbs, dInt, dLen, dVar, dC, slP, dOp, dUn, dNeg, dSub, dAdd, ml0, dMd, dFd, dI, dI0, dCmpI, dLt, dLe, dGt, dGe, dTest, dTestB, dTru, dTup, dLst, dCallP, dCallI, callIK, dAndV, dOrV, dNotV, dAnd, dOr, dNot, dIf, RH.put, List.length, List.map, List.getElem?_cons_zero, List.getElem?_cons_succ, List.cons_append, List.nil_append, List.append_nil, List.set, Nat.reduceSub, List.replicate, prepA, nw, p_int, p_bl, p_non, p_str, D.plain, plainA, Bool.and_true, Bool.true_and, if_true, Bool.or_false, Bool.false_or, resK, rdS, rdL, bindP, bindPs]
      refine ⟨trivial, _, _, rfl, gb _, gb _, .inl ⟨rfl, fun z => (by cases z), ?_⟩⟩
      simp only [Bool.not_true, Bool.false_eq_true, if_false, mSeq, mPar, mSet, mAsg, mWhile, mFor, mIf, mRet, mRetN, mNext, mPut, mDrop, dCons, dNil, dCB, dAbs, dInt, dLen, dVar, dC, slP, dOp, dUn, dNeg, dSub, dAdd, ml0, dMd, dFd, dI, dI0, dCmpI, dLt, dLe, dGt, dGe, dTest, dTestB, dTru, dTup, dLst, dCallP, dCallI, callIK, dAndV, dOrV, dNotV, dAnd, dOr, dNot, dIf, RH.put, List.length, List.map, List.getElem?_cons_zero, List.getElem?_cons_succ, List.cons_append, List.nil_append, List.append_nil, List.set, Nat.reduceSub, List.replicate, prepA, nw, p_int, p_bl, p_non, p_str, D.plain, plainA, Bool.and_true, Bool.true_and, if_true, Bool.or_false, Bool.false_or, resK, rdS, rdL, bindP, bindPs]
      exact k


theorem isFr_rD (x : Rat) : isFr (rD x) = true := by
  have h1 : (0 : Int) < x.den := by have := x.den_pos; omega
  have h2 : Int.gcd x.num x.den = 1 := by
    have := x.reduced
    unfold Nat.Coprime at this
    unfold Int.gcd
    rw [Int.natAbs_natCast]
    exact this
  simp only [rD, isFr]
  exact decide_eq_true ⟨h1, h2⟩
theorem okA_rD (x : Rat) : okA (rD x) = true := rfl
/-- points that may come -/
structure Gp (gs : List D) (ws : List Rat) : Prop where
  e : gs = ws.map rD
  l : 1 ≤ ws.length ∧ ws.length ≤ 4
theorem pl_map (ws : List Rat) : plainA (ws.map rD) = true := by
  induction ws with
  | nil => rfl
  | cons w ws ih => exact ih
theorem all_rD (ws : List Rat) : (ws.map rD).all isFr = true ∧ (ws.map rD).all okA = true := by
  induction ws with
  | nil => exact ⟨rfl, rfl⟩
  | cons w ws ih => exact ⟨by rw [List.map_cons, List.all_cons, isFr_rD, ih.1]; rfl, by rw [List.map_cons, List.all_cons, okA_rD, ih.2]; rfl⟩

theorem st27 {u : DS} {E : DEnds} {ex : SL → Addr → D → Str → MH → Prop} {z0 z2 z3 z4 z5 z8 z9 z10 z11 z12 z13 z14 z15 z16 z17 z18 z19 z20 : Option D} {dk0 : List D} {x y : Rat} (hd : Dk dk0) (k : ∀ (ws : List Rat) dk1, 1 ≤ ws.length → ws.length ≤ 4 → Dk dk1 → u E { sl := [z0, (some (.loc 0)), z2, z3, z4, z5, (some (rD x)), (some (rD y)), z8, z9, z10, z11, z12, z13, z14, z15, z16, (some (.tup (ws.map rD))), z18, z19, z20], ex := ex } [.lst dk1]) : mSeq s_law_27 u E { sl := [z0, (some (.loc 0)), z2, z3, z4, z5, (some (rD x)), (some (rD y)), z8, z9, z10, z11, z12, z13, z14, z15, z16, z17, z18, z19, z20], ex := ex } [.lst dk0] := by
  simp only [s_law_27, mSeq, mPar, mSet, mAsg, mWhile, mFor, mIf, mRet, mRetN, mNext, mPut, mDrop, dCons, dNil, dCB, dAbs, dInt, dLen, dVar, dC, slP, dOp, dUn, dNeg, dSub, dAdd, ml0, dMd, dFd, dI, dI0, dCmpI, dLt, dLe, dGt, dGe, dTest, dTestB, dTru, dTup, dLst, dCallP, dCallI, callIK, dAndV, dOrV, dNotV, dAnd, dOr, dNot, dIf, RH.put, List.length, List.map, List.getElem?_cons_zero, List.getElem?_cons_succ, List.cons_append, List.nil_append, List.append_nil, List.set, Nat.reduceSub, List.replicate, prepA, nw, p_int, p_bl, p_non, p_str, D.plain, plainA, Bool.and_true, Bool.true_and, if_true, Bool.or_false, Bool.false_or, resK, rdS, rdL, bindP, bindPs]
  refine ⟨by decide, by decide, by decide, by decide, by decide, by decide, ⟨trivial, dk_plain hd, trivial⟩, draw_go (by decide) (by decide +kernel) hd fun v d1 v0 v1 h1 => ⟨dk_plain h1, ?_⟩⟩
  have hv : v = 0 ∨ v = 1 ∨ v = 2 ∨ v = 3 := by omega
  rcases hv with rfl | rfl | rfl | rfl
  · exact k [x] d1 (by simp) (by simp) h1
  · exact k [x, y] d1 (by simp) (by simp) h1
  · exact k [x, y, 0] d1 (by simp) (by simp) h1
  · exact k [x, y, x, y] d1 (by simp) (by simp) h1


/-- what is spoilt -/
structure Sp (n : Nat) (sp : D) : Prop where
  a : okP sp = true
  p : sp.plain = true
  f1 : isPt sp (n : Int) = false
  f2 : isPt sp ((n : Int) + 2) = false
theorem sp_len {n m : Nat} {ds : List D} (h : ds.length = m) (hm : m ≤ 10) (h1 : m ≠ n) (h2 : m ≠ n + 2) (ho : ds.all okA = true) (hp : plainA ds = true) : Sp n (.tup ds) := by
  refine ⟨?_, hp, ?_, ?_⟩
  · show (decide (ds.length ≤ 1000) && ds.all okA) = true
    rw [ho, Bool.and_true]
    exact decide_eq_true (by omega)
  · have e : decide ((ds.length : Int) = n) = false := decide_eq_false (by omega)
    simp only [isPt, e, Bool.false_and]
  · have e : decide ((ds.length : Int) = (n : Int) + 2) = false := decide_eq_false (by omega)
    simp only [isPt, e, Bool.false_and]
theorem sp_bad {n m : Nat} {ds : List D} (h : ds.length = m) (hm : m ≤ 10) (h2 : m ≠ n + 2) (hb : ds.all isFr = false) (ho : ds.all okA = true) (hp : plainA ds = true) : Sp n (.tup ds) := by
  refine ⟨?_, hp, ?_, ?_⟩
  · show (decide (ds.length ≤ 1000) && ds.all okA) = true
    rw [ho, Bool.and_true]
    exact decide_eq_true (by omega)
  · simp only [isPt, hb, Bool.and_false]
  · have e : decide ((ds.length : Int) = (n : Int) + 2) = false := decide_eq_false (by omega)
    simp only [isPt, e, Bool.false_and]
theorem plainA_app : ∀ {ds es : List D}, plainA ds = true → plainA es = true → plainA (ds ++ es) = true
  | [], _, _, h => h
  | d :: ds, es, h, g => by
    have h' : (D.plain d && plainA ds) = true := h
    rw [Bool.and_eq_true] at h'
    show (D.plain d && plainA (ds ++ es)) = true
    rw [h'.1, plainA_app h'.2 g]; rfl
theorem cut_init {ds : List D} (h : 1 ≤ ds.length) : DL.cutD ds none (some (-1)) = ds.take (ds.length - 1) := by
  unfold DL.cutD HT.sIx
  dsimp only
  rw [if_pos (by decide), List.drop_zero, Nat.sub_zero]
  congr 1
  omega
theorem take_map (ws : List Rat) (n : Nat) : (ws.map rD).take n = (ws.take n).map rD := by rw [List.map_take]

theorem st28 {u : DS} {E : DEnds} {ex : SL → Addr → D → Str → MH → Prop} {z0 z2 z3 z4 z5 z6 z7 z8 z9 z10 z11 z12 z13 z14 z15 z18 z19 z20 : Option D} {dk0 : List D} {d : D} {ws : List Rat} (hd : Dk dk0) (ho : OddOk d) (h1 : 1 ≤ ws.length) (h4 : ws.length ≤ 4) (k : ∀ sp dk1, Sp ws.length sp → Dk dk1 → u E { sl := [z0, (some (.loc 0)), z2, z3, z4, z5, z6, z7, z8, z9, z10, z11, z12, z13, z14, z15, (some d), (some (.tup (ws.map rD))), (some sp), z19, z20], ex := ex } [.lst dk1]) : mSeq s_law_28 u E { sl := [z0, (some (.loc 0)), z2, z3, z4, z5, z6, z7, z8, z9, z10, z11, z12, z13, z14, z15, (some d), (some (.tup (ws.map rD))), z18, z19, z20], ex := ex } [.lst dk0] := by
  have pd := dat_plain ho.g.dat
  have z10 : 10 ≤ sizeLine := by decide
  have hl : (ws.map rD).length = ws.length := List.length_map ..
  simp only [s_law_28, dList, dSl, dSlV, dPart, dNoPart, mSeq, mPar, mSet, mAsg, mWhile, mFor, mIf, mRet, mRetN, mNext, mPut, mDrop, dCons, dNil, dCB, dAbs, dInt, dLen, dVar, dC, slP, dOp, dUn, dNeg, dSub, dAdd, ml0, dMd, dFd, dI, dI0, dCmpI, dLt, dLe, dGt, dGe, dTest, dTestB, dTru, dTup, dLst, dCallP, dCallI, callIK, dAndV, dOrV, dNotV, dAnd, dOr, dNot, dIf, RH.put, List.length, List.map, List.getElem?_cons_zero, List.getElem?_cons_succ, List.cons_append, List.nil_append, List.append_nil, List.set, Nat.reduceSub, List.replicate, prepA, nw, p_int, p_bl, p_non, p_str, D.plain, plainA, Bool.and_true, Bool.true_and, if_true, Bool.or_false, Bool.false_or, resK, rdS, rdL, bindP, bindPs]
  have hc : DL.cutD (ws.map rD) none (some (-1)) = (ws.take (ws.length - 1)).map rD := by
    rw [cut_init (by rw [hl]; exact h1), hl, take_map]
  have hcl : (ws.take (ws.length - 1)).length = ws.length - 1 := by rw [List.length_take]; omega
  rw [hc]
  refine ⟨by decide, by rw [hl]; omega, by decide, by rw [List.length_map, hcl]; omega, by decide, by decide, ⟨trivial, dk_plain hd, trivial⟩, draw_go (by decide) (by decide +kernel) hd fun v d1 v0 v1 g1 => ⟨dk_plain g1, ?_⟩⟩
  have ap := all_rD ws
  have ap2 := all_rD (ws.take (ws.length - 1))
  have hv : v = 0 ∨ v = 1 ∨ v = 2 ∨ v = 3 ∨ v = 4 := by omega
  have okg : okA (.tup (ws.map rD)) = true := by
    show (ws.map rD).all okV = true
    clear hc hcl ap ap2 hl h1 h4 k
    induction ws with
    | nil => rfl
    | cons w ws ih => exact ih
  have nfr : isFr (.tup (ws.map rD)) = false := by
    match ws, h1 with
    | [w], _ => rfl
    | [w, w2], _ => rfl
    | w :: w2 :: w3 :: r, _ => rfl
  rcases hv with rfl | rfl | rfl | rfl | rfl
  · exact k _ d1 ⟨by show plainA (ws.map rD) = true; exact pl_map ws, pl_map ws, rfl, rfl⟩ g1
  · exact k _ d1 (sp_len (m := ws.length + 1) (by simp) (by omega) (by omega) (by omega) (by rw [List.all_append, ap.2]; simp [ho.a]) (plainA_app (pl_map ws) (by show (d.plain && true) = true; rw [pd]; rfl))) g1
  · exact k _ d1 (sp_bad (m := ws.length) (by rw [List.length_append, List.length_map, hcl]; simp; omega) (by omega) (by omega) (by rw [List.all_append]; simp [isFr]) (by rw [List.all_append, ap2.2]; rfl) (plainA_app (pl_map _) rfl)) g1
  · exact k _ d1 (sp_bad (m := 1) rfl (by omega) (by omega) (by simp [nfr]) (by simp [okg]) (by show (plainA (ws.map rD) && true) = true; rw [pl_map]; rfl)) g1
  · exact k _ d1 (sp_len (m := ws.length - 1) (by rw [List.length_map, hcl]) (by omega) (by omega) (by omega) ap2.2 (pl_map _)) g1

theorem st29 {u : DS} {E : DEnds} {ex : SL → Addr → D → Str → MH → Prop} {z0 z2 z3 z4 z5 z6 z7 z8 z9 z10 z11 z12 z13 z14 z15 z19 z20 : Option D} {M : MH} {sp : D} {d : D} {ws : List Rat} (k :  u E { sl := [z0, (some (.loc 0)), z2, z3, z4, z5, z6, z7, z8, z9, z10, z11, z12, z13, z14, z15, (some d), (some (.tup (ws.map rD))), (some sp), (some (.int (ws.length : Int))), z20], ex := ex } M) : mSeq s_law_29 u E { sl := [z0, (some (.loc 0)), z2, z3, z4, z5, z6, z7, z8, z9, z10, z11, z12, z13, z14, z15, (some d), (some (.tup (ws.map rD))), (some sp), z19, z20], ex := ex } M := by
  simp only [s_law_29, List.length_map, mSeq, mPar, mSet, mAsg, mWhile, mFor, mIf, mRet, mRetN, mNext, mPut, mDrop, dCons, dNil, dCB, dAbs, dInt, dLen, dVar, dC, slP, dOp, dUn, dNeg, dSub, dAdd, ml0, dMd, dFd, dI, dI0, dCmpI, dLt, dLe, dGt, dGe, dTest, dTestB, dTru, dTup, dLst, dCallP, dCallI, callIK, dAndV, dOrV, dNotV, dAnd, dOr, dNot, dIf, RH.put, List.length, List.map, List.getElem?_cons_zero, List.getElem?_cons_succ, List.cons_append, List.nil_append, List.append_nil, List.set, Nat.reduceSub, List.replicate, prepA, nw, p_int, p_bl, p_non, p_str, D.plain, plainA, Bool.and_true, Bool.true_and, if_true, Bool.or_false, Bool.false_or, resK, rdS, rdL, bindP, bindPs]
  exact k


theorem okP_ws {ws : List Rat} (h : ws.length ≤ 10) : okP (.tup (ws.map rD)) = true := by
  show (decide ((ws.map rD).length ≤ 1000) && (ws.map rD).all okA) = true
  rw [(all_rD ws).2, Bool.and_true, List.length_map]
  exact decide_eq_true (by omega)
theorem isPt_ws (ws : List Rat) (n : Int) : isPt (.tup (ws.map rD)) n = decide ((ws.length : Int) = n) := by
  simp only [isPt, (all_rD ws).1, Bool.and_true, List.length_map]

theorem st30 {u : DS} {E : DEnds} {ex : SL → Addr → D → Str → MH → Prop} {z0 z2 z3 z4 z5 z6 z7 z8 z9 z10 z11 z12 z13 z14 z15 z20 : Option D} {M : MH} {sp d : D} {ws : List Rat} (hs : Sp ws.length sp) (h1 : 1 ≤ ws.length) (h4 : ws.length ≤ 4) (k :  u E { sl := [z0, (some (.loc 0)), z2, z3, z4, z5, z6, z7, z8, z9, z10, (some (.lst [.bl true, .bl false, .bl false, .bl false, .bl true, .bl true])), z12, z13, z14, z15, (some d), (some (.tup (ws.map rD))), (some sp), (some (.int (ws.length : Int))), z20], ex := ex } M) : mSeq s_law_30 u E { sl := [z0, (some (.loc 0)), z2, z3, z4, z5, z6, z7, z8, z9, z10, z11, z12, z13, z14, z15, (some d), (some (.tup (ws.map rD))), (some sp), (some (.int (ws.length : Int))), z20], ex := ex } M := by
  have pg : ∀ M, prep1 M (.tup (ws.map rD)) = some (.tup (ws.map rD), false) := fun M => prep1_plain (pl_map ws)
  have pg2 : ∀ M, prep1 M (.tup (ws.map rD ++ ws.map rD)) = some (.tup (ws.map rD ++ ws.map rD), false) := fun M => prep1_plain (plainA_app (pl_map ws) (pl_map ws))
  have psp : ∀ M, prep1 M sp = some (sp, false) := fun M => prep1_plain hs.p
  have p0 : ∀ M, prep1 M (.tup []) = some (.tup [], false) := fun M => rfl
  have hl : (ws.map rD).length = ws.length := List.length_map ..
  have z10 : 10 ≤ sizeLine := by decide
  simp only [s_law_30, pg, pg2, psp, p0, hl, mSeq, mPar, mSet, mAsg, mWhile, mFor, mIf, mRet, mRetN, mNext, mPut, mDrop, dCons, dNil, dCB, dAbs, dInt, dLen, dVar, dC, slP, dOp, dUn, dNeg, dSub, dAdd, ml0, dMd, dFd, dI, dI0, dCmpI, dLt, dLe, dGt, dGe, dTest, dTestB, dTru, dTup, dLst, dCallP, dCallI, callIK, dAndV, dOrV, dNotV, dAnd, dOr, dNot, dIf, RH.put, List.length, List.map, List.getElem?_cons_zero, List.getElem?_cons_succ, List.cons_append, List.nil_append, List.append_nil, List.set, Nat.reduceSub, List.replicate, prepA, nw, p_int, p_bl, p_non, p_str, D.plain, plainA, Bool.and_true, Bool.true_and, if_true, Bool.or_false, Bool.false_or, resK, rdS, rdL, bindP, bindPs]
  refine ⟨trivial, _, _, rfl, okP_ws (by omega), fun z => (by cases z), trivial, _, _, rfl, okP_ws (by omega), fun z => (by cases z), trivial, _, _, rfl, hs.a, fun z => (by cases z), trivial, _, _, rfl, hs.a, fun z => (by cases z), by decide, trivial, _, _, rfl, rfl, fun z => (by cases z), by omega, mulK' (by decide), trivial, _, _, rfl, ?_, fun z => (by cases z), by decide, ?_⟩
  · rw [← List.map_append]
    exact okP_ws (by rw [List.length_append]; omega)
  · have e1 : isPt (.tup (ws.map rD)) (ws.length : Int) = true := by rw [isPt_ws]; exact decide_eq_true rfl
    have e2 : isPt (.tup (ws.map rD)) ((ws.length : Int) + 1) = false := by rw [isPt_ws]; exact decide_eq_false (by omega)
    have e3 : isPt (.tup []) 0 = true := rfl
    have e4 : isPt (.tup (ws.map rD ++ ws.map rD)) (2 * (ws.length : Int)) = true := by
      rw [← List.map_append, isPt_ws]
      exact decide_eq_true (by rw [List.length_append]; omega)
    rw [e1, e2, hs.f1, hs.f2, e3, e4]
    exact k


theorem h_law : specP 1 N_law.length false m_law pf_law := by
  rintro ds R RE hl ⟨ns, rfl, hn, hR⟩
  unfold m_law
  refine st0 hn fun dk0 hd0 => st1 hd0 fun a b0 c d0 dk1 sa sb0 sc sd0 hd1 => st2 sb0 sd0 fun b d hb hd sb sd => ?_
  have s_a := sm30 sa
  have s_b := sm30 sb
  have s_c := sm30 sc
  have s_d := sm30 sd
  have sx : SmR 100 (Rat.divInt a b) := smR_divInt hb s_a s_b
  have sy : SmR 100 (Rat.divInt c d) := smR_divInt hd s_c s_d
  refine st3 hb hd s_b s_d (st4 rfl rfl hb hd s_a s_b s_c s_d (st5 rfl rfl hb hd s_a s_b s_c s_d (st6 sx sy (st7 (st8 rfl rfl hb hd s_a s_b s_c s_d (st9 sx sy (st10 sx sy (st11 hd1 sx sy fun ps dk2 hd2 hps => st12 hd2 hps fun q1 dk3 hd3 r1 l1 => st13 hd3 r1 l1 fun q2 dk4 hd4 r2 => st14 hd4 r2 fun qs dk5 hd5 hq => st15 (st16 hq (st17 hq (st18 (st19 hq fun zz => st20 hq (st21 hq fun l hl => st22 hq hl (st23 hq hl (st24 (st25 hd5 fun v dk6 hv hd6 => st26 (odd_ok v hv) (st27 hd6 fun ws dk7 w1 w4 hd7 => st28 hd7 (odd_ok v hv) w1 w4 fun sp dk8 hsp hd8 => st29 (st30 hsp w1 w4 ?_))))))))))))))))))
  have g : Gd 60 8000 (.lst [.bl true, .bl false, .bl false, .bl false, .bl true, .bl true]) := ⟨rfl, rfl, by decide, rfl, by decide⟩
  simp only [s_law_31, p_lst g, mSeq, mPar, mSet, mAsg, mWhile, mFor, mIf, mRet, mRetN, mNext, mPut, mDrop, dCons, dNil, dCB, dAbs, dInt, dLen, dVar, dC, slP, dOp, dUn, dNeg, dSub, dAdd, ml0, dMd, dFd, dI, dI0, dCmpI, dLt, dLe, dGt, dGe, dTest, dTestB, dTru, dTup, dLst, dCallP, dCallI, callIK, dAndV, dOrV, dNotV, dAnd, dOr, dNot, dIf, RH.put, List.length, List.map, List.getElem?_cons_zero, List.getElem?_cons_succ, List.cons_append, List.nil_append, List.append_nil, List.set, Nat.reduceSub, List.replicate, prepA, nw, p_int, p_bl, p_non, p_str, D.plain, plainA, Bool.and_true, Bool.true_and, if_true, Bool.or_false, Bool.false_or, resK, rdS, rdL, bindP, bindPs]
  exact ⟨by decide, trivial, _, _, rfl, g, g, .inl ⟨rfl, fun z => (by cases z), rfl, hR⟩⟩

end K01

set_option Elab.async false
set_option linter.all false
set_option maxRecDepth 100000
set_option maxHeartbeats 0
namespace K01
open PySem PySem.Spec PyProof.Rows L2 DL
/-! ### the head -/
def initOf : Stmt → Stmt
  | .ClassDef (body := b) .. => b.getD 0 (.Pass ⟨0, 0, 0, 0⟩)
  | s => s
abbrev in_CutError : Stmt := initOf (top 1)
abbrev in_NothingThere : Stmt := initOf (top 2)
def sd_CutError : SupD := ⟨"CutError", "CutError.__init__", defArgs in_CutError, defBody in_CutError, defScope in_CutError⟩
def sd_NothingThere : SupD := ⟨"NothingThere", "NothingThere.__init__", defArgs in_NothingThere, defBody in_NothingThere, defScope in_NothingThere⟩
def dd_common : He.DefD := ⟨("common", none), "common", "common", defArgs st_common, defBody st_common, defScope st_common, [], []⟩
def dd_fraction : He.DefD := ⟨("fraction", none), "fraction", "fraction", defArgs st_fraction, defBody st_fraction, defScope st_fraction, [], []⟩
def dd_plus : He.DefD := ⟨("plus", none), "plus", "plus", defArgs st_plus, defBody st_plus, defScope st_plus, [], []⟩
def dd_opposite_of : He.DefD := ⟨("opposite_of", none), "opposite_of", "opposite_of", defArgs st_opposite_of, defBody st_opposite_of, defScope st_opposite_of, [], []⟩
def dd_less : He.DefD := ⟨("less", none), "less", "less", defArgs st_less, defBody st_less, defScope st_less, [], []⟩
def dd_times : He.DefD := ⟨("times", none), "times", "times", defArgs st_times, defBody st_times, defScope st_times, [], []⟩
def dd_over : He.DefD := ⟨("over", none), "over", "over", defArgs st_over, defBody st_over, defScope st_over, [], []⟩
def dd_sign_of : He.DefD := ⟨("sign_of", none), "sign_of", "sign_of", defArgs st_sign_of, defBody st_sign_of, defScope st_sign_of, [], []⟩
def dd_below : He.DefD := ⟨("below", none), "below", "below", defArgs st_below, defBody st_below, defScope st_below, [], []⟩
def dd_is_integer : He.DefD := ⟨("is_integer", none), "is_integer", "is_integer", defArgs st_is_integer, defBody st_is_integer, defScope st_is_integer, [], []⟩
def dd_is_fraction : He.DefD := ⟨("is_fraction", none), "is_fraction", "is_fraction", defArgs st_is_fraction, defBody st_is_fraction, defScope st_is_fraction, [], []⟩
def dd_is_point : He.DefD := ⟨("is_point", none), "is_point", "is_point", defArgs st_is_point, defBody st_is_point, defScope st_is_point, [], []⟩
def dd_primitive : He.DefD := ⟨("primitive", none), "primitive", "primitive", defArgs st_primitive, defBody st_primitive, defScope st_primitive, [], []⟩
def dd__law_deck : He.DefD := ⟨("_law_deck", none), "_law_deck", "_law_deck", defArgs st__law_deck, defBody st__law_deck, defScope st__law_deck, [], []⟩
def dd__law_draw : He.DefD := ⟨("_law_draw", none), "_law_draw", "_law_draw", defArgs st__law_draw, defBody st__law_draw, defScope st__law_draw, [], []⟩
def dd__law_is : He.DefD := ⟨("_law_is", none), "_law_is", "_law_is", defArgs st__law_is, defBody st__law_is, defScope st__law_is, [], []⟩
def dd__law_gcd : He.DefD := ⟨("_law_gcd", none), "_law_gcd", "_law_gcd", defArgs st__law_gcd, defBody st__law_gcd, defScope st__law_gcd, [], []⟩
def dd__law_frac : He.DefD := ⟨("_law_frac", none), "_law_frac", "_law_frac", defArgs st__law_frac, defBody st__law_frac, defScope st__law_frac, [], []⟩
def dd__law_sign : He.DefD := ⟨("_law_sign", none), "_law_sign", "_law_sign", defArgs st__law_sign, defBody st__law_sign, defScope st__law_sign, [], []⟩
def dd__law_number : He.DefD := ⟨("_law_number", none), "_law_number", "_law_number", defArgs st__law_number, defBody st__law_number, defScope st__law_number, [], []⟩
def dd__law_over : He.DefD := ⟨("_law_over", none), "_law_over", "_law_over", defArgs st__law_over, defBody st__law_over, defScope st__law_over, [], []⟩
def dd_law : He.DefD := ⟨("law", none), "law", "law", defArgs st_law, defBody st_law, defScope st_law, [], []⟩
def hx : HkX where
  file := P.main.file
  fa := [.glo "common", .glo "fraction", .glo "plus", .glo "opposite_of", .glo "less", .glo "times", .glo "over", .glo "sign_of", .glo "below", .glo "is_integer", .glo "is_fraction", .glo "is_point", .glo "primitive", .glo "_law_deck", .glo "_law_draw", .glo "_law_is", .glo "_law_gcd", .glo "_law_frac", .glo "_law_sign", .glo "_law_number", .glo "_law_over", .glo "law", .glo "CutError", .glo "NothingThere", .free "abs", .free "all", .free "any", .free "bool", .free "int", .free "isinstance", .free "len", .free "list", .free "range", .free "repr", .free "tuple", .free "super"]
  fn := [dd_common, dd_fraction, dd_plus, dd_opposite_of, dd_less, dd_times, dd_over, dd_sign_of, dd_below, dd_is_integer, dd_is_fraction, dd_is_point, dd_primitive, dd__law_deck, dd__law_draw, dd__law_is, dd__law_gcd, dd__law_frac, dd__law_sign, dd__law_number, dd__law_over, dd_law]
  sx := [sd_CutError, sd_NothingThere]
  ex := [⟨"CutError", "CutError"⟩, ⟨"NothingThere", "CutError"⟩]
  mm := [("CutError", "CutError", true), ("NothingThere", "NothingThere", true)]
abbrev R : PySem.W.OpenRow := PySem.W.OpenLaw.row PySem.Challenge.rw_planecuts_k01_fractions
abbrev hk : PySem.W.Hook := hookX 4 hx
def ob (s : PySem.W.SharedT) : AlX := obsXG 4 hx (HandSHeadRun.getT s)
theorem ob_eq (s : PySem.W.SharedT) : ob s = hk.obs s.abs := obsXG_eq (HandSHeadRun.getT_eq s)
def loose : List PySem.Str := ["CutError", "NothingThere", "common", "fraction", "plus", "opposite_of", "less", "times", "over", "sign_of", "below", "is_integer", "is_fraction", "is_point", "primitive", "_law_deck", "_law_draw", "_law_is", "_law_gcd", "_law_frac", "_law_plus", "_law_times", "_law_sign", "_law_dot", "_law_number", "_law_over"]
theorem run (w : World) : HandSHeadRun.RunEq R (PySem.W.view R.prog [29]) hk ob 4000 loose w := by
  intro os
  kernel_rfl
theorem facts {w : World} {K : PySem.W.Frag} {h : Heap} {mg : Str → Option Value} {f : Addr} (X : K.In h) (G : h.Ns mainGlobals mg) (hfa : mg ("law" : Str) = some (.ref f)) (c : SaysX hx K) :
    ∃ fd : FuncData, (∀ (s : Shared) (v : Value), BindsTo s fd ⟨[v], []⟩ [("script", v)]) ∧ ∀ base : Heap, K.In base → base.Ns mainGlobals mg → FnG P w K mg base 5 f fd ["script"] (spP K 1 false pf_law) := by
  obtain ⟨fd_common, F_common⟩ := c.d.def_ 0 (d := dd_common) rfl
  obtain ⟨fd_fraction, F_fraction⟩ := c.d.def_ 1 (d := dd_fraction) rfl
  obtain ⟨fd_plus, F_plus⟩ := c.d.def_ 2 (d := dd_plus) rfl
  obtain ⟨fd_opposite_of, F_opposite_of⟩ := c.d.def_ 3 (d := dd_opposite_of) rfl
  obtain ⟨fd_less, F_less⟩ := c.d.def_ 4 (d := dd_less) rfl
  obtain ⟨fd_times, F_times⟩ := c.d.def_ 5 (d := dd_times) rfl
  obtain ⟨fd_over, F_over⟩ := c.d.def_ 6 (d := dd_over) rfl
  obtain ⟨fd_sign_of, F_sign_of⟩ := c.d.def_ 7 (d := dd_sign_of) rfl
  obtain ⟨fd_below, F_below⟩ := c.d.def_ 8 (d := dd_below) rfl
  obtain ⟨fd_is_integer, F_is_integer⟩ := c.d.def_ 9 (d := dd_is_integer) rfl
  obtain ⟨fd_is_fraction, F_is_fraction⟩ := c.d.def_ 10 (d := dd_is_fraction) rfl
  obtain ⟨fd_is_point, F_is_point⟩ := c.d.def_ 11 (d := dd_is_point) rfl
  obtain ⟨fd_primitive, F_primitive⟩ := c.d.def_ 12 (d := dd_primitive) rfl
  obtain ⟨fd__law_deck, F__law_deck⟩ := c.d.def_ 13 (d := dd__law_deck) rfl
  obtain ⟨fd__law_draw, F__law_draw⟩ := c.d.def_ 14 (d := dd__law_draw) rfl
  obtain ⟨fd__law_is, F__law_is⟩ := c.d.def_ 15 (d := dd__law_is) rfl
  obtain ⟨fd__law_gcd, F__law_gcd⟩ := c.d.def_ 16 (d := dd__law_gcd) rfl
  obtain ⟨fd__law_frac, F__law_frac⟩ := c.d.def_ 17 (d := dd__law_frac) rfl
  obtain ⟨fd__law_sign, F__law_sign⟩ := c.d.def_ 18 (d := dd__law_sign) rfl
  obtain ⟨fd__law_number, F__law_number⟩ := c.d.def_ 19 (d := dd__law_number) rfl
  obtain ⟨fd__law_over, F__law_over⟩ := c.d.def_ 20 (d := dd__law_over) rfl
  obtain ⟨fd_law, F_law⟩ := c.d.def_ 21 (d := dd_law) rfl
  have g_common : mg "common" = some (.ref (He.ga K "common")) := He.glo_ok X G (c.d.fact 0 (f := .glo "common") rfl)
  have g_fraction : mg "fraction" = some (.ref (He.ga K "fraction")) := He.glo_ok X G (c.d.fact 1 (f := .glo "fraction") rfl)
  have g_plus : mg "plus" = some (.ref (He.ga K "plus")) := He.glo_ok X G (c.d.fact 2 (f := .glo "plus") rfl)
  have g_opposite_of : mg "opposite_of" = some (.ref (He.ga K "opposite_of")) := He.glo_ok X G (c.d.fact 3 (f := .glo "opposite_of") rfl)
  have g_less : mg "less" = some (.ref (He.ga K "less")) := He.glo_ok X G (c.d.fact 4 (f := .glo "less") rfl)
  have g_times : mg "times" = some (.ref (He.ga K "times")) := He.glo_ok X G (c.d.fact 5 (f := .glo "times") rfl)
  have g_over : mg "over" = some (.ref (He.ga K "over")) := He.glo_ok X G (c.d.fact 6 (f := .glo "over") rfl)
  have g_sign_of : mg "sign_of" = some (.ref (He.ga K "sign_of")) := He.glo_ok X G (c.d.fact 7 (f := .glo "sign_of") rfl)
  have g_below : mg "below" = some (.ref (He.ga K "below")) := He.glo_ok X G (c.d.fact 8 (f := .glo "below") rfl)
  have g_is_integer : mg "is_integer" = some (.ref (He.ga K "is_integer")) := He.glo_ok X G (c.d.fact 9 (f := .glo "is_integer") rfl)
  have g_is_fraction : mg "is_fraction" = some (.ref (He.ga K "is_fraction")) := He.glo_ok X G (c.d.fact 10 (f := .glo "is_fraction") rfl)
  have g_is_point : mg "is_point" = some (.ref (He.ga K "is_point")) := He.glo_ok X G (c.d.fact 11 (f := .glo "is_point") rfl)
  have g_primitive : mg "primitive" = some (.ref (He.ga K "primitive")) := He.glo_ok X G (c.d.fact 12 (f := .glo "primitive") rfl)
  have g__law_deck : mg "_law_deck" = some (.ref (He.ga K "_law_deck")) := He.glo_ok X G (c.d.fact 13 (f := .glo "_law_deck") rfl)
  have g__law_draw : mg "_law_draw" = some (.ref (He.ga K "_law_draw")) := He.glo_ok X G (c.d.fact 14 (f := .glo "_law_draw") rfl)
  have g__law_is : mg "_law_is" = some (.ref (He.ga K "_law_is")) := He.glo_ok X G (c.d.fact 15 (f := .glo "_law_is") rfl)
  have g__law_gcd : mg "_law_gcd" = some (.ref (He.ga K "_law_gcd")) := He.glo_ok X G (c.d.fact 16 (f := .glo "_law_gcd") rfl)
  have g__law_frac : mg "_law_frac" = some (.ref (He.ga K "_law_frac")) := He.glo_ok X G (c.d.fact 17 (f := .glo "_law_frac") rfl)
  have g__law_sign : mg "_law_sign" = some (.ref (He.ga K "_law_sign")) := He.glo_ok X G (c.d.fact 18 (f := .glo "_law_sign") rfl)
  have g__law_number : mg "_law_number" = some (.ref (He.ga K "_law_number")) := He.glo_ok X G (c.d.fact 19 (f := .glo "_law_number") rfl)
  have g__law_over : mg "_law_over" = some (.ref (He.ga K "_law_over")) := He.glo_ok X G (c.d.fact 20 (f := .glo "_law_over") rfl)
  have g_law : mg "law" = some (.ref (He.ga K "law")) := He.glo_ok X G (c.d.fact 21 (f := .glo "law") rfl)
  have g_CutError : mg "CutError" = some (.ref (He.ga K "CutError")) := He.glo_ok X G (c.d.fact 22 (f := .glo "CutError") rfl)
  have g_NothingThere : mg "NothingThere" = some (.ref (He.ga K "NothingThere")) := He.glo_ok X G (c.d.fact 23 (f := .glo "NothingThere") rfl)
  have u_abs : mg "abs" = none := He.free_ok X G (c.d.fact 24 (f := .free "abs") rfl)
  have u_all : mg "all" = none := He.free_ok X G (c.d.fact 25 (f := .free "all") rfl)
  have u_any : mg "any" = none := He.free_ok X G (c.d.fact 26 (f := .free "any") rfl)
  have u_bool : mg "bool" = none := He.free_ok X G (c.d.fact 27 (f := .free "bool") rfl)
  have u_int : mg "int" = none := He.free_ok X G (c.d.fact 28 (f := .free "int") rfl)
  have u_isinstance : mg "isinstance" = none := He.free_ok X G (c.d.fact 29 (f := .free "isinstance") rfl)
  have u_len : mg "len" = none := He.free_ok X G (c.d.fact 30 (f := .free "len") rfl)
  have u_list : mg "list" = none := He.free_ok X G (c.d.fact 31 (f := .free "list") rfl)
  have u_range : mg "range" = none := He.free_ok X G (c.d.fact 32 (f := .free "range") rfl)
  have u_repr : mg "repr" = none := He.free_ok X G (c.d.fact 33 (f := .free "repr") rfl)
  have u_tuple : mg "tuple" = none := He.free_ok X G (c.d.fact 34 (f := .free "tuple") rfl)
  have u_super : mg "super" = none := He.free_ok X G (c.d.fact 35 (f := .free "super") rfl)
  have ub : ∀ x ∈ bls, mg (PySem.Str.ofString x) = none := by
    intro x hx
    simp only [bls, List.mem_cons, List.not_mem_nil, or_false] at hx
    rcases hx with rfl | rfl | rfl | rfl | rfl | rfl | rfl | rfl | rfl | rfl | rfl <;> assumption
  obtain ⟨fs_CutError, S_CutError⟩ := c.sup (P := P) rfl 0 (d := sd_CutError) rfl
  obtain ⟨E_CutError, n_CutError, o_CutError⟩ := c.exc 0 (e := ⟨"CutError", "CutError"⟩) rfl
  have B_CutError : BindS sd_CutError := ⟨fun _ _ _ _ _ _ _ _ _ _ _ => ⟨_, rfl, rfl⟩, fun _ _ _ _ _ _ _ _ _ _ => ⟨_, rfl, rfl⟩, fun _ _ _ _ _ _ _ _ _ _ _ => ⟨_, rfl, rfl⟩⟩
  have C_CutError : EX.SupSc (defArgs in_CutError) (defScope in_CutError) := ⟨⟨_, rfl, rfl⟩, rfl, rfl, rfl, rfl, rfl, by decide +kernel, rfl, rfl⟩
  have m_CutError : PySem.W.exmOne K (.ref (He.ga K "CutError")) (.ref (He.ga K "CutError")) = some true := c.exm 0 (p := ("CutError", "CutError", true)) rfl
  obtain ⟨fs_NothingThere, S_NothingThere⟩ := c.sup (P := P) rfl 1 (d := sd_NothingThere) rfl
  obtain ⟨E_NothingThere, n_NothingThere, o_NothingThere⟩ := c.exc 1 (e := ⟨"NothingThere", "CutError"⟩) rfl
  have B_NothingThere : BindS sd_NothingThere := ⟨fun _ _ _ _ _ _ _ _ _ _ _ => ⟨_, rfl, rfl⟩, fun _ _ _ _ _ _ _ _ _ _ => ⟨_, rfl, rfl⟩, fun _ _ _ _ _ _ _ _ _ _ _ => ⟨_, rfl, rfl⟩⟩
  have C_NothingThere : EX.SupSc (defArgs in_NothingThere) (defScope in_NothingThere) := ⟨⟨_, rfl, rfl⟩, rfl, rfl, rfl, rfl, rfl, by decide +kernel, rfl, rfl⟩
  have m_NothingThere : PySem.W.exmOne K (.ref (He.ga K "NothingThere")) (.ref (He.ga K "NothingThere")) = some true := c.exm 1 (p := ("NothingThere", "NothingThere", true)) rfl
  have up_NothingThere : PySem.W.ks_superIn K (He.ga K "NothingThere") (He.ga K "NothingThere") "__init__" = some (some (.ref (spAd K "CutError"))) := o_NothingThere.resolve_left (by decide)
  have xp_NothingThere : XP K (He.ga K "NothingThere") := ⟨E_NothingThere.xf, E_NothingThere.ox.np, E_NothingThere.ox.nw⟩
  have e := hfa.symm.trans g_law
  cases e
  have bnd := FunD.bindsA (ps := ["script"]) F_law fun _ _ _ _ _ _ us hl => match us, hl with | [_], _ => rfl
  refine ⟨fd_law, fun s v => bnd s [v] rfl, fun base KB GB => ?_⟩
  have k_NothingThere : MkC P w K mg base (He.ga K "NothingThere") "NothingThere" := mkC_high S_NothingThere E_NothingThere B_NothingThere up_NothingThere S_CutError B_CutError u_super C_NothingThere (fun env => rfl) C_CutError (fun env => rfl) (by decide +kernel)
  have c_common := cal_common (w := w) (base := base) F_common g_common ub h_common
  have c_fraction := cal_fraction (w := w) (base := base) F_fraction g_fraction ub c_common h_fraction
  have c_plus := cal_plus (w := w) (base := base) F_plus g_plus ub c_fraction h_plus
  have c_opposite_of := cal_opposite_of (w := w) (base := base) F_opposite_of g_opposite_of ub h_opposite_of
  have c_less := cal_less (w := w) (base := base) F_less g_less ub c_plus c_opposite_of h_less
  have c_times := cal_times (w := w) (base := base) F_times g_times ub c_fraction h_times
  have c_over := cal_over (w := w) (base := base) F_over g_over ub c_fraction k_NothingThere g_NothingThere (h_over _)
  have c_sign_of := cal_sign_of (w := w) (base := base) F_sign_of g_sign_of ub h_sign_of
  have c_below := cal_below (w := w) (base := base) F_below g_below ub h_below
  have c_is_integer := cal_is_integer (w := w) (base := base) F_is_integer g_is_integer ub h_is_integer
  have c_is_fraction := cal_is_fraction (w := w) (base := base) F_is_fraction g_is_fraction ub c_common c_is_integer h_is_fraction
  have c_is_point := cal_is_point (w := w) (base := base) F_is_point g_is_point ub c_is_fraction h_is_point
  have c_primitive := cal_primitive (w := w) (base := base) F_primitive g_primitive ub c_common h_primitive
  have c__law_deck := cal__law_deck (w := w) (base := base) F__law_deck g__law_deck ub h__law_deck
  have c__law_draw := cal__law_draw (w := w) (base := base) F__law_draw g__law_draw ub h__law_draw
  have c__law_is := cal__law_is (w := w) (base := base) F__law_is g__law_is ub h__law_is
  have c__law_gcd := cal__law_gcd (w := w) (base := base) F__law_gcd g__law_gcd ub h__law_gcd
  have c__law_frac := cal__law_frac (w := w) (base := base) F__law_frac g__law_frac ub c__law_gcd h__law_frac
  have c__law_sign := cal__law_sign (w := w) (base := base) F__law_sign g__law_sign ub h__law_sign
  have c__law_number := cal__law_number (w := w) (base := base) F__law_number g__law_number ub c__law_draw h__law_number
  have c__law_over := cal__law_over (w := w) (base := base) F__law_over g__law_over ub c_over k_NothingThere g_NothingThere (h__law_over K _ xp_NothingThere m_NothingThere)
  exact fnP_of F_law scope_law 1 rfl pf_law false (fun cdv A outer s H E hr => ms_law ub c_fraction c_plus c_less c_times c_sign_of c_below c_is_fraction c_is_point c_primitive c__law_deck c__law_draw c__law_is c__law_gcd c__law_frac c__law_sign c__law_number c__law_over (He.ga K "law") cdv A outer s H E hr) h_law
end K01
open PySem PySem.W PySem.Calls PyProof.Rows
theorem PySem.Challenge.cw_planecuts_k01_fractions_holds : PySem.Challenge.rw_planecuts_k01_fractions.Holds := by
  w_on; o_law
  refine HandSHeadRun.head_any (r := OpenLaw.row PySem.Challenge.rw_planecuts_k01_fractions) (q := view (OpenLaw.row PySem.Challenge.rw_planecuts_k01_fractions).prog [29]) (H := K01.hk) (ob := K01.ob) (M := 4000) (loose := K01.loose) (d := HandSHeadRun.topDef (OpenLaw.row PySem.Challenge.rw_planecuts_k01_fractions).prog 29) (kwd := []) K01.ob_eq
    (by kernel_rfl) (fun s => by kernel_rfl) K01.run (by kernel_rfl) (by kernel_rfl) (by kernel_rfl) (by rfl) (by first | assumption | decide +kernel) (by decide +kernel) ⟨rfl, rfl, rfl, rfl, rfl, by decide +kernel⟩ ?hw ?hc
  case hw => w_witness2
  case hc =>
    refine DL.walk_ofG (l := PySem.Challenge.rw_planecuts_k01_fractions) (n := 63) (k := 5) (x := "script") (m := K01.pf_law) rfl (by decide) (by kernel_rfl) (DL.roomCaller.mono (by decide)) ?F ?m
    case F =>
      intro w mg fa h Y G hmg0
      obtain ⟨K, KX, c⟩ := Y
      have hmg : mg ("law" : PySem.Str) = some (.ref fa) := by
        have e : (HandSHeadRun.topDef (OpenLaw.row PySem.Challenge.rw_planecuts_k01_fractions).prog 29).name = ("law" : PySem.Str) := by kernel_rfl
        rw [← e]
        exact hmg0
      obtain ⟨fd, hb, hF⟩ := K01.facts (w := w) KX G hmg c
      exact ⟨K, fd, KX, hb, hF⟩
    case m => exact fun ns hl _ => ⟨ns, rfl, hl, rfl⟩

