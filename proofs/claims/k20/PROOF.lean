import PyProof.Rows.All
import Wide.All
import OpenK.AllK
import Wide.FinOn
import HandS.ForMost
import HandS.Exc
import HandS.ExcInit
import HandS.TryMany
import HandS.DictTup
import HandS.DictComp
import HandS.IsInst
import HandS.CallSlots
import HandS.ExcField
import HandS.Wide
import HandS.TupAny
import HandS.Deep
import HandS.Flow
import HandS.Strs
import HandS.StrMore
import HandS.Replace
import HandS.SortInts
import HandS.ReplaceLit
import HandS.WordsExc
import HandS.Defaults
import HandS.HeadEnd
import HandS.HeadHook4
import HandS.Head2
import HandS.Head3
import HandS.EndBits
import HandS.ReplaceList
import HandS.TupLen
import HandS.Gcd
import HandS.Conv
import HandS.More
import HandS.HotCalls
import KE.KMathGC
import KE.KEqDict
import PySem.Challenge.RW_millbench_k20_versions
set_option Elab.async false
set_option linter.all false
set_option maxRecDepth 100000
set_option maxHeartbeats 1000000
namespace Pv
open PySem PySem.Spec PyProof.Rows L2

/-! ## pure values -/
inductive DK where
  | k (x : Key) | t (xs : List Key)
  deriving DecidableEq
inductive PV where
  | non | bl (b : Bool) | int (i : Int) | str (s : Str)
  | tup (xs : List PV) | ctup (xs : List PV) | lst (xs : List PV)
  | dic (kvs : List (DK × PV)) | clst (xs : List PV)
  | exn (a : Addr) (d : Option Addr) (c : Str) (fs : List (Str × PV))
def PV.imm : PV → Bool
  | .lst _ | .dic _ => false
  | _ => true

inductive IsDic : HO → List (DK × V) → Prop
  | k (kv : List (Key × V)) : IsDic (.dK kv) (kv.map fun p => (DK.k p.1, p.2))
  | t (kv : List (List Key × V)) : IsDic (.dT kv) (kv.map fun p => (DK.t p.1, p.2))

abbrev Fp := Addr → Prop
def noF : Fp := fun _ => False

mutual
/-- the value v stands for the pure value: its first n levels of lists and dicts are owned, within F; all below is shared (told by H0) -/
def Own (K : PySem.W.Frag) (H0 H : Hp) : PV → Nat → V → Fp → Prop
  | .non, _, v, _ => v = .non
  | .bl b, _, v, _ => v = .bl b
  | .int i, _, v, _ => v = .int i
  | .str s, _, v, _ => v = .str s
  | .tup xs, _, v, _ => ∃ a vs, v = .ref a ∧ H0 a = some (.tup vs) ∧ OwnL K H0 H xs 0 vs noF
  | .ctup xs, _, v, _ => ∃ a vs, v = .ref a ∧ SqT K (fun _ => none) a vs ∧ OwnL K H0 H xs 0 vs noF
  | .clst xs, _, v, _ => ∃ a vs, v = .ref a ∧ SqL K H0 a vs ∧ OwnL K H0 H xs 0 vs noF
  | .lst xs, 0, v, _ => ∃ a vs, v = .ref a ∧ H0 a = some (.lst vs) ∧ OwnL K H0 H xs 0 vs noF
  | .lst xs, n + 1, v, F => ∃ a vs, v = .ref a ∧ H a = some (.lst vs) ∧ F a ∧ OwnL K H0 H xs n vs (fun b => F b ∧ b ≠ a)
  | .dic kvs, 0, v, _ => ∃ a o u l, v = .ref a ∧ H0 a = some (.frz o u) ∧ IsDic u l ∧ OwnD K H0 H kvs 0 l noF
  | .dic kvs, n + 1, v, F => ∃ a u l, v = .ref a ∧ H a = some u ∧ IsDic u l ∧ F a ∧ OwnD K H0 H kvs n l (fun b => F b ∧ b ≠ a)
  | .exn a d _ fs, _, v, _ => v = .ref a ∧ (fs = [] ∨ ∃ dd fvs, d = some dd ∧ H0 dd = some (.xd fvs) ∧ OwnF K H0 H fs fvs)
def OwnL (K : PySem.W.Frag) (H0 H : Hp) : List PV → Nat → List V → Fp → Prop
  | [], _, vs, _ => vs = []
  | x :: xs, n, vs, F => ∃ v vs', ∃ (G : Fp), vs = v :: vs' ∧ Own K H0 H x n v (fun b => F b ∧ G b) ∧ OwnL K H0 H xs n vs' (fun b => F b ∧ ¬ G b)
def OwnD (K : PySem.W.Frag) (H0 H : Hp) : List (DK × PV) → Nat → List (DK × V) → Fp → Prop
  | [], _, l, _ => l = []
  | (k, x) :: r, n, l, F => ∃ v l', ∃ (G : Fp), l = (k, v) :: l' ∧ Own K H0 H x n v (fun b => F b ∧ G b) ∧ OwnD K H0 H r n l' (fun b => F b ∧ ¬ G b)
def OwnF (K : PySem.W.Frag) (H0 H : Hp) : List (Str × PV) → List (Str × V) → Prop
  | [], _ => True
  | (f, x) :: r, l => (∃ v, l.lookup f = some v ∧ Own K H0 H x 0 v noF) ∧ OwnF K H0 H r l
end

section
variable {K : PySem.W.Frag} {H0 H0' H H' : Hp}
theorem Same.sqT (e : Same H0 H0') {a : Addr} {xs : List V} (h : SqT K H0 a xs) : SqT K H0' a xs := by
  rcases h with (h | ⟨o, h⟩) | h
  · exact .inl (.inl (e _ _ h))
  · exact .inl (.inr ⟨o, e _ _ h⟩)
  · exact .inr h
mutual
theorem own_tr (hs : Same H0 H0') : ∀ (x : PV) (n : Nat) (v : V) (F F' : Fp), Own K H0 H x n v F → (∀ a o, F a → H a = some o → H' a = some o) → (∀ a, F a → F' a) → Own K H0' H' x n v F'
  | .non, _, _, _, _, h, _, _ => h
  | .bl _, _, _, _, _, h, _, _ => h
  | .int _, _, _, _, _, h, _, _ => h
  | .str _, _, _, _, _, h, _, _ => h
  | .tup xs, _, _, _, _, ⟨a, vs, e, h1, h2⟩, _, _ => ⟨a, vs, e, hs _ _ h1, ownL_tr hs xs 0 vs noF noF h2 (fun _ _ z => z.elim) fun _ z => z⟩
  | .ctup xs, _, _, _, _, ⟨a, vs, e, h1, h2⟩, _, _ => ⟨a, vs, e, h1, ownL_tr hs xs 0 vs noF noF h2 (fun _ _ z => z.elim) fun _ z => z⟩
  | .lst xs, 0, _, _, _, ⟨a, vs, e, h1, h2⟩, _, _ => ⟨a, vs, e, hs _ _ h1, ownL_tr hs xs 0 vs noF noF h2 (fun _ _ z => z.elim) fun _ z => z⟩
  | .clst xs, _, _, _, _, ⟨a, vs, e, h1, h2⟩, _, _ => ⟨a, vs, e, L2.Same.seq hs h1, ownL_tr hs xs 0 vs noF noF h2 (fun _ _ z => z.elim) fun _ z => z⟩
  | .lst xs, n + 1, _, F, F', ⟨a, vs, e, h1, h2, h3⟩, k, m => ⟨a, vs, e, k _ _ h2 h1, m _ h2, ownL_tr hs xs n vs _ _ h3 (fun b o z => k b o z.1) fun b z => ⟨m b z.1, z.2⟩⟩
  | .dic kvs, 0, _, _, _, ⟨a, o, u, l, e, h1, h2, h3⟩, _, _ => ⟨a, o, u, l, e, hs _ _ h1, h2, ownD_tr hs kvs 0 l noF noF h3 (fun _ _ z => z.elim) fun _ z => z⟩
  | .dic kvs, n + 1, _, F, F', ⟨a, u, l, e, h1, h2, h3, h4⟩, k, m => ⟨a, u, l, e, k _ _ h3 h1, h2, m _ h3, ownD_tr hs kvs n l _ _ h4 (fun b o z => k b o z.1) fun b z => ⟨m b z.1, z.2⟩⟩
  | .exn _ _ _ fs, _, _, _, _, ⟨e, h⟩, _, _ => ⟨e, h.imp id fun ⟨dd, fvs, e1, e2, e3⟩ => ⟨dd, fvs, e1, hs _ _ e2, ownF_tr hs fs fvs e3⟩⟩
theorem ownL_tr (hs : Same H0 H0') : ∀ (xs : List PV) (n : Nat) (vs : List V) (F F' : Fp), OwnL K H0 H xs n vs F → (∀ a o, F a → H a = some o → H' a = some o) → (∀ a, F a → F' a) → OwnL K H0' H' xs n vs F'
  | [], _, _, _, _, h, _, _ => h
  | x :: xs, n, _, F, F', ⟨v, vs', G, e, h1, h2⟩, k, m => ⟨v, vs', fun b => F b ∧ G b, e, own_tr hs x n v _ _ h1 (fun b o z => k b o z.1) fun b z => ⟨m b z.1, z⟩, ownL_tr hs xs n vs' _ _ h2 (fun b o z => k b o z.1) fun b z => ⟨m b z.1, fun y => z.2 y.2⟩⟩
theorem ownD_tr (hs : Same H0 H0') : ∀ (xs : List (DK × PV)) (n : Nat) (vs : List (DK × V)) (F F' : Fp), OwnD K H0 H xs n vs F → (∀ a o, F a → H a = some o → H' a = some o) → (∀ a, F a → F' a) → OwnD K H0' H' xs n vs F'
  | [], _, _, _, _, h, _, _ => h
  | (k', x) :: xs, n, _, F, F', ⟨v, vs', G, e, h1, h2⟩, k, m => ⟨v, vs', fun b => F b ∧ G b, e, own_tr hs x n v _ _ h1 (fun b o z => k b o z.1) fun b z => ⟨m b z.1, z⟩, ownD_tr hs xs n vs' _ _ h2 (fun b o z => k b o z.1) fun b z => ⟨m b z.1, fun y => z.2 y.2⟩⟩
theorem ownF_tr (hs : Same H0 H0') : ∀ (fs : List (Str × PV)) (l : List (Str × V)), OwnF K H0 H fs l → OwnF K H0' H' fs l
  | [], _, _ => True.intro
  | (f, x) :: r, l, ⟨⟨v, e, h⟩, h2⟩ => ⟨⟨v, e, own_tr hs x 0 v noF noF h (fun _ _ z => z.elim) fun _ z => z⟩, ownF_tr hs r l h2⟩
end
mutual
theorem own0 (hs : Same H0 H0') : ∀ (x : PV) (v : V) (F F' : Fp), Own K H0 H x 0 v F → Own K H0' H' x 0 v F'
  | .non, _, _, _, h => h
  | .bl _, _, _, _, h => h
  | .int _, _, _, _, h => h
  | .str _, _, _, _, h => h
  | .tup xs, _, _, _, ⟨a, vs, e, h1, h2⟩ => ⟨a, vs, e, hs _ _ h1, ownL0 hs xs vs noF noF h2⟩
  | .ctup xs, _, _, _, ⟨a, vs, e, h1, h2⟩ => ⟨a, vs, e, h1, ownL0 hs xs vs noF noF h2⟩
  | .lst xs, _, _, _, ⟨a, vs, e, h1, h2⟩ => ⟨a, vs, e, hs _ _ h1, ownL0 hs xs vs noF noF h2⟩
  | .clst xs, _, _, _, ⟨a, vs, e, h1, h2⟩ => ⟨a, vs, e, L2.Same.seq hs h1, ownL0 hs xs vs noF noF h2⟩
  | .dic kvs, _, _, _, ⟨a, o, u, l, e, h1, h2, h3⟩ => ⟨a, o, u, l, e, hs _ _ h1, h2, ownD0 hs kvs l noF noF h3⟩
  | .exn _ _ _ fs, _, _, _, ⟨e, h⟩ => ⟨e, h.imp id fun ⟨dd, fvs, e1, e2, e3⟩ => ⟨dd, fvs, e1, hs _ _ e2, ownF0 hs fs fvs e3⟩⟩
theorem ownL0 (hs : Same H0 H0') : ∀ (xs : List PV) (vs : List V) (F F' : Fp), OwnL K H0 H xs 0 vs F → OwnL K H0' H' xs 0 vs F'
  | [], _, _, _, h => h
  | x :: xs, _, F, F', ⟨v, vs', G, e, h1, h2⟩ => ⟨v, vs', G, e, own0 hs x v _ _ h1, ownL0 hs xs vs' _ _ h2⟩
theorem ownD0 (hs : Same H0 H0') : ∀ (xs : List (DK × PV)) (vs : List (DK × V)) (F F' : Fp), OwnD K H0 H xs 0 vs F → OwnD K H0' H' xs 0 vs F'
  | [], _, _, _, h => h
  | (k, x) :: xs, _, F, F', ⟨v, vs', G, e, h1, h2⟩ => ⟨v, vs', G, e, own0 hs x v _ _ h1, ownD0 hs xs vs' _ _ h2⟩
theorem ownF0 (hs : Same H0 H0') : ∀ (fs : List (Str × PV)) (l : List (Str × V)), OwnF K H0 H fs l → OwnF K H0' H' fs l
  | [], _, _ => True.intro
  | (f, x) :: r, l, ⟨⟨v, e, h⟩, h2⟩ => ⟨⟨v, e, own0 hs x v noF noF h⟩, ownF0 hs r l h2⟩
end
/-- level 0, or a value that has no levels -/
theorem own_imm {x : PV} {n : Nat} {v : V} {F F' : Fp} (h : Own K H0 H x n v F) (c : n = 0 ∨ x.imm = true) (hs : Same H0 H0') : Own K H0' H' x 0 v F' := by
  rcases c with rfl | c
  · exact own0 hs x v _ _ h
  · cases x with
    | lst _ => cases c
    | dic _ => cases c
    | exn a d cc fs => exact own0 hs (.exn a d cc fs) v F F' (show Own K H0 H (.exn a d cc fs) 0 v F from (show _ from h))
    | non => exact own0 hs _ _ F F' (show Own K H0 H .non 0 v F from h)
    | bl b => exact own0 hs _ _ F F' (show Own K H0 H (.bl b) 0 v F from h)
    | int b => exact own0 hs _ _ F F' (show Own K H0 H (.int b) 0 v F from h)
    | str b => exact own0 hs _ _ F F' (show Own K H0 H (.str b) 0 v F from h)
    | tup xs => exact own0 hs (.tup xs) v F F' (show Own K H0 H (.tup xs) 0 v F from (show _ from h))
    | ctup xs => exact own0 hs (.ctup xs) v F F' (show Own K H0 H (.ctup xs) 0 v F from (show _ from h))
    | clst xs => exact own0 hs (.clst xs) v F F' (show Own K H0 H (.clst xs) 0 v F from (show _ from h))
theorem imm_own {x : PV} {n : Nat} {v : V} {F F' : Fp} (h : Own K H0 H x 0 v F) (c : x.imm = true) (hs : Same H0 H0') : Own K H0' H' x n v F' := by
  have h' := own0 (H' := H') hs x v F F' h
  cases x with
  | lst _ => cases c
  | dic _ => cases c
  | exn a d c fs => exact h'
  | non => exact h'
  | bl b => exact h'
  | int b => exact h'
  | str b => exact h'
  | tup xs => exact h'
  | ctup xs => exact h'
  | clst xs => exact h'
theorem ownL_len : ∀ {xs : List PV} {n : Nat} {vs : List V} {F : Fp}, OwnL K H0 H xs n vs F → vs.length = xs.length
  | [], _, _, _, h => by rw [show _ = [] from h]; rfl
  | x :: xs, n, _, _, ⟨v, vs', G, e, h1, h2⟩ => by rw [e, List.length_cons, ownL_len h2]; rfl
theorem ownL_get : ∀ {xs : List PV} {n : Nat} {vs : List V} {F : Fp} {i : Nat} {x : PV}, OwnL K H0 H xs n vs F → xs[i]? = some x → ∃ v, ∃ G : Fp, vs[i]? = some v ∧ (∀ a, G a → F a) ∧ Own K H0 H x n v G
  | [], _, _, _, _, _, _, e => by simp at e
  | x :: xs, n, _, F, 0, y, ⟨v, vs', G, e, h1, h2⟩, q => by
    have q' : x = y := by simpa using q
    subst q'
    exact ⟨v, _, by rw [e]; rfl, fun _ z => z.1, h1⟩
  | x :: xs, n, _, F, i + 1, y, ⟨v, vs', G, e, h1, h2⟩, q => by
    obtain ⟨w, G', e', m, o⟩ := ownL_get (i := i) h2 (by simpa using q)
    exact ⟨w, G', by rw [e]; simpa using e', fun a z => (m a z).1, o⟩
theorem ownL_app0 : ∀ {xs ys : List PV} {vs ws : List V} {F F' F'' : Fp}, OwnL K H0 H xs 0 vs F → OwnL K H0 H ys 0 ws F' → OwnL K H0 H (xs ++ ys) 0 (vs ++ ws) F''
  | [], ys, vs, ws, _, _, _, h, k => by
    rw [show vs = [] from h]
    exact ownL0 (fun _ _ z => z) _ _ _ _ k
  | x :: xs, ys, _, ws, _, _, F'', ⟨v, vs', G, e, h1, h2⟩, k => by
    rw [e]
    exact ⟨v, vs' ++ ws, noF, rfl, own0 (fun _ _ z => z) _ _ _ _ h1, ownL_app0 h2 k⟩
end

/-! ## results -/
/-- the slots: level and value -/
abbrev Ev := List (Option (Nat × PV))
structure Rr where
  pu : Bool
  ow : Bool
  lv : Nat
  x : PV
  ρ : Ev
inductive Res (α : Type) where
  | ok (a : α) | exc (c : Str) (fs : List (Str × PV)) (ρ : Ev) | bad
def Res.bind {α β : Type} (r : Res α) (f : α → Res β) : Res β := match r with
  | .ok a => f a
  | .exc c fs ρ => .exc c fs ρ
  | .bad => .bad
abbrev EF := Ev → Res Rr
inductive SR where
  | nx (ρ : Ev) | bk (ρ : Ev) | ct (ρ : Ev) | rt (lv : Nat) (x : PV) (ρ : Ev) | exc (c : Str) (fs : List (Str × PV)) (ρ : Ev) | bad
abbrev SF := Ev → SR
inductive FR where
  | ok (lv : Nat) (x : PV) (outs : List PV) | exc (c : Str) (fs : List (Str × PV)) (outs : List PV) | bad
abbrev FF := List PV → FR

/-! ## states -/
/-- the program's facts -/
structure Prg where
  P : Program
  w : World
  K : PySem.W.Frag
  mg : Str → Option Value
  base : Heap
  ea : Str → Addr

/-- not there, or a tuple: never owned -/
def NoT (H : Hp) (a : Addr) : Prop := H a = none ∨ ∃ vs, H a = some (.tup vs)
theorem mut_not {H : Hp} {a : Addr} (m : Mut (H a)) (n : NoT H a) : False := by
  rcases n with n | ⟨vs, n⟩
  · rw [n] at m; exact m
  · rw [n] at m; exact m
theorem mut_ne {H : Hp} {a : Addr} (m : Mut (H a)) : H a ≠ none := fun z => mut_not m (.inl z)
structure St0 (K : PySem.W.Frag) (H0 H : Hp) (O : Fp) (σ : L2.St) (ρ : Ev) : Prop where
  sub : Same H0 H
  dom : ∀ a, O a → Mut (H a)
  sep : ∀ a, O a → H0 a = none
  len : σ.length = ρ.length
  own : ∃ F : Nat → Fp, (∀ i j a, F i a → F j a → i = j) ∧ (∀ i a, F i a → O a) ∧ ∀ i n x, ρ[i]? = some (some (n, x)) → ∃ v, σ[i]? = some (some v) ∧ Own K H0 H x n v (F i)
structure Grow (H0 H : Hp) (O : Fp) (H0' H' : Hp) (O' : Fp) : Prop where
  sh : Same H0 H0'
  keep : ∀ a o, H a = some o → ¬ O a → H' a = some o
  dom : ∀ a, H a ≠ none → H' a ≠ none
  own : ∀ a, O' a → O a ∨ H a = none
  nsh : ∀ a, H0' a ≠ none → H0 a ≠ none ∨ O a ∨ NoT H a
/-- a temporary's own part -/
structure Tmp (H0 H : Hp) (O B : Fp) : Prop where
  off : ∀ a, B a → ¬ O a
  dom : ∀ a, B a → Mut (H a)
  sep : ∀ a, B a → H0 a = none
abbrev Fp.or (O B : Fp) : Fp := fun a => O a ∨ B a

theorem Grow.refl {H0 H : Hp} {O : Fp} : Grow H0 H O H0 H O := ⟨fun _ _ z => z, fun _ _ z _ => z, fun _ z => z, fun _ z => .inl z, fun _ z => .inl z⟩
theorem Tmp.no {H0 H : Hp} {O : Fp} : Tmp H0 H O noF := ⟨fun _ z => z.elim, fun _ z => z.elim, fun _ z => z.elim⟩
theorem Grow.trans {H0 H : Hp} {O : Fp} {H0' H' : Hp} {O' B : Fp} {H0'' H'' : Hp} {O'' : Fp} (g : Grow H0 H O H0' H' (O'.or B)) (k : Grow H0' H' O' H0'' H'' O'') : Grow H0 H O H0'' H'' (O''.or B) where
  sh := L2.Same.trans g.sh k.sh
  keep := fun a o e n => k.keep a o (g.keep a o e n) fun z => by
    rcases g.own a (.inl z) with y | y
    · exact n y
    · rw [e] at y; cases y
  dom := fun a z => k.dom a (g.dom a z)
  own := fun a z => by
    rcases z with z | z
    · rcases k.own a z with y | y
      · exact g.own a (.inl y)
      · refine .inr ?_
        cases q : H a with
        | none => rfl
        | some o => exact absurd y (g.dom a (by rw [q]; exact Option.some_ne_none _))
    · exact g.own a (.inr z)
  nsh := fun a z => by
    rcases k.nsh a z with y | y | y
    · exact g.nsh a y
    · rcases g.own a (.inl y) with u | u
      · exact .inr (.inl u)
      · exact .inr (.inr (.inl u))
    · rcases y with y | ⟨vs, y⟩
      · refine .inr (.inr (.inl ?_))
        cases q : H a with
        | none => rfl
        | some o => exact absurd y (g.dom a (by rw [q]; exact Option.some_ne_none _))
      · cases q : H a with
        | none => exact .inr (.inr (.inl q))
        | some o =>
          by_cases hO : O a
          · exact .inr (.inl hO)
          · refine .inr (.inr (.inr ⟨vs, ?_⟩))
            rw [g.keep a o q hO] at y
            rw [q]
            exact y
theorem Grow.mono {H0 H : Hp} {O : Fp} {H0' H' : Hp} {O' O'' : Fp} (g : Grow H0 H O H0' H' O') (h : ∀ a, O'' a → O' a) : Grow H0 H O H0' H' O'' := ⟨g.sh, g.keep, g.dom, fun a z => g.own a (h a z), g.nsh⟩
/-- no temporary -/
theorem Grow.trans0 {H0 H : Hp} {O : Fp} {H0' H' : Hp} {O' : Fp} {H0'' H'' : Hp} {O'' : Fp} (g : Grow H0 H O H0' H' O') (k : Grow H0' H' O' H0'' H'' O'') : Grow H0 H O H0'' H'' O'' :=
  (Grow.trans (B := noF) (g.mono fun a z => z.elim id False.elim) k).mono fun a z => .inl z
/-- a temporary behind further steps -/
theorem Grow.mut {H0 H : Hp} {O : Fp} {H0' H' : Hp} {O' : Fp} (k : Grow H0 H O H0' H' O') {a : Addr} (m : Mut (H a)) (n : ¬ O a) : Mut (H' a) := by
  cases q : H a with
  | none => exact absurd q (mut_ne m)
  | some o => rw [k.keep a o q n, ← q]; exact m
theorem Tmp.step {H0 H : Hp} {O B : Fp} {H0' H' : Hp} {O' : Fp} (t : Tmp H0 H O B) (k : Grow H0 H O H0' H' O') : Tmp H0' H' O' B where
  off := fun a b z => by
    rcases k.own a z with y | y
    · exact t.off a b y
    · exact mut_ne (t.dom a b) y
  dom := fun a b => k.mut (t.dom a b) (t.off a b)
  sep := fun a b => by
    cases q : H0' a with
    | none => rfl
    | some o =>
      rcases k.nsh a (by rw [q]; exact Option.some_ne_none _) with y | y | y
      · exact absurd (t.sep a b) y
      · exact absurd y (t.off a b)
      · exact (mut_not (t.dom a b) y).elim
theorem Tmp.own {K : PySem.W.Frag} {H0 H : Hp} {O B : Fp} {H0' H' : Hp} {O' : Fp} {x : PV} {n : Nat} {v : V} (t : Tmp H0 H O B) (k : Grow H0 H O H0' H' O') (h : Own K H0 H x n v B) : Own K H0' H' x n v B :=
  own_tr k.sh x n v B B h (fun a o b e => k.keep a o e (t.off a b)) fun _ z => z

/-! ## what a reading asks -/
def ExD (K : PySem.W.Frag) (H0 H : Hp) (fs : List (Str × PV)) (d : Option Addr) : Prop :=
  fs = [] ∨ ∃ a fvs, d = some a ∧ H0 a = some (.xd fvs) ∧ OwnF K H0 H fs fvs
def PostR (K : PySem.W.Frag) (H0 H : Hp) (O : Fp) (σ : L2.St) (r : Rr) (Q : VK) : Prop :=
  ∀ v H0' H' O' B, Grow H0 H O H0' H' (O'.or B) → (r.pu = true → Same H H') → St0 K H0' H' O' σ r.ρ → Tmp H0' H' O' B →
    (if r.ow = true then Own K H0' H' r.x r.lv v B else ∃ F, Own K H0' H' r.x r.lv v F) → Q v H'
def PostX (g : Prg) (H0 H : Hp) (O : Fp) (σ : L2.St) (c : Str) (fs : List (Str × PV)) (ρ : Ev) (W : WX) : Prop :=
  ∀ H0' H' O' d, Grow H0 H O H0' H' O' → St0 g.K H0' H' O' σ ρ → ExD g.K H0' H' fs d → W (.ref (g.ea c)) d σ H'
def tF (g : Prg) (W : WX) (f : EF) : TE := fun σ H Q => ∃ H0 O ρ, St0 g.K H0 H O σ ρ ∧ match f ρ with
  | .ok r => PostR g.K H0 H O σ r Q
  | .exc c fs ρ' => PostX g H0 H O σ c fs ρ' W
  | .bad => False

/-- a def's static facts -/
structure Sx where
  N : List Str
  sc : Scope
  lv : Nat
  pn : List Nat
  hot : Bool
  blk : Bool
  xc : Option (Addr × Option Addr × Str) := none
/-- the field f of an exception of class c -/
structure XfF (g : Prg) (c f : Str) : Prop where
  xf : XfC g.K (g.ea c)
  no : PySem.W.findIn g.K (.ref (g.ea c)) f = some none
structure Fits (g : Prg) (Γ : Sx) (X : Cx) (W : WX) : Prop where
  xc : ∀ a d c, Γ.xc = some (a, d, c) → ∀ f, XfF g c f → ∀ y q te p, PE X (.Name y q) te → PE X (.Attribute (.Name y q) f p) (tXf a (.ref (g.ea c)) d (g.ea c) f te)
  prog : X.prog = g.P
  w : X.w = g.w
  K : X.K = g.K
  mg : X.mg = g.mg
  base : X.base = g.base
  N : X.N = Γ.N
  sc : X.env.scope = Γ.sc
  takes : Takes X W
  un : X.A.units + 100 < cLine
  room : Γ.hot = false → Room Γ.lv X.A
  calm : Γ.hot = false → X.calm = true
  hotc : Γ.hot = true → (∃ p, p ∈ X.pn) ∧ X.A.depth + 3 * Γ.lv + 5 < recursionLimit ∧ X.A.units + 16 * Γ.lv + 200 < cLine
  nd : X.N.Nodup
  pas : PassesOwn (model X.prog X.w) X.A X.env X.xe
  fn : Γ.blk = false → ∀ x, X.fn x = true
  stk : Γ.blk = false → X.stack = X.env :: X.outer ∧ X.env.frame = some X.env.locals ∧ X.ex = []
theorem Fits.un64 {g : Prg} {Γ : Sx} {X : Cx} {W : WX} (F : Fits g Γ X W) : X.A.units + 64 < cLine := by have := F.un; omega
theorem Fits.un65 {g : Prg} {Γ : Sx} {X : Cx} {W : WX} (F : Fits g Γ X W) : X.A.units + 65 < cLine := by have := F.un; omega
theorem Fits.un1 {g : Prg} {Γ : Sx} {X : Cx} {W : WX} (F : Fits g Γ X W) : X.A.units + 1 < cLine := by have := F.un; omega
def EV (g : Prg) (Γ : Sx) (e : Expr) (f : EF) : Prop := ∀ X W, Fits g Γ X W → PE X e (tF g W f)

theorem PE.imp {X : Cx} {e : Expr} {t t' : TE} (h : PE X e t) (k : ∀ σ H Q, t' σ H Q → t σ H Q) : PE X e t' := ⟨fun pins s σ H Q I q => h.run pins s σ H Q I (k σ H Q q)⟩
theorem PT.imp {X : Cx} {e : Expr} {t t' : TT} (h : PT X e t) (k : ∀ σ H Q, t' σ H Q → t σ H Q) : PT X e t' := ⟨fun pins s σ H Q I q => h.run pins s σ H Q I (k σ H Q q)⟩
theorem PA.imp {X : Cx} {e : List Expr} {t t' : TA} (h : PA X e t) (k : ∀ σ H Q, t' σ H Q → t σ H Q) : PA X e t' := ⟨fun pos pins s σ H Q I q => h.run pos pins s σ H Q I (k σ H Q q)⟩
theorem PS.imp {X : Cx} {e : Stmt} {t t' : TS} (h : PS X e t) (k : ∀ D σ H, t' D σ H → t D σ H) : PS X e t' := ⟨fun pins s σ H D I q => h.run pins s σ H D I (k D σ H q)⟩
theorem PSs.imp {X : Cx} {e : List Stmt} {t t' : TS} (h : PSs X e t) (k : ∀ D σ H, t' D σ H → t D σ H) : PSs X e t' := ⟨fun pins s σ H D I q => h.run pins s σ H D I (k D σ H q)⟩

/-! ## arguments -/
structure Ar where
  pu : Bool
  vs : List (Nat × PV)
  ρ : Ev
abbrev AF := Ev → Res Ar
/-- all the arguments' values, as views of the end -/
def Views (K : PySem.W.Frag) (H0 H : Hp) : List (Nat × PV) → List V → Prop := Paired fun p v => ∃ F, Own K H0 H p.2 p.1 v F
end Pv

set_option maxRecDepth 100000
set_option maxHeartbeats 1000000
namespace Pv
open PySem PySem.Spec PyProof.Rows L2

/-! ## the arguments -/
def PostA (K : PySem.W.Frag) (H0 H : Hp) (O : Fp) (σ : L2.St) (a : Ar) (Q : List V → Hp → Prop) : Prop :=
  ∀ vs H0' H' O', Grow H0 H O H0' H' O' → (a.pu = true → Same H H') → St0 K H0' H' O' σ a.ρ → Views K H0' H' a.vs vs → Q vs H'
def tA (g : Prg) (W : WX) (f : AF) : TA := fun σ H Q => ∃ H0 O ρ, St0 g.K H0 H O σ ρ ∧ match f ρ with
  | .ok a => PostA g.K H0 H O σ a Q
  | .exc c fs ρ' => PostX g H0 H O σ c fs ρ' W
  | .bad => False
def AV (g : Prg) (Γ : Sx) (es : List Expr) (f : AF) : Prop := ∀ X W, Fits g Γ X W → PA X es (tA g W f)

/-- a view of the result may be kept through what follows -/
def stays (r : Rr) (pu : Bool) : Bool := r.ow || r.lv == 0 || r.x.imm || pu
def aNil : AF := fun ρ => .ok ⟨true, [], ρ⟩
def aCons (f : EF) (af : AF) : AF := fun ρ => (f ρ).bind fun r => (af r.ρ).bind fun a =>
  if stays r a.pu = true then .ok ⟨r.pu && a.pu, (r.lv, r.x) :: a.vs, a.ρ⟩ else .bad

def noStar : Expr → Bool
  | .Starred _ _ => false
  | _ => true
theorem star_cons {e : Expr} {es : List Expr} {env : Env} (h : noStar e = true) : starEach (e :: es) env = (false, eval e env) :: starEach es env := by
  cases e <;> first | rfl | cases h
theorem star_any {pos : Pos} {env : Env} : ∀ {es : List Expr}, (∀ e ∈ es, noStar e = true) → (backTo pos (starEach es env)).any (·.1) = false
  | [], _ => rfl
  | e :: es, h => by
    rw [star_cons (h e List.mem_cons_self)]
    show (false || (backTo pos (starEach es env)).any (·.1)) = false
    rw [star_any fun y hy => h y (List.mem_cons_of_mem _ hy)]
    rfl

section
variable {g : Prg} {Γ : Sx}
theorem PostX.step {H0 H : Hp} {O : Fp} {σ : L2.St} {c : Str} {fs : List (Str × PV)} {ρ : Ev} {W : WX} {H0' H' : Hp} {O' B : Fp} (p : PostX g H0 H O σ c fs ρ W) (k : Grow H0 H O H0' H' (O'.or B)) : PostX g H0' H' O' σ c fs ρ W :=
  fun H0'' H'' O'' d k2 s x => p H0'' H'' O'' d ((k.trans k2).mono fun a z => .inl z) s x
theorem view_stay {r : Rr} {K : PySem.W.Frag} {H0 H H0' H' : Hp} {O B : Fp} {O' : Fp} {v : V} {pu : Bool} (hs : stays r pu = true) (T : Tmp H0 H O B) (o : if r.ow = true then Own K H0 H r.x r.lv v B else ∃ F, Own K H0 H r.x r.lv v F)
    (k : Grow H0 H O H0' H' O') (hp : pu = true → Same H H') : ∃ F, Own K H0' H' r.x r.lv v F := by
  by_cases ho : r.ow = true
  · rw [if_pos ho] at o
    exact ⟨B, T.own k o⟩
  · rw [if_neg ho] at o
    obtain ⟨F, o⟩ := o
    unfold stays at hs
    simp only [Bool.or_eq_true, beq_iff_eq] at hs
    rcases hs with ((hs | hs) | hs) | hs
    · exact absurd hs ho
    · rw [hs] at o ⊢
      exact ⟨F, own0 k.sh _ _ _ _ o⟩
    · exact ⟨F, imm_own (own_imm (F' := F) o (.inr hs) k.sh) hs (H0 := H0') (H := H') (fun _ _ z => z)⟩
    · exact ⟨F, own_tr k.sh _ _ _ _ _ o (fun a o' _ e => hp hs _ _ e) fun _ z => z⟩
theorem av_nil : AV g Γ [] aNil := fun X W F => PA.imp pa_nil fun σ H Q ⟨H0, O, ρ, S, q⟩ => q [] H0 H O .refl (fun _ _ _ z => z) S .nil
theorem av_cons {e : Expr} {es : List Expr} {f : EF} {af : AF} (hn : noStar e = true) (he : EV g Γ e f) (hr : AV g Γ es af) : AV g Γ (e :: es) (aCons f af) := fun X W F => by
  refine PA.imp (pa_cons (he X W F) (hr X W F) (star_cons hn)) fun σ H Q ⟨H0, O, ρ, S, q⟩ => ⟨H0, O, ρ, S, ?_⟩
  unfold aCons at q
  cases hf : f ρ with
  | bad => rw [hf] at q; exact q
  | exc c fs ρ' => rw [hf] at q; exact q
  | ok r =>
    rw [hf] at q
    show PostR _ _ _ _ _ r _
    intro v H0' H' O' B k hpu S' T o
    refine ⟨H0', O', r.ρ, S', ?_⟩
    simp only [Res.bind] at q
    cases ha : af r.ρ with
    | bad => rw [ha] at q; exact q
    | exc c fs ρ' => rw [ha] at q; exact PostX.step q k
    | ok a =>
      rw [ha] at q
      simp only [] at q
      by_cases hs : stays r a.pu = true
      · rw [if_pos hs] at q
        intro vs H0'' H'' O'' k2 hpu2 S'' vw
        refine q (v :: vs) H0'' H'' O'' ((k.trans k2).mono fun a z => .inl z) (fun z => ?_) S'' (.cons (view_stay hs T o k2 hpu2) vw)
        have z' := Bool.and_eq_true_iff.mp z
        exact L2.Same.trans (hpu z'.1) (hpu2 z'.2)
      · rw [if_neg hs] at q
        exact q.elim
end
end Pv

set_option maxRecDepth 100000
set_option maxHeartbeats 1000000
namespace Pv
open PySem PySem.Spec PyProof.Rows L2

/-! ## operations on values -/
structure Po where
  ow : Bool
  lv : Nat
  x : PV
structure Alloc (H0 H H0' H' : Hp) (B : Fp) : Prop where
  sh : Same H0 H0'
  sm : Same H H'
  sub : Same H0' H'
  nsh : ∀ a, H0' a ≠ none → H0 a ≠ none ∨ NoT H a
  bf : ∀ a, B a → H a = none ∧ Mut (H' a) ∧ H0' a = none
theorem Alloc.refl {H0 H : Hp} (h : Same H0 H) : Alloc H0 H H0 H noF := ⟨fun _ _ z => z, fun _ _ z => z, h, fun _ z => .inl z, fun _ z => z.elim⟩
def Gives (K : PySem.W.Frag) (H0 H : Hp) (o : Po) (Q : VK) : Prop :=
  ∀ v H0' H' B, Alloc H0 H H0' H' B → (if o.ow = true then Own K H0' H' o.x o.lv v B else ∃ F, Own K H0' H' o.x o.lv v F) → Q v H'

section
variable {g : Prg} {Γ : Sx} {K : PySem.W.Frag} {H0 H H0' H' : Hp} {O O' : Fp} {σ : L2.St} {ρ : Ev}
theorem Alloc.st {B : Fp} (A : Alloc H0 H H0' H' B) (S : St0 K H0 H O σ ρ) : St0 K H0' H' O σ ρ := by
  obtain ⟨s1, s2, s3, s4, F, f1, f2, f3⟩ := S
  refine ⟨A.sub, fun a z => ?_, fun a z => ?_, s4, F, f1, f2, fun i n x e => ?_⟩
  · cases q : H a with
    | none => exact absurd q (mut_ne (s2 a z))
    | some o => rw [A.sm _ _ q, ← q]; exact s2 a z
  · cases q : H0' a with
    | none => rfl
    | some o =>
      rcases A.nsh a (by rw [q]; exact Option.some_ne_none _) with y | y
      · exact absurd (s3 a z) y
      · exact (mut_not (s2 a z) y).elim
  · obtain ⟨v, e1, e2⟩ := f3 i n x e
    exact ⟨v, e1, own_tr A.sh _ _ _ _ _ e2 (fun a o _ q => A.sm _ _ q) fun _ z => z⟩
theorem Alloc.grow {B : Fp} (A : Alloc H0 H H0' H' B) : Grow H0 H O H0' H' (O.or B) where
  sh := A.sh
  keep := fun a o e _ => A.sm _ _ e
  dom := fun a z => by
    cases q : H a with
    | none => exact absurd q z
    | some o => rw [A.sm _ _ q]; exact Option.some_ne_none _
  own := fun a z => z.elim .inl fun z => .inr (A.bf a z).1
  nsh := fun a z => (A.nsh a z).elim .inl fun z => .inr (.inr z)
theorem Alloc.tmp {B : Fp} (A : Alloc H0 H H0' H' B) (hd : ∀ a, O a → Mut (H a)) : Tmp H0' H' O B :=
  ⟨fun a z y => mut_ne (hd a y) (A.bf a z).1, fun a z => (A.bf a z).2.1, fun a z => (A.bf a z).2.2⟩
/-- the end of an operation on values -/
theorem fin_op {pu : Bool} {o : Po} {ρ' : Ev} {Q : VK} (q : PostR K H0 H O σ ⟨pu, o.ow, o.lv, o.x, ρ'⟩ Q) (k : Grow H0 H O H0' H' O') (hp : pu = true → Same H H') (S : St0 K H0' H' O' σ ρ') : Gives K H0' H' o Q :=
  fun v H0'' H'' B A w => q v H0'' H'' O' B (k.trans0 A.grow) (fun z => L2.Same.trans (hp z) A.sm) (A.st S) (A.tmp S.dom) w
theorem PostR.mono {r : Rr} {Q Q' : VK} (p : PostR K H0 H O σ r Q) (h : ∀ v H, Q v H → Q' v H) : PostR K H0 H O σ r Q' :=
  fun v H0' H' O' B a b c d e => h _ _ (p v H0' H' O' B a b c d e)
theorem tF.mono {W : WX} {f : EF} {Q Q' : VK} (p : tF g W f σ H Q) (h : ∀ v H, Q v H → Q' v H) : tF g W f σ H Q' := by
  obtain ⟨H0, O, ρ, S, q⟩ := p
  refine ⟨H0, O, ρ, S, ?_⟩
  cases e : f ρ with
  | ok r => rw [e] at q; exact q.mono h
  | exc c fs ρ' => rw [e] at q; exact q
  | bad => rw [e] at q; exact q
theorem tA.mono {W : WX} {f : AF} {Q Q' : List V → Hp → Prop} (p : tA g W f σ H Q) (h : ∀ v H, Q v H → Q' v H) : tA g W f σ H Q' := by
  obtain ⟨H0, O, ρ, S, q⟩ := p
  refine ⟨H0, O, ρ, S, ?_⟩
  cases e : f ρ with
  | ok r => rw [e] at q; exact fun vs H0' H' O' a b c d => h _ _ (q vs H0' H' O' a b c d)
  | exc c fs ρ' => rw [e] at q; exact q
  | bad => rw [e] at q; exact q
theorem tA_cons {W : WX} {f : EF} {af : AF} {Q : List V → Hp → Prop} (p : tA g W (aCons f af) σ H Q) : tF g W f σ H fun x H1 => tA g W af σ H1 fun xs H2 => Q (x :: xs) H2 := by
  obtain ⟨H0, O, ρ, S, q⟩ := p
  refine ⟨H0, O, ρ, S, ?_⟩
  unfold aCons at q
  cases hf : f ρ with
  | bad => rw [hf] at q; exact q
  | exc c fs ρ' => rw [hf] at q; exact q
  | ok r =>
    rw [hf] at q
    show PostR _ _ _ _ _ r _
    intro v H0' H' O' B k hpu S' T o
    refine ⟨H0', O', r.ρ, S', ?_⟩
    simp only [Res.bind] at q
    cases ha : af r.ρ with
    | bad => rw [ha] at q; exact q
    | exc c fs ρ' => rw [ha] at q; exact PostX.step q k
    | ok a =>
      rw [ha] at q
      simp only [] at q
      by_cases hs : stays r a.pu = true
      · rw [if_pos hs] at q
        intro vs H0'' H'' O'' k2 hpu2 S'' vw
        refine q (v :: vs) H0'' H'' O'' ((k.trans k2).mono fun a z => .inl z) (fun z => ?_) S'' (.cons (view_stay hs T o k2 hpu2) vw)
        have z' := Bool.and_eq_true_iff.mp z
        exact L2.Same.trans (hpu z'.1) (hpu2 z'.2)
      · rw [if_neg hs] at q
        exact q.elim
theorem tA_nil {W : WX} {Q : List V → Hp → Prop} (p : tA g W aNil σ H Q) : Q [] H := by
  obtain ⟨H0, O, ρ, S, q⟩ := p
  exact q [] H0 H O .refl (fun _ _ _ z => z) S .nil

/-! ### from arguments to a result -/
abbrev PO := List (Nat × PV) → Option Po
def eOp (op : PO) (af : AF) : EF := fun ρ => (af ρ).bind fun a => match op a.vs with
  | some o => .ok ⟨a.pu, o.ow, o.lv, o.x, a.ρ⟩
  | none => .bad
def ROk (K : PySem.W.Frag) (r : List V → Hp → VK → Prop) (op : PO) : Prop :=
  ∀ H0 H ps vs o Q, Same H0 H → Views K H0 H ps vs → op ps = some o → Gives K H0 H o Q → r vs H Q
theorem op_run {W : WX} {op : PO} {af : AF} {r : List V → Hp → VK → Prop} {Q : VK} (hr : ROk g.K r op) (p : tF g W (eOp op af) σ H Q) : tA g W af σ H fun vs H1 => r vs H1 Q := by
  obtain ⟨H0, O, ρ, S, q⟩ := p
  refine ⟨H0, O, ρ, S, ?_⟩
  unfold eOp at q
  cases e : af ρ with
  | bad => rw [e] at q; exact q
  | exc c fs ρ' => rw [e] at q; exact q
  | ok a =>
    rw [e] at q
    simp only [Res.bind] at q
    intro vs H0' H' O' k hp S' vw
    cases ho : op a.vs with
    | none => rw [ho] at q; exact q.elim
    | some o =>
      rw [ho] at q
      exact hr H0' H' a.vs vs o Q S'.sub vw ho (fin_op q k hp S')
theorem ev_op2 {a b e : Expr} {op : PO} {fa fb : EF} {r : R2} (hr : ROk g.K (fun vs H Q => ∃ x y, vs = [x, y] ∧ r x y H Q) op)
    (bd : ∀ X W, Fits g Γ X W → ∀ ta tb, PE X a ta → PE X b tb → PE X e (tOp r ta tb)) (ha : EV g Γ a fa) (hb : EV g Γ b fb) : EV g Γ e (eOp op (aCons fa (aCons fb aNil))) := fun X W F => by
  refine PE.imp (bd X W F _ _ (ha X W F) (hb X W F)) fun σ H Q p => ?_
  refine tF.mono (tA_cons (op_run hr p)) fun x H1 p1 => tF.mono (tA_cons p1) fun y H2 p2 => ?_
  obtain ⟨x', y', e, q⟩ := tA_nil p2
  cases e
  exact q
theorem ev_op1 {a e : Expr} {op : PO} {fa : EF} {r : V → Hp → VK → Prop} (hr : ROk g.K (fun vs H Q => ∃ x, vs = [x] ∧ r x H Q) op)
    (bd : ∀ X W, Fits g Γ X W → ∀ ta, PE X a ta → PE X e (tUn r ta)) (ha : EV g Γ a fa) : EV g Γ e (eOp op (aCons fa aNil)) := fun X W F => by
  refine PE.imp (bd X W F _ (ha X W F)) fun σ H Q p => ?_
  refine tF.mono (tA_cons (op_run hr p)) fun x H1 p1 => ?_
  obtain ⟨x', e, q⟩ := tA_nil p1
  cases e
  exact q
/-- a call of a built-in by its arguments -/
theorem ev_opn {es : List Expr} {e : Expr} {op : PO} {af : AF} {r : List V → Hp → VK → Prop} (hr : ROk g.K r op)
    (bd : ∀ X W, Fits g Γ X W → ∀ t, PA X es t → PE X e (fun σ H Q => t σ H fun vs H1 => r vs H1 Q)) (ha : AV g Γ es af) : EV g Γ e (eOp op af) := fun X W F => by
  refine PE.imp (bd X W F _ (ha X W F)) fun σ H Q p => op_run hr p

/-! ### names and constants -/
/-- a name, as a view -/
def eVar (i : Nat) : EF := fun ρ => match ρ[i]? with
  | some (some (n, x)) => .ok ⟨true, false, n, x, ρ⟩
  | _ => .bad
theorem ev_var {i : Nat} {x : Str} {pos : Pos} (hN : Γ.N[i]? = some x) (hv : Vis Γ.sc x) (hd : (x == ("__debug__" : Str)) = false) (hcd : (x == ("__classdict__" : Str)) = false) : EV g Γ (.Name x pos) (eVar i) := fun X W F => by
  refine PE.imp (pe_var (i := i) (by rw [F.N]; exact hN) (by rw [F.sc]; exact hv) hd hcd) fun σ H Q ⟨H0, O, ρ, S, q⟩ => ?_
  unfold eVar at q
  cases e : ρ[i]? with
  | none => rw [e] at q; exact q.elim
  | some o =>
    cases o with
    | none => rw [e] at q; exact q.elim
    | some p =>
      obtain ⟨n, y⟩ := p
      rw [e] at q
      obtain ⟨F', f1, f2, f3⟩ := S.own
      obtain ⟨v, e1, e2⟩ := f3 i n y e
      exact ⟨v, e1, q v H0 H O noF (Grow.refl.mono fun a z => z.elim id False.elim) (fun _ _ _ z => z) S .no ⟨F' i, e2⟩⟩
def eC (x : PV) : EF := fun ρ => .ok ⟨true, true, 0, x, ρ⟩
theorem ev_c {e : Expr} {v : V} {x : PV} (h : ∀ X, PE X e (tC v)) (ho : ∀ K H0 H F, Own K H0 H x 0 v F) : EV g Γ e (eC x) := fun X W F =>
  PE.imp (h X) fun σ H Q ⟨H0, O, ρ, S, q⟩ => q v H0 H O noF (Grow.refl.mono fun a z => z.elim id False.elim) (fun _ _ _ z => z) S .no (ho _ _ _ _)
theorem ev_int {i j pos} : EV g Γ (.Constant (.int i) j pos) (eC (.int i)) := ev_c (fun X => pe_int) fun _ _ _ _ => rfl
theorem ev_bl {i j pos} : EV g Γ (.Constant (.bool i) j pos) (eC (.bl i)) := ev_c (fun X => pe_bl) fun _ _ _ _ => rfl
theorem ev_non {j pos} : EV g Γ (.Constant .none j pos) (eC .non) := ev_c (fun X => pe_non) fun _ _ _ _ => rfl
theorem ev_str {i j pos} : EV g Γ (.Constant (.str i) j pos) (eC (.str i)) := ev_c (fun X => pe_str) fun _ _ _ _ => rfl
end
end Pv

set_option maxRecDepth 100000
set_option maxHeartbeats 1000000
namespace Pv
open PySem PySem.Spec PyProof.Rows L2

theorem OpR.or {X : Cx} {f : Value → Value → Sem Value} {r r' : R2} (h : OpR X f r) (h' : OpR X f r') : OpR X f (fun x y H Q => r x y H Q ∨ r' x y H Q) := by
  intro pins s σ H x y v u Q I rx ry q
  rcases q with q | q
  · exact h pins s σ H x y v u Q I rx ry q
  · exact h' pins s σ H x y v u Q I rx ry q

section
variable {g : Prg} {Γ : Sx} {K : PySem.W.Frag} {H0 H : Hp} {Q : VK}
theorem gives_imm {b : Bool} {x : PV} {v : V} (G : Gives K H0 H ⟨b, 0, x⟩ Q) (s : Same H0 H) (o : Own K H0 H x 0 v noF) : Q v H := by
  refine G v H0 H noF (.refl s) ?_
  split
  · exact o
  · exact ⟨noF, o⟩
theorem gives_view {n : Nat} {x : PV} {v : V} {F : Fp} (G : Gives K H0 H ⟨false, n, x⟩ Q) (s : Same H0 H) (o : Own K H0 H x n v F) : Q v H := by
  refine G v H0 H noF (.refl s) ?_
  exact ⟨F, o⟩
theorem same_new {p : Addr} {o : HO} (h : H p = none) : Same H (upd H p o) := fun b x e => by
  rw [upd_ne (ne_of_none e h)]
  exact e
theorem alloc_own {p : Addr} {o : HO} (s : Same H0 H) (h : H p = none) (hm : Mut (some o) := by exact True.intro) : Alloc H0 H H0 (upd H p o) (fun a => a = p) where
  sh := fun _ _ z => z
  sm := same_new h
  sub := L2.Same.trans s (same_new h)
  nsh := fun _ z => .inl z
  bf := fun a z => by
    subst z
    exact ⟨h, by rw [upd_same]; exact hm, s.free h⟩
theorem alloc_sh {p : Addr} {o : HO} (s : Same H0 H) (h : H p = none) : Alloc H0 H (upd H0 p o) (upd H p o) noF where
  sh := same_new (s.free h)
  sm := same_new h
  sub := fun b x e => by
    by_cases hb : b = p
    · subst hb; rw [upd_same] at e ⊢; exact e
    · rw [upd_ne hb] at e ⊢; exact s _ _ e
  nsh := fun a z => by
    by_cases hb : a = p
    · subst hb; exact .inr (.inl h)
    · rw [upd_ne hb] at z; exact .inl z
  bf := fun a z => z.elim
theorem gives_lst {xs : List PV} {vs : List V} {F : Fp} (G : Gives K H0 H ⟨true, 1, .lst xs⟩ Q) (s : Same H0 H) (o : OwnL K H0 H xs 0 vs F) : ∀ p, H p = none → Q (.ref p) (upd H p (.lst vs)) := fun p hp =>
  G _ _ _ _ (alloc_own s hp) (show ∃ a vs', V.ref p = .ref a ∧ _ from ⟨p, vs, rfl, upd_same, rfl, ownL0 (fun _ _ z => z) _ _ _ _ o⟩)
theorem gives_tup {b : Bool} {xs : List PV} {vs : List V} {F : Fp} (G : Gives K H0 H ⟨b, 0, .tup xs⟩ Q) (s : Same H0 H) (o : OwnL K H0 H xs 0 vs F) : ∀ p, H p = none → Q (.ref p) (upd H p (.tup vs)) := fun p hp => by
  have A := alloc_sh (o := .tup vs) s hp
  refine G _ _ _ _ A ?_
  have o' : Own K (upd H0 p (.tup vs)) (upd H p (.tup vs)) (.tup xs) 0 (.ref p) noF := ⟨p, vs, rfl, upd_same, ownL0 A.sh _ _ _ _ o⟩
  split
  · exact o'
  · exact ⟨noF, o'⟩

/-! ### reading a view -/
theorem own_lst {xs : List PV} {n : Nat} {v : V} {F : Fp} (s : Same H0 H) (h : Own K H0 H (.lst xs) n v F) : ∃ a vs, ∃ G : Fp, v = .ref a ∧ H a = some (.lst vs) ∧ OwnL K H0 H xs (n - 1) vs G := by
  cases n with
  | zero =>
    obtain ⟨a, vs, e, h1, h2⟩ := h
    exact ⟨a, vs, _, e, s _ _ h1, h2⟩
  | succ n =>
    obtain ⟨a, vs, e, h1, h2, h3⟩ := h
    exact ⟨a, vs, _, e, h1, h3⟩
theorem own_tup {xs : List PV} {n : Nat} {v : V} {F : Fp} (s : Same H0 H) (h : Own K H0 H (.tup xs) n v F) : ∃ a vs, v = .ref a ∧ H a = some (.tup vs) ∧ OwnL K H0 H xs 0 vs noF := by
  obtain ⟨a, vs, e, h1, h2⟩ := h
  exact ⟨a, vs, e, s _ _ h1, h2⟩
theorem sqT_up {a : Addr} {vs : List V} (h : SqT K (fun _ => none) a vs) : SqT K H a vs := by
  rcases h with (h | ⟨o, h⟩) | h
  · cases h
  · cases h
  · exact .inr h
/-- the items of a list or tuple, and at what level they are -/
def PV.items : PV → Nat → Option (Nat × List PV)
  | .lst xs, n => some (n - 1, xs)
  | .clst xs, _ => some (0, xs)
  | .tup xs, _ => some (0, xs)
  | .ctup xs, _ => some (0, xs)
  | _, _ => none
theorem own_items {x : PV} {n m : Nat} {xs : List PV} {v : V} {F : Fp} (s : Same H0 H) (h : Own K H0 H x n v F) (e : x.items n = some (m, xs)) : ∃ a vs, ∃ G : Fp, v = .ref a ∧ (SqL K H a vs ∨ SqT K H a vs) ∧ OwnL K H0 H xs m vs G := by
  cases x with
  | lst ys =>
    cases e
    obtain ⟨a, vs, G, e, h1, h2⟩ := own_lst s h
    exact ⟨a, vs, G, e, .inl (.inl (.inl h1)), h2⟩
  | clst ys =>
    cases e
    obtain ⟨a, vs, e, h1, h2⟩ := h
    exact ⟨a, vs, _, e, .inl (s.seq h1), h2⟩
  | tup ys =>
    cases e
    obtain ⟨a, vs, e, h1, h2⟩ := own_tup s h
    exact ⟨a, vs, _, e, .inr (.inl (.inl h1)), h2⟩
  | ctup ys =>
    cases e
    obtain ⟨a, vs, e, h1, h2⟩ := h
    exact ⟨a, vs, _, e, .inr (sqT_up h1), h2⟩
  | _ => cases e
mutual
def PV.toD : PV → Option PyData
  | .non => some .none
  | .bl b => some (.bool b)
  | .int i => some (.int i)
  | .str s => some (.str s)
  | .tup xs | .ctup xs => (PV.toDs xs).map .tuple
  | .lst xs | .clst xs => (PV.toDs xs).map .list
  | .dic _ | .exn _ _ _ _ => none
def PV.toDs : List PV → Option (List PyData)
  | [] => some []
  | x :: xs => (PV.toD x).bind fun d => (PV.toDs xs).map fun ds => d :: ds
end
mutual
theorem own_dp (s : Same H0 H) : ∀ (x : PV) (n : Nat) (v : V) (F : Fp) (d : PyData), Own K H0 H x n v F → x.toD = some d → Dp K H v d
  | .non, _, _, _, _, h, e => by cases (show some _ = _ from e); cases (show _ = V.non from h); exact .non
  | .bl b, _, _, _, _, h, e => by cases (show some _ = _ from e); cases (show _ = V.bl b from h); exact .bl b
  | .int b, _, _, _, _, h, e => by cases (show some _ = _ from e); cases (show _ = V.int b from h); exact .int b
  | .str b, _, _, _, _, h, e => by cases (show some _ = _ from e); cases (show _ = V.str b from h); exact .str b
  | .tup xs, n, v, F, d, h, e => by
    obtain ⟨ds, e1, e2⟩ := Option.map_eq_some_iff.mp (show (PV.toDs xs).map PyData.tuple = some d from e)
    obtain ⟨a, vs, e3, h1, h2⟩ := own_tup s h
    subst e2 e3
    exact .tup (.inl (.inl h1)) (own_dps s xs 0 vs _ ds h2 e1)
  | .ctup xs, n, v, F, d, h, e => by
    obtain ⟨ds, e1, e2⟩ := Option.map_eq_some_iff.mp (show (PV.toDs xs).map PyData.tuple = some d from e)
    obtain ⟨a, vs, e3, h1, h2⟩ := (show ∃ a vs, v = V.ref a ∧ SqT K (fun _ => none) a vs ∧ OwnL K H0 H xs 0 vs noF from h)
    subst e2 e3
    exact .tup (sqT_up h1) (own_dps s xs 0 vs _ ds h2 e1)
  | .lst xs, n, v, F, d, h, e => by
    obtain ⟨ds, e1, e2⟩ := Option.map_eq_some_iff.mp (show (PV.toDs xs).map PyData.list = some d from e)
    obtain ⟨a, vs, G, e3, h1, h2⟩ := own_lst s h
    subst e2 e3
    exact .lst (.inl (.inl h1)) (own_dps s xs _ vs _ ds h2 e1)
  | .clst xs, n, v, F, d, h, e => by
    obtain ⟨ds, e1, e2⟩ := Option.map_eq_some_iff.mp (show (PV.toDs xs).map PyData.list = some d from e)
    obtain ⟨a, vs, e3, h1, h2⟩ := (show ∃ a vs, v = V.ref a ∧ SqL K H0 a vs ∧ OwnL K H0 H xs 0 vs noF from h)
    subst e2 e3
    exact .lst (s.seq h1) (own_dps s xs 0 vs _ ds h2 e1)
  | .dic _, _, _, _, _, _, e => by cases (show none = _ from e)
  | .exn _ _ _ _, _, _, _, _, _, e => by cases (show none = _ from e)
theorem own_dps (s : Same H0 H) : ∀ (xs : List PV) (n : Nat) (vs : List V) (F : Fp) (ds : List PyData), OwnL K H0 H xs n vs F → PV.toDs xs = some ds → DpAll K H vs ds
  | [], _, _, _, _, h, e => by cases (show some _ = _ from e); rw [show _ = ([] : List V) from h]; exact .nil
  | x :: xs, n, vs, F, ds, h, e => by
    obtain ⟨v, vs', G, e1, h1, h2⟩ := h
    obtain ⟨d, e2, e3⟩ := Option.bind_eq_some_iff.mp (show (PV.toD x).bind (fun d => (PV.toDs xs).map fun ds => d :: ds) = some ds from e)
    obtain ⟨ds', e4, e5⟩ := Option.map_eq_some_iff.mp e3
    subst e1 e5
    exact .cons (own_dp s x n v _ d h1 e2) (own_dps s xs n vs' _ ds' h2 e4)
end
theorem views1 {p : Nat × PV} {vs : List V} (h : Views K H0 H [p] vs) : ∃ v, ∃ F : Fp, vs = [v] ∧ Own K H0 H p.2 p.1 v F := by
  cases h with
  | cons h t => cases t; obtain ⟨F, h⟩ := h; exact ⟨_, F, rfl, h⟩
theorem views2 {p q : Nat × PV} {vs : List V} (h : Views K H0 H [p, q] vs) : ∃ v w, ∃ F G : Fp, vs = [v, w] ∧ Own K H0 H p.2 p.1 v F ∧ Own K H0 H q.2 q.1 w G := by
  cases h with
  | cons h t =>
    obtain ⟨w, G, rfl, h2⟩ := views1 t
    obtain ⟨F, h⟩ := h; exact ⟨_, w, F, G, rfl, h, h2⟩
theorem views3 {p q r : Nat × PV} {vs : List V} (h : Views K H0 H [p, q, r] vs) : ∃ v w u, ∃ F G J : Fp, vs = [v, w, u] ∧ Own K H0 H p.2 p.1 v F ∧ Own K H0 H q.2 q.1 w G ∧ Own K H0 H r.2 r.1 u J := by
  cases h with
  | cons h t =>
    obtain ⟨w, u, G, J, rfl, h2, h3⟩ := views2 t
    obtain ⟨F, h⟩ := h; exact ⟨_, w, u, F, G, J, rfl, h, h2, h3⟩

/-! ### arithmetic -/
def sc (x : PV) : Option Po := some ⟨true, 0, x⟩
theorem sc_gives {x : PV} {v : V} {o : Po} (e : sc x = some o) (G : Gives K H0 H o Q) (s : Same H0 H) (w : Own K H0 H x 0 v noF) : Q v H := by
  cases e
  exact gives_imm G s w
def pAdd : PO
  | [(_, .int i), (_, .int j)] => sc (.int (i + j))
  | [(_, .str i), (_, .str j)] => if i.length + j.length ≤ sizeLine then sc (.str (i ++ j)) else none
  | [(m, .lst i), (n, .lst j)] => if m ≤ 1 ∧ n ≤ 1 ∧ i.length + j.length ≤ sizeLine then some ⟨true, 1, .lst (i ++ j)⟩ else none
  | [(_, .tup i), (_, .tup j)] => if i.length + j.length ≤ sizeLine then sc (.tup (i ++ j)) else none
  | _ => none
def rAddAll (K : PySem.W.Frag) : R2 := fun x y H Q => ((rI0 fun i j => .int (i + j)) x y H Q ∨ ∃ i j, x = .str i ∧ y = .str j ∧ i.length + j.length ≤ sizeLine ∧ Q (.str (i ++ j)) H) ∨ (rCat x y H Q ∨ rCatA K x y H Q)
theorem op_addAll {X : Cx} : OpR X (binaryOp .Add) (rAddAll X.K) := OpR.or (OpR.or op_add op_add_str) (OpR.or op_cat op_catA)
theorem lst_lv {xs : List PV} {n : Nat} {v : V} {F : Fp} (s : Same H0 H) (h : Own K H0 H (.lst xs) n v F) (hn : n ≤ 1) : ∃ a vs, v = .ref a ∧ H a = some (.lst vs) ∧ OwnL K H0 H xs 0 vs noF := by
  obtain ⟨a, vs, G, e, h1, h2⟩ := own_lst s h
  have z : n - 1 = 0 := by omega
  rw [z] at h2
  exact ⟨a, vs, e, h1, ownL0 (fun _ _ z => z) _ _ _ _ h2⟩
theorem rok_add : ROk K (fun vs H Q => ∃ x y, vs = [x, y] ∧ rAddAll K x y H Q) pAdd := by
  intro H0 H ps vs o Q s w e G
  unfold pAdd at e
  split at e
  · obtain ⟨v, u, F, F', rfl, h1, h2⟩ := views2 w
    cases (show v = _ from h1); cases (show u = _ from h2)
    exact ⟨_, _, rfl, .inl (.inl ⟨_, _, rfl, rfl, sc_gives e G s rfl⟩)⟩
  · obtain ⟨v, u, F, F', rfl, h1, h2⟩ := views2 w
    cases (show v = _ from h1); cases (show u = _ from h2)
    split at e
    · exact ⟨_, _, rfl, .inl (.inr ⟨_, _, rfl, rfl, ‹_›, sc_gives e G s rfl⟩)⟩
    · cases e
  · obtain ⟨v, u, F, F', rfl, h1, h2⟩ := views2 w
    split at e
    · rename_i hc
      cases e
      obtain ⟨a, vs, rfl, g1, o1⟩ := lst_lv s h1 hc.1
      obtain ⟨b, ws, rfl, g2, o2⟩ := lst_lv s h2 hc.2.1
      exact ⟨_, _, rfl, .inr (.inl ⟨a, b, vs, ws, rfl, rfl, g1, g2, by rw [ownL_len o1, ownL_len o2]; exact hc.2.2, gives_lst G s (ownL_app0 (F'' := noF) o1 o2)⟩)⟩
    · cases e
  · rename_i m1 ii m2 jj
    obtain ⟨v, u, F, F', rfl, h1, h2⟩ := views2 w
    split at e
    · rename_i hc
      cases e
      obtain ⟨a, vs, rfl, g1, o1⟩ := own_tup s h1
      obtain ⟨b, ws, rfl, g2, o2⟩ := own_tup s h2
      refine ⟨_, _, rfl, .inr (.inr ⟨a, b, vs, ws, rfl, rfl, .inl (.inl g1), .inl (.inl g2), by rw [ownL_len o1, ownL_len o2]; exact hc, fun q => ?_, fun _ q => ?_, fun _ _ => gives_tup G s (ownL_app0 (F'' := noF) o1 o2)⟩)⟩
      · subst q
        have l := ownL_len o1
        rw [List.length_nil] at l
        cases ii with
        | nil => exact gives_imm G s (own_imm (F' := noF) h2 (.inr rfl) fun _ _ z => z)
        | cons _ _ => cases l
      · subst q
        have l := ownL_len o2
        rw [List.length_nil] at l
        cases jj with
        | nil => rw [List.append_nil] at G; exact gives_imm G s (own_imm (F' := noF) h1 (.inr rfl) fun _ _ z => z)
        | cons _ _ => cases l
    · cases e
  · cases e
/-- two ints -/
def pI2 (C : Int → Int → Bool) (f : Int → Int → PV) : PO
  | [(_, .int i), (_, .int j)] => if C i j = true then sc (f i j) else none
  | _ => none
theorem rok_I2 {C : Int → Int → Bool} {f : Int → Int → PV} {f' : Int → Int → V} {D : Int → Int → Prop} (hC : ∀ i j, C i j = true → D i j) (hf : ∀ (K : PySem.W.Frag) (H0 H : Hp) i j, Own K H0 H (f i j) 0 (f' i j) noF) :
    ROk K (fun vs H Q => ∃ x y, vs = [x, y] ∧ rI D f' x y H Q) (pI2 C f) := by
  intro H0 H ps vs o Q s w e G
  unfold pI2 at e
  split at e
  · obtain ⟨v, u, F, F', rfl, h1, h2⟩ := views2 w
    cases (show v = _ from h1); cases (show u = _ from h2)
    split at e
    · exact ⟨_, _, rfl, _, _, rfl, rfl, hC _ _ ‹_›, sc_gives e G s (hf _ _ _ _ _)⟩
    · cases e
  · cases e
def pSub : PO := pI2 (fun _ _ => true) fun i j => .int (i - j)
def pMod : PO := pI2 (fun _ j => decide (0 < j)) fun i j => .int (i % j)
def pFdiv : PO := pI2 (fun _ j => decide (0 < j) && decide (j.natAbs.log2 < 9000)) fun i j => .int (i / j)
def pPow : PO := pI2 (fun i j => decide (0 ≤ j) && decide (j ≤ 1000000) && decide (i.natAbs < 2 ^ 64)) fun i j => .int (i ^ j.toNat)
def pMul : PO
  | [(_, .int i), (_, .int j)] => if i.natAbs.log2 + j.natAbs.log2 < 1000000 then sc (.int (i * j)) else none
  | [(_, .str x), (_, .int n)] => if 0 ≤ n ∧ n ≤ 1000000 ∧ x.length * n.toNat ≤ 1000000 then sc (.str (Txt.mul x n)) else none
  | _ => none
def rMulStr : R2 := fun x y H Q => ∃ z n, x = .str z ∧ y = .int n ∧ MulOk z n ∧ Q (.str (Txt.mul z n)) H
theorem op_mulStr {X : Cx} : OpR X (binaryOp .Mult) rMulStr := by
  intro pins s σ H x y v u Q I rx ry h
  obtain ⟨z, n, rfl, rfl, hk, q⟩ := h
  obtain ⟨t, rfl⟩ := rx
  obtain ⟨t', rfl⟩ := ry
  exact SB.mul hk fun t' k => ⟨.str _, H, I.tok _, ⟨_, rfl⟩, q⟩
theorem mulOk_of {x : Str} {n : Int} (h0 : 0 ≤ n) (h1 : n ≤ 1000000) (h2 : x.length * n.toNat ≤ 1000000) : MulOk x n := by
  refine ⟨by simp; omega, fun a b => ?_, fun a b => ?_⟩
  · have hx : x.length ≤ 1000000 := by
      have h3 : 1 ≤ n.toNat := by omega
      exact Nat.le_trans (Nat.le_mul_of_pos_right _ h3) h2
    have h3 : (1000000 : Int) ≤ (2 ^ 63 - 1) / n := by
      rw [Int.le_ediv_iff_mul_le (by omega)]
      have : (1000000 : Int) * n ≤ 1000000 * 1000000 := Int.mul_le_mul_of_nonneg_left h1 (by decide)
      omega
    omega
  · unfold Builtin.Str.tooLong
    simp only [decide_eq_false_iff_not, Nat.not_lt, sizeLine_eq]
    first | omega | (simp; omega)
theorem rok_mul : ROk K (fun vs H Q => ∃ x y, vs = [x, y] ∧ ((rI CMulW fun i j => .int (i * j)) x y H Q ∨ rMulStr x y H Q)) pMul := by
  intro H0 H ps vs o Q s w e G
  unfold pMul at e
  split at e
  · obtain ⟨v, u, F, F', rfl, h1, h2⟩ := views2 w
    cases (show v = _ from h1); cases (show u = _ from h2)
    split at e
    · exact ⟨_, _, rfl, .inl ⟨_, _, rfl, rfl, ‹_›, sc_gives e G s rfl⟩⟩
    · cases e
  · obtain ⟨v, u, F, F', rfl, h1, h2⟩ := views2 w
    cases (show v = _ from h1); cases (show u = _ from h2)
    split at e
    · rename_i hc
      exact ⟨_, _, rfl, .inr ⟨_, _, rfl, rfl, mulOk_of hc.1 hc.2.1 hc.2.2, sc_gives e G s rfl⟩⟩
    · cases e
  · cases e
variable {a b c : Expr} {fa fb : EF} {pos : Pos}
theorem ev_add (ha : EV g Γ a fa) (hb : EV g Γ b fb) : EV g Γ (.BinOp a .Add b pos) (eOp pAdd (aCons fa (aCons fb aNil))) :=
  ev_op2 (r := rAddAll g.K) rok_add (fun X W F ta tb ha hb => by rw [← F.K]; exact pe_op op_addAll ha hb) ha hb
theorem ev_sub (ha : EV g Γ a fa) (hb : EV g Γ b fb) : EV g Γ (.BinOp a .Sub b pos) (eOp pSub (aCons fa (aCons fb aNil))) :=
  ev_op2 (r := rI0 fun i j => .int (i - j)) (fun H0 H ps vs o Q s w e G => by obtain ⟨x, y, e, i, j, h1, h2, _, h3⟩ := rok_I2 (D := fun _ _ => True) (f' := fun i j => .int (i - j)) (f := fun i j => .int (i - j)) (fun _ _ _ => True.intro) (fun _ _ _ _ _ => rfl) H0 H ps vs o Q s w e G; exact ⟨x, y, e, i, j, h1, h2, h3⟩) (fun X W F ta tb ha hb => pe_op op_sub ha hb) ha hb
theorem ev_mul (ha : EV g Γ a fa) (hb : EV g Γ b fb) : EV g Γ (.BinOp a .Mult b pos) (eOp pMul (aCons fa (aCons fb aNil))) :=
  ev_op2 rok_mul (fun X W F ta tb ha hb => pe_op (OpR.or op_mulW op_mulStr) ha hb) ha hb
theorem ev_mod (ha : EV g Γ a fa) (hb : EV g Γ b fb) : EV g Γ (.BinOp a .Mod b pos) (eOp pMod (aCons fa (aCons fb aNil))) :=
  ev_op2 (rok_I2 (f' := fun i j => .int (i % j)) (fun i j h => of_decide_eq_true h) fun _ _ _ _ _ => rfl) (fun X W F ta tb ha hb => pe_op op_mod ha hb) ha hb
theorem ev_fdiv (ha : EV g Γ a fa) (hb : EV g Γ b fb) : EV g Γ (.BinOp a .FloorDiv b pos) (eOp pFdiv (aCons fa (aCons fb aNil))) :=
  ev_op2 (rok_I2 (f' := fun i j => .int (i / j)) (D := CDivW) (fun i j h => by simp only [Bool.and_eq_true, decide_eq_true_eq] at h; exact h) fun _ _ _ _ _ => rfl) (fun X W F ta tb ha hb => pe_op op_fdivW ha hb) ha hb
theorem ev_pow (ha : EV g Γ a fa) (hb : EV g Γ b fb) : EV g Γ (.BinOp a .Pow b pos) (eOp pPow (aCons fa (aCons fb aNil))) :=
  ev_op2 (rok_I2 (f' := fun i j => .int (i ^ j.toNat)) (D := CPow) (fun i j h => by simp only [Bool.and_eq_true, decide_eq_true_eq] at h; exact ⟨h.1.1, h.1.2, h.2⟩) fun _ _ _ _ _ => rfl) (fun X W F ta tb ha hb => pe_op op_pow ha hb) ha hb

/-! ### comparisons -/
def PV.flat : PV → Option V
  | .non => some .non
  | .bl b => some (.bl b)
  | .int i => some (.int i)
  | .str s => some (.str s)
  | _ => none
theorem own_flat {x : PV} {n : Nat} {v u : V} {F : Fp} (h : Own K H0 H x n v F) (e : x.flat = some u) : v = u := by
  cases x <;> first | (cases e; exact h) | cases e
theorem flat_scal {x y : PV} {u v : V} (e : x.flat = some u) (e' : y.flat = some v) (h : scal u v = true) : scal u v = true := h
def eqR (b : Bool) : PO
  | [(_, x), (_, y)] => match x.flat, y.flat with
    | some u, some v => if scal u v = true then sc (.bl (b ^^ decide (u = v))) else none
    | _, _ => match x.toD, y.toD with
      | some d, some e => if SeqAt.shaped d = true ∧ SeqAt.shaped e = true then sc (.bl (b ^^ PyData.eqv d e)) else none
      | _, _ => none
  | _ => none
def pEq : PO := eqR false
def pNe : PO := eqR true
theorem rok_eq : ROk K (fun vs H Q => ∃ x y, vs = [x, y] ∧ (rEq x y H Q ∨ rEqD K x y H Q)) pEq := by
  intro H0 H ps vs o Q s w e G
  unfold pEq eqR at e
  split at e
  · rename_i n1 x n2 y
    obtain ⟨v, u, F, F', rfl, h1, h2⟩ := views2 w
    split at e
    · rename_i p q e1 e2
      split at e
      · have q1 := own_flat h1 e1
        have q2 := own_flat h2 e2
        subst q1 q2
        refine ⟨_, _, rfl, .inl ⟨‹_›, ?_⟩⟩
        rw [Bool.false_xor] at e
        exact sc_gives e G s rfl
      · cases e
    · split at e
      · rename_i p q e1 e2
        split at e
        · rename_i hc
          refine ⟨_, _, rfl, .inr ⟨_, _, own_dp s _ _ _ _ _ h1 e1, own_dp s _ _ _ _ _ h2 e2, hc.1, hc.2, ?_⟩⟩
          rw [Bool.false_xor] at e
          exact sc_gives e G s rfl
        · cases e
      · cases e
  · cases e
theorem rok_ne : ROk K (fun vs H Q => ∃ x y, vs = [x, y] ∧ (rNe x y H Q ∨ rNeD K x y H Q)) pNe := by
  intro H0 H ps vs o Q s w e G
  unfold pNe eqR at e
  split at e
  · rename_i n1 x n2 y
    obtain ⟨v, u, F, F', rfl, h1, h2⟩ := views2 w
    split at e
    · rename_i p q e1 e2
      split at e
      · have q1 := own_flat h1 e1
        have q2 := own_flat h2 e2
        subst q1 q2
        refine ⟨_, _, rfl, .inl ⟨‹_›, ?_⟩⟩
        rw [Bool.true_xor] at e
        exact sc_gives e G s rfl
      · cases e
    · split at e
      · rename_i p q e1 e2
        split at e
        · rename_i hc
          refine ⟨_, _, rfl, .inr ⟨_, _, own_dp s _ _ _ _ _ h1 e1, own_dp s _ _ _ _ _ h2 e2, hc.1, hc.2, ?_⟩⟩
          rw [Bool.true_xor] at e
          exact sc_gives e G s rfl
        · cases e
      · cases e
  · cases e
def noSet : Expr → Bool
  | .Set _ _ _ => false
  | _ => true
theorem marks_no {op : CmpOp} {b : Expr} (h : noSet b = true) : behindInMarks op b = false := by
  cases b <;> first | rfl | cases h
theorem ev_eq (ha : EV g Γ a fa) (hb : EV g Γ b fb) : EV g Γ (.Compare a [.Eq] [b] pos) (eOp pEq (aCons fa (aCons fb aNil))) :=
  ev_op2 (r := fun x y H Q => rEq x y H Q ∨ rEqD g.K x y H Q) rok_eq (fun X W F ta tb ha hb => by rw [← F.K]; exact pe_cmpR (OpR.or op_eq (op_eqD F.un64)) ha hb (nomark _)) ha hb
theorem ev_ne (ha : EV g Γ a fa) (hb : EV g Γ b fb) : EV g Γ (.Compare a [.NotEq] [b] pos) (eOp pNe (aCons fa (aCons fb aNil))) :=
  ev_op2 (r := fun x y H Q => rNe x y H Q ∨ rNeD g.K x y H Q) rok_ne (fun X W F ta tb ha hb => by rw [← F.K]; exact pe_cmpR (OpR.or op_ne (op_neD F.un64)) ha hb (nomark _)) ha hb
/-- order: ints, texts -/
def pOrd (f : Int → Int → Bool) (h : Str → Str → Bool) : PO
  | [(_, .int i), (_, .int j)] => sc (.bl (f i j))
  | [(_, .str i), (_, .str j)] => sc (.bl (h i j))
  | _ => none
theorem rok_ord {f : Int → Int → Bool} {h : Str → Str → Bool} : ROk K (fun vs H Q => ∃ x y, vs = [x, y] ∧ ((rI0 fun i j => .bl (f i j)) x y H Q ∨ ∃ i j, x = .str i ∧ y = .str j ∧ Q (.bl (h i j)) H)) (pOrd f h) := by
  intro H0 H ps vs o Q s w e G
  unfold pOrd at e
  split at e
  · obtain ⟨v, u, F, F', rfl, h1, h2⟩ := views2 w
    cases (show v = _ from h1); cases (show u = _ from h2)
    exact ⟨_, _, rfl, .inl ⟨_, _, rfl, rfl, sc_gives e G s rfl⟩⟩
  · obtain ⟨v, u, F, F', rfl, h1, h2⟩ := views2 w
    cases (show v = _ from h1); cases (show u = _ from h2)
    exact ⟨_, _, rfl, .inr ⟨_, _, rfl, rfl, sc_gives e G s rfl⟩⟩
  · cases e
def pLt : PO := pOrd (fun i j => decide (i < j)) fun i j => decide (i.cps.toList < j.cps.toList)
def pLe : PO := pOrd (fun i j => decide (i ≤ j)) fun i j => !decide (j.cps.toList < i.cps.toList)
def pGt : PO := pOrd (fun i j => decide (j < i)) fun i j => decide (j.cps.toList < i.cps.toList)
def pGe : PO := pOrd (fun i j => decide (j ≤ i)) fun i j => !decide (i.cps.toList < j.cps.toList)
def cmpOf : CmpOp → PO
  | .Lt => pLt
  | .LtE => pLe
  | .Gt => pGt
  | .GtE => pGe
  | .Eq => pEq
  | .NotEq => pNe
  | _ => fun _ => none
theorem op_ltA {X : Cx} : OpR X (compareOp .Lt) (fun x y H Q => (rI0 fun i j => .bl (decide (i < j))) x y H Q ∨ ∃ i j, x = .str i ∧ y = .str j ∧ Q (.bl (decide (i.cps.toList < j.cps.toList))) H) := OpR.or op_lt op_lt_str
theorem op_leA {X : Cx} : OpR X (compareOp .LtE) (fun x y H Q => (rI0 fun i j => .bl (decide (i ≤ j))) x y H Q ∨ ∃ i j, x = .str i ∧ y = .str j ∧ Q (.bl (!decide (j.cps.toList < i.cps.toList))) H) := OpR.or op_le op_le_str
theorem op_gtA {X : Cx} : OpR X (compareOp .Gt) (fun x y H Q => (rI0 fun i j => .bl (decide (j < i))) x y H Q ∨ ∃ i j, x = .str i ∧ y = .str j ∧ Q (.bl (decide (j.cps.toList < i.cps.toList))) H) := OpR.or op_gt op_gt_str
theorem op_geA {X : Cx} : OpR X (compareOp .GtE) (fun x y H Q => (rI0 fun i j => .bl (decide (j ≤ i))) x y H Q ∨ ∃ i j, x = .str i ∧ y = .str j ∧ Q (.bl (!decide (i.cps.toList < j.cps.toList))) H) := OpR.or op_ge op_ge_str
theorem ev_lt (ha : EV g Γ a fa) (hb : EV g Γ b fb) : EV g Γ (.Compare a [.Lt] [b] pos) (eOp pLt (aCons fa (aCons fb aNil))) :=
  ev_op2 rok_ord (fun X W F ta tb ha hb => pe_cmpR op_ltA ha hb (nomark _)) ha hb
theorem ev_le (ha : EV g Γ a fa) (hb : EV g Γ b fb) : EV g Γ (.Compare a [.LtE] [b] pos) (eOp pLe (aCons fa (aCons fb aNil))) :=
  ev_op2 rok_ord (fun X W F ta tb ha hb => pe_cmpR op_leA ha hb (nomark _)) ha hb
theorem ev_gt (ha : EV g Γ a fa) (hb : EV g Γ b fb) : EV g Γ (.Compare a [.Gt] [b] pos) (eOp pGt (aCons fa (aCons fb aNil))) :=
  ev_op2 rok_ord (fun X W F ta tb ha hb => pe_cmpR op_gtA ha hb (nomark _)) ha hb
theorem ev_ge (ha : EV g Γ a fa) (hb : EV g Γ b fb) : EV g Γ (.Compare a [.GtE] [b] pos) (eOp pGe (aCons fa (aCons fb aNil))) :=
  ev_op2 rok_ord (fun X W F ta tb ha hb => pe_cmpR op_geA ha hb (nomark _)) ha hb
/-- is None, is not None -/
def PV.isNon : PV → Bool
  | .non => true
  | _ => false
def pIsN (b : Bool) : PO
  | [(_, x), (_, .non)] => sc (.bl (b ^^ x.isNon))
  | _ => none
theorem own_non {x : PV} {n : Nat} {v : V} {F : Fp} (h : Own K H0 H x n v F) : decide (v = .non) = x.isNon := by
  cases x with
  | non => cases (show v = _ from h); rfl
  | bl b => cases (show v = _ from h); rfl
  | int b => cases (show v = _ from h); rfl
  | str b => cases (show v = _ from h); rfl
  | tup xs => obtain ⟨a, vs, rfl, _⟩ := h; rfl
  | ctup xs => obtain ⟨a, vs, rfl, _⟩ := h; rfl
  | clst xs => obtain ⟨a, vs, rfl, _⟩ := h; rfl
  | lst xs => cases n with | zero => obtain ⟨a, vs, rfl, _⟩ := h; rfl | succ n => obtain ⟨a, vs, rfl, _⟩ := h; rfl
  | dic xs => cases n with | zero => obtain ⟨a, _, _, _, rfl, _⟩ := h; rfl | succ n => obtain ⟨a, _, _, rfl, _⟩ := h; rfl
  | exn _ _ _ _ => obtain ⟨rfl, _⟩ := h; rfl
theorem rok_isN : ROk K (fun vs H Q => ∃ x y, vs = [x, y] ∧ (y = .non ∧ Q (.bl (decide (x = .non))) H)) (pIsN false) := by
  intro H0 H ps vs o Q s w e G
  unfold pIsN at e
  split at e
  · obtain ⟨v, u, F, F', rfl, h1, h2⟩ := views2 w
    cases (show u = _ from h2)
    refine ⟨_, _, rfl, rfl, ?_⟩
    rw [own_non h1]
    rw [Bool.false_xor] at e
    exact sc_gives e G s rfl
  · cases e
theorem rok_notN : ROk K (fun vs H Q => ∃ x y, vs = [x, y] ∧ (y = .non ∧ Q (.bl (!decide (x = .non))) H)) (pIsN true) := by
  intro H0 H ps vs o Q s w e G
  unfold pIsN at e
  split at e
  · obtain ⟨v, u, F, F', rfl, h1, h2⟩ := views2 w
    cases (show u = _ from h2)
    refine ⟨_, _, rfl, rfl, ?_⟩
    rw [own_non h1]
    rw [Bool.true_xor] at e
    exact sc_gives e G s rfl
  · cases e
theorem ev_isN (ha : EV g Γ a fa) (hb : EV g Γ b fb) : EV g Γ (.Compare a [.Is] [b] pos) (eOp (pIsN false) (aCons fa (aCons fb aNil))) :=
  ev_op2 rok_isN (fun X W F ta tb ha hb => pe_cmpR op_isN ha hb (nomark _)) ha hb
theorem ev_notN (ha : EV g Γ a fa) (hb : EV g Γ b fb) : EV g Γ (.Compare a [.IsNot] [b] pos) (eOp (pIsN true) (aCons fa (aCons fb aNil))) :=
  ev_op2 rok_notN (fun X W F ta tb ha hb => pe_cmpR op_notN ha hb (nomark _)) ha hb
def pNeg : PO
  | [(_, .int i)] => sc (.int (-i))
  | _ => none
theorem ev_neg (ha : EV g Γ a fa) : EV g Γ (.UnaryOp .USub a pos) (eOp pNeg (aCons fa aNil)) :=
  ev_op1 (r := rU fun i => .int (-i)) (fun H0 H ps vs o Q s w e G => by
    unfold pNeg at e
    split at e
    · obtain ⟨v, F, rfl, h1⟩ := views1 w
      cases (show v = _ from h1)
      exact ⟨_, rfl, _, rfl, sc_gives e G s rfl⟩
    · cases e) (fun X W F ta ha => pe_un un_neg ha) ha
end
end Pv

set_option maxRecDepth 100000
set_option maxHeartbeats 1000000
namespace Pv
open PySem PySem.Spec PyProof.Rows L2

/-! ## truth, tests -/
def PV.tru : PV → Option Bool
  | .non => some false
  | .bl b => some b
  | .int i => some (i != 0)
  | .str s => if s.length ≤ sizeLine then some ((s.length : Int) != 0) else none
  | .tup xs | .ctup xs | .lst xs | .clst xs => some (!xs.isEmpty)
  | .dic _ | .exn _ _ _ _ => none
section
variable {g : Prg} {Γ : Sx} {K : PySem.W.Frag} {H0 H : Hp}
theorem empty_ownL {xs : List PV} {n : Nat} {vs : List V} {F : Fp} (h : OwnL K H0 H xs n vs F) : (!xs.isEmpty) = !vs.isEmpty := by
  have l := ownL_len h
  cases xs <;> cases vs <;> first | rfl | cases l
theorem own_tru (s : Same H0 H) {x : PV} {n : Nat} {v : V} {F : Fp} {b : Bool} (h : Own K H0 H x n v F) (e : x.tru = some b) : TruV K v H b := by
  cases x with
  | non => cases (show v = _ from h); cases e; exact rfl
  | bl c => cases (show v = _ from h); cases e; exact rfl
  | int i => cases (show v = _ from h); cases e; exact rfl
  | str z =>
    cases (show v = _ from h)
    have e' : (if z.length ≤ sizeLine then some ((z.length : Int) != 0) else none) = some b := e
    split at e'
    · cases e'; exact ⟨‹_›, rfl⟩
    · cases e'
  | tup xs =>
    cases e
    obtain ⟨a, vs, rfl, h1, h2⟩ := own_tup s h
    exact .inr (.inl ⟨vs, .inl (.inl h1), empty_ownL h2⟩)
  | ctup xs =>
    cases e
    obtain ⟨a, vs, rfl, h1, h2⟩ := h
    exact .inr (.inl ⟨vs, sqT_up h1, empty_ownL h2⟩)
  | lst xs =>
    cases e
    obtain ⟨a, vs, G, rfl, h1, h2⟩ := own_lst s h
    exact .inl ⟨vs, .inl (.inl h1), empty_ownL h2⟩
  | clst xs =>
    cases e
    obtain ⟨a, vs, rfl, h1, h2⟩ := h
    exact .inl ⟨vs, s.seq h1, empty_ownL h2⟩
  | dic _ => cases e
  | exn _ _ _ _ => cases e

/-- a test's result -/
structure Tr where
  pu : Bool
  b : Bool
  ρ : Ev
abbrev TFn := Ev → Res Tr
def PostT (K : PySem.W.Frag) (H0 H : Hp) (O : Fp) (σ : L2.St) (r : Tr) (Q : Bool → Hp → Prop) : Prop :=
  ∀ H0' H' O', Grow H0 H O H0' H' O' → (r.pu = true → Same H H') → St0 K H0' H' O' σ r.ρ → Q r.b H'
def tT (g : Prg) (W : WX) (f : TFn) : TT := fun σ H Q => ∃ H0 O ρ, St0 g.K H0 H O σ ρ ∧ match f ρ with
  | .ok r => PostT g.K H0 H O σ r Q
  | .exc c fs ρ' => PostX g H0 H O σ c fs ρ' W
  | .bad => False
def TV (g : Prg) (Γ : Sx) (e : Expr) (f : TFn) : Prop := ∀ X W, Fits g Γ X W → PT X e (tT g W f)
/-- .. whatever its whole -/
def TW (g : Prg) (Γ : Sx) (e : Expr) (f : TFn) : Prop := ∀ X W, Fits g Γ X W → PW X e (tT g W f)
theorem TW.tv {e : Expr} {f : TFn} (h : TW g Γ e f) : TV g Γ e f := fun X W F => (h X W F).pt
theorem PW.imp {X : Cx} {e : Expr} {t t' : TT} (h : PW X e t) (k : ∀ σ H Q, t' σ H Q → t σ H Q) : PW X e t' := ⟨fun w pins s σ H Q I q => h.run w pins s σ H Q I (k σ H Q q)⟩
def tOf (f : EF) : TFn := fun ρ => (f ρ).bind fun r => match r.x.tru with
  | some b => .ok ⟨r.pu, b, r.ρ⟩
  | none => .bad
theorem tOf_run {W : WX} {f : EF} {σ : L2.St} {Q : Bool → Hp → Prop} (p : tT g W (tOf f) σ H Q) : tF g W f σ H fun x H1 => ∃ k, TruV g.K x H1 k ∧ Q k H1 := by
  obtain ⟨H0, O, ρ, S, q⟩ := p
  refine ⟨H0, O, ρ, S, ?_⟩
  unfold tOf at q
  cases e : f ρ with
  | bad => rw [e] at q; exact q
  | exc c fs ρ' => rw [e] at q; exact q
  | ok r =>
    rw [e] at q
    simp only [Res.bind] at q
    intro v H0' H' O' B k hp S' T w
    cases ht : r.x.tru with
    | none => rw [ht] at q; exact q.elim
    | some b =>
      rw [ht] at q
      have z : ∃ F, Own g.K H0' H' r.x r.lv v F := by
        split at w
        · exact ⟨_, w⟩
        · exact w
      obtain ⟨F, z⟩ := z
      exact ⟨b, own_tru S'.sub z ht, q H0' H' O' (k.mono fun a z => .inl z) hp S'⟩
/-- an expression whose test is its value's truth -/
def plainTest : Expr → Bool
  | .Name _ _ | .Call _ _ _ _ | .Subscript _ _ _ | .Attribute _ _ _ | .Constant _ _ _ | .BinOp _ _ _ _ | .List _ _ | .Tuple _ _ _ => true
  | _ => false
theorem tv_plain {e : Expr} {f : EF} (h : EV g Γ e f) (hp : plainTest e = true) : TV g Γ e (tOf f) := fun X W F => by
  refine PT.imp (pt_truth (h X W F) ?_) fun σ H Q p => ?_
  · intro w
    cases e <;> first | rfl | cases hp
  · have p' := tOf_run p
    rw [← F.K] at p'
    exact p'
variable {a b c : Expr} {fa fb fc : EF} {pos : Pos}
/-- comparisons as tests -/
def BoolPO (po : PO) : Prop := ∀ ps o, po ps = some o → ∃ k, o = ⟨true, 0, .bl k⟩
theorem op_runB {W : WX} {op : PO} {af : AF} {r : List V → Hp → VK → Prop} {σ : L2.St} {Q : Bool → Hp → Prop} (hr : ROk g.K r op) (hb : BoolPO op) (p : tT g W (tOf (eOp op af)) σ H Q) :
    tA g W af σ H fun vs H1 => r vs H1 fun x H' => ∃ k, x = .bl k ∧ Q k H' := by
  obtain ⟨H0, O, ρ, S, q⟩ := p
  refine ⟨H0, O, ρ, S, ?_⟩
  unfold tOf eOp at q
  cases e : af ρ with
  | bad => rw [e] at q; exact q
  | exc c fs ρ' => rw [e] at q; exact q
  | ok a =>
    rw [e] at q
    simp only [Res.bind] at q
    intro vs H0' H' O' k hp S' vw
    cases ho : op a.vs with
    | none => rw [ho] at q; exact q.elim
    | some o =>
      rw [ho] at q
      obtain ⟨b, rfl⟩ := hb _ _ ho
      refine hr H0' H' a.vs vs _ _ S'.sub vw ho fun v H0'' H'' B A w => ⟨b, w, ?_⟩
      exact q H0'' H'' O' ((k.trans0 A.grow).mono fun a z => .inl z) (fun z => L2.Same.trans (hp z) A.sm) (A.st S')
theorem tv_cmp {op : CmpOp} {po : PO} {r : R2} (hr : ROk g.K (fun vs H Q => ∃ x y, vs = [x, y] ∧ r x y H Q) po) (hb' : BoolPO po) (ho : ∀ X W, Fits g Γ X W → OpR X (compareOp op) r) (hm : ∀ (b : Expr), noSet b = true → behindInMarks op b = false) (hs : noSet b = true) (ha : EV g Γ a fa) (hb : EV g Γ b fb) :
    TV g Γ (.Compare a [op] [b] pos) (tOf (eOp po (aCons fa (aCons fb aNil)))) := fun X W F => by
  refine PT.imp (pt_cmpR (ho X W F) (ha X W F) (hb X W F) (hm b hs)) fun σ H Q p => ?_
  have p1 := op_runB hr hb' p
  refine tF.mono (tA_cons p1) fun x H1 p1 => tF.mono (tA_cons p1) fun y H2 p2 => ?_
  obtain ⟨x', y', e, q⟩ := tA_nil p2
  cases e
  exact q
theorem bool_eqR (c : Bool) : BoolPO (eqR c) := fun ps o e => by
  unfold eqR at e
  split at e
  · split at e
    · split at e
      · cases e; exact ⟨_, rfl⟩
      · cases e
    · split at e
      · split at e
        · cases e; exact ⟨_, rfl⟩
        · cases e
      · cases e
  · cases e
theorem bool_ord (f h) : BoolPO (pOrd f h) := fun ps o e => by
  unfold pOrd at e
  split at e
  · cases e; exact ⟨_, rfl⟩
  · cases e; exact ⟨_, rfl⟩
  · cases e
theorem bool_isN (b) : BoolPO (pIsN b) := fun ps o e => by
  unfold pIsN at e
  split at e
  · cases e; exact ⟨_, rfl⟩
  · cases e
theorem tv_eq (hs : noSet b = true) (ha : EV g Γ a fa) (hb : EV g Γ b fb) : TV g Γ (.Compare a [.Eq] [b] pos) (tOf (eOp pEq (aCons fa (aCons fb aNil)))) :=
  tv_cmp (r := fun x y H Q => rEq x y H Q ∨ rEqD g.K x y H Q) rok_eq (bool_eqR _) (fun X W F => by rw [← F.K]; exact OpR.or op_eq (op_eqD F.un64)) (fun _ => marks_no) hs ha hb
theorem tv_ne (hs : noSet b = true) (ha : EV g Γ a fa) (hb : EV g Γ b fb) : TV g Γ (.Compare a [.NotEq] [b] pos) (tOf (eOp pNe (aCons fa (aCons fb aNil)))) :=
  tv_cmp (r := fun x y H Q => rNe x y H Q ∨ rNeD g.K x y H Q) rok_ne (bool_eqR _) (fun X W F => by rw [← F.K]; exact OpR.or op_ne (op_neD F.un64)) (fun _ => marks_no) hs ha hb
theorem tv_lt (hs : noSet b = true) (ha : EV g Γ a fa) (hb : EV g Γ b fb) : TV g Γ (.Compare a [.Lt] [b] pos) (tOf (eOp pLt (aCons fa (aCons fb aNil)))) := tv_cmp rok_ord (bool_ord _ _) (fun _ _ _ => op_ltA) (fun _ => marks_no) hs ha hb
theorem tv_le (hs : noSet b = true) (ha : EV g Γ a fa) (hb : EV g Γ b fb) : TV g Γ (.Compare a [.LtE] [b] pos) (tOf (eOp pLe (aCons fa (aCons fb aNil)))) := tv_cmp rok_ord (bool_ord _ _) (fun _ _ _ => op_leA) (fun _ => marks_no) hs ha hb
theorem tv_gt (hs : noSet b = true) (ha : EV g Γ a fa) (hb : EV g Γ b fb) : TV g Γ (.Compare a [.Gt] [b] pos) (tOf (eOp pGt (aCons fa (aCons fb aNil)))) := tv_cmp rok_ord (bool_ord _ _) (fun _ _ _ => op_gtA) (fun _ => marks_no) hs ha hb
theorem tv_ge (hs : noSet b = true) (ha : EV g Γ a fa) (hb : EV g Γ b fb) : TV g Γ (.Compare a [.GtE] [b] pos) (tOf (eOp pGe (aCons fa (aCons fb aNil)))) := tv_cmp rok_ord (bool_ord _ _) (fun _ _ _ => op_geA) (fun _ => marks_no) hs ha hb
theorem tv_isN (hs : noSet b = true) (ha : EV g Γ a fa) (hb : EV g Γ b fb) : TV g Γ (.Compare a [.Is] [b] pos) (tOf (eOp (pIsN false) (aCons fa (aCons fb aNil)))) := tv_cmp rok_isN (bool_isN _) (fun _ _ _ => op_isN) (fun _ => marks_no) hs ha hb
theorem tv_notN (hs : noSet b = true) (ha : EV g Γ a fa) (hb : EV g Γ b fb) : TV g Γ (.Compare a [.IsNot] [b] pos) (tOf (eOp (pIsN true) (aCons fa (aCons fb aNil)))) := tv_cmp rok_notN (bool_isN _) (fun _ _ _ => op_notN) (fun _ => marks_no) hs ha hb

/-! ### not, and, or as tests -/
variable {ta tb : TFn} {rest : List Expr}
theorem PostT.of_grow {O O' : Fp} {σ : L2.St} {H0' H' : Hp} {pu : Bool} {b : Bool} {ρ : Ev} {Q : Bool → Hp → Prop} {pu' : Bool} (p : PostT K H0 H O σ ⟨pu' && pu, b, ρ⟩ Q) (k : Grow H0 H O H0' H' O') (hp : pu' = true → Same H H') : PostT K H0' H' O' σ ⟨pu, b, ρ⟩ Q :=
  fun H0'' H'' O'' k2 hp2 S => p H0'' H'' O'' (k.trans0 k2) (fun z => by have z' := Bool.and_eq_true_iff.mp z; exact L2.Same.trans (hp z'.1) (hp2 z'.2)) S
theorem PostX.of_grow {O O' : Fp} {σ : L2.St} {H0' H' : Hp} {c : Str} {fs : List (Str × PV)} {ρ : Ev} {W : WX} (p : PostX g H0 H O σ c fs ρ W) (k : Grow H0 H O H0' H' O') : PostX g H0' H' O' σ c fs ρ W :=
  fun H0'' H'' O'' d k2 s x => p H0'' H'' O'' d (k.trans0 k2) s x
theorem PostR.of_grow {O O' : Fp} {σ : L2.St} {H0' H' : Hp} {r : Rr} {pu' : Bool} {Q : VK} (p : PostR K H0 H O σ ⟨pu' && r.pu, r.ow, r.lv, r.x, r.ρ⟩ Q) (k : Grow H0 H O H0' H' O') (hp : pu' = true → Same H H') : PostR K H0' H' O' σ r Q :=
  fun v H0'' H'' O'' B k2 hp2 S T w => p v H0'' H'' O'' B (k.trans0 k2) (fun z => by have z' := Bool.and_eq_true_iff.mp z; exact L2.Same.trans (hp z'.1) (hp2 z'.2)) S T w
def tNotF (f : TFn) : TFn := fun ρ => (f ρ).bind fun r => .ok ⟨r.pu, !r.b, r.ρ⟩
def tSeqF (c : Bool) (f h : TFn) : TFn := fun ρ => (f ρ).bind fun r => if r.b = c then (h r.ρ).bind fun r' => .ok ⟨r.pu && r'.pu, r'.b, r'.ρ⟩ else .ok r
theorem tv_not (ha : TV g Γ a ta) : TV g Γ (.UnaryOp .Not a pos) (tNotF ta) := fun X W F => by
  refine PT.imp (L2.pt_not (ha X W F)) fun σ H Q ⟨H0, O, ρ, S, q⟩ => ⟨H0, O, ρ, S, ?_⟩
  unfold tNotF at q
  cases e : ta ρ with
  | bad => rw [e] at q; exact q
  | exc c fs ρ' => rw [e] at q; exact q
  | ok r => rw [e] at q; exact fun H0' H' O' k hp S' => q H0' H' O' k hp S'
theorem seq_run {W : WX} {c : Bool} {σ : L2.St} {Q : Bool → Hp → Prop} (p : tT g W (tSeqF c ta tb) σ H Q) : tT g W ta σ H fun b H1 => if b = c then tT g W tb σ H1 Q else Q b H1 := by
  obtain ⟨H0, O, ρ, S, q⟩ := p
  refine ⟨H0, O, ρ, S, ?_⟩
  unfold tSeqF at q
  cases e : ta ρ with
  | bad => rw [e] at q; exact q
  | exc c fs ρ' => rw [e] at q; exact q
  | ok r =>
    rw [e] at q
    simp only [Res.bind] at q
    intro H0' H' O' k hp S'
    by_cases hb : r.b = c
    · rw [if_pos hb] at q ⊢
      refine ⟨H0', O', r.ρ, S', ?_⟩
      cases e2 : tb r.ρ with
      | bad => rw [e2] at q; exact q
      | exc c fs ρ' => rw [e2] at q; exact PostX.of_grow q k
      | ok r' => rw [e2] at q; exact PostT.of_grow q k hp
    · rw [if_neg hb] at q ⊢
      exact q H0' H' O' k hp S'
theorem tT.mono {W : WX} {f : TFn} {σ : L2.St} {Q Q' : Bool → Hp → Prop} (p : tT g W f σ H Q) (h : ∀ v H, Q v H → Q' v H) : tT g W f σ H Q' := by
  obtain ⟨H0, O, ρ, S, q⟩ := p
  refine ⟨H0, O, ρ, S, ?_⟩
  cases e : f ρ with
  | ok r => rw [e] at q; exact fun H0' H' O' a b c => h _ _ (q H0' H' O' a b c)
  | exc c fs ρ' => rw [e] at q; exact q
  | bad => rw [e] at q; exact q
theorem tw_and (ha : TV g Γ a ta) (hb : TW g Γ (.BoolOp .And (b :: rest) pos) tb) : TW g Γ (.BoolOp .And (a :: b :: rest) pos) (tSeqF true ta tb) := fun X W F =>
  PW.imp (pw_and (ha X W F) (hb X W F)) fun σ H Q p => seq_run p |> fun p => tT.mono p fun v H q => by
    cases v with
    | true => exact q
    | false => rw [if_neg (by decide)] at q ⊢; exact q
theorem tw_or (ha : TV g Γ a ta) (hb : TW g Γ (.BoolOp .Or (b :: rest) pos) tb) : TW g Γ (.BoolOp .Or (a :: b :: rest) pos) (tSeqF false ta tb) := fun X W F =>
  PW.imp (pw_or (ha X W F) (hb X W F)) fun σ H Q p => seq_run p |> fun p => tT.mono p fun v H q => by
    cases v with
    | true => rw [if_pos rfl]; rw [if_neg (by decide)] at q; exact q
    | false => rw [if_neg (by decide)]; rw [if_pos rfl] at q; exact q
theorem tw_and1 (ha : TV g Γ a ta) : TW g Γ (.BoolOp .And [a] pos) ta := fun X W F => pw_and1 (ha X W F)
theorem tw_or1 (ha : TV g Γ a ta) : TW g Γ (.BoolOp .Or [a] pos) ta := fun X W F => pw_or1 (ha X W F)

/-! ### the same as values -/
def eSeqF (c : Bool) (f h : EF) : EF := fun ρ => (f ρ).bind fun r => match r.x.tru with
  | none => .bad
  | some b => if b = c then (h r.ρ).bind fun r' => .ok ⟨r.pu && r'.pu, r'.ow, r'.lv, r'.x, r'.ρ⟩ else .ok r
def eNotF (f : TFn) : EF := fun ρ => (f ρ).bind fun r => .ok ⟨r.pu, true, 0, .bl (!r.b), r.ρ⟩
def eIf (t : TFn) (f h : EF) : EF := fun ρ => (t ρ).bind fun r => ((if r.b = true then f r.ρ else h r.ρ)).bind fun r' => .ok ⟨r.pu && r'.pu, r'.ow, r'.lv, r'.x, r'.ρ⟩
theorem vseq_run {W : WX} {c : Bool} {σ : L2.St} {Q : VK} (p : tF g W (eSeqF c fa fb) σ H Q) : tF g W fa σ H fun x H1 => ∃ k, TruV g.K x H1 k ∧ if k = c then tF g W fb σ H1 Q else Q x H1 := by
  obtain ⟨H0, O, ρ, S, q⟩ := p
  refine ⟨H0, O, ρ, S, ?_⟩
  unfold eSeqF at q
  cases e : fa ρ with
  | bad => rw [e] at q; exact q
  | exc c fs ρ' => rw [e] at q; exact q
  | ok r =>
    rw [e] at q
    simp only [Res.bind] at q
    intro v H0' H' O' B k hp S' T w
    have k0 : Grow H0 H O H0' H' O' := k.mono fun a z => .inl z
    cases ht : r.x.tru with
    | none => rw [ht] at q; exact q.elim
    | some b =>
      rw [ht] at q
      have z : ∃ F, Own g.K H0' H' r.x r.lv v F := by
        split at w
        · exact ⟨_, w⟩
        · exact w
      obtain ⟨F, z⟩ := z
      refine ⟨b, own_tru S'.sub z ht, ?_⟩
      by_cases hb : b = c
      · simp only [hb, ↓reduceIte] at q ⊢
        refine ⟨H0', O', r.ρ, S', ?_⟩
        cases e2 : fb r.ρ with
        | bad => rw [e2] at q; exact q
        | exc c fs ρ' => rw [e2] at q; exact PostX.of_grow q k0
        | ok r' => rw [e2] at q; exact PostR.of_grow q k0 hp
      · simp only [hb, ↓reduceIte] at q ⊢
        exact q v H0' H' O' B k hp S' T w
theorem ev_and (ha : EV g Γ a fa) (hb : EV g Γ (.BoolOp .And (b :: rest) pos) fb) : EV g Γ (.BoolOp .And (a :: b :: rest) pos) (eSeqF true fa fb) := fun X W F =>
  PE.imp (pe_andT (ha X W F) (hb X W F)) fun σ H Q p => tF.mono (vseq_run p) fun x H1 ⟨k, z, q⟩ => ⟨k, by rw [F.K]; exact z, q⟩
theorem ev_or (ha : EV g Γ a fa) (hb : EV g Γ (.BoolOp .Or (b :: rest) pos) fb) : EV g Γ (.BoolOp .Or (a :: b :: rest) pos) (eSeqF false fa fb) := fun X W F =>
  PE.imp (pe_orT (ha X W F) (hb X W F)) fun σ H Q p => tF.mono (vseq_run p) fun x H1 ⟨k, z, q⟩ => ⟨k, by rw [F.K]; exact z, by
    cases k with
    | true => rw [if_pos rfl]; rw [if_neg (by decide)] at q; exact q
    | false => rw [if_neg (by decide)]; rw [if_pos rfl] at q; exact q⟩
theorem if_run {W : WX} {t : TFn} {σ : L2.St} {Q : VK} (p : tF g W (eIf t fa fb) σ H Q) : tT g W t σ H fun k H1 => if k = true then tF g W fa σ H1 Q else tF g W fb σ H1 Q := by
  obtain ⟨H0, O, ρ, S, q⟩ := p
  refine ⟨H0, O, ρ, S, ?_⟩
  unfold eIf at q
  cases e : t ρ with
  | bad => rw [e] at q; exact q
  | exc c fs ρ' => rw [e] at q; exact q
  | ok r =>
    rw [e] at q
    simp only [Res.bind] at q
    intro H0' H' O' k hp S'
    by_cases hb : r.b = true
    · simp only [hb, ↓reduceIte] at q ⊢
      refine ⟨H0', O', r.ρ, S', ?_⟩
      cases e2 : fa r.ρ with
      | bad => rw [e2] at q; exact q
      | exc c fs ρ' => rw [e2] at q; exact PostX.of_grow q k
      | ok r' => rw [e2] at q; exact PostR.of_grow q k hp
    · simp only [hb, ↓reduceIte] at q ⊢
      refine ⟨H0', O', r.ρ, S', ?_⟩
      cases e2 : fb r.ρ with
      | bad => rw [e2] at q; exact q
      | exc c fs ρ' => rw [e2] at q; exact PostX.of_grow q k
      | ok r' => rw [e2] at q; exact PostR.of_grow q k hp
theorem ev_ifx (hc : TV g Γ c ta) (ha : EV g Γ a fa) (hb : EV g Γ b fb) : EV g Γ (.IfExp c a b pos) (eIf ta fa fb) := fun X W F =>
  PE.imp (pe_ifExp (hc X W F) (ha X W F) (hb X W F)) fun σ H Q p => if_run p
theorem notv_run {W : WX} {σ : L2.St} {Q : VK} (p : tF g W (eNotF (tOf fa)) σ H Q) : tF g W fa σ H fun x H1 => ∃ k, TruV g.K x H1 k ∧ Q (.bl (!k)) H1 := by
  refine tOf_run ?_
  obtain ⟨H0, O, ρ, S, q⟩ := p
  refine ⟨H0, O, ρ, S, ?_⟩
  unfold eNotF at q
  cases e : tOf fa ρ with
  | bad => rw [e] at q; exact q
  | exc c fs ρ' => rw [e] at q; exact q
  | ok r =>
    rw [e] at q
    simp only [Res.bind] at q
    exact fun H0' H' O' k hp S' => q _ H0' H' O' noF (k.mono fun a z => z.elim id False.elim) hp S' .no rfl
theorem ev_not (ha : EV g Γ a fa) : EV g Γ (.UnaryOp .Not a pos) (eNotF (tOf fa)) := fun X W F =>
  PE.imp (pe_notT (ha X W F)) fun σ H Q p => tF.mono (notv_run p) fun x H1 ⟨k, z, q⟩ => ⟨k, by rw [F.K]; exact z, q⟩
theorem ev_one {op} (ha : EV g Γ a fa) : EV g Γ (.BoolOp op [a] pos) fa := fun X W F => L2.pe_one (ha X W F)
end
end Pv

set_option maxRecDepth 100000
set_option maxHeartbeats 1000000
namespace Pv
open PySem PySem.Spec PyProof.Rows L2

section
variable {g : Prg} {Γ : Sx} {K : PySem.W.Frag} {H0 H : Hp}
/-! ## lists of shared values -/
abbrev Sh (K : PySem.W.Frag) (H0 H : Hp) : List PV → List V → Prop := Paired fun x v => Own K H0 H x 0 v noF
theorem own_pair : ∀ {xs : List PV} {vs : List V} {F : Fp}, OwnL K H0 H xs 0 vs F → Sh K H0 H xs vs
  | [], _, _, h => by rw [show _ = ([] : List V) from h]; exact .nil
  | x :: xs, _, F, ⟨v, vs', G, e, h1, h2⟩ => by rw [e]; exact .cons (own0 (fun _ _ z => z) _ _ _ _ h1) (own_pair h2)
theorem pair_own : ∀ {xs : List PV} {vs : List V} {F : Fp}, Sh K H0 H xs vs → OwnL K H0 H xs 0 vs F
  | [], _, _, .nil => rfl
  | x :: xs, _, F, .cons h t => ⟨_, _, noF, rfl, own0 (fun _ _ z => z) _ _ _ _ h, pair_own t⟩
theorem Paired.drop {α β : Type} {R : α → β → Prop} : ∀ {xs : List α} {ys : List β} (n : Nat), Paired R xs ys → Paired R (xs.drop n) (ys.drop n)
  | _, _, 0, h => h
  | _, _, _ + 1, .nil => .nil
  | _, _, n + 1, .cons _ t => Paired.drop n t
theorem Paired.take {α β : Type} {R : α → β → Prop} : ∀ {xs : List α} {ys : List β} (n : Nat), Paired R xs ys → Paired R (xs.take n) (ys.take n)
  | _, _, 0, _ => .nil
  | _, _, _ + 1, .nil => .nil
  | _, _, n + 1, .cons h t => .cons h (Paired.take n t)
theorem Paired.app {α β : Type} {R : α → β → Prop} : ∀ {xs xs' : List α} {ys ys' : List β}, Paired R xs ys → Paired R xs' ys' → Paired R (xs ++ xs') (ys ++ ys')
  | _, _, _, _, .nil, k => k
  | _, _, _, _, .cons h t, k => .cons h (Paired.app t k)
theorem Paired.gets {α β : Type} {R : α → β → Prop} : ∀ {xs : List α} {ys : List β} {i : Nat} {x : α}, Paired R xs ys → xs[i]? = some x → ∃ y, ys[i]? = some y ∧ R x y
  | _, _, _, _, .nil, e => by simp at e
  | _, _, 0, _, .cons h t, e => by simp at e; subst e; exact ⟨_, rfl, h⟩
  | _, _, i + 1, _, .cons h t, e => by
    obtain ⟨y, a, b⟩ := Paired.gets (i := i) t (by simpa using e)
    exact ⟨y, by simpa using a, b⟩
theorem Paired.gets' {α β : Type} {R : α → β → Prop} : ∀ {xs : List α} {ys : List β} {i : Nat} {y : β}, Paired R xs ys → ys[i]? = some y → ∃ x, xs[i]? = some x ∧ R x y
  | _, _, _, _, .nil, e => by simp at e
  | _, _, 0, _, .cons h t, e => by simp at e; subst e; exact ⟨_, rfl, h⟩
  | _, _, i + 1, _, .cons h t, e => by
    obtain ⟨y, a, b⟩ := Paired.gets' (i := i) t (by simpa using e)
    exact ⟨y, by simpa using a, b⟩
theorem sh_tr {H0' H' : Hp} (hs : Same H0 H0') : ∀ {xs : List PV} {vs : List V}, Sh K H0 H xs vs → Sh K H0' H' xs vs
  | _, _, .nil => .nil
  | _, _, .cons h t => .cons (own0 hs _ _ _ _ h) (sh_tr hs t)
/-- arguments that may be put away -/
def shOk (p : Nat × PV) : Bool := p.1 == 0 || p.2.imm
theorem views_sh : ∀ {ps : List (Nat × PV)} {vs : List V}, Views K H0 H ps vs → ps.all shOk = true → Sh K H0 H (ps.map (·.2)) vs
  | _, _, .nil, _ => .nil
  | p :: ps, _, .cons h t, e => by
    rw [List.all_cons, Bool.and_eq_true] at e
    obtain ⟨F, h⟩ := h
    have c : p.1 = 0 ∨ p.2.imm = true := by
      have := e.1
      unfold shOk at this
      simpa using this
    exact .cons (own_imm h c fun _ _ z => z) (views_sh t e.2)

/-! ## displays -/
def pTup : PO := fun ps => if ps.all shOk = true ∧ ps.length ≤ sizeLine then sc (.tup (ps.map (·.2))) else none
def pLst : PO := fun ps => if ps.all shOk = true ∧ ps.length ≤ sizeLine then some ⟨true, 1, .lst (ps.map (·.2))⟩ else none
theorem views_len {ps : List (Nat × PV)} {vs : List V} (h : Views K H0 H ps vs) : vs.length = ps.length := (Paired.length h).symm
variable {es : List Expr} {af : AF} {pos : Pos}
theorem ev_tup {x1} (ha : AV g Γ es af) : EV g Γ (.Tuple es x1 pos) (eOp pTup af) :=
  ev_opn (r := fun xs H1 Q => xs.length ≤ sizeLine ∧ ∀ p, H1 p = none → Q (.ref p) (upd H1 p (.tup xs))) (fun H0 H ps vs o Q s w e G => by
    unfold pTup at e
    split at e
    · rename_i hc
      cases e
      exact ⟨by rw [views_len w]; exact hc.2, gives_tup (F := noF) G s (pair_own (views_sh w hc.1))⟩
    · cases e) (fun X W F t ht => pe_tup ht) ha
theorem ev_lst (ha : AV g Γ es af) : EV g Γ (.List es pos) (eOp pLst af) :=
  ev_opn (r := fun xs H1 Q => xs.length ≤ sizeLine ∧ ∀ p, H1 p = none → Q (.ref p) (upd H1 p (.lst xs))) (fun H0 H ps vs o Q s w e G => by
    unfold pLst at e
    split at e
    · rename_i hc
      cases e
      exact ⟨by rw [views_len w]; exact hc.2, gives_lst (F := noF) G s (pair_own (views_sh w hc.1))⟩
    · cases e) (fun X W F t ht => pe_lst ht) ha

/-! ## subscripts -/
/-- an item of a list, a tuple, a text -/
def pIx : PO
  | [(n, x), (_, .int i)] => match x with
    | .str z => if z.length ≤ sizeLine then (atI z.cps.toList i).bind fun c => sc (.str ⟨#[c]⟩) else none
    | _ => (x.items n).bind fun q => (atI q.2 i).bind fun y => some ⟨q.1 == 0 || y.imm, if y.imm = true then 0 else q.1, y⟩
  | _ => none
theorem ixN_len {xs : List PV} {vs : List V} {n : Nat} {F : Fp} (h : OwnL K H0 H xs n vs F) (i : Int) : ixN vs.length i = ixN xs.length i := by rw [ownL_len h]
theorem rok_ix : ROk K (fun vs H Q => ∃ x y, vs = [x, y] ∧ rIx K x y H Q) pIx := by
  intro H0 H ps vs o Q s w e G
  unfold pIx at e
  split at e
  · rename_i n x m i
    obtain ⟨v, u, F, F', rfl, h1, h2⟩ := views2 w
    cases (show u = _ from h2)
    split at e
    · cases (show v = _ from h1)
      split at e
      · obtain ⟨c, e1, e2⟩ := Option.bind_eq_some_iff.mp e
        exact ⟨_, _, rfl, .inr (.inr ⟨_, _, c, rfl, rfl, ‹_›, e1, sc_gives e2 G s rfl⟩)⟩
      · cases e
    · obtain ⟨⟨m, xs⟩, e1, e2⟩ := Option.bind_eq_some_iff.mp e
      obtain ⟨y, e3, e4⟩ := Option.bind_eq_some_iff.mp e2
      obtain ⟨a, vs, G', rfl, hs, ho⟩ := own_items s h1 e1
      have e5 : (ixN xs.length i).bind (fun j => xs[j]?) = some y := e3
      obtain ⟨j, e6, e7⟩ := Option.bind_eq_some_iff.mp e5
      obtain ⟨u, G'', e8, _, oy⟩ := ownL_get ho e7
      have e9 : atI vs i = some u := by
        unfold atI
        rw [ixN_len ho, e6]
        exact e8
      have q : Q u H := by
        cases e4
        refine G u H0 H noF (.refl s) ?_
        by_cases c : m = 0 ∨ y.imm = true
        · have z := own_imm (F' := noF) oy c (H' := H) fun _ _ z => z
          have z' : Own K H0 H y (if y.imm = true then 0 else m) u noF := by
            rcases c with c | c
            · subst c; rw [ite_self]; exact z
            · rw [if_pos c]; exact z
          show if (m == 0 || y.imm) = true then _ else _
          rw [if_pos (by rcases c with c | c <;> simp [c])]
          exact z'
        · show if (m == 0 || y.imm) = true then _ else _
          have c1 : ¬ m = 0 := fun z => c (.inl z)
          have c2 : ¬ y.imm = true := fun z => c (.inr z)
          rw [if_neg (by simp [c1, c2])]
          exact ⟨G'', by show Own K H0 H y (if y.imm = true then 0 else m) u G''; rw [if_neg c2]; exact oy⟩
      rcases hs with hs | hs
      · exact ⟨_, _, rfl, .inl ⟨a, vs, i, u, rfl, rfl, hs, e9, q⟩⟩
      · exact ⟨_, _, rfl, .inr (.inl ⟨a, vs, i, u, rfl, rfl, hs, e9, q⟩)⟩
  · cases e
def noSlice : Expr → Bool
  | .Slice _ _ _ _ => false
  | _ => true
theorem plain_ix {b : Expr} (h : noSlice b = true) : PlainIx b := fun o i => by
  cases b <;> first | rfl | cases h
variable {a b c : Expr} {fa fb fc : EF}
theorem ev_ix (hs : noSlice b = true) (ha : EV g Γ a fa) (hb : EV g Γ b fb) : EV g Γ (.Subscript a b pos) (eOp pIx (aCons fa (aCons fb aNil))) :=
  ev_op2 rok_ix (fun X W F ta tb ha hb => by rw [← F.K]; exact pe_ix ix_seq ha hb (plain_ix hs)) ha hb

/-! ## slices -/
def cutL {α : Type} (xs : List α) (lo hi : Option Int) : List α := (xs.drop (HT.sIx xs.length 0 lo)).take (HT.sIx xs.length xs.length hi - HT.sIx xs.length 0 lo)
def pSl (x : Nat × PV) (lo hi : Option Int) : Option Po := match x with
  | (n, .lst xs) => if n ≤ 1 then some ⟨true, 1, .lst (cutL xs lo hi)⟩ else none
  | (_, .clst xs) => some ⟨true, 1, .lst (cutL xs lo hi)⟩
  | (_, .tup xs) => sc (.tup (cutL xs lo hi))
  | (_, .str z) => if z.length ≤ sizeLine then sc (.str (cutS z lo hi)) else none
  | _ => none
def rSlAll (K : PySem.W.Frag) : V → Option Int → Option Int → Hp → VK → Prop := fun x lo hi H Q => rSlL K x lo hi H Q ∨ (rSlA K x lo hi H Q ∨ rSlS x lo hi H Q)
theorem sl_all {X : Cx} : SlR X (rSlAll X.K) := SlR.or sl_list (SlR.or sl_tupA sl_str)
theorem cut_sh {xs : List PV} {vs : List V} {lo hi : Option Int} (h : Sh K H0 H xs vs) : Sh K H0 H (cutL xs lo hi) (cutV vs lo hi) := by
  unfold cutL cutV
  rw [Paired.length h]
  exact Paired.take _ (Paired.drop _ h)
theorem cut_whole {α : Type} {xs : List α} {lo hi : Option Int} (h : HT.sIx xs.length 0 lo = 0 ∧ HT.sIx xs.length xs.length hi = xs.length) : cutL xs lo hi = xs := by
  unfold cutL
  rw [h.1, h.2, Nat.sub_zero, List.drop_zero, List.take_length]
theorem rok_sl {x : Nat × PV} {lo hi : Option Int} {v : V} {F : Fp} {o : Po} {Q : VK} (s : Same H0 H) (w : Own K H0 H x.2 x.1 v F) (e : pSl x lo hi = some o) (G : Gives K H0 H o Q) : rSlAll K v lo hi H Q := by
  obtain ⟨n, x⟩ := x
  unfold pSl at e
  split at e
  · rename_i m xs q
    cases q
    split at e
    · cases e
      obtain ⟨a, vs, rfl, h1, h2⟩ := lst_lv s w ‹_›
      exact .inl ⟨a, vs, rfl, .inl (.inl h1), gives_lst (F := noF) G s (pair_own (cut_sh (own_pair h2)))⟩
    · cases e
  · rename_i m xs q
    cases q
    cases e
    obtain ⟨a, vs, rfl, h1, h2⟩ := w
    exact .inl ⟨a, vs, rfl, s.seq h1, gives_lst (F := noF) G s (pair_own (cut_sh (own_pair h2)))⟩
  · rename_i m xs q
    cases q
    cases e
    obtain ⟨a, vs, rfl, h1, h2⟩ := own_tup s w
    refine .inr (.inl ⟨a, vs, rfl, .inl (.inl h1), fun q => ?_, fun _ => gives_tup (F := noF) G s (pair_own (cut_sh (own_pair h2)))⟩)
    rw [ownL_len h2] at q
    rw [cut_whole q] at G
    exact gives_imm G s (own_imm (F' := noF) (H' := H) w (.inr rfl) fun _ _ z => z)
  · rename_i m z q
    cases q
    cases (show v = _ from w)
    split at e
    · exact .inr (.inr ⟨_, rfl, ‹_›, sc_gives e G s rfl⟩)
    · cases e
  · cases e
/-- as aCons, the first one's kind looked at once -/
def aConsT (ty : PV → Bool) (f : EF) (af : AF) : AF := fun ρ => (f ρ).bind fun r => if ty r.x = true then (af r.ρ).bind fun a =>
  if stays r a.pu = true then .ok ⟨r.pu && a.pu, (r.lv, r.x) :: a.vs, a.ρ⟩ else .bad else .bad
theorem tA_consT {W : WX} {ty : PV → Bool} {f : EF} {af : AF} {σ : L2.St} {Q : List V → Hp → Prop} (p : tA g W (aConsT ty f af) σ H Q) :
    tF g W f σ H fun x H1 => (∃ H0 n y F, Same H0 H1 ∧ Own g.K H0 H1 y n x F ∧ ty y = true) ∧ tA g W af σ H1 fun xs H2 => Q (x :: xs) H2 := by
  obtain ⟨H0, O, ρ, S, q⟩ := p
  refine ⟨H0, O, ρ, S, ?_⟩
  unfold aConsT at q
  cases hf : f ρ with
  | bad => rw [hf] at q; exact q
  | exc c fs ρ' => rw [hf] at q; exact q
  | ok r =>
    rw [hf] at q
    show PostR _ _ _ _ _ r _
    intro v H0' H' O' B k hpu S' T o
    simp only [Res.bind] at q
    by_cases ht : ty r.x = true
    · rw [if_pos ht] at q
      have z : ∃ F, Own g.K H0' H' r.x r.lv v F := by
        split at o
        · exact ⟨_, o⟩
        · exact o
      obtain ⟨F, z⟩ := z
      refine ⟨⟨H0', _, _, F, S'.sub, z, ht⟩, H0', O', r.ρ, S', ?_⟩
      cases ha : af r.ρ with
      | bad => rw [ha] at q; exact q
      | exc c fs ρ' => rw [ha] at q; exact PostX.step q k
      | ok a =>
        rw [ha] at q
        simp only [] at q
        by_cases hs : stays r a.pu = true
        · rw [if_pos hs] at q
          intro vs H0'' H'' O'' k2 hpu2 S'' vw
          refine q (v :: vs) H0'' H'' O'' ((k.trans k2).mono fun a z => .inl z) (fun z => ?_) S'' (.cons (view_stay hs T o k2 hpu2) vw)
          have z' := Bool.and_eq_true_iff.mp z
          exact L2.Same.trans (hpu z'.1) (hpu2 z'.2)
        · rw [if_neg hs] at q
          exact q.elim
    · rw [if_neg ht] at q
      exact q.elim
def PV.isInt : PV → Bool
  | .int _ => true
  | _ => false
theorem own_isInt {x : PV} {n : Nat} {v : V} {F : Fp} (h : Own K H0 H x n v F) (e : x.isInt = true) : ∃ i, v = .int i := by
  cases x <;> first | exact ⟨_, h⟩ | cases e
def pSlc (lo hi : Bool) : PO := fun ps => match lo, hi, ps with
  | false, false, [x] => pSl x none none
  | true, false, [x, (_, .int i)] => pSl x (some i) none
  | false, true, [x, (_, .int j)] => pSl x none (some j)
  | true, true, [x, (_, .int i), (_, .int j)] => pSl x (some i) (some j)
  | _, _, _ => none
def rSlc (K : PySem.W.Frag) (lo hi : Bool) : List V → Hp → VK → Prop := fun vs H Q => match lo, hi with
  | false, false => ∃ x, vs = [x] ∧ rSlAll K x none none H Q
  | true, false => ∃ x i, vs = [x, .int i] ∧ rSlAll K x (some i) none H Q
  | false, true => ∃ x j, vs = [x, .int j] ∧ rSlAll K x none (some j) H Q
  | true, true => ∃ x i j, vs = [x, .int i, .int j] ∧ rSlAll K x (some i) (some j) H Q
theorem rok_slc (lo hi : Bool) : ROk K (rSlc K lo hi) (pSlc lo hi) := by
  intro H0 H ps vs o Q s w e G
  unfold pSlc at e
  split at e
  · obtain ⟨v, F, rfl, h1⟩ := views1 w
    exact ⟨v, rfl, rok_sl s h1 e G⟩
  · obtain ⟨v, u, F, F', rfl, h1, h2⟩ := views2 w
    cases (show u = _ from h2)
    exact ⟨v, _, rfl, rok_sl s h1 e G⟩
  · obtain ⟨v, u, F, F', rfl, h1, h2⟩ := views2 w
    cases (show u = _ from h2)
    exact ⟨v, _, rfl, rok_sl s h1 e G⟩
  · obtain ⟨v, u, t, F, F', F'', rfl, h1, h2, h3⟩ := views3 w
    cases (show u = _ from h2)
    cases (show t = _ from h3)
    exact ⟨v, _, _, rfl, rok_sl s h1 e G⟩
  · cases e
variable {p2 : Pos}
theorem sl_fit {X : Cx} {W : WX} (F : Fits g Γ X W) : SlR X (rSlAll g.K) := by
  rw [← F.K]
  exact sl_all
theorem ev_sl00 (ha : EV g Γ a fa) : EV g Γ (.Subscript a (.Slice none none none p2) pos) (eOp (pSlc false false) (aCons fa aNil)) := fun X W F => by
  refine PE.imp (pe_slice (sl_fit F) (ha X W F) po_none po_none) fun σ H Q p => ?_
  refine tF.mono (tA_cons (op_run (rok_slc _ _) p)) fun x H1 p1 => ?_
  obtain ⟨x', e, q⟩ := tA_nil p1
  cases e
  exact q
theorem ev_sl10 (ha : EV g Γ a fa) (hb : EV g Γ b fb) : EV g Γ (.Subscript a (.Slice (some b) none none p2) pos) (eOp (pSlc true false) (aCons fa (aConsT PV.isInt fb aNil))) := fun X W F => by
  refine PE.imp (pe_slice (sl_fit F) (ha X W F) (po_some (hb X W F)) po_none) fun σ H Q p => ?_
  refine tF.mono (tA_cons (op_run (rok_slc _ _) p)) fun x H1 p1 => tF.mono (tA_consT p1) fun y H2 p2 => ?_
  obtain ⟨x', i, e, q⟩ := tA_nil p2.2
  cases e
  exact ⟨i, rfl, q⟩
theorem ev_sl01 (ha : EV g Γ a fa) (hb : EV g Γ b fb) : EV g Γ (.Subscript a (.Slice none (some b) none p2) pos) (eOp (pSlc false true) (aCons fa (aConsT PV.isInt fb aNil))) := fun X W F => by
  refine PE.imp (pe_slice (sl_fit F) (ha X W F) po_none (po_some (hb X W F))) fun σ H Q p => ?_
  refine tF.mono (tA_cons (op_run (rok_slc _ _) p)) fun x H1 p1 => tF.mono (tA_consT p1) fun y H2 p2 => ?_
  obtain ⟨x', i, e, q⟩ := tA_nil p2.2
  cases e
  exact ⟨i, rfl, q⟩
theorem ev_sl11 (ha : EV g Γ a fa) (hb : EV g Γ b fb) (hc : EV g Γ c fc) : EV g Γ (.Subscript a (.Slice (some b) (some c) none p2) pos) (eOp (pSlc true true) (aCons fa (aConsT PV.isInt fb (aConsT PV.isInt fc aNil)))) := fun X W F => by
  refine PE.imp (pe_slice (sl_fit F) (ha X W F) (po_some (hb X W F)) (po_some (hc X W F))) fun σ H Q p => ?_
  refine tF.mono (tA_cons (op_run (rok_slc _ _) p)) fun x H1 p1 => tF.mono (tA_consT p1) fun y H2 p2 => ?_
  obtain ⟨⟨_, _, _, _, _, o, t⟩, p2⟩ := p2
  obtain ⟨i, rfl⟩ := own_isInt o t
  refine ⟨i, rfl, tF.mono (tA_consT p2) fun z H3 p3 => ?_⟩
  obtain ⟨⟨_, _, _, _, _, o, t⟩, p3⟩ := p3
  obtain ⟨j, rfl⟩ := own_isInt o t
  obtain ⟨_, _, _, e, q⟩ := tA_nil p3
  cases e
  exact ⟨_, rfl, q⟩

/-! ## a chain of two comparisons -/
def eChain (po po' : PO) (fa fb fc : EF) : EF := fun ρ => (aCons fa (aCons fb aNil) ρ).bind fun a => match a.vs with
  | [p, q] => match po [p, q] with
    | some ⟨_, _, .bl k⟩ => if k = true then (if shOk q = true then (fc a.ρ).bind fun r => match po' [q, (r.lv, r.x)] with
        | some o => .ok ⟨a.pu && r.pu, o.ow, o.lv, o.x, r.ρ⟩
        | none => .bad else .bad) else .ok ⟨a.pu, true, 0, .bl false, a.ρ⟩
    | _ => .bad
  | _ => .bad
theorem rpair {r : R2} {po : PO} {p q : Nat × PV} {v u : V} {o : Po} (hr : ROk K (fun vs H Q => ∃ x y, vs = [x, y] ∧ r x y H Q) po) (s : Same H0 H) (w : Views K H0 H [p, q] [v, u]) (ho : po [p, q] = some o) {P : V → V → VK} (Qf : VK) (hP : P v u = Qf) (G : Gives K H0 H o Qf) :
    ∃ x y, [v, u] = [x, y] ∧ r x y H (P x y) := by
  obtain ⟨x, y, e, z⟩ := hr H0 H [p, q] [v, u] o Qf s w ho G
  cases e
  exact ⟨v, u, rfl, by rw [hP]; exact z⟩
theorem chain_run {W : WX} {po po' : PO} {r r' : R2} {σ : L2.St} {Q : VK} (hr : ROk g.K (fun vs H Q => ∃ x y, vs = [x, y] ∧ r x y H Q) po) (hr' : ROk g.K (fun vs H Q => ∃ x y, vs = [x, y] ∧ r' x y H Q) po') (hb : BoolPO po) (hb' : BoolPO po')
    (p : tF g W (eChain po po' fa fb fc) σ H Q) : tChain r r' (tF g W fa) (tF g W fb) (tF g W fc) σ H Q := by
  have key : tA g W (aCons fa (aCons fb aNil)) σ H fun vs H2 => ∃ x y, vs = [x, y] ∧ r x y H2 fun z H3 => ∃ k, z = V.bl k ∧ (if k = true then tF g W fc σ H3 fun w' H4 => r' y w' H4 Q else Q (.bl false) H3) := by
    obtain ⟨H0, O, ρ, S, q⟩ := p
    refine ⟨H0, O, ρ, S, ?_⟩
    unfold eChain at q
    cases e : aCons fa (aCons fb aNil) ρ with
    | bad => rw [e] at q; exact q
    | exc c fs ρ' => rw [e] at q; exact q
    | ok a =>
      rw [e] at q
      simp only [Res.bind] at q
      intro vs H0' H' O' k hp S' vw
      cases hv : a.vs with
      | nil => rw [hv] at q; exact q.elim
      | cons p1 l =>
        cases l with
        | nil => rw [hv] at q; exact q.elim
        | cons p2 l2 =>
          cases l2 with
          | cons _ _ => rw [hv] at q; exact q.elim
          | nil =>
            rw [hv] at q vw
            simp only [] at q
            cases ho : po [p1, p2] with
            | none => rw [ho] at q; exact q.elim
            | some o =>
              obtain ⟨b, rfl⟩ := hb _ _ ho
              rw [ho] at q
              simp only [] at q
              obtain ⟨v, u, F, F', rfl, h1, h2⟩ := views2 vw
              refine rpair hr S'.sub vw ho (fun z H3 => ∃ k, z = V.bl k ∧ (if k = true then tF g W fc σ H3 fun w' H4 => r' u w' H4 Q else Q (V.bl false) H3)) rfl fun z H0'' H'' B A w => ⟨b, w, ?_⟩
              --refine hr H0' H' [p1, p2] [v, u] _ (fun z H3 => ∃ k, z = V.bl k ∧ (if k = true then tF g W fc σ H3 fun w' H4 => r' u w' H4 Q else Q (V.bl false) H3)) S'.sub vw ho fun z H0'' H'' B A w => ⟨b, w, ?_⟩
              have k2 : Grow H0 H O H0'' H'' O' := (k.trans0 A.grow).mono fun a z => .inl z
              have S2 := A.st S'
              have hp2 : a.pu = true → Same H H'' := fun z => L2.Same.trans (hp z) A.sm
              by_cases hbb : b = true
              · simp only [hbb, ↓reduceIte] at q ⊢
                by_cases hs : shOk p2 = true
                · simp only [hs, ↓reduceIte] at q
                  refine ⟨H0'', O', a.ρ, S2, ?_⟩
                  cases e2 : fc a.ρ with
                  | bad => rw [e2] at q; exact q
                  | exc c fs ρ' => rw [e2] at q; exact PostX.of_grow q k2
                  | ok r1 =>
                    rw [e2] at q
                    simp only [] at q
                    intro y H03 H3 O3 B3 k3 hp3 S3 T3 w3
                    cases ho' : po' [p2, (r1.lv, r1.x)] with
                    | none => rw [ho'] at q; exact q.elim
                    | some o' =>
                      rw [ho'] at q
                      simp only [] at q
                      have c : p2.1 = 0 ∨ p2.2.imm = true := by
                        unfold shOk at hs
                        simpa using hs
                      have h2' : Own g.K H03 H3 p2.2 0 u noF := own_imm h2 c (L2.Same.trans A.sh k3.sh)
                      have v2 : ∃ F, Own g.K H03 H3 p2.2 p2.1 u F := by
                        rcases c with c | c
                        · rw [c]; exact ⟨noF, h2'⟩
                        · exact ⟨noF, imm_own h2' c fun _ _ z => z⟩
                      have v3 : ∃ F, Own g.K H03 H3 r1.x r1.lv y F := by
                        split at w3
                        · exact ⟨_, w3⟩
                        · exact w3
                      have z := hr' H03 H3 [p2, (r1.lv, r1.x)] [u, y] o' Q S3.sub (.cons v2 (.cons v3 .nil)) ho' (fin_op q (k2.trans0 (k3.mono fun a z => .inl z)) (fun z => by
                        have z' := Bool.and_eq_true_iff.mp z
                        exact L2.Same.trans (hp2 z'.1) (hp3 z'.2)) S3)
                      obtain ⟨x', y', e3, z⟩ := z
                      cases e3
                      exact z
                · simp only [hs, ↓reduceIte] at q
                  exact q.elim
              · simp only [hbb, ↓reduceIte] at q ⊢
                exact q _ H0'' H'' O' noF (k2.mono fun a z => z.elim id False.elim) hp2 S2 .no rfl
  refine tF.mono (tA_cons key) fun x H1 p1 => tF.mono (tA_cons p1) fun y H2 p2 => ?_
  obtain ⟨x', y', e, q⟩ := tA_nil p2
  cases e
  exact q
end
end Pv

set_option maxRecDepth 100000
set_option maxHeartbeats 1000000
namespace Pv
open PySem PySem.Spec PyProof.Rows L2

section
variable {g : Prg} {Γ : Sx} {K : PySem.W.Frag} {H0 H : Hp}
variable {a b c e : Expr} {es : List Expr} {fa fb fc : EF} {af : AF} {pos p p2 apos cpos : Pos} {x : Str} {v : V} {u : Value}
theorem ev_chain {op op' : CmpOp} {po po' : PO} {r r' : R2} (hr : ROk g.K (fun vs H Q => ∃ x y, vs = [x, y] ∧ r x y H Q) po) (hr' : ROk g.K (fun vs H Q => ∃ x y, vs = [x, y] ∧ r' x y H Q) po') (hb : BoolPO po) (hb' : BoolPO po')
    (ho : ∀ X W, Fits g Γ X W → OpR X (compareOp op) r) (ho' : ∀ X W, Fits g Γ X W → OpR X (compareOp op') r') (hs : noSet c = true) (ha : EV g Γ a fa) (hbb : EV g Γ b fb) (hc : EV g Γ c fc) :
    EV g Γ (.Compare a [op, op'] [b, c] pos) (eChain po po' fa fb fc) := fun X W F =>
  PE.imp (pe_chain (ho X W F) (ho' X W F) (ha X W F) (hbb X W F) (hc X W F) (show behindInMarks op' c = false from marks_no hs)) fun σ H Q p => chain_run hr hr' hb hb' p
/-- .. as a test -/
theorem tchain_run {W : WX} {po po' : PO} {r r' : R2} {σ : L2.St} {Q : Bool → Hp → Prop} (hr : ROk g.K (fun vs H Q => ∃ x y, vs = [x, y] ∧ r x y H Q) po) (hr' : ROk g.K (fun vs H Q => ∃ x y, vs = [x, y] ∧ r' x y H Q) po') (hb : BoolPO po) (hb' : BoolPO po')
    (q : tT g W (tOf (eChain po po' fa fb fc)) σ H Q) : tTest (tChain r r' (tF g W fa) (tF g W fb) (tF g W fc)) σ H Q := by
  refine chain_run hr hr' hb hb' ?_
  obtain ⟨H0, O, ρ, S, q⟩ := q
  refine ⟨H0, O, ρ, S, ?_⟩
  unfold tOf at q
  cases ee : eChain po po' fa fb fc ρ with
  | bad => rw [ee] at q; exact q
  | exc c fs ρ' => rw [ee] at q; exact q
  | ok r =>
    rw [ee] at q
    have hbl : ∃ k, r.x = .bl k := by
      unfold eChain at ee
      cases ea : aCons fa (aCons fb aNil) ρ with
      | bad => rw [ea] at ee; cases ee
      | exc c fs ρ' => rw [ea] at ee; cases ee
      | ok a =>
        rw [ea] at ee
        simp only [Res.bind] at ee
        split at ee
        · split at ee
          · split at ee
            · split at ee
              · rename_i a1 p1 p2 _ o1 o2 o3 k _ _ _
                cases ec : fc a.ρ with
                | bad => rw [ec] at ee; cases ee
                | exc c fs ρ' => rw [ec] at ee; cases ee
                | ok r1 =>
                  rw [ec] at ee
                  simp only [] at ee
                  split at ee
                  · rename_i o ho
                    obtain ⟨k, rfl⟩ := hb' _ _ ho
                    cases ee
                    exact ⟨k, rfl⟩
                  · cases ee
              · cases ee
            · cases ee
              exact ⟨false, rfl⟩
          · cases ee
        · cases ee
    obtain ⟨k, hk⟩ := hbl
    obtain ⟨pu, ow, lv, x, ρ'⟩ := r
    simp only at hk
    subst hk
    intro v H0' H' O' B kk hp S' T w
    have hv : v = .bl k := by
      split at w
      · exact w
      · obtain ⟨F, w⟩ := w; exact w
    exact ⟨k, hv, q H0' H' O' (kk.mono fun a z => .inl z) hp S'⟩
theorem tv_chain {op op' : CmpOp} {po po' : PO} {r r' : R2} (hr : ROk g.K (fun vs H Q => ∃ x y, vs = [x, y] ∧ r x y H Q) po) (hr' : ROk g.K (fun vs H Q => ∃ x y, vs = [x, y] ∧ r' x y H Q) po') (hb : BoolPO po) (hb' : BoolPO po')
    (ho : ∀ X W, Fits g Γ X W → OpR X (compareOp op) r) (ho' : ∀ X W, Fits g Γ X W → OpR X (compareOp op') r') (hs : noSet c = true) (ha : EV g Γ a fa) (hbb : EV g Γ b fb) (hc : EV g Γ c fc) :
    TV g Γ (.Compare a [op, op'] [b, c] pos) (tOf (eChain po po' fa fb fc)) := fun X W F =>
  PT.imp (pt_chain (ho X W F) (ho' X W F) (ha X W F) (hbb X W F) (hc X W F) (show behindInMarks op' c = false from marks_no hs)) fun σ H Q p => tchain_run hr hr' hb hb' p
section
variable (hs : noSet c = true) (ha : EV g Γ a fa) (hbb : EV g Γ b fb) (hc : EV g Γ c fc)
include hs ha hbb hc
theorem ev_lt_le : EV g Γ (.Compare a [.Lt, .LtE] [b, c] pos) (eChain pLt pLe fa fb fc) := ev_chain rok_ord rok_ord (bool_ord _ _) (bool_ord _ _) (fun _ _ _ => op_ltA) (fun _ _ _ => op_leA) hs ha hbb hc
theorem tv_lt_le : TV g Γ (.Compare a [.Lt, .LtE] [b, c] pos) (tOf (eChain pLt pLe fa fb fc)) := tv_chain rok_ord rok_ord (bool_ord _ _) (bool_ord _ _) (fun _ _ _ => op_ltA) (fun _ _ _ => op_leA) hs ha hbb hc
theorem ev_le_lt : EV g Γ (.Compare a [.LtE, .Lt] [b, c] pos) (eChain pLe pLt fa fb fc) := ev_chain rok_ord rok_ord (bool_ord _ _) (bool_ord _ _) (fun _ _ _ => op_leA) (fun _ _ _ => op_ltA) hs ha hbb hc
theorem tv_le_lt : TV g Γ (.Compare a [.LtE, .Lt] [b, c] pos) (tOf (eChain pLe pLt fa fb fc)) := tv_chain rok_ord rok_ord (bool_ord _ _) (bool_ord _ _) (fun _ _ _ => op_leA) (fun _ _ _ => op_ltA) hs ha hbb hc
theorem ev_le_le : EV g Γ (.Compare a [.LtE, .LtE] [b, c] pos) (eChain pLe pLe fa fb fc) := ev_chain rok_ord rok_ord (bool_ord _ _) (bool_ord _ _) (fun _ _ _ => op_leA) (fun _ _ _ => op_leA) hs ha hbb hc
theorem tv_le_le : TV g Γ (.Compare a [.LtE, .LtE] [b, c] pos) (tOf (eChain pLe pLe fa fb fc)) := tv_chain rok_ord rok_ord (bool_ord _ _) (bool_ord _ _) (fun _ _ _ => op_leA) (fun _ _ _ => op_leA) hs ha hbb hc
theorem ev_lt_lt : EV g Γ (.Compare a [.Lt, .Lt] [b, c] pos) (eChain pLt pLt fa fb fc) := ev_chain rok_ord rok_ord (bool_ord _ _) (bool_ord _ _) (fun _ _ _ => op_ltA) (fun _ _ _ => op_ltA) hs ha hbb hc
theorem tv_lt_lt : TV g Γ (.Compare a [.Lt, .Lt] [b, c] pos) (tOf (eChain pLt pLt fa fb fc)) := tv_chain rok_ord rok_ord (bool_ord _ _) (bool_ord _ _) (fun _ _ _ => op_ltA) (fun _ _ _ => op_ltA) hs ha hbb hc
end

/-! ## in, not in -/
/-- texts; flat items of a list or tuple; data in a list -/
def inOp (neg : Bool) : PO
  | [(_, .str i), (_, .str j)] => sc (.bl (neg ^^ !(Builtin.Str.occurrences j i 0 j.length 1).isEmpty))
  | [(_, x), (n, y)] => match y.items n with
    | none => none
    | some q => match x.flat, q.2.mapM PV.flat with
      | some w, some ws => sc (.bl (neg ^^ inV w ws))
      | _, _ => match x.toD, PV.toDs q.2, y with
        | some d, some ds, .lst _ => if SeqAt.shaped d = true ∧ SeqAt.shaped (.list ds) = true then sc (.bl (neg ^^ ds.any fun z => PyData.eqv z d)) else none
        | _, _, _ => none
  | _ => none
theorem flat_flatV {x : PV} {u : V} (e : x.flat = some u) : flatV u = true := by
  cases x <;> cases e <;> rfl
theorem own_flats : ∀ {xs : List PV} {n : Nat} {vs ws : List V} {F : Fp}, OwnL K H0 H xs n vs F → xs.mapM PV.flat = some ws → vs = ws ∧ ws.all flatV = true
  | [], _, _, _, _, h, e => by
    rw [show _ = ([] : List V) from h]
    cases (show some [] = some _ from e)
    exact ⟨rfl, rfl⟩
  | x :: xs, n, vs, ws, F, ⟨v, vs', G, e1, h1, h2⟩, e => by
    rw [List.mapM_cons] at e
    cases e2 : x.flat with
    | none => rw [e2] at e; cases e
    | some u =>
      cases e3 : xs.mapM PV.flat with
      | none => rw [e2, e3] at e; cases e
      | some us =>
        rw [e2, e3] at e
        cases e
        obtain ⟨q1, q2⟩ := own_flats h2 e3
        rw [e1, own_flat h1 e2, q1]
        exact ⟨rfl, by rw [List.all_cons, flat_flatV e2, q2]; rfl⟩
def rInAll (K : PySem.W.Frag) (neg : Bool) : R2 := fun x y H Q => (∃ i j, x = .str i ∧ y = .str j ∧ Q (.bl (neg ^^ !(Builtin.Str.occurrences j i 0 j.length 1).isEmpty)) H) ∨ (rIn K neg x y H Q ∨
  ∃ d ds, Dp K H x d ∧ Dp K H y (.list ds) ∧ SeqAt.shaped d = true ∧ SeqAt.shaped (.list ds) = true ∧ Q (.bl (neg ^^ ds.any fun z => PyData.eqv z d)) H)
theorem rok_in (neg : Bool) : ROk K (fun vs H Q => ∃ x y, vs = [x, y] ∧ rInAll K neg x y H Q) (inOp neg) := by
  intro H0 H ps vs o Q s w e G
  unfold inOp at e
  split at e
  · obtain ⟨v, u, F, F', rfl, h1, h2⟩ := views2 w
    cases (show v = _ from h1); cases (show u = _ from h2)
    exact ⟨_, _, rfl, .inl ⟨_, _, rfl, rfl, sc_gives e G s rfl⟩⟩
  · rename_i n1 x n y _
    obtain ⟨v, u, F, F', rfl, h1, h2⟩ := views2 w
    split at e
    · cases e
    · rename_i q hq
      obtain ⟨m, xs⟩ := q
      split at e
      · rename_i w1 ws e1 e2
        obtain ⟨a, us, G', rfl, hs, ho⟩ := own_items s h2 hq
        obtain ⟨q1, q2⟩ := own_flats ho e2
        subst q1
        have q3 := own_flat h1 e1
        subst q3
        refine ⟨_, _, rfl, .inr (.inl ⟨a, us, rfl, hs, flat_flatV e1, q2, ?_⟩)⟩
        cases neg with
        | true => rw [if_pos rfl]; rw [Bool.true_xor] at e; exact sc_gives e G s rfl
        | false => rw [if_neg (by decide)]; rw [Bool.false_xor] at e; exact sc_gives e G s rfl
      · split at e
        · rename_i d ds ys e1 e2 _
          split at e
          · rename_i hc
            have hq' : (n - 1, ys) = (m, xs) := Option.some.inj hq
            obtain ⟨_, rfl⟩ := Prod.mk.inj hq'
            refine ⟨_, _, rfl, .inr (.inr ⟨d, ds, own_dp s _ _ _ _ _ h1 e1, own_dp s (.lst ys) _ _ _ _ h2 ?_, hc.1, hc.2, sc_gives e G s rfl⟩)⟩
            show (PV.toDs ys).map PyData.list = some _
            rw [show PV.toDs ys = some ds from e2]
            rfl
          · cases e
        · cases e
  · cases e
theorem bool_in (neg : Bool) : BoolPO (inOp neg) := fun ps o e => by
  unfold inOp at e
  split at e
  · cases e; exact ⟨_, rfl⟩
  · split at e
    · cases e
    · split at e
      · cases e; exact ⟨_, rfl⟩
      · split at e
        · split at e
          · cases e; exact ⟨_, rfl⟩
          · cases e
        · cases e
  · cases e
theorem op_inAll {X : Cx} (hu : X.A.units + 65 < cLine) : OpR X (compareOp .In) (rInAll X.K false) := by
  refine OpR.or (fun pins s σ H x y v u Q I rx ry q => ?_) (OpR.or op_in_seq fun pins s σ H x y v u Q I rx ry q => ?_)
  · obtain ⟨i, j, rfl, rfl, q⟩ := q
    rw [Bool.false_xor] at q
    exact op_in_str pins s σ H _ _ v u Q I rx ry ⟨i, j, rfl, rfl, q⟩
  · obtain ⟨d, ds, h1, h2, h3, h4, q⟩ := q
    rw [Bool.false_xor] at q
    exact op_inD hu pins s σ H _ _ v u Q I rx ry ⟨d, ds, h1, h2, h3, h4, q⟩
theorem op_notInAll {X : Cx} (hu : X.A.units + 65 < cLine) : OpR X (compareOp .NotIn) (rInAll X.K true) := by
  refine OpR.or (fun pins s σ H x y v u Q I rx ry q => ?_) (OpR.or op_notIn_seq fun pins s σ H x y v u Q I rx ry q => ?_)
  · obtain ⟨i, j, rfl, rfl, q⟩ := q
    rw [Bool.true_xor] at q
    exact op_notIn_str pins s σ H _ _ v u Q I rx ry ⟨i, j, rfl, rfl, q⟩
  · obtain ⟨d, ds, h1, h2, h3, h4, q⟩ := q
    rw [Bool.true_xor] at q
    exact op_notInD hu pins s σ H _ _ v u Q I rx ry ⟨d, ds, h1, h2, h3, h4, q⟩
theorem ev_in (hs : noSet b = true) (ha : EV g Γ a fa) (hb : EV g Γ b fb) : EV g Γ (.Compare a [.In] [b] pos) (eOp (inOp false) (aCons fa (aCons fb aNil))) :=
  ev_op2 (rok_in false) (fun X W F ta tb ha hb => by rw [← F.K]; exact pe_cmpR (op_inAll F.un65) ha hb (marks_no hs)) ha hb
theorem ev_notIn (hs : noSet b = true) (ha : EV g Γ a fa) (hb : EV g Γ b fb) : EV g Γ (.Compare a [.NotIn] [b] pos) (eOp (inOp true) (aCons fa (aCons fb aNil))) :=
  ev_op2 (rok_in true) (fun X W F ta tb ha hb => by rw [← F.K]; exact pe_cmpR (op_notInAll F.un65) ha hb (marks_no hs)) ha hb
theorem tv_in (hs : noSet b = true) (ha : EV g Γ a fa) (hb : EV g Γ b fb) : TV g Γ (.Compare a [.In] [b] pos) (tOf (eOp (inOp false) (aCons fa (aCons fb aNil)))) :=
  tv_cmp (rok_in false) (bool_in _) (fun X W F => by rw [← F.K]; exact op_inAll F.un65) (fun _ => marks_no) hs ha hb
theorem tv_notIn (hs : noSet b = true) (ha : EV g Γ a fa) (hb : EV g Γ b fb) : TV g Γ (.Compare a [.NotIn] [b] pos) (tOf (eOp (inOp true) (aCons fa (aCons fb aNil)))) :=
  tv_cmp (rok_in true) (bool_in _) (fun X W F => by rw [← F.K]; exact op_notInAll F.un65) (fun _ => marks_no) hs ha hb

/-! ## global names -/
/-- how a global name is read -/
structure IsGl (Γ : Sx) (x : Str) : Prop where
  gl : Γ.sc.names.lookup x = some .globalImplicit
  db : (x == ("__debug__" : Str)) = false
theorem IsGl.of {X : Cx} {W : WX} (F : Fits g Γ X W) (h : IsGl Γ x) : Gl X x := by
  show X.env.scope.names.lookup x = some .globalImplicit
  rw [F.sc]
  exact h.gl
/-- a module's constant -/
structure GC (g : Prg) (x : Str) (y : PV) : Prop where
  c : ∃ (v : V) (u : Value), g.mg x = some u ∧ RelV v u ∧ ∀ H0 H F, Own g.K H0 H y 0 v F
theorem ev_glob {y : PV} (hg : IsGl Γ x) (h : GC g x y) : EV g Γ (.Name x pos) (eC y) := fun X W F => by
  obtain ⟨v, u, hm, r, o⟩ := h.c
  refine PE.imp (pe_glob (v := v) (IsGl.of F hg) (by rw [F.mg]; exact hm) r hg.db) fun σ H Q ⟨H0, O, ρ, S, q⟩ => ?_
  exact q v H0 H O noF (Grow.refl.mono fun a z => z.elim id False.elim) (fun _ _ _ z => z) S .no (o _ _ _)
theorem GC.int {i : Int} {t : Tok} (h : g.mg x = some (.int i t)) : GC g x (.int i) := ⟨.int i, _, h, ⟨t, rfl⟩, fun _ _ _ => rfl⟩
theorem GC.str {i : Str} {t : Tok} (h : g.mg x = some (.str i t)) : GC g x (.str i) := ⟨.str i, _, h, ⟨t, rfl⟩, fun _ _ _ => rfl⟩

/-! ## calls of built-ins -/
def noStars : List Expr → Bool
  | [] => true
  | e :: es => noStar e && noStars es
theorem noStars_all : ∀ {es : List Expr}, noStars es = true → ∀ e ∈ es, noStar e = true
  | e :: es, h, e', m => by
    have h' := Bool.and_eq_true_iff.mp h
    rcases List.mem_cons.mp m with rfl | m
    · exact h'.1
    · exact noStars_all h'.2 _ m
theorem ev_callB {id : String} {op : PO} {r : List V → Hp → VK → Prop} (hr : ROk g.K r op) (hc : ∀ X W, Fits g Γ X W → CallR X (.builtin id) r) (hg : IsGl Γ x) (hm : g.mg x = none) (hv : bootBuiltins x = some (.builtin id)) (hn : x ≠ "__name__") (hs : noStars (e :: es) = true) (ha : AV g Γ (e :: es) af) :
    EV g Γ (.Call (.Name x p) (e :: es) [] pos) (eOp op af) :=
  ev_opn hr (fun X W F t ht => pe_callB (hc X W F) (IsGl.of F hg) (by rw [F.mg]; exact hm) hv ht hn hg.db (star_cons (noStars_all hs _ List.mem_cons_self)) (star_any fun y hy => noStars_all hs _ (List.mem_cons_of_mem _ hy))) ha
theorem ev_callTy {T : String} {op : PO} {r : List V → Hp → VK → Prop} (hr : ROk g.K r op) (hc : ∀ X W, Fits g Γ X W → CallR X (.type T) r) (hg : IsGl Γ x) (hm : g.mg x = none) (hv : bootBuiltins x = some (.type T)) (hn : x ≠ "__name__") (hs : noStars (e :: es) = true) (ha : AV g Γ (e :: es) af) :
    EV g Γ (.Call (.Name x p) (e :: es) [] pos) (eOp op af) :=
  ev_opn hr (fun X W F t ht => pe_callTy (hc X W F) (IsGl.of F hg) (by rw [F.mg]; exact hm) hv ht hn hg.db (star_cons (noStars_all hs _ List.mem_cons_self)) (star_any fun y hy => noStars_all hs _ (List.mem_cons_of_mem _ hy))) ha

def pLen : PO
  | [(n, x)] => match x with
    | .str z => if z.length ≤ sizeLine then sc (.int z.length) else none
    | _ => (x.items n).bind fun q => sc (.int q.2.length)
  | _ => none
theorem rok_len : ROk K (fun vs H Q => (∃ p ys, vs = [.ref p] ∧ (SqL K H p ys ∨ SqT K H p ys) ∧ Q (.int ys.length) H) ∨ ∃ z, vs = [.str z] ∧ z.length ≤ sizeLine ∧ Q (.int z.length) H) pLen := by
  intro H0 H ps vs o Q s w e G
  unfold pLen at e
  split at e
  · obtain ⟨v, F, rfl, h1⟩ := views1 w
    split at e
    · cases (show v = _ from h1)
      split at e
      · exact .inr ⟨_, rfl, ‹_›, sc_gives e G s rfl⟩
      · cases e
    · obtain ⟨⟨m, xs⟩, e1, e2⟩ := Option.bind_eq_some_iff.mp e
      obtain ⟨a, vs, G', rfl, hs, ho⟩ := own_items s h1 e1
      refine .inl ⟨a, vs, rfl, hs, ?_⟩
      rw [ownL_len ho]
      exact sc_gives e2 G s rfl
  · cases e
def pTuple : PO
  | [(n, .lst xs)] => if n ≤ 1 then sc (.tup xs) else none
  | [(_, .clst xs)] => sc (.tup xs)
  | [(_, .tup xs)] => sc (.tup xs)
  | [(_, .ctup xs)] => sc (.ctup xs)
  | _ => none
theorem rok_tuple : ROk K (fun xs H Q => ∃ p ys, xs = [.ref p] ∧ ((SqL K H p ys ∧ ∀ l, H l = none → Q (.ref l) (upd H l (.tup ys))) ∨ (SqT K H p ys ∧ Q (.ref p) H))) pTuple := by
  intro H0 H ps vs o Q s w e G
  unfold pTuple at e
  split at e
  · obtain ⟨v, F, rfl, h1⟩ := views1 w
    split at e
    · cases e
      obtain ⟨a, vs, rfl, g1, o1⟩ := lst_lv s h1 ‹_›
      exact ⟨a, vs, rfl, .inl ⟨.inl (.inl g1), gives_tup G s o1⟩⟩
    · cases e
  · obtain ⟨v, F, rfl, h1⟩ := views1 w
    cases e
    obtain ⟨a, vs, rfl, g1, o1⟩ := h1
    exact ⟨a, vs, rfl, .inl ⟨s.seq g1, gives_tup G s o1⟩⟩
  · obtain ⟨v, F, rfl, h1⟩ := views1 w
    cases e
    obtain ⟨a, vs, e1, g1, o1⟩ := own_tup s h1
    subst e1
    exact ⟨a, vs, rfl, .inr ⟨.inl (.inl g1), gives_imm G s (own_imm (F' := noF) (H' := H) h1 (.inr rfl) fun _ _ z => z)⟩⟩
  · obtain ⟨v, F, rfl, h1⟩ := views1 w
    cases e
    obtain ⟨a, vs, e1, g1, o1⟩ := id h1
    subst e1
    exact ⟨a, vs, rfl, .inr ⟨sqT_up g1, gives_imm G s (own_imm (F' := noF) (H' := H) h1 (.inr rfl) fun _ _ z => z)⟩⟩
  · cases e
def pList : PO
  | [(n, x)] => (x.items n).bind fun q => if q.1 = 0 ∨ q.2.all PV.imm = true then some ⟨true, 1, .lst q.2⟩ else none
  | _ => none
theorem ownL_imm : ∀ {xs : List PV} {n : Nat} {vs : List V} {F : Fp}, OwnL K H0 H xs n vs F → xs.all PV.imm = true → OwnL K H0 H xs 0 vs noF
  | [], _, _, _, h, _ => h
  | x :: xs, n, _, F, ⟨v, vs', G, e1, h1, h2⟩, e => by
    rw [List.all_cons, Bool.and_eq_true] at e
    exact ⟨v, vs', noF, e1, own_imm h1 (.inr e.1) (fun _ _ z => z), ownL0 (fun _ _ z => z) _ _ _ _ (ownL_imm h2 e.2)⟩
theorem rok_list : ROk K (fun xs H Q => ∃ p ys, xs = [.ref p] ∧ (SqL K H p ys ∨ SqT K H p ys) ∧ ∀ l, H l = none → Q (.ref l) (upd H l (.lst ys))) pList := by
  intro H0 H ps vs o Q s w e G
  unfold pList at e
  split at e
  · obtain ⟨v, F, rfl, h1⟩ := views1 w
    obtain ⟨⟨m, xs⟩, e1, e2⟩ := Option.bind_eq_some_iff.mp e
    obtain ⟨a, vs, G', rfl, hs, ho⟩ := own_items s h1 e1
    split at e2
    · rename_i hc
      cases e2
      refine ⟨a, vs, rfl, hs, gives_lst (F := noF) G s ?_⟩
      rcases hc with hc | hc
      · cases (show m = 0 from hc)
        exact ownL0 (fun _ _ z => z) _ _ _ _ ho
      · exact ownL_imm ho hc
    · cases e2
  · cases e
def pInt : PO
  | [(_, .int i)] => sc (.int i)
  | [(_, .bl k)] => sc (.int (if k then 1 else 0))
  | [(_, .str s)] => if s.length ≤ 640 then (PySem.intText? s).bind fun n => sc (.int n) else none
  | _ => none
theorem rok_int : ROk K (fun xs H Q => ((∃ i, xs = [.int i] ∧ Q (.int i) H) ∨ ∃ k, xs = [.bl k] ∧ Q (.int (if k then 1 else 0)) H) ∨ ∃ a n, xs = [.str a] ∧ PySem.intText? a = some n ∧ a.length ≤ 640 ∧ Q (.int n) H) pInt := by
  intro H0 H ps vs o Q s w e G
  unfold pInt at e
  split at e
  · obtain ⟨v, F, rfl, h1⟩ := views1 w
    cases (show v = _ from h1)
    exact .inl (.inl ⟨_, rfl, sc_gives e G s rfl⟩)
  · obtain ⟨v, F, rfl, h1⟩ := views1 w
    cases (show v = _ from h1)
    exact .inl (.inr ⟨_, rfl, sc_gives e G s rfl⟩)
  · obtain ⟨v, F, rfl, h1⟩ := views1 w
    cases (show v = _ from h1)
    split at e
    · obtain ⟨n, e1, e2⟩ := Option.bind_eq_some_iff.mp e
      exact .inr ⟨_, n, rfl, e1, ‹_›, sc_gives e2 G s rfl⟩
    · cases e
  · cases e
def pAbs : PO
  | [(_, .int i)] => sc (.int (if i < 0 then -i else i))
  | _ => none
theorem rok_abs : ROk K (fun xs H Q => ∃ i, xs = [.int i] ∧ Q (.int (if i < 0 then -i else i)) H) pAbs := by
  intro H0 H ps vs o Q s w e G
  unfold pAbs at e
  split at e
  · obtain ⟨v, F, rfl, h1⟩ := views1 w
    cases (show v = _ from h1)
    exact ⟨_, rfl, sc_gives e G s rfl⟩
  · cases e
def pStr : PO
  | [(_, .int i)] => if i.natAbs.log2 < 1920 then sc (.str (Str.ofString (toString i))) else none
  | _ => none
theorem rok_str : ROk K (fun xs H Q => ∃ i, xs = [.int i] ∧ i.natAbs.log2 < 1920 ∧ Q (.str (toString i)) H) pStr := by
  intro H0 H ps vs o Q s w e G
  unfold pStr at e
  split at e
  · obtain ⟨v, F, rfl, h1⟩ := views1 w
    cases (show v = _ from h1)
    split at e
    · exact ⟨_, rfl, ‹_›, sc_gives e G s rfl⟩
    · cases e
  · cases e
def pMax2 : PO
  | [(_, .int i), (_, .int j)] => sc (.int (if j > i then j else i))
  | _ => none
def pMin2 : PO
  | [(_, .int i), (_, .int j)] => sc (.int (if j < i then j else i))
  | _ => none
theorem rok_max2 : ROk K (fun xs H Q => ∃ i j, xs = [.int i, .int j] ∧ Q (.int (if j > i then j else i)) H) pMax2 := by
  intro H0 H ps vs o Q s w e G
  unfold pMax2 at e
  split at e
  · obtain ⟨v, u, F, F', rfl, h1, h2⟩ := views2 w
    cases (show v = _ from h1); cases (show u = _ from h2)
    exact ⟨_, _, rfl, sc_gives e G s rfl⟩
  · cases e
theorem rok_min2 : ROk K (fun xs H Q => ∃ i j, xs = [.int i, .int j] ∧ Q (.int (if j < i then j else i)) H) pMin2 := by
  intro H0 H ps vs o Q s w e G
  unfold pMin2 at e
  split at e
  · obtain ⟨v, u, F, F', rfl, h1, h2⟩ := views2 w
    cases (show v = _ from h1); cases (show u = _ from h2)
    exact ⟨_, _, rfl, sc_gives e G s rfl⟩
  · cases e
section
variable (hs : noStars (e :: es) = true) (ha : AV g Γ (e :: es) af)
include hs ha
theorem ev_len (hg : IsGl Γ "len") (hm : g.mg "len" = none) : EV g Γ (.Call (.Name "len" p) (e :: es) [] pos) (eOp pLen af) :=
  ev_callB rok_len (fun X W F => by rw [← F.K]; exact CallR.or call_len_seq call_len_str) hg hm PySem.boot_len (by decide) hs ha
theorem ev_tuple (hg : IsGl Γ "tuple") (hm : g.mg "tuple" = none) : EV g Γ (.Call (.Name "tuple" p) (e :: es) [] pos) (eOp pTuple af) :=
  ev_callTy rok_tuple (fun X W F => by rw [← F.K]; exact call_tuple_of) hg hm (by decide +kernel) (by decide) hs ha
theorem ev_list (hg : IsGl Γ "list") (hm : g.mg "list" = none) : EV g Γ (.Call (.Name "list" p) (e :: es) [] pos) (eOp pList af) :=
  ev_callTy rok_list (fun X W F => by rw [← F.K]; exact call_list_of) hg hm (by decide +kernel) (by decide) hs ha
theorem ev_intc (hg : IsGl Γ "int") (hm : g.mg "int" = none) : EV g Γ (.Call (.Name "int" p) (e :: es) [] pos) (eOp pInt af) :=
  ev_callTy rok_int (fun X W F => CallR.or call_int1 call_int_str) hg hm (by decide +kernel) (by decide) hs ha
theorem ev_abs (hg : IsGl Γ "abs") (hm : g.mg "abs" = none) : EV g Γ (.Call (.Name "abs" p) (e :: es) [] pos) (eOp pAbs af) :=
  ev_callB rok_abs (fun X W F => call_abs) hg hm (by decide +kernel) (by decide) hs ha
theorem ev_strc (hg : IsGl Γ "str") (hm : g.mg "str" = none) : EV g Γ (.Call (.Name "str" p) (e :: es) [] pos) (eOp pStr af) :=
  ev_callTy rok_str (fun X W F => call_str_int) hg hm (by decide +kernel) (by decide) hs ha
theorem ev_max2 (hh : Γ.hot = false) (hg : IsGl Γ "max") (hm : g.mg "max" = none) : EV g Γ (.Call (.Name "max" p) (e :: es) [] pos) (eOp pMax2 af) :=
  ev_callB rok_max2 (fun X W F => call_max2 (F.calm hh)) hg hm (by decide +kernel) (by decide) hs ha
theorem ev_min2 (hh : Γ.hot = false) (hg : IsGl Γ "min") (hm : g.mg "min" = none) : EV g Γ (.Call (.Name "min" p) (e :: es) [] pos) (eOp pMin2 af) :=
  ev_callB rok_min2 (fun X W F => call_min2 (F.calm hh)) hg hm (by decide +kernel) (by decide) hs ha
end

/-! ## isinstance(e, T), T a built-in class by its name -/
def PV.tyName : PV → Option String
  | .non => some "NoneType"
  | .bl _ => some "bool"
  | .int _ => some "int"
  | .str _ => some "str"
  | .tup _ | .ctup _ => some "tuple"
  | .lst _ | .clst _ => some "list"
  | .dic _ => some "dict"
  | .exn _ _ _ _ => none
def eIsi (T : String) (f : EF) : EF := fun ρ => (f ρ).bind fun r => match (r.x.tyName).bind fun t => kitB t T with
  | some b => .ok ⟨r.pu, true, 0, .bl b, r.ρ⟩
  | none => .bad
/-- a value's type, frozen dicts too -/
def TyY (K : PySem.W.Frag) (H : Hp) (v : V) (t : Value) : Prop := TyX K H v t ∨ ∃ a o kvs, v = .ref a ∧ H a = some (.frz o (.dT kvs)) ∧ t = .type "dict"
theorem own_ty (s : Same H0 H) {x : PV} {n : Nat} {v : V} {F : Fp} {t : String} (h : Own K H0 H x n v F) (e : x.tyName = some t) : TyY K H v (.type t) := by
  cases x with
  | non => cases (show v = _ from h); cases e; exact .inl (.base .non)
  | bl b => cases (show v = _ from h); cases e; exact .inl (.base (.bl _))
  | int b => cases (show v = _ from h); cases e; exact .inl (.base (.int _))
  | str b => cases (show v = _ from h); cases e; exact .inl (.base (.str _))
  | tup xs =>
    cases e
    obtain ⟨a, vs, rfl, h1, h2⟩ := own_tup s h
    exact .inl (.base (.tup h1))
  | ctup xs =>
    cases e
    obtain ⟨a, vs, rfl, h1, h2⟩ := h
    rcases h1 with (h1 | ⟨o, h1⟩) | ⟨o, its, n, h1, h2, _⟩
    · cases h1
    · cases h1
    · exact .inl (.kTuple h1 h2)
  | lst xs =>
    cases e
    obtain ⟨a, vs, G, rfl, h1, h2⟩ := own_lst s h
    exact .inl (.base (.lst h1))
  | clst xs =>
    cases e
    obtain ⟨a, vs, rfl, h1, h2⟩ := h
    rcases h1 with (h1 | ⟨o, h1⟩) | ⟨o, its, n, h1, h2, _⟩
    · exact .inl (.base (.lst (s _ _ h1)))
    · exact .inl (.base (.frz (s _ _ h1)))
    · exact .inl (.kList h1 h2)
  | dic kvs =>
    cases e
    cases n with
    | zero =>
      obtain ⟨a, o, u, l, rfl, h1, h2, _⟩ := h
      cases h2 with
      | k kv => exact .inl (.fDict (s _ _ h1))
      | t kv => exact .inr ⟨a, o, kv, rfl, s _ _ h1, rfl⟩
    | succ n =>
      obtain ⟨a, u, l, rfl, h1, h2, _⟩ := h
      cases h2 with
      | k kv => exact .inl (.base (.dK h1))
      | t kv => exact .inl (.base (.dT h1))
  | exn _ _ _ _ => cases e
def rIsiY (K : PySem.W.Frag) : List V → Hp → VK → Prop := fun xs H Q => ∃ (x c : V) (t u : Value) (b : Bool), xs = [x, c] ∧ ClsV c u ∧ TyY K H x t ∧ PySem.W.kitOne K t u = some b ∧ Q (.bl b) H
theorem call_isiY {X : Cx} : CallR X (.builtin "isinstance") (rIsiY X.K) := by
  intro pins s σ H xs us Q I r h
  obtain ⟨x, c, t, u, b, rfl, k, ty, e, q⟩ := h
  rcases ty with ty | ⟨a, o, kvs, rfl, ha, rfl⟩
  · exact call_isi pins s σ H _ us Q I r ⟨x, c, t, u, b, rfl, k, ty, e, q⟩
  · obtain ⟨u1, u2, rfl, r1, r2⟩ := vals2 r
    have e2 := k.eq r2
    subst e2
    cases (show u1 = Value.ref a from r1)
    obtain ⟨_, _, xs, _, dd⟩ := dt_rd I.hok (.inr ⟨o, ha⟩)
    obtain ⟨od, es, ep, h1, h2, _⟩ := dd
    exact PySem.W.kia_one PySem.W.kitx_dict I.kIn ⟨od, h1, h2.1⟩ e (fun z => nomatch z) fun tk => ⟨.bl b, H, I.tok tk, rfl, q⟩
theorem isi_run {W : WX} {T : String} {σ : L2.St} {Q : VK} (q : tF g W (eIsi T fa) σ H Q) : tF g W fa σ H fun x H1 => rIsiY g.K [x, .ty T] H1 Q := by
  obtain ⟨H0, O, ρ, S, q⟩ := q
  refine ⟨H0, O, ρ, S, ?_⟩
  unfold eIsi at q
  cases ee : fa ρ with
  | bad => rw [ee] at q; exact q
  | exc c fs ρ' => rw [ee] at q; exact q
  | ok r =>
    rw [ee] at q
    simp only [Res.bind] at q
    intro v H0' H' O' B kk hp S' T' w
    have z : ∃ F, Own g.K H0' H' r.x r.lv v F := by
      split at w
      · exact ⟨_, w⟩
      · exact w
    obtain ⟨F, z⟩ := z
    cases ht : (r.x.tyName).bind fun t => kitB t T with
    | none => simp only [Res.bind, ht] at q
    | some b =>
      simp only [Res.bind, ht] at q
      obtain ⟨t, h1, h2⟩ := Option.bind_eq_some_iff.mp ht
      exact ⟨v, .ty T, _, _, b, rfl, .ty T, own_ty S'.sub z h1, kit_ty h2, q _ H0' H' O' noF (kk.mono fun a z => .inl (z.elim id False.elim)) hp S' .no rfl⟩
theorem ev_isi {T : String} {t : Str} (hs : noStar a = true) (hg : IsGl Γ "isinstance") (hm : g.mg "isinstance" = none) (hgt : IsGl Γ t) (hmt : g.mg t = none) (hv : bootBuiltins t = some (.type T)) (hn : t ≠ "__name__") (ha : EV g Γ a fa) :
    EV g Γ (.Call (.Name "isinstance" p) [a, .Name t p2] [] pos) (eIsi T fa) := fun X W F => by
  refine PE.imp (pe_callB (t := tCons (tF g W fa) (tCons (tC (.ty T)) tNil)) (r := rIsiY g.K) (by rw [← F.K]; exact call_isiY) (IsGl.of F hg) (by rw [F.mg]; exact hm) (by decide +kernel) (pa_cons (ha X W F) (pa_cons (pe_bltn (v := .ty T) (IsGl.of F hgt) (by rw [F.mg]; exact hmt) hv rfl hn hgt.db) pa_nil rfl) (star_cons hs)) (by decide) hg.db (star_cons hs) (star_any fun y hy => ?_)) fun σ H Q q => isi_run q
  rcases List.mem_cons.mp hy with rfl | hy
  · rfl
  · cases hy
end
end Pv

set_option maxRecDepth 100000
set_option maxHeartbeats 1000000
namespace Pv
open PySem PySem.Spec PyProof.Rows L2

section
variable {g : Prg} {Γ : Sx} {K : PySem.W.Frag} {H0 H : Hp}
variable {o e : Expr} {es : List Expr} {fo fe : EF} {af : AF} {pos p apos cpos : Pos}
/-! ## methods of built-in types -/
def noSup : Expr → Bool
  | .Call (.Name _ _) [] [] _ => false
  | _ => true
theorem base_ok {name : Str} {env : Env} {w : Sem Value} (h : noSup o = true) : attributeBase o name env w = w := by
  unfold attributeBase
  split
  · cases h
  · rfl
theorem star_all {env : Env} : ∀ {es : List Expr}, noStars es = true → (backTo pos (starEach es env)).all (fun x => !x.1) = true
  | [], _ => rfl
  | e :: es, h => by
    have h' := Bool.and_eq_true_iff.mp h
    rw [star_cons h'.1]
    show (true && (backTo pos (starEach es env)).all (fun x => !x.1)) = true
    rw [star_all h'.2]
    rfl
def PV.isStr : PV → Bool
  | .str _ => true
  | _ => false
def PV.isLst : PV → Bool
  | .lst _ | .clst _ => true
  | _ => false
theorem own_isStr {x : PV} {n : Nat} {v : V} {F : Fp} (h : Own K H0 H x n v F) (e : x.isStr = true) : ∃ i, v = .str i := by
  cases x <;> first | exact ⟨_, h⟩ | cases e
theorem ty_str {x : PV} {n : Nat} {v : V} {F : Fp} (s : Same H0 H) (h : Own K H0 H x n v F) (e : x.isStr = true) : tyV K "str" v H := by
  obtain ⟨i, rfl⟩ := own_isStr h e
  rfl
theorem ty_lst {x : PV} {n : Nat} {v : V} {F : Fp} (s : Same H0 H) (h : Own K H0 H x n v F) (e : x.isLst = true) : tyV K "list" v H := by
  cases x with
  | lst xs =>
    obtain ⟨a, vs, G, rfl, h1, h2⟩ := own_lst s h
    exact .inl ⟨rfl, vs, .inl (.inl h1)⟩
  | clst xs =>
    obtain ⟨a, vs, rfl, h1, h2⟩ := h
    exact .inl ⟨rfl, vs, s.seq h1⟩
  | _ => cases e
theorem ev_meth {T id : String} {name : Str} {op : PO} {r : V → List V → Hp → VK → Prop} {ty : PV → Bool} (pa : PlainAttrs T) (slot : Slot T name id) (hty : typeOf (.builtin id) = pure (.type "method_descriptor"))
    (hm : ∀ X W, Fits g Γ X W → MtR X id r) (hr : ROk g.K (fun vs H Q => ∃ x xs, vs = x :: xs ∧ r x xs H Q) op) (hk : ∀ {H0 H : Hp} {x : PV} {n : Nat} {v : V} {F : Fp}, Same H0 H → Own g.K H0 H x n v F → ty x = true → tyV g.K T v H)
    (hn : noSup o = true) (hs : noStars (e :: es) = true) (hl : (apos.endLine == cpos.line) = true) (hlen : (e :: es).length < 29) (ho : EV g Γ o fo) (ha : AV g Γ (e :: es) af) :
    EV g Γ (.Call (.Attribute o name apos) (e :: es) [] cpos) (eOp op (aConsT ty fo af)) := fun X W F => by
  refine PE.imp (pe_bm pa slot hty (hm X W F) (ho X W F) (ha X W F) (base_ok hn) ?_ hl (star_cons (noStars_all hs _ List.mem_cons_self)) (star_any fun y hy => noStars_all hs _ (List.mem_cons_of_mem _ hy))) fun σ H Q q => ?_
  · rw [star_all hs]
    show (true && true && decide ((e :: es).length + 0 + 0 < 30)) = true
    rw [decide_eq_true (by omega)]
    rfl
  · refine tF.mono (tA_consT (op_run hr q)) fun x H1 ⟨⟨H0, n, y, F', s, w, t⟩, q1⟩ => ⟨by rw [F.K]; exact hk s w t, tA.mono q1 fun xs H2 ⟨x', xs', e, q2⟩ => ?_⟩
    cases e
    exact q2
theorem ev_meth0 {T id : String} {name : Str} {op : PO} {r : V → List V → Hp → VK → Prop} {ty : PV → Bool} (pa : PlainAttrs T) (slot : Slot T name id) (hty : typeOf (.builtin id) = pure (.type "method_descriptor"))
    (hm : ∀ X W, Fits g Γ X W → MtR X id r) (hr : ROk g.K (fun vs H Q => ∃ x xs, vs = x :: xs ∧ r x xs H Q) op) (hk : ∀ {H0 H : Hp} {x : PV} {n : Nat} {v : V} {F : Fp}, Same H0 H → Own g.K H0 H x n v F → ty x = true → tyV g.K T v H)
    (hn : noSup o = true) (hl : (apos.endLine == cpos.line) = true) (ho : EV g Γ o fo) :
    EV g Γ (.Call (.Attribute o name apos) [] [] cpos) (eOp op (aConsT ty fo aNil)) := fun X W F => by
  refine PE.imp (pe_bm0 pa slot hty (hm X W F) (ho X W F) (base_ok hn) hl) fun σ H Q q => ?_
  refine tF.mono (tA_consT (op_run hr q)) fun x H1 ⟨⟨H0, n, y, F', s, w, t⟩, q1⟩ => ⟨by rw [F.K]; exact hk s w t, ?_⟩
  obtain ⟨x', xs', e, q2⟩ := tA_nil q1
  cases e
  exact q2

/-- a new list of texts -/
def newStrs (ys : List Str) : Option Po := some ⟨true, 1, .lst (ys.map .str)⟩
theorem strs_own : ∀ (ys : List Str) (F : Fp), OwnL K H0 H (ys.map PV.str) 0 (ys.map V.str) F
  | [], _ => rfl
  | y :: ys, F => ⟨_, _, noF, rfl, rfl, strs_own ys _⟩
theorem newStrs_gives {ys : List Str} {o : Po} {Q : VK} (e : newStrs ys = some o) (s : Same H0 H) (G : Gives K H0 H o Q) : rNewStrs ys H Q := by
  cases e
  exact gives_lst (F := noF) G s (strs_own ys _)
def pSplit : PO
  | [(_, .str a), (_, .str b)] => if (b.length == 0) = false ∧ a.length + 2 ≤ sizeLine then newStrs (Txt.split a b) else none
  | _ => none
theorem rok_split : ROk K (fun vs H Q => ∃ x xs, vs = x :: xs ∧ ∃ a b, x = .str a ∧ xs = [.str b] ∧ (b.length == 0) = false ∧ a.length + 2 ≤ sizeLine ∧ rNewStrs (Txt.split a b) H Q) pSplit := by
  intro H0 H ps vs o Q s w e G
  unfold pSplit at e
  split at e
  · obtain ⟨v, u, F, F', rfl, h1, h2⟩ := views2 w
    cases (show v = _ from h1); cases (show u = _ from h2)
    split at e
    · rename_i hc
      exact ⟨_, _, rfl, _, _, rfl, rfl, hc.1, hc.2, newStrs_gives e s G⟩
    · cases e
  · cases e
def pPart : PO
  | [(_, .str a), (_, .str b)] => if (b.length == 0) = false ∧ a.length ≤ sizeLine then sc (.tup [.str (Txt.partition a b).1, .str (Txt.partition a b).2.1, .str (Txt.partition a b).2.2]) else none
  | _ => none
theorem rok_part : ROk K (fun vs H Q => ∃ x xs, vs = x :: xs ∧ ∃ a b, x = .str a ∧ xs = [.str b] ∧ (b.length == 0) = false ∧ a.length ≤ sizeLine ∧
      ∀ p, H p = none → Q (.ref p) (upd H p (.tup [.str (Txt.partition a b).1, .str (Txt.partition a b).2.1, .str (Txt.partition a b).2.2]))) pPart := by
  intro H0 H ps vs o Q s w e G
  unfold pPart at e
  split at e
  · obtain ⟨v, u, F, F', rfl, h1, h2⟩ := views2 w
    cases (show v = _ from h1); cases (show u = _ from h2)
    split at e
    · rename_i hc
      cases e
      exact ⟨_, _, rfl, _, _, rfl, rfl, hc.1, hc.2, gives_tup (F := noF) G s (strs_own [_, _, _] _)⟩
    · cases e
  · cases e
def PV.strOf : PV → Option Str
  | .str s => some s
  | _ => none
theorem own_strs : ∀ {xs : List PV} {n : Nat} {vs : List V} {ss : List Str} {F : Fp}, OwnL K H0 H xs n vs F → xs.mapM PV.strOf = some ss → vs = ss.map V.str
  | [], _, _, _, _, h, e => by
    rw [show _ = ([] : List V) from h]
    cases (show some [] = some _ from e)
    rfl
  | x :: xs, n, vs, ss, F, ⟨v, vs', G, e1, h1, h2⟩, e => by
    rw [List.mapM_cons] at e
    cases x <;> first | cases e | skip
    rename_i z
    cases e3 : xs.mapM PV.strOf with
    | none => rw [e3] at e; cases e
    | some us =>
      rw [e3] at e
      cases e
      rw [e1, own_strs h2 e3, show v = V.str z from h1]
      rfl
def pJoin : PO
  | [(_, .str a), (n, y)] => (y.items n).bind fun q => (q.2.mapM PV.strOf).bind fun ys => if (ys.map (·.length)).sum + ys.length * a.length ≤ 16777216 then sc (.str (Txt.join a ys)) else none
  | _ => none
theorem rok_join : ROk K (fun vs H Q => ∃ x xs, vs = x :: xs ∧ ∃ a p, ∃ ys : List Str, x = .str a ∧ xs = [.ref p] ∧ (SqL K H p (ys.map V.str) ∨ SqT K H p (ys.map V.str)) ∧
    (ys.map (·.length)).sum + ys.length * a.length ≤ 16777216 ∧ Q (.str (Txt.join a ys)) H) pJoin := by
  intro H0 H ps vs o Q s w e G
  unfold pJoin at e
  split at e
  · obtain ⟨v, u, F, F', rfl, h1, h2⟩ := views2 w
    cases (show v = _ from h1)
    obtain ⟨⟨m, xs⟩, e1, e2⟩ := Option.bind_eq_some_iff.mp e
    obtain ⟨ys, e3, e4⟩ := Option.bind_eq_some_iff.mp e2
    obtain ⟨a, vs, G', rfl, hs, ho⟩ := own_items s h2 e1
    have q := own_strs ho e3
    subst q
    split at e4
    · exact ⟨_, _, rfl, _, a, ys, rfl, rfl, hs, ‹_›, sc_gives e4 G s rfl⟩
    · cases e4
  · cases e
def pStarts : PO
  | [(_, .str a), (_, .str b)] => sc (.bl (Txt.startswith a b))
  | _ => none
theorem rok_starts : ROk K (fun vs H Q => ∃ x xs, vs = x :: xs ∧ ∃ a b, x = .str a ∧ xs = [.str b] ∧ Q (.bl (Txt.startswith a b)) H) pStarts := by
  intro H0 H ps vs o Q s w e G
  unfold pStarts at e
  split at e
  · obtain ⟨v, u, F, F', rfl, h1, h2⟩ := views2 w
    cases (show v = _ from h1); cases (show u = _ from h2)
    exact ⟨_, _, rfl, _, _, rfl, rfl, sc_gives e G s rfl⟩
  · cases e
section
variable (hn : noSup o = true) (hs : noStars [e] = true) (hl : (apos.endLine == cpos.line) = true) (ho : EV g Γ o fo) (ha : AV g Γ [e] af)
include hn hs hl ho ha
theorem ev_split : EV g Γ (.Call (.Attribute o "split" apos) [e] [] cpos) (eOp pSplit (aConsT PV.isStr fo af)) :=
  ev_meth F.plainAttrs_str F.slot_str_split F.type_str_split (fun _ _ _ => mt_split) rok_split ty_str hn hs hl (show 1 < 29 by decide) ho ha
theorem ev_part : EV g Γ (.Call (.Attribute o "partition" apos) [e] [] cpos) (eOp pPart (aConsT PV.isStr fo af)) :=
  ev_meth F.plainAttrs_str F.slot_str_partition F.type_str_partition (fun _ _ _ => mt_partition) rok_part ty_str hn hs hl (show 1 < 29 by decide) ho ha
theorem ev_join : EV g Γ (.Call (.Attribute o "join" apos) [e] [] cpos) (eOp pJoin (aConsT PV.isStr fo af)) :=
  ev_meth F.plainAttrs_str F.slot_str_join F.type_str_join (fun X W F => by rw [← F.K]; exact mt_join) rok_join ty_str hn hs hl (show 1 < 29 by decide) ho ha
theorem ev_starts : EV g Γ (.Call (.Attribute o "startswith" apos) [e] [] cpos) (eOp pStarts (aConsT PV.isStr fo af)) :=
  ev_meth F.plainAttrs_str F.slot_str_startswith F.type_str_startswith (fun _ _ _ => mt_startswith) rok_starts ty_str hn hs hl (show 1 < 29 by decide) ho ha
end

/-! ## what is walked -/
/-- the items (each at its turn, as the iterator hands it out) -/
structure Src (K : PySem.W.Frag) (xs : List PV) (J : It) (R : Hp → Hp → Prop) (B : Fp) : Prop where
  go : ∀ {H0 H i}, Same H0 H → R H0 H → i < xs.length → J.go i H
  stop : ∀ {H0 H i}, Same H0 H → R H0 H → xs.length ≤ i → J.stop i H
  yld : ∀ {H0 H i x H'}, Same H0 H → R H0 H → J.yld i H x H' → ∀ y, xs[i]? = some y → ∃ H0', Alloc H0 H H0' H' noF ∧ Own K H0' H' y 0 x noF
  keep : ∀ {H0 H H0' H'}, R H0 H → Same H0 H0' → (∀ a o, B a → H a = some o → H' a = some o) → R H0' H'
structure Ir where
  pu : Bool
  xs : List PV
  ρ : Ev
abbrev IF' := Ev → Res Ir
def tI (g : Prg) (W : WX) (s : IF') : TI := fun σ H R => ∃ H0 O ρ, St0 g.K H0 H O σ ρ ∧ match s ρ with
  | .ok r => ∀ J RR H0' H' O' B, Grow H0 H O H0' H' (O'.or B) → (r.pu = true → Same H H') → St0 g.K H0' H' O' σ r.ρ → Tmp H0' H' O' B → Src g.K r.xs J RR B → RR H0' H' → R J H'
  | .exc c fs ρ' => PostX g H0 H O σ c fs ρ' W
  | .bad => False
def IV (g : Prg) (Γ : Sx) (tg iter : Expr) (s : IF') : Prop := ∀ X W, Fits g Γ X W → PI X tg iter (tI g W s)
theorem PI.imp {X : Cx} {tg e : Expr} {t t' : TI} (h : PI X tg e t) (k : ∀ σ H Q, t' σ H Q → t σ H Q) : PI X tg e t' := ⟨fun pins s σ H Q I q => h.run pins s σ H Q I (k σ H Q q)⟩
/-- a list or a tuple: shared, or just made -/
def seqIt (lst : Bool) (r : Rr) : Option (List PV) := match r.x with
  | .lst xs => if lst = true ∧ (r.lv = 0 ∨ (r.ow = true ∧ r.lv = 1)) then some xs else none
  | .clst xs => if lst = true then some xs else none
  | .tup xs => if lst = false then some xs else none
  | .ctup xs => if lst = false then some xs else none
  | _ => none
def iSeq (lst : Bool) (f : EF) : IF' := fun ρ => (f ρ).bind fun r => match seqIt lst r with
  | some xs => .ok ⟨r.pu, xs, r.ρ⟩
  | none => .bad
def RSeq (K : PySem.W.Frag) (a : Addr) (xs : List PV) (B : Fp) (l : Bool) : Hp → Hp → Prop := fun H0 H => ∃ vs, ((if l = true then SqL K H0 a vs else SqT K H0 a vs) ∨ (l = true ∧ B a ∧ H a = some (.lst vs))) ∧ Sh K H0 H xs vs
theorem RSeq.lst {a : Addr} {xs : List PV} {B : Fp} (s : Same H0 H) (h : RSeq K a xs B true H0 H) : ∃ vs, SqL K H a vs ∧ Sh K H0 H xs vs := by
  obtain ⟨vs, q, sh⟩ := h
  rcases q with q | q
  · rw [if_pos rfl] at q
    exact ⟨vs, s.seq q, sh⟩
  · exact ⟨vs, .inl (.inl q.2.2), sh⟩
theorem RSeq.tup {a : Addr} {xs : List PV} {B : Fp} (s : Same H0 H) (h : RSeq K a xs B false H0 H) : ∃ vs, SqT K H a vs ∧ Sh K H0 H xs vs := by
  obtain ⟨vs, q, sh⟩ := h
  rcases q with q | q
  · rw [if_neg (by decide)] at q
    exact ⟨vs, Same.sqT s q, sh⟩
  · cases q.1
theorem RSeq.keep {H0' H' : Hp} {a : Addr} {xs : List PV} {B : Fp} {l : Bool} (h : RSeq K a xs B l H0 H) (s : Same H0 H0') (k : ∀ a o, B a → H a = some o → H' a = some o) : RSeq K a xs B l H0' H' := by
  obtain ⟨vs, q, sh⟩ := h
  refine ⟨vs, ?_, sh_tr s sh⟩
  rcases q with q | ⟨h1, h2, h3⟩
  · refine .inl ?_
    cases l with
    | true => rw [if_pos rfl] at q ⊢; exact s.seq q
    | false => rw [if_neg (by decide)] at q ⊢; exact Same.sqT s q
  · exact .inr ⟨h1, h2, k _ _ h2 h3⟩
theorem src_list {a : Addr} {xs : List PV} {B : Fp} : Src K xs (Itl K a) (RSeq K a xs B true) B where
  go := fun {H0 H i} s r hi => by
    obtain ⟨vs, hq, sh⟩ := r.lst s
    have hl := Paired.length sh
    exact ⟨vs, vs[i]'(by omega), hq, List.getElem?_eq_getElem _⟩
  stop := fun {H0 H i} s r hi => by
    obtain ⟨vs, hq, sh⟩ := r.lst s
    have hl := Paired.length sh
    exact ⟨vs, hq, by omega⟩
  yld := fun {H0 H i x H'} s r hy y hx => by
    obtain ⟨vs, hq, sh⟩ := r.lst s
    obtain ⟨e, hy⟩ := hy
    subst e
    obtain ⟨v, e1, e2⟩ := Paired.gets sh hx
    rw [hy vs hq] at e1
    cases e1
    exact ⟨H0, .refl s, e2⟩
  keep := fun r s k => r.keep s k
theorem src_tup {a : Addr} {xs : List PV} {B : Fp} : Src K xs (Itt K a) (RSeq K a xs B false) B where
  go := fun {H0 H i} s r hi => by
    obtain ⟨vs, hq, sh⟩ := r.tup s
    have hl := Paired.length sh
    exact ⟨vs, vs[i]'(by omega), hq, List.getElem?_eq_getElem _⟩
  stop := fun {H0 H i} s r hi => by
    obtain ⟨vs, hq, sh⟩ := r.tup s
    have hl := Paired.length sh
    exact ⟨vs, hq, by omega⟩
  yld := fun {H0 H i x H'} s r hy y hx => by
    obtain ⟨vs, hq, sh⟩ := r.tup s
    obtain ⟨e, hy⟩ := hy
    subst e
    obtain ⟨v, e1, e2⟩ := Paired.gets sh hx
    rw [hy vs hq] at e1
    cases e1
    exact ⟨H0, .refl s, e2⟩
  keep := fun r s k => r.keep s k
variable {tg a : Expr} {fa : EF}
theorem rseq_of {r : Rr} {lst : Bool} {xs : List PV} {v : V} {B : Fp} (e : seqIt lst r = some xs) (w : if r.ow = true then Own K H0 H r.x r.lv v B else ∃ F, Own K H0 H r.x r.lv v F) : ∃ a, v = .ref a ∧ RSeq K a xs B lst H0 H := by
  have z : ∃ F, Own K H0 H r.x r.lv v F := by
    split at w
    · exact ⟨_, w⟩
    · exact w
  obtain ⟨F, z⟩ := z
  unfold seqIt at e
  split at e
  · rename_i ys hx
    split at e
    · rename_i hc
      cases e
      obtain ⟨hl, hc⟩ := hc
      subst hl
      rcases hc with hc | ⟨ho, hc⟩
      · rw [hx, hc] at z
        obtain ⟨a, vs, rfl, h1, h2⟩ := z
        exact ⟨a, rfl, vs, .inl (by rw [if_pos rfl]; exact .inl (.inl h1)), own_pair h2⟩
      · rw [if_pos ho, hx, hc] at w
        obtain ⟨a, vs, rfl, h1, h2, h3⟩ := w
        exact ⟨a, rfl, vs, .inr ⟨rfl, h2, h1⟩, own_pair h3⟩
    · cases e
  · rename_i ys hx
    split at e
    · rename_i hc
      cases e
      subst hc
      rw [hx] at z
      obtain ⟨a, vs, rfl, h1, h2⟩ := z
      exact ⟨a, rfl, vs, .inl (by rw [if_pos rfl]; exact h1), own_pair h2⟩
    · cases e
  · rename_i ys hx
    split at e
    · rename_i hc
      cases e
      subst hc
      rw [hx] at z
      obtain ⟨a, vs, rfl, h1, h2⟩ := z
      exact ⟨a, rfl, vs, .inl (by rw [if_neg (by decide)]; exact .inl (.inl h1)), own_pair h2⟩
    · cases e
  · rename_i ys hx
    split at e
    · rename_i hc
      cases e
      subst hc
      rw [hx] at z
      obtain ⟨a, vs, rfl, h1, h2⟩ := z
      exact ⟨a, rfl, vs, .inl (by rw [if_neg (by decide)]; exact sqT_up h1), own_pair h2⟩
    · cases e
  · cases e
theorem seq_iter {W : WX} {σ : L2.St} {R : It → Hp → Prop} {lst : Bool} (q : tI g W (iSeq lst fa) σ H R) : tF g W fa σ H fun x H1 => ∃ a, x = .ref a ∧ (∃ H0 xs B, Same H0 H1 ∧ RSeq g.K a xs B lst H0 H1) ∧ R (if lst = true then Itl g.K a else Itt g.K a) H1 := by
  obtain ⟨H0, O, ρ, S, q⟩ := q
  refine ⟨H0, O, ρ, S, ?_⟩
  unfold iSeq at q
  cases ee : fa ρ with
  | bad => rw [ee] at q; exact q
  | exc c fs ρ' => rw [ee] at q; exact q
  | ok r =>
    rw [ee] at q
    simp only [Res.bind] at q
    intro v H0' H' O' B kk hp S' T w
    cases he : seqIt lst r with
    | none => rw [he] at q; exact q.elim
    | some xs =>
      rw [he] at q
      obtain ⟨a, rfl, rs⟩ := rseq_of he w
      refine ⟨a, rfl, ⟨H0', xs, B, S'.sub, rs⟩, ?_⟩
      cases lst with
      | true => exact q _ _ H0' H' O' B kk hp S' T src_list rs
      | false => exact q _ _ H0' H' O' B kk hp S' T src_tup rs
theorem iv_list (ha : EV g Γ a fa) : IV g Γ tg a (iSeq true fa) := fun X W F => by
  refine PI.imp (pi_list (ha X W F)) fun σ H R q => tF.mono (seq_iter q) fun x H1 ⟨a, e, ⟨H0, xs, B, s, r⟩, q⟩ => ?_
  obtain ⟨vs, h1, _⟩ := r.lst s
  exact ⟨a, e, ⟨vs, by rw [F.K]; exact h1⟩, by rw [F.K]; exact q⟩
theorem iv_tup (ha : EV g Γ a fa) : IV g Γ tg a (iSeq false fa) := fun X W F => by
  refine PI.imp (pi_tup (ha X W F)) fun σ H R q => tF.mono (seq_iter q) fun x H1 ⟨a, e, ⟨H0, xs, B, s, r⟩, q⟩ => ?_
  obtain ⟨vs, h1, _⟩ := r.tup s
  exact ⟨a, e, ⟨vs, by rw [F.K]; exact h1⟩, by rw [F.K]; exact q⟩
end
end Pv

set_option maxRecDepth 100000
set_option maxHeartbeats 1000000
namespace Pv
open PySem PySem.Spec PyProof.Rows L2

section
variable {g : Prg} {Γ : Sx} {K : PySem.W.Frag} {H0 H : Hp}
variable {tg a b c : Expr} {fa fb fc : EF} {es : List Expr} {af : AF} {p pos : Pos}
/-! ## more sources -/
theorem PI.or {X : Cx} {tg e : Expr} {t t' : TI} (h : PI X tg e t) (h' : PI X tg e t') : PI X tg e (fun σ H Q => t σ H Q ∨ t' σ H Q) := ⟨fun pins s σ H Q I q => q.elim (h.run pins s σ H Q I) (h'.run pins s σ H Q I)⟩
def strIt (s : Str) : List PV := s.cps.toList.map fun c => .str ⟨#[c]⟩
def iStrF (f : EF) : IF' := fun ρ => (f ρ).bind fun r => match r.x with
  | .str s => .ok ⟨r.pu, strIt s, r.ρ⟩
  | _ => .bad
theorem src_str {s : Str} : Src K (strIt s) (Its s) (fun _ _ => True) noF where
  go := fun {H0 H i} _ _ hi => by
    have : i < s.cps.size := by simpa [strIt] using hi
    exact this
  stop := fun {H0 H i} _ _ hi => by
    have : s.cps.size ≤ i := by simpa [strIt] using hi
    exact this
  yld := fun {H0 H i x H'} s' _ hy y hx => by
    obtain ⟨e, c, h1, h2⟩ := hy
    subst e h2
    have h3 : s.cps.toList[i]? = some c := by simpa using h1
    unfold strIt at hx
    rw [List.getElem?_map, h3] at hx
    cases hx
    exact ⟨H0, .refl s', rfl⟩
  keep := fun _ _ _ => True.intro
theorem str_iter {W : WX} {σ : L2.St} {R : It → Hp → Prop} (q : tI g W (iStrF fa) σ H R) : tF g W fa σ H fun x H1 => ∃ z, x = .str z ∧ R (Its z) H1 := by
  obtain ⟨H0, O, ρ, S, q⟩ := q
  refine ⟨H0, O, ρ, S, ?_⟩
  unfold iStrF at q
  cases ee : fa ρ with
  | bad => rw [ee] at q; exact q
  | exc c fs ρ' => rw [ee] at q; exact q
  | ok r =>
    rw [ee] at q
    simp only [Res.bind] at q
    intro v H0' H' O' B kk hp S' T w
    have z : ∃ F, Own g.K H0' H' r.x r.lv v F := by
      split at w
      · exact ⟨_, w⟩
      · exact w
    obtain ⟨F, z⟩ := z
    cases hx : r.x <;> rw [hx] at q <;> first | exact q.elim | skip
    rename_i z'
    rw [hx] at z
    exact ⟨z', z, q (Its z') (fun _ _ => True) H0' H' O' noF (kk.mono fun a z => .inl (z.elim id False.elim)) hp S' .no src_str True.intro⟩
/-- a list, a tuple or a text -/
def iAny (f : EF) : IF' := fun ρ => (f ρ).bind fun r => match r.x with
  | .str s => .ok ⟨r.pu, strIt s, r.ρ⟩
  | .tup xs => .ok ⟨r.pu, xs, r.ρ⟩
  | .ctup xs => .ok ⟨r.pu, xs, r.ρ⟩
  | .clst xs => .ok ⟨r.pu, xs, r.ρ⟩
  | .lst xs => if r.lv = 0 ∨ (r.ow = true ∧ r.lv = 1) then .ok ⟨r.pu, xs, r.ρ⟩ else .bad
  | _ => .bad
theorem any_iter {W : WX} {σ : L2.St} {R : It → Hp → Prop} (q : tI g W (iAny fa) σ H R) : tI g W (iSeq true fa) σ H R ∨ (tI g W (iSeq false fa) σ H R ∨ tI g W (iStrF fa) σ H R) := by
  obtain ⟨H0, O, ρ, S, q⟩ := q
  unfold iAny at q
  cases ee : fa ρ with
  | bad => rw [ee] at q; exact q.elim
  | exc c fs ρ' =>
    rw [ee] at q
    refine .inl ⟨H0, O, ρ, S, ?_⟩
    unfold iSeq
    rw [ee]
    exact q
  | ok r =>
    rw [ee] at q
    simp only [Res.bind] at q
    cases hx : r.x with
    | str s =>
      refine .inr (.inr ⟨H0, O, ρ, S, ?_⟩)
      unfold iStrF
      rw [ee]
      simp only [Res.bind, hx] at q ⊢
      exact q
    | tup xs =>
      refine .inr (.inl ⟨H0, O, ρ, S, ?_⟩)
      unfold iSeq
      rw [ee]
      simp only [Res.bind, hx, seqIt, ↓reduceIte] at q ⊢
      exact q
    | ctup xs =>
      refine .inr (.inl ⟨H0, O, ρ, S, ?_⟩)
      unfold iSeq
      rw [ee]
      simp only [Res.bind, hx, seqIt, ↓reduceIte] at q ⊢
      exact q
    | clst xs =>
      refine .inl ⟨H0, O, ρ, S, ?_⟩
      unfold iSeq
      rw [ee]
      simp only [Res.bind, hx, seqIt, ↓reduceIte] at q ⊢
      exact q
    | lst xs =>
      refine .inl ⟨H0, O, ρ, S, ?_⟩
      unfold iSeq
      rw [ee]
      simp only [Res.bind, hx, seqIt, true_and] at q ⊢
      by_cases hc : r.lv = 0 ∨ (r.ow = true ∧ r.lv = 1)
      · rw [if_pos hc] at q ⊢
        exact q
      · rw [if_neg hc] at q
        exact q.elim
    | _ => rw [hx] at q; exact q.elim
theorem iv_any (ha : EV g Γ a fa) : IV g Γ tg a (iAny fa) := fun X W F => by
  refine PI.imp (PI.or (iv_list ha X W F) (PI.or (iv_tup ha X W F) (PI.imp (pi_str (ha X W F)) fun σ H R q => str_iter q))) fun σ H R q => any_iter q
/-! ### ranges -/
def rngL (lo : Int) (n : Nat) (c : Int) : List PV := (List.range n).map fun (k : Nat) => .int (lo + (k : Int) * c)
/-- what a range takes; not for the kernel to reckon -/
def R62 (j : Int) : Prop := -(2 ^ 62) ≤ j ∧ j < 2 ^ 62
noncomputable def r62 (j : Int) : Bool := @decide (R62 j) (Classical.propDecidable _)
theorem r62_iff {j : Int} : r62 j = true ↔ -(2 ^ 62) ≤ j ∧ j < 2 ^ 62 := by
  unfold r62
  rw [@decide_eq_true_iff _ (Classical.propDecidable _)]
  exact Iff.rfl
noncomputable def rngA1 : List (Nat × PV) → Option (List PV)
  | [(_, .int j)] => if r62 j = true then some (rngL 0 j.toNat 1) else none
  | _ => none
noncomputable def rngA2 : List (Nat × PV) → Option (List PV)
  | [(_, .int i), (_, .int j)] => if r62 i = true ∧ r62 j = true then some (rngL i (j - i).toNat 1) else none
  | _ => none
noncomputable def rngA3 : List (Nat × PV) → Option (List PV)
  | [(_, .int i), (_, .int j), (_, .int (-1))] => if r62 i = true ∧ r62 j = true then some (rngL i (i - j).toNat (-1)) else none
  | _ => none
def iRange (rngA : List (Nat × PV) → Option (List PV)) (af : AF) : IF' := fun ρ => (af ρ).bind fun a => match rngA a.vs with
  | some xs => .ok ⟨a.pu, xs, a.ρ⟩
  | none => .bad
theorem src_rng {lo : Int} {n : Nat} : Src K (rngL lo n 1) (Itr lo n) (fun _ _ => True) noF where
  go := fun {H0 H i} _ _ hi => by
    have : i < n := by simpa [rngL] using hi
    exact this
  stop := fun {H0 H i} _ _ hi => by
    have : n ≤ i := by simpa [rngL] using hi
    exact this
  yld := fun {H0 H i x H'} s' _ hy y hx => by
    obtain ⟨e, h2⟩ := hy
    subst e h2
    unfold rngL at hx
    rw [List.getElem?_map] at hx
    cases h : (List.range n)[i]? with
    | none => rw [h] at hx; cases hx
    | some k =>
      rw [h] at hx
      cases hx
      obtain ⟨h1, h2⟩ := List.getElem?_eq_some_iff.mp h
      rw [List.getElem_range] at h2
      subst h2
      exact ⟨H0, .refl s', by show V.int _ = V.int _; rw [Int.mul_one]⟩
  keep := fun _ _ _ => True.intro
theorem src_rngC {lo c : Int} {n : Nat} : Src K (rngL lo n c) (Itc lo c n) (fun _ _ => True) noF where
  go := fun {H0 H i} _ _ hi => by
    have : i < n := by simpa [rngL] using hi
    exact this
  stop := fun {H0 H i} _ _ hi => by
    have : n ≤ i := by simpa [rngL] using hi
    exact this
  yld := fun {H0 H i x H'} s' _ hy y hx => by
    obtain ⟨e, h2⟩ := hy
    subst e h2
    unfold rngL at hx
    rw [List.getElem?_map] at hx
    cases h : (List.range n)[i]? with
    | none => rw [h] at hx; cases hx
    | some k =>
      rw [h] at hx
      cases hx
      obtain ⟨h1, h2⟩ := List.getElem?_eq_some_iff.mp h
      rw [List.getElem_range] at h2
      subst h2
      exact ⟨H0, .refl s', rfl⟩
  keep := fun _ _ _ => True.intro
theorem rng_run {W : WX} {σ : L2.St} {R : It → Hp → Prop} {rngA : List (Nat × PV) → Option (List PV)} {T : List V → It → Prop} (h : ∀ {H0 H ps vs xs}, Views g.K H0 H ps vs → rngA ps = some xs → ∃ J, Src g.K xs J (fun _ _ => True) noF ∧ T vs J) (q : tI g W (iRange rngA af) σ H R) : tA g W af σ H fun vs H1 => ∃ J, T vs J ∧ R J H1 := by
  obtain ⟨H0, O, ρ, S, q⟩ := q
  refine ⟨H0, O, ρ, S, ?_⟩
  unfold iRange at q
  cases ee : af ρ with
  | bad => rw [ee] at q; exact q
  | exc c fs ρ' => rw [ee] at q; exact q
  | ok a =>
    rw [ee] at q
    simp only [Res.bind] at q
    intro vs H0' H' O' kk hp S' w
    cases hr : rngA a.vs with
    | none => rw [hr] at q; exact q.elim
    | some xs =>
      rw [hr] at q
      obtain ⟨J, h1, h2⟩ := h w hr
      exact ⟨J, h2, q J (fun _ _ => True) H0' H' O' noF (kk.mono fun a z => z.elim id False.elim) hp S' .no h1 True.intro⟩
theorem rngT1 {H0 H : Hp} {ps : List (Nat × PV)} {vs : List V} {xs : List PV} (w : Views K H0 H ps vs) (hr : rngA1 ps = some xs) : ∃ J, Src K xs J (fun _ _ => True) noF ∧ ∃ j : Int, vs = [.int j] ∧ (-(2 ^ 62) ≤ j ∧ j < 2 ^ 62) ∧ J = Itr 0 j.toNat := by
  unfold rngA1 at hr
  split at hr
  · split at hr
    · rename_i hc
      cases hr
      obtain ⟨v, F, rfl, h1⟩ := views1 w
      cases (show v = _ from h1)
      exact ⟨_, src_rng, _, rfl, r62_iff.mp hc, rfl⟩
    · cases hr
  · cases hr
theorem rngT2 {H0 H : Hp} {ps : List (Nat × PV)} {vs : List V} {xs : List PV} (w : Views K H0 H ps vs) (hr : rngA2 ps = some xs) : ∃ J, Src K xs J (fun _ _ => True) noF ∧ ∃ i j : Int, vs = [.int i, .int j] ∧ (-(2 ^ 62) ≤ i ∧ i < 2 ^ 62 ∧ -(2 ^ 62) ≤ j ∧ j < 2 ^ 62) ∧ J = Itr i (j - i).toNat := by
  unfold rngA2 at hr
  split at hr
  · split at hr
    · rename_i hc
      cases hr
      obtain ⟨v, u, F, F', rfl, h1, h2⟩ := views2 w
      cases (show v = _ from h1); cases (show u = _ from h2)
      exact ⟨_, src_rng, _, _, rfl, ⟨(r62_iff.mp hc.1).1, (r62_iff.mp hc.1).2, r62_iff.mp hc.2⟩, rfl⟩
    · cases hr
  · cases hr
theorem rngT3 {H0 H : Hp} {ps : List (Nat × PV)} {vs : List V} {xs : List PV} (w : Views K H0 H ps vs) (hr : rngA3 ps = some xs) : ∃ J, Src K xs J (fun _ _ => True) noF ∧ ∃ (i j c : Int) (n : Nat), vs = [.int i, .int j, .int c] ∧ RgC i j c n ∧ J = Itc i c n := by
  unfold rngA3 at hr
  split at hr
  · split at hr
    · rename_i hc
      cases hr
      obtain ⟨v, u, t, F, F', F'', rfl, h1, h2, h3⟩ := views3 w
      cases (show v = _ from h1); cases (show u = _ from h2); cases (show t = _ from h3)
      exact ⟨_, src_rngC, _, _, _, _, rfl, RgC.neg (r62_iff.mp hc.1).1 (r62_iff.mp hc.1).2 (r62_iff.mp hc.2).1 (r62_iff.mp hc.2).2, rfl⟩
    · cases hr
  · cases hr
theorem iv_rng1 (hs : noStar a = true) (hg : IsGl Γ "range") (hm : g.mg "range" = none) (ha : AV g Γ [a] af) : IV g Γ tg (.Call (.Name "range" p) [a] [] pos) (iRange rngA1 af) := fun X W F =>
  PI.imp (pi_range1 (IsGl.of F hg) (by rw [F.mg]; exact hm) (ha X W F) (star_cons hs)) fun σ H R q => tA.mono (rng_run rngT1 q) fun vs H1 ⟨J, ⟨j, e, c, h⟩, r⟩ => ⟨j, e, c.1, c.2, by rw [← h]; exact r⟩
theorem iv_rng2 (hs : noStar a = true) (hs2 : noStar b = true) (hg : IsGl Γ "range") (hm : g.mg "range" = none) (ha : AV g Γ [a, b] af) : IV g Γ tg (.Call (.Name "range" p) [a, b] [] pos) (iRange rngA2 af) := fun X W F =>
  PI.imp (pi_range2 (IsGl.of F hg) (by rw [F.mg]; exact hm) (ha X W F) (by rw [star_cons hs, star_cons hs2]; rfl) (star_cons hs2)) fun σ H R q => tA.mono (rng_run rngT2 q) fun vs H1 ⟨J, ⟨i, j, e, c, h⟩, r⟩ => ⟨i, j, e, c, by rw [← h]; exact r⟩
theorem iv_rng3 (hs : noStars [a, b, c] = true) (hg : IsGl Γ "range") (hm : g.mg "range" = none) (ha : AV g Γ [a, b, c] af) : IV g Γ tg (.Call (.Name "range" p) [a, b, c] [] pos) (iRange rngA3 af) := fun X W F =>
  PI.imp (pi_range3 (IsGl.of F hg) (by rw [F.mg]; exact hm) (ha X W F) (star_cons (noStars_all hs _ List.mem_cons_self)) (star_any fun y hy => noStars_all hs _ (List.mem_cons_of_mem _ hy))) fun σ H R q => tA.mono (rng_run rngT3 q) fun vs H1 ⟨J, ⟨i, j, c, n, e, r1, h⟩, r⟩ => ⟨i, j, c, n, e, r1, by rw [← h]; exact r⟩

/-! ## targets -/
abbrev BF := PV → Ev → Option Ev
/-- the target binds: only the slots sl change -/
def gF (g : Prg) (sl : List Nat) (bf : BF) : TG := fun v σ H Q => ∃ H0 O ρ x ρ', St0 g.K H0 H O σ ρ ∧ Own g.K H0 H x 0 v noF ∧ bf x ρ = some ρ' ∧
  ∀ σ' O', (∀ a, O' a → O a) → St0 g.K H0 H O' σ' ρ' → (∀ j, j ∉ sl → σ'[j]? = σ[j]?) → σ'.length = σ.length → Q σ' H
def GV (g : Prg) (Γ : Sx) (tg : Expr) (sl : List Nat) (bf : BF) : Prop := ∀ X W, Fits g Γ X W → L2.PG X tg (gF g sl bf)
theorem LG.imp {X : Cx} {e : Expr} {t t' : TG} (h : L2.PG X e t) (k : ∀ v σ H Q, t' v σ H Q → t v σ H Q) : L2.PG X e t' := ⟨fun pins s σ H v u Q I r q => h.run pins s σ H v u Q I r (k v σ H Q q)⟩
theorem St0.sub_O {O O' : Fp} {σ : L2.St} {ρ : Ev} (S : St0 K H0 H O σ ρ) {F : Nat → Fp} (h : ∀ i j a, F i a → F j a → i = j) (h2 : ∀ i a, F i a → O' a) (h4 : ∀ a, O' a → O a) (h3 : ∀ i n x, ρ[i]? = some (some (n, x)) → ∃ v, σ[i]? = some (some v) ∧ Own K H0 H x n v (F i)) : St0 K H0 H O' σ ρ :=
  ⟨S.sub, fun a z => S.dom a (h4 a z), fun a z => S.sep a (h4 a z), S.len, F, h, h2, h3⟩
/-- a slot takes a value -/
theorem St0.set {O B : Fp} {σ : L2.St} {ρ : Ev} {i n : Nat} {x : PV} {v : V} (S : St0 K H0 H O σ ρ) (T : Tmp H0 H O B) (o : Own K H0 H x n v B) (hi : i < σ.length) : St0 K H0 H (O.or B) (σ.set i (some v)) (ρ.set i (some (n, x))) := by
  obtain ⟨F, f1, f2, f3⟩ := S.own
  refine ⟨S.sub, fun a z => z.elim (S.dom a) (T.dom a), fun a z => z.elim (S.sep a) (T.sep a), by rw [List.length_set, List.length_set]; exact S.len, fun j a => if j = i then B a else F j a, fun j k a h1 h2 => ?_, fun j a h => ?_, fun j m y e => ?_⟩
  · by_cases hj : j = i
    · by_cases hk : k = i
      · rw [hj, hk]
      · simp only [hj, ↓reduceIte, hk] at h1 h2
        exact absurd (f2 _ _ h2) (T.off a h1)
    · by_cases hk : k = i
      · simp only [hj, ↓reduceIte, hk] at h1 h2
        exact absurd (f2 _ _ h1) (T.off a h2)
      · simp only [hj, ↓reduceIte, hk] at h1 h2
        exact f1 j k a h1 h2
  · by_cases hj : j = i
    · simp only [hj, ↓reduceIte] at h
      exact .inr h
    · simp only [hj, ↓reduceIte] at h
      exact .inl (f2 j a h)
  · by_cases hj : j = i
    · subst hj
      rw [List.getElem?_set_self (by rw [← S.len]; exact hi)] at e
      cases e
      refine ⟨v, List.getElem?_set_self hi, ?_⟩
      simp only [↓reduceIte]
      exact o
    · rw [List.getElem?_set_ne (Ne.symm hj)] at e
      obtain ⟨v', e1, e2⟩ := f3 j m y e
      refine ⟨v', by rw [List.getElem?_set_ne (Ne.symm hj)]; exact e1, ?_⟩
      simp only [hj, ↓reduceIte]
      exact e2
/-- a slot is forgotten -/
theorem St0.drop {O : Fp} {σ : L2.St} {ρ : Ev} {i : Nat} {o : Option V} (S : St0 K H0 H O σ ρ) : St0 K H0 H O (σ.set i o) (ρ.set i none) := by
  obtain ⟨F, f1, f2, f3⟩ := S.own
  refine ⟨S.sub, S.dom, S.sep, by rw [List.length_set, List.length_set]; exact S.len, F, f1, f2, fun j m y e => ?_⟩
  by_cases hj : j = i
  · subst hj
    by_cases hl : j < ρ.length
    · rw [List.getElem?_set_self hl] at e; cases e
    · rw [List.getElem?_eq_none (by rw [List.length_set]; omega)] at e; cases e
  · rw [List.getElem?_set_ne (Ne.symm hj)] at e
    obtain ⟨v', e1, e2⟩ := f3 j m y e
    exact ⟨v', by rw [List.getElem?_set_ne (Ne.symm hj)]; exact e1, e2⟩
def bName (i : Nat) : BF := fun x ρ => some (ρ.set i (some (0, x)))
def bNames : List Nat → List PV → Ev → Option Ev
  | [], [], ρ => some ρ
  | i :: is, x :: xs, ρ => bNames is xs (ρ.set i (some (0, x)))
  | _, _, _ => none
def bTup (is : List Nat) : BF := fun x ρ => match x with
  | .tup xs => bNames is xs ρ
  | .ctup xs => bNames is xs ρ
  | _ => none
/-- the name may be stored -/
def locOk (Γ : Sx) (x : Str) : Bool := match Γ.sc.names.lookup x with
  | some .local => true
  | some .cell => !Γ.blk
  | _ => false
theorem pg_name' {X : Cx} {W : WX} {i : Nat} {x : Str} {pos : Pos} (F : Fits g Γ X W) (hi : Γ.N[i]? = some x) (hl : locOk Γ x = true) : L2.PG X (.Name x pos) (gName i) := by
  refine pg_name F.nd (by rw [F.N]; exact hi) ?_ ?_
  · unfold locOk at hl
    unfold L2.Loc
    rw [F.sc]
    split at hl
    · exact .inl ‹_›
    · exact .inr ‹_›
    · cases hl
  · unfold locOk at hl
    rw [F.sc]
    split at hl
    · exact .inr ‹_›
    · exact .inl (F.fn (by cases h : Γ.blk with | false => rfl | true => rw [h] at hl; cases hl) x)
    · cases hl
/-- slots' numbers and names go together -/
theorem len_of {X : Cx} {pins : List (Addr × Obj)} {σ : L2.St} {s : Shared} (I : Inv X pins σ H s) {i : Nat} {x : Str} (h : X.N[i]? = some x) : i < σ.length := by
  rw [I.len]
  exact (List.getElem?_eq_some_iff.mp h).1
theorem gv_name {i : Nat} {x : Str} (hi : Γ.N[i]? = some x) (hl : locOk Γ x = true) : GV g Γ (.Name x pos) [i] (bName i) := fun X W F => by
  refine ⟨fun pins s σ H v u Q I r q => (pg_name' F hi hl).run pins s σ H v u Q I r ?_⟩
  obtain ⟨H0, O, ρ, x, ρ', S, o, e, q⟩ := q
  cases e
  refine q _ O (fun _ z => z) ?_ (fun j hj => by rw [List.getElem?_set_ne (fun e => hj (by rw [e]; exact List.mem_singleton.mpr rfl))]) (by rw [List.length_set])
  have z := S.set .no o (len_of I (by rw [F.N]; exact hi))
  obtain ⟨F', f1, f2, f3⟩ := z.own
  exact z.sub_O f1 (fun i a h => (f2 i a h).elim id False.elim) (fun a z => .inl z) f3
theorem St0.set0 {O : Fp} {σ : L2.St} {ρ : Ev} {i : Nat} {x : PV} {v : V} (S : St0 K H0 H O σ ρ) (o : Own K H0 H x 0 v noF) (hi : i < σ.length) : St0 K H0 H O (σ.set i (some v)) (ρ.set i (some (0, x))) := by
  have z := S.set .no o hi
  obtain ⟨F', f1, f2, f3⟩ := z.own
  exact z.sub_O f1 (fun i a h => (f2 i a h).elim id False.elim) (fun a z => .inl z) f3
/-- names of slots -/
inductive GN (Γ : Sx) : List Expr → List Nat → Prop
  | nil : GN Γ [] []
  | cons {x : Str} {pos : Pos} {i : Nat} {es : List Expr} {is : List Nat} (hi : Γ.N[i]? = some x) (hl : locOk Γ x = true) (t : GN Γ es is) : GN Γ (.Name x pos :: es) (i :: is)
def gNs : List Nat → TGs
  | [] => gNil
  | i :: is => gCons (gName i) (gNs is)
theorem gn_pgs {X : Cx} {W : WX} (F : Fits g Γ X W) : ∀ {es : List Expr} {is : List Nat}, GN Γ es is → PGs X es (gNs is)
  | _, _, .nil => pgs_nil
  | _, _, .cons hi hl t => pgs_cons (pg_name' F hi hl) (gn_pgs F t) rfl
theorem gn_len : ∀ {es : List Expr} {is : List Nat}, GN Γ es is → es.length = is.length
  | _, _, .nil => rfl
  | _, _, .cons _ _ t => by rw [List.length_cons, List.length_cons, gn_len t]
theorem gn_ix : ∀ {es : List Expr} {is : List Nat}, GN Γ es is → ∀ i ∈ is, i < Γ.N.length
  | _, _, .nil, _, h => by cases h
  | _, _, .cons hi _ t, j, h => by
    rcases List.mem_cons.mp h with rfl | h
    · exact (List.getElem?_eq_some_iff.mp hi).1
    · exact gn_ix t j h
theorem gn_each {X : Cx} : ∀ {es : List Expr} {is : List Nat}, GN Γ es is → (assignEach es X.env).length = es.length ∧ List.findIdx? (fun x => x.1) (assignEach es X.env) = none
  | _, _, .nil => ⟨rfl, rfl⟩
  | _, _, .cons (es := es) _ _ t => by
    obtain ⟨h1, h2⟩ := gn_each (X := X) t
    refine ⟨?_, ?_⟩
    · show (assignEach es X.env).length + 1 = es.length + 1
      rw [h1]
    · show List.findIdx? (fun x => x.1) ((false, _) :: assignEach es X.env) = none
      rw [List.findIdx?_cons]
      rw [if_neg (show ¬ (false = true) from Bool.false_ne_true), h2]
      rfl
theorem bn_run {O : Fp} {n : Nat} : ∀ {is : List Nat} {xs : List PV} {vs : List V} {σ : L2.St} {ρ ρ' : Ev} {Q : L2.St → Hp → Prop}, bNames is xs ρ = some ρ' → Sh K H0 H xs vs → St0 K H0 H O σ ρ → (∀ i ∈ is, i < n) → σ.length = n →
    (∀ σ', St0 K H0 H O σ' ρ' → (∀ j, j ∉ is → σ'[j]? = σ[j]?) → σ'.length = n → Q σ' H) → gNs is vs σ H Q
  | [], [], vs, σ, ρ, ρ', Q, e, sh, S, hl, hn, q => by
    cases sh
    cases e
    exact ⟨rfl, q σ S (fun _ _ => rfl) hn⟩
  | i :: is, x :: xs, vs, σ, ρ, ρ', Q, e, sh, S, hl, hn, q => by
    cases sh with
    | cons h t =>
      rename_i v vs
      refine ⟨v, vs, rfl, ?_⟩
      show gNs is vs (σ.set i (some v)) H Q
      refine bn_run (n := n) e t (S.set0 h (by rw [hn]; exact hl i List.mem_cons_self)) (fun j hj => hl j (List.mem_cons_of_mem _ hj)) (by rw [List.length_set]; exact hn) fun σ' S' hj hl => q σ' S' (fun j hm => ?_) hl
      rw [hj j fun z => hm (List.mem_cons_of_mem _ z)]
      rw [List.getElem?_set_ne fun z => hm (by rw [z]; exact List.mem_cons_self)]
  | [], x :: xs, _, _, _, _, _, e, _, _, _, _, _ => by cases e
  | i :: is, [], _, _, _, _, _, e, _, _, _, _, _ => by cases e
theorem bn_len : ∀ {is : List Nat} {xs : List PV} {ρ ρ' : Ev}, bNames is xs ρ = some ρ' → is.length = xs.length
  | [], [], _, _, _ => rfl
  | i :: is, x :: xs, _, _, e => by rw [List.length_cons, List.length_cons, bn_len (is := is) (xs := xs) e]
  | [], x :: xs, _, _, e => by cases e
  | i :: is, [], _, _, e => by cases e
theorem gv_tup {es : List Expr} {is : List Nat} {k : Nat} (hh : Γ.hot = false) (h : GN Γ es is) : GV g Γ (.Tuple es k pos) is (bTup is) := fun X W F => by
  obtain ⟨h1, h2⟩ := gn_each (X := X) h
  refine ⟨fun pins s σ H v u Q I r q => (pg_tup (F.calm hh) (gn_pgs F h) rfl h2).run pins s σ H v u Q I r ?_⟩
  obtain ⟨H0, O, ρ, x, ρ', S, o, e, q⟩ := q
  have hn : σ.length = Γ.N.length := by rw [I.len, F.N]
  rw [h1, F.K]
  unfold bTup at e
  have fin : ∀ {xs : List PV} {a : Addr} {vs : List V}, bNames is xs ρ = some ρ' → v = .ref a → SqT g.K H a vs → OwnL g.K H0 H xs 0 vs noF → gTup g.K es.length (gNs is) v σ H Q := fun {xs a vs} e ev sq ow => by
    have lx : is.length = xs.length := bn_len e
    exact ⟨a, vs, ev, sq, by rw [ownL_len ow, gn_len h, lx], bn_run e (own_pair ow) S (gn_ix h) hn fun σ' S' hj hl => q σ' O (fun _ z => z) S' hj (by rw [hl, hn])⟩
  split at e
  · obtain ⟨a, vs, ev, g1, o1⟩ := own_tup S.sub o
    exact fin e ev (.inl (.inl g1)) o1
  · obtain ⟨a, vs, ev, g1, o1⟩ := o
    exact fin e ev (sqT_up g1) o1
  · cases e
end
end Pv

set_option maxRecDepth 100000
set_option maxHeartbeats 1000000
namespace Pv
open PySem PySem.Spec PyProof.Rows L2

/-! ## statements -/
def Pin (pn : List Nat) (σ σ' : L2.St) : Prop := ∀ i ∈ pn, σ'[i]? = σ[i]?
def SPost (K : PySem.W.Frag) (H0 H : Hp) (O : Fp) (σ : L2.St) (pn : List Nat) (ρ' : Ev) (T : L2.St → Hp → Prop) : Prop :=
  ∀ σ' H0' H' O', Grow H0 H O H0' H' O' → St0 K H0' H' O' σ' ρ' → Pin pn σ σ' → T σ' H'
def SPostR (K : PySem.W.Frag) (H0 H : Hp) (O : Fp) (σ : L2.St) (pn : List Nat) (lv : Nat) (x : PV) (ρ' : Ev) (T : VK) : Prop :=
  ∀ v σ' H0' H' O' B, Grow H0 H O H0' H' (O'.or B) → St0 K H0' H' O' σ' ρ' → Tmp H0' H' O' B → Own K H0' H' x lv v B → Pin pn σ σ' → T v H'
def SPostX (g : Prg) (H0 H : Hp) (O : Fp) (σ : L2.St) (pn : List Nat) (c : Str) (fs : List (Str × PV)) (ρ' : Ev) (W : WX) : Prop :=
  ∀ σ' H0' H' O' d, Grow H0 H O H0' H' O' → St0 g.K H0' H' O' σ' ρ' → ExD g.K H0' H' fs d → Pin pn σ σ' → W (.ref (g.ea c)) d σ' H'
def SQ (g : Prg) (pn : List Nat) (W : WX) (H0 H : Hp) (O : Fp) (σ : L2.St) (D : Ends) : SR → Prop
  | .nx ρ' => SPost g.K H0 H O σ pn ρ' D.nx
  | .bk ρ' => SPost g.K H0 H O σ pn ρ' D.bk
  | .ct ρ' => SPost g.K H0 H O σ pn ρ' D.ct
  | .rt lv x ρ' => SPostR g.K H0 H O σ pn lv x ρ' D.rt
  | .exc c fs ρ' => SPostX g H0 H O σ pn c fs ρ' W
  | .bad => False
def tS (g : Prg) (pn : List Nat) (W : WX) (F : SF) : TS := fun D σ H => ∃ H0 O ρ, St0 g.K H0 H O σ ρ ∧ SQ g pn W H0 H O σ D (F ρ)
def SV (g : Prg) (Γ : Sx) (st : Stmt) (F : SF) : Prop := ∀ X W, Fits g Γ X W → PS X st (tS g Γ.pn W F)
def SVs (g : Prg) (Γ : Sx) (st : List Stmt) (F : SF) : Prop := ∀ X W, Fits g Γ X W → PSs X st (tS g Γ.pn W F)

section
variable {g : Prg} {Γ : Sx} {K : PySem.W.Frag} {H0 H : Hp} {pn : List Nat} {W : WX} {O : Fp} {σ : L2.St} {D : Ends}
variable {a b c : Expr} {fa fb fc : EF} {pos p : Pos} {st : Stmt} {rest body : List Stmt} {F G : SF}
theorem Pin.refl : Pin pn σ σ := fun _ _ => rfl
theorem Pin.trans {σ1 σ2 : L2.St} (a : Pin pn σ σ1) (b : Pin pn σ1 σ2) : Pin pn σ σ2 := fun i h => (b i h).trans (a i h)
theorem SQ.of_grow {H0' H' : Hp} {O' : Fp} {σ' : L2.St} {r : SR} (q : SQ g pn W H0 H O σ D r) (k : Grow H0 H O H0' H' O') (P : Pin pn σ σ') : SQ g pn W H0' H' O' σ' D r := by
  cases r with
  | nx ρ' => exact fun σ2 H02 H2 O2 k2 S p2 => q σ2 H02 H2 O2 (k.trans0 k2) S (P.trans p2)
  | bk ρ' => exact fun σ2 H02 H2 O2 k2 S p2 => q σ2 H02 H2 O2 (k.trans0 k2) S (P.trans p2)
  | ct ρ' => exact fun σ2 H02 H2 O2 k2 S p2 => q σ2 H02 H2 O2 (k.trans0 k2) S (P.trans p2)
  | rt lv x ρ' => exact fun v σ2 H02 H2 O2 B k2 S T w p2 => q v σ2 H02 H2 O2 B (k.trans0 k2) S T w (P.trans p2)
  | exc c fs ρ' => exact fun σ2 H02 H2 O2 d k2 S e p2 => q σ2 H02 H2 O2 d (k.trans0 k2) S e (P.trans p2)
  | bad => exact q
def sNil : SF := fun ρ => .nx ρ
def SR.bind (r : SR) (f : Ev → SR) : SR := match r with
  | .nx ρ => f ρ
  | r => r
def sSeq (F G : SF) : SF := fun ρ => (F ρ).bind G
theorem svs_nil : SVs g Γ [] sNil := fun X W F => PSs.imp pss_nil fun D σ H ⟨H0, O, ρ, S, q⟩ => q σ H0 H O .refl S .refl
theorem seq_q {r : SR} (q : SQ g pn W H0 H O σ D (r.bind G)) : SQ g pn W H0 H O σ { D with nx := tS g pn W G D } r := by
  cases r with
  | nx ρ' => exact fun σ2 H02 H2 O2 k2 S p2 => ⟨H02, O2, ρ', S, SQ.of_grow (show SQ g pn W H0 H O σ D (G ρ') from q) k2 p2⟩
  | bk ρ' => exact q
  | ct ρ' => exact q
  | rt lv x ρ' => exact q
  | exc c fs ρ' => exact q
  | bad => exact q
theorem svs_cons (h : SV g Γ st F) (hr : SVs g Γ rest G) : SVs g Γ (st :: rest) (sSeq F G) := fun X W Fi =>
  PSs.imp (pss_cons (h X W Fi) (hr X W Fi)) fun D σ H ⟨H0, O, ρ, S, q⟩ => ⟨H0, O, ρ, S, seq_q q⟩
theorem svs_one (h : SV g Γ st F) : SVs g Γ [st] F := fun X W Fi => pss_one (h X W Fi)
theorem sv_pass : SV g Γ (.Pass pos) sNil := fun X W F => PS.imp ps_pass fun D σ H ⟨H0, O, ρ, S, q⟩ => q σ H0 H O .refl S .refl
theorem sv_break : SV g Γ (.Break pos) (fun ρ => .bk ρ) := fun X W F => PS.imp ps_break fun D σ H ⟨H0, O, ρ, S, q⟩ => q σ H0 H O .refl S .refl
theorem sv_continue : SV g Γ (.Continue pos) (fun ρ => .ct ρ) := fun X W F => PS.imp ps_continue fun D σ H ⟨H0, O, ρ, S, q⟩ => q σ H0 H O .refl S .refl
/-! ### from expressions -/
def ofE (r : Res Rr) (k : Rr → SR) : SR := match r with
  | .ok r => k r
  | .exc c fs ρ => .exc c fs ρ
  | .bad => .bad
def ofT (r : Res Tr) (k : Tr → SR) : SR := match r with
  | .ok r => k r
  | .exc c fs ρ => .exc c fs ρ
  | .bad => .bad
theorem sx_of {ρ' : Ev} {c : Str} {fs : List (Str × PV)} (q : SPostX g H0 H O σ pn c fs ρ' W) : PostX g H0 H O σ c fs ρ' W := fun H0' H' O' d k S e => q σ H0' H' O' d k S e .refl
theorem ofE_run {k : Rr → SR} (q : tS g pn W (fun ρ => ofE (fa ρ) k) D σ H) {Q : VK} (h : ∀ {H0 O ρ r}, St0 g.K H0 H O σ ρ → fa ρ = .ok r → SQ g pn W H0 H O σ D (k r) → PostR g.K H0 H O σ r Q) : tF g W fa σ H Q := by
  obtain ⟨H0, O, ρ, S, q⟩ := q
  refine ⟨H0, O, ρ, S, ?_⟩
  cases e : fa ρ with
  | bad => simp only [ofE, e] at q; exact q
  | exc c fs ρ' => simp only [ofE, e] at q; exact sx_of q
  | ok r => simp only [ofE, e] at q; exact h S e q
theorem ofT_run {t : TFn} {k : Tr → SR} (q : tS g pn W (fun ρ => ofT (t ρ) k) D σ H) {Q : Bool → Hp → Prop} (h : ∀ {H0 O ρ r}, St0 g.K H0 H O σ ρ → t ρ = .ok r → SQ g pn W H0 H O σ D (k r) → PostT g.K H0 H O σ r Q) : tT g W t σ H Q := by
  obtain ⟨H0, O, ρ, S, q⟩ := q
  refine ⟨H0, O, ρ, S, ?_⟩
  cases e : t ρ with
  | bad => simp only [ofT, e] at q; exact q
  | exc c fs ρ' => simp only [ofT, e] at q; exact sx_of q
  | ok r => simp only [ofT, e] at q; exact h S e q
/-- what is put away: at which level -/
def matL (r : Rr) : Option Nat := if r.ow = true then some r.lv else if r.lv = 0 ∨ r.x.imm = true then some 0 else none
theorem mat_own {r : Rr} {n : Nat} {v : V} {B : Fp} (e : matL r = some n) (w : if r.ow = true then Own K H0 H r.x r.lv v B else ∃ F, Own K H0 H r.x r.lv v F) : Own K H0 H r.x n v B := by
  unfold matL at e
  split at e
  · rename_i h
    cases e
    rw [if_pos h] at w
    exact w
  · rename_i h
    rw [if_neg h] at w
    split at e
    · rename_i hc
      cases e
      obtain ⟨F, w⟩ := w
      exact own_imm w hc fun _ _ z => z
    · cases e
def sExpr (f : EF) : SF := fun ρ => ofE (f ρ) fun r => .nx r.ρ
def sRet (f : EF) : SF := fun ρ => ofE (f ρ) fun r => match matL r with
  | some n => .rt n r.x r.ρ
  | none => .bad
def sRetN : SF := fun ρ => .rt 0 .non ρ
def sSet (i : Nat) (f : EF) : SF := fun ρ => ofE (f ρ) fun r => match matL r with
  | some n => .nx (r.ρ.set i (some (n, r.x)))
  | none => .bad
def sIf (t : TFn) (F G : SF) : SF := fun ρ => ofT (t ρ) fun r => if r.b = true then F r.ρ else G r.ρ
def noComp : Expr → Bool
  | .ListComp _ _ _ _ | .SetComp _ _ _ _ | .DictComp _ _ _ _ _ => false
  | _ => true
theorem swaps_no {e : Expr} {o : Option Expr} {n : Nat} {env : Env} (h : noComp e = true) : swapsWith e o n env = pure false := by
  cases e <;> first | rfl | cases h
theorem sv_expr (hn : noComp a = true) (ha : EV g Γ a fa) : SV g Γ (.Expr a pos) (sExpr fa) := fun X W F =>
  PS.imp (ps_expr (ha X W F) (swaps_no hn)) fun D σ H q => ofE_run q fun S e q v H0' H' O' B k hp S' T w => q σ H0' H' O' (k.mono fun a z => .inl z) S' .refl
theorem sv_ret (ha : EV g Γ a fa) : SV g Γ (.Return (some a) pos) (sRet fa) := fun X W F =>
  PS.imp (ps_ret (ha X W F)) fun D σ H q => ofE_run q fun {H0 O ρ r} S e q v H0' H' O' B k hp S' T w => by
    cases hm : matL r with
    | none => rw [hm] at q; exact q.elim
    | some n => rw [hm] at q; exact q v σ H0' H' O' B k S' T (mat_own hm w) .refl
theorem sv_retN : SV g Γ (.Return none pos) sRetN := fun X W F =>
  PS.imp ps_retN fun D σ H ⟨H0, O, ρ, S, q⟩ => q _ σ H0 H O noF (Grow.refl.mono fun a z => z.elim id False.elim) S .no rfl .refl
theorem pin_set {i : Nat} {o : Option V} (h : i ∉ pn) : Pin pn σ (σ.set i o) := fun j hj => by rw [List.getElem?_set_ne fun e => h (by rw [e]; exact hj)]
theorem set_end {i : Nat} {r : Rr} {H0' H' : Hp} {O' B : Fp} {v : V} (hi : i < σ.length) (hpn : i ∉ pn) (q : SQ g pn W H0 H O σ D (match matL r with | some n => .nx (r.ρ.set i (some (n, r.x))) | none => .bad))
    (k : Grow H0 H O H0' H' (O'.or B)) (S : St0 g.K H0' H' O' σ r.ρ) (T : Tmp H0' H' O' B) (w : if r.ow = true then Own g.K H0' H' r.x r.lv v B else ∃ F, Own g.K H0' H' r.x r.lv v F) : D.nx (σ.set i (some v)) H' := by
  cases hm : matL r with
  | none => rw [hm] at q; exact q.elim
  | some n =>
    rw [hm] at q
    exact q _ H0' H' (O'.or B) k (S.set T (mat_own hm w) hi) (pin_set hpn)
/-- the slot of a name -/
theorem sv_set {i : Nat} {x : Str} (hi : Γ.N[i]? = some x) (hl : locOk Γ x = true) (hpn : i ∉ Γ.pn) (hn : noComp a = true) (ha : EV g Γ a fa) : SV g Γ (.Assign [.Name x p] a pos) (sSet i fa) := fun X W F => by
  refine ⟨fun pins s σ H D I q => (ps_set F.nd (by rw [F.N]; exact hi) ?_ (ha X W F) (swaps_no hn) ?_).run pins s σ H D I ?_⟩
  · unfold locOk at hl
    unfold L2.Loc
    rw [F.sc]
    split at hl
    · exact .inl ‹_›
    · exact .inr ‹_›
    · cases hl
  · unfold locOk at hl
    rw [F.sc]
    split at hl
    · exact .inr ‹_›
    · exact .inl (F.fn (by cases h : Γ.blk with | false => rfl | true => rw [h] at hl; cases hl) x)
    · cases hl
  · have hls : i < σ.length := len_of I (by rw [F.N]; exact hi)
    exact ofE_run q fun {H0 O ρ r} S e q v H0' H' O' B k hp S' T w => set_end hls hpn q k S' T w
theorem sv_if {t : TFn} {b1 b2 : List Stmt} (hc : TV g Γ c t) (h1 : SVs g Γ b1 F) (h2 : SVs g Γ b2 G) : SV g Γ (.If c b1 b2 pos) (sIf t F G) := fun X W Fi =>
  PS.imp (ps_if (hc X W Fi) (h1 X W Fi) (h2 X W Fi)) fun D σ H q => ofT_run q fun {H0 O ρ r} S e q H0' H' O' k hp S' => by
    by_cases hb : r.b = true
    · rw [if_pos hb] at q ⊢
      exact ⟨H0', O', r.ρ, S', q.of_grow k .refl⟩
    · rw [if_neg hb] at q ⊢
      exact ⟨H0', O', r.ρ, S', q.of_grow k .refl⟩
/-- target = value, a tuple of names -/
def sTgt (bf : BF) (f : EF) : SF := fun ρ => ofE (f ρ) fun r => if r.lv = 0 ∨ r.x.imm = true then match bf r.x r.ρ with
  | some ρ' => .nx ρ'
  | none => .bad else .bad
theorem sv_tgt {es : List Expr} {is : List Nat} {k : Nat} {p2 : Pos} {bf : BF} (hg : GV g Γ (.Tuple es k p2) is bf) (hpn : ∀ i ∈ is, i ∉ Γ.pn) (hn : noComp a = true) (hw : ∀ env, swappedStores [.Tuple es k p2] a env = pure none) (ha : EV g Γ a fa) :
    SV g Γ (.Assign [.Tuple es k p2] a pos) (sTgt bf fa) := fun X W F => by
  refine PS.imp (ps_asg (ha X W F) (hg X W F) (by unfold swapsWithSole; exact swaps_no hn) (hw _)) fun D σ H q => ofE_run q fun {H0 O ρ r} S e q v H0' H' O' B k hp S' T w => ?_
  by_cases hc : r.lv = 0 ∨ r.x.imm = true
  · rw [if_pos hc] at q
    cases hb : bf r.x r.ρ with
    | none => rw [hb] at q; exact q.elim
    | some ρ' =>
      rw [hb] at q
      have z : ∃ F, Own g.K H0' H' r.x r.lv v F := by
        split at w
        · exact ⟨_, w⟩
        · exact w
      obtain ⟨F, z⟩ := z
      refine ⟨H0', O', r.ρ, r.x, ρ', S', own_imm z hc fun _ _ z => z, hb, fun σ' O'' ho S'' hj _ => ?_⟩
      exact q σ' H0' H' O'' (k.mono fun a z => .inl (ho a z)) S'' fun i hi => hj i fun z => hpn i z hi
  · rw [if_neg hc] at q
    exact q.elim
/-! ### x op= e -/
def pAug : Operator → PO
  | .Add => pI2 (fun _ _ => true) fun i j => .int (i + j)
  | .Sub => pI2 (fun _ _ => true) fun i j => .int (i - j)
  | _ => fun _ => none
def sAug (i : Nat) (op : Operator) (f : EF) : SF := fun ρ => match ρ[i]? with
  | some (some (n, .int k)) => ofE (f ρ) fun r => match r.x with
    | .int j => match op with
      | .Add => .nx (r.ρ.set i (some (0, .int (k + j))))
      | .Sub => .nx (r.ρ.set i (some (0, .int (k - j))))
      | _ => .bad
    | _ => .bad
  | _ => .bad
theorem own_slot {ρ : Ev} {i n : Nat} {x : PV} (S : St0 K H0 H O σ ρ) (e : ρ[i]? = some (some (n, x))) : ∃ v, ∃ F : Fp, σ[i]? = some (some v) ∧ Own K H0 H x n v F := by
  obtain ⟨F, f1, f2, f3⟩ := S.own
  obtain ⟨v, e1, e2⟩ := f3 i n x e
  exact ⟨v, F i, e1, e2⟩
theorem sv_aug {i : Nat} {x : Str} {op : Operator} (hop : op = .Add ∨ op = .Sub) (hi : Γ.N[i]? = some x) (hl : locOk Γ x = true) (hpn : i ∉ Γ.pn) (ha : EV g Γ a fa) : SV g Γ (.AugAssign (.Name x p) op a pos) (sAug i op fa) := fun X W F => by
  have hx : L2.Loc X.env.scope x := by
    unfold locOk at hl
    unfold L2.Loc
    rw [F.sc]
    split at hl
    · exact .inl ‹_›
    · exact .inr ‹_›
    · cases hl
  have hf : X.fn x = true ∨ X.env.scope.names.lookup x = some .local := by
    unfold locOk at hl
    rw [F.sc]
    split at hl
    · exact .inr ‹_›
    · exact .inl (F.fn (by cases h : Γ.blk with | false => rfl | true => rw [h] at hl; cases hl) x)
    · cases hl
  have key : ∀ {f : Int → Int → Int} {D : Ends} {σ : L2.St} {H : Hp}, i < σ.length → (∀ k j : Int, ∀ ρ : Ev, (match op with | .Add => SR.nx (ρ.set i (some (0, .int (k + j)))) | .Sub => .nx (ρ.set i (some (0, .int (k - j)))) | _ => .bad) = .nx (ρ.set i (some (0, .int (f k j))))) →
      tS g Γ.pn W (sAug i op fa) D σ H → tAug i (tF g W fa) (ipI f) D σ H := by
    intro f D σ H hls hf2 ⟨H0, O, ρ, S, q⟩
    unfold sAug at q
    cases e : ρ[i]? with
    | none => rw [e] at q; exact q.elim
    | some o =>
      cases o with
      | none => rw [e] at q; exact q.elim
      | some pp =>
        obtain ⟨n, y⟩ := pp
        rw [e] at q
        cases y <;> first | exact q.elim | skip
        rename_i k
        obtain ⟨v, F', e1, o⟩ := own_slot S e
        cases (show v = _ from o)
        refine ⟨_, e1, H0, O, ρ, S, ?_⟩
        cases e2 : fa ρ with
        | bad => simp only [ofE, e2] at q; exact q
        | exc c fs ρ' => simp only [ofE, e2] at q; exact sx_of q
        | ok r =>
          simp only [ofE, e2] at q
          intro v H0' H' O' B kk hp S' T w
          cases hx : r.x <;> rw [hx] at q <;> first | exact q.elim | skip
          rename_i j
          have hv : v = .int j := by
            rw [hx] at w
            split at w
            · exact w
            · obtain ⟨F, w⟩ := w; exact w
          refine ⟨k, j, rfl, hv, ?_⟩
          simp only [hf2] at q
          exact q _ H0' H' O' (kk.mono fun a z => .inl z) (S'.set0 rfl hls) (pin_set hpn)
  refine ⟨fun pins s σ H D I q => ?_⟩
  have hls : i < σ.length := len_of I (by rw [F.N]; exact hi)
  rcases hop with rfl | rfl
  · exact (ps_aug F.nd (by rw [F.N]; exact hi) hx (ha X W F) ip_add hf).run pins s σ H D I (key hls (fun _ _ _ => rfl) q)
  · exact (ps_aug F.nd (by rw [F.N]; exact hi) hx (ha X W F) ip_sub hf).run pins s σ H D I (key hls (fun _ _ _ => rfl) q)
end
end Pv

set_option maxRecDepth 100000
set_option maxHeartbeats 1000000
namespace Pv
open PySem PySem.Spec PyProof.Rows L2

section
variable {g : Prg} {Γ : Sx} {K : PySem.W.Frag} {H0 H : Hp} {pn : List Nat} {W : WX} {O : Fp} {σ : L2.St} {D : Ends}
variable {a b c tg iter elt : Expr} {fa fb fc : EF} {pos p : Pos} {st : Stmt} {rest body : List Stmt} {F G : SF} {s : IF'} {bf : BF}
/-! ## for -/
def forL (bf : BF) (F : SF) : List PV → Ev → SR
  | [], ρ => .nx ρ
  | x :: xs, ρ => match bf x ρ with
    | none => .bad
    | some ρ1 => match F ρ1 with
      | .nx ρ2 => forL bf F xs ρ2
      | .ct ρ2 => forL bf F xs ρ2
      | .bk ρ2 => .nx ρ2
      | r => r
def ofI (r : Res Ir) (k : Ir → SR) : SR := match r with
  | .ok r => k r
  | .exc c fs ρ => .exc c fs ρ
  | .bad => .bad
def sFor (s : IF') (bf : BF) (F : SF) : SF := fun ρ => ofI (s ρ) fun r => forL bf F r.xs r.ρ
theorem drop_cons {α : Type} {xs : List α} {i : Nat} (h : i < xs.length) : xs.drop i = xs[i] :: xs.drop (i + 1) := List.drop_eq_getElem_cons h
theorem fold_no {iter : Expr} (h : noSet iter = true) (env : Env) (x : Value) : foldedSetIterable iter env x = pure x := by
  cases iter <;> first | rfl | cases h
theorem sv_for {sl : List Nat} (hh : Γ.hot = false) (hns : noSet iter = true) (hs : IV g Γ tg iter s) (hg : GV g Γ tg sl bf) (hpn : ∀ i ∈ sl, i ∉ Γ.pn) (hb : SVs g Γ body F) : SV g Γ (.For tg iter body [] pos) (sFor s bf F) := fun X W Fi => by
  refine PS.imp (ps_for Fi.pas (Fi.calm hh) (hs X W Fi) (hg X W Fi) (hb X W Fi) (fold_no hns _)) fun D σ H ⟨H0, O, ρ, S, q⟩ => ⟨H0, O, ρ, S, ?_⟩
  unfold sFor at q
  cases e : s ρ with
  | bad => simp only [ofI, e] at q; exact q
  | exc c fs ρ' => simp only [ofI, e] at q; exact sx_of q
  | ok r =>
    simp only [ofI, e] at q
    intro J RR Ha Hb Oa B ka _ Sa Ta src r0
    have q0 : SQ g Γ.pn W Ha Hb Oa σ D (forL bf F r.xs r.ρ) := q.of_grow (ka.mono fun a z => .inl z) .refl
    refine ⟨fun i m σ1 H1 => ∃ H01 O1 ρ1, m = r.xs.length - i ∧ St0 g.K H01 H1 O1 σ1 ρ1 ∧ Grow Ha Hb Oa H01 H1 O1 ∧ Pin Γ.pn σ σ1 ∧ RR H01 H1 ∧ SQ g Γ.pn W H01 H1 O1 σ1 D (forL bf F (r.xs.drop i) ρ1), ⟨_, Ha, Oa, r.ρ, rfl, Sa, .refl, .refl, r0, q0⟩, ?_⟩
    rintro i m σ1 H1 ⟨H01, O1, ρ1, em, S1, k1, P1, rr, q1⟩
    by_cases hi : i < r.xs.length
    · refine .inr ⟨src.go S1.sub rr hi, ?_⟩
      rw [drop_cons hi] at q1
      unfold forL at q1
      cases eb : bf r.xs[i] ρ1 with
      | none => rw [eb] at q1; exact q1.elim
      | some ρ2 =>
        rw [eb] at q1
        simp only [] at q1
        let Nn : L2.St → Hp → Prop := fun σ3 H3 => ∃ H03 O3 ρ3, St0 g.K H03 H3 O3 σ3 ρ3 ∧ Grow H01 H1 O1 H03 H3 O3 ∧ Pin Γ.pn σ1 σ3 ∧ SQ g Γ.pn W H03 H3 O3 σ3 D (forL bf F (r.xs.drop (i + 1)) ρ3)
        have hN : ∀ σ' H', Nn σ' H' → ∃ m', m' < m ∧ ∃ H01 O1 ρ1, m' = r.xs.length - (i + 1) ∧ St0 g.K H01 H' O1 σ' ρ1 ∧ Grow Ha Hb Oa H01 H' O1 ∧ Pin Γ.pn σ σ' ∧ RR H01 H' ∧ SQ g Γ.pn W H01 H' O1 σ' D (forL bf F (r.xs.drop (i + 1)) ρ1) := by
          rintro σ3 H3 ⟨H03, O3, ρ3, S3, k3, P3, q3⟩
          have T1 := Ta.step k1
          exact ⟨r.xs.length - (i + 1), by omega, H03, O3, ρ3, rfl, S3, k1.trans0 k3, P1.trans P3, src.keep rr k3.sh fun a o hb e => k3.keep a o e (T1.off a hb), q3⟩
        refine ⟨Nn, hN, fun x H2 hy => ?_⟩
        obtain ⟨H02, A, ow⟩ := src.yld S1.sub rr hy _ (List.getElem?_eq_getElem hi)
        have k2 : Grow H01 H1 O1 H02 H2 O1 := A.grow.mono fun a z => .inl z
        refine ⟨H02, O1, ρ1, _, ρ2, A.st S1, ow, eb, fun σ' O' ho S' hj _ => ?_⟩
        have P2 : Pin Γ.pn σ1 σ' := fun j hj' => hj j fun z => hpn j z hj'
        have k2' : Grow H01 H1 O1 H02 H2 O' := k2.mono ho
        refine ⟨H02, O', ρ2, S', ?_⟩
        cases er : F ρ2 with
        | nx ρ3 =>
          rw [er] at q1
          exact fun σ3 H03 H3 O3 k3 S3 P3 => ⟨H03, O3, ρ3, S3, k2'.trans0 k3, P2.trans P3, q1.of_grow (k2'.trans0 k3) (P2.trans P3)⟩
        | ct ρ3 =>
          rw [er] at q1
          exact fun σ3 H03 H3 O3 k3 S3 P3 => ⟨H03, O3, ρ3, S3, k2'.trans0 k3, P2.trans P3, q1.of_grow (k2'.trans0 k3) (P2.trans P3)⟩
        | bk ρ3 =>
          rw [er] at q1
          exact fun σ3 H03 H3 O3 k3 S3 P3 => q1 σ3 H03 H3 O3 (k2'.trans0 k3) S3 (P2.trans P3)
        | rt lv y ρ3 =>
          rw [er] at q1
          exact SQ.of_grow (show SQ g Γ.pn W H01 H1 O1 σ1 D (.rt lv y ρ3) from q1) k2' P2
        | exc c fs ρ3 =>
          rw [er] at q1
          exact SQ.of_grow (show SQ g Γ.pn W H01 H1 O1 σ1 D (.exc c fs ρ3) from q1) k2' P2
        | bad => rw [er] at q1; exact q1
    · refine .inl ⟨src.stop S1.sub rr (by omega), ?_⟩
      rw [List.drop_eq_nil_of_le (by omega)] at q1
      exact q1 σ1 H01 H1 O1 .refl S1 .refl

/-! ## while -/
def whileN (t : TFn) (F : SF) : Nat → Ev → Option SR
  | 0, _ => none
  | n + 1, ρ => match t ρ with
    | .bad => some .bad
    | .exc c fs ρ' => some (.exc c fs ρ')
    | .ok r => if r.b = true then match F r.ρ with
        | .nx ρ2 => whileN t F n ρ2
        | .ct ρ2 => whileN t F n ρ2
        | .bk ρ2 => some (.nx ρ2)
        | x => some x
      else some (.nx r.ρ)
open Classical in
noncomputable def sWhile (t : TFn) (F : SF) : SF := fun ρ => if h : ∃ n r, whileN t F n ρ = some r then (Classical.choose (Classical.choose_spec h)) else .bad
theorem whileN_mono (t : TFn) (F : SF) : ∀ (n m : Nat) (ρ : Ev) (r : SR), whileN t F n ρ = some r → n ≤ m → whileN t F m ρ = some r
  | 0, _, _, _, h, _ => by cases h
  | n + 1, 0, _, _, _, h => by omega
  | n + 1, m + 1, ρ, r, h, hm => by
    unfold whileN at h ⊢
    cases e : t ρ with
    | bad => rw [e] at h; exact h
    | exc c fs ρ' => rw [e] at h; exact h
    | ok q =>
      rw [e] at h
      simp only [] at h ⊢
      by_cases hb : q.b = true
      · rw [if_pos hb] at h ⊢
        cases e2 : F q.ρ with
        | nx ρ2 => rw [e2] at h; exact whileN_mono t F n m ρ2 r h (by omega)
        | ct ρ2 => rw [e2] at h; exact whileN_mono t F n m ρ2 r h (by omega)
        | bk ρ2 => rw [e2] at h; exact h
        | rt _ _ _ => rw [e2] at h; exact h
        | exc _ _ _ => rw [e2] at h; exact h
        | bad => rw [e2] at h; exact h
      · rw [if_neg hb] at h ⊢
        exact h
theorem sWhile_eq {t : TFn} {F : SF} {n : Nat} {ρ : Ev} {r : SR} (h : whileN t F n ρ = some r) : sWhile t F ρ = r := by
  have hx : ∃ n r, whileN t F n ρ = some r := ⟨n, r, h⟩
  unfold sWhile
  rw [dif_pos hx]
  have e := Classical.choose_spec (Classical.choose_spec hx)
  have e1 := whileN_mono t F _ (max n (Classical.choose hx)) ρ _ e (Nat.le_max_right _ _)
  have e2 := whileN_mono t F _ (max n (Classical.choose hx)) ρ _ h (Nat.le_max_left _ _)
  exact Option.some.inj (e1.symm.trans e2)
theorem sv_while {t : TFn} (hc : TV g Γ a t) (hb : SVs g Γ body F) : SV g Γ (.While a body [] pos) (sWhile t F) := fun X W Fi => by
  refine PS.imp (ps_while Fi.pas (hc X W Fi) (hb X W Fi)) fun D σ H ⟨H0, O, ρ, S, q⟩ => ?_
  by_cases hx : ∃ n r, whileN t F n ρ = some r
  · obtain ⟨n, r, hn⟩ := hx
    rw [sWhile_eq hn] at q
    refine ⟨fun m σ1 H1 => ∃ H01 O1 ρ1, St0 g.K H01 H1 O1 σ1 ρ1 ∧ Grow H0 H O H01 H1 O1 ∧ Pin Γ.pn σ σ1 ∧ whileN t F m ρ1 = some r ∧ SQ g Γ.pn W H01 H1 O1 σ1 D r, ⟨n, H0, O, ρ, S, .refl, .refl, hn, q⟩, ?_⟩
    rintro m σ1 H1 ⟨H01, O1, ρ1, S1, k1, P1, w1, q1⟩
    cases m with
    | zero => cases w1
    | succ m =>
      unfold whileN at w1
      refine ⟨H01, O1, ρ1, S1, ?_⟩
      cases e : t ρ1 with
      | bad => rw [e] at w1; cases w1; exact q1
      | exc c fs ρ' => rw [e] at w1; cases w1; exact sx_of q1
      | ok z =>
        rw [e] at w1
        simp only [] at w1
        intro H02 H2 O2 k2 _ S2
        by_cases hb : z.b = true
        · rw [if_pos hb] at w1 ⊢
          refine ⟨fun σ3 H3 => ∃ H03 O3 ρ3, St0 g.K H03 H3 O3 σ3 ρ3 ∧ Grow H0 H O H03 H3 O3 ∧ Pin Γ.pn σ σ3 ∧ whileN t F m ρ3 = some r ∧ SQ g Γ.pn W H03 H3 O3 σ3 D r, fun σ3 H3 h => ⟨m, by omega, h⟩, H02, O2, z.ρ, S2, ?_⟩
          cases e2 : F z.ρ with
          | nx ρ3 => rw [e2] at w1; exact fun σ3 H03 H3 O3 k3 S3 P3 => ⟨H03, O3, ρ3, S3, (k1.trans0 k2).trans0 k3, P1.trans P3, w1, q1.of_grow (k2.trans0 k3) P3⟩
          | ct ρ3 => rw [e2] at w1; exact fun σ3 H03 H3 O3 k3 S3 P3 => ⟨H03, O3, ρ3, S3, (k1.trans0 k2).trans0 k3, P1.trans P3, w1, q1.of_grow (k2.trans0 k3) P3⟩
          | bk ρ3 => rw [e2] at w1; cases w1; exact fun σ3 H03 H3 O3 k3 S3 P3 => q1 σ3 H03 H3 O3 (k2.trans0 k3) S3 P3
          | rt lv y ρ3 => rw [e2] at w1; cases w1; exact q1.of_grow k2 .refl
          | exc c fs ρ3 => rw [e2] at w1; cases w1; exact q1.of_grow k2 .refl
          | bad => rw [e2] at w1; cases w1; exact q1
        · rw [if_neg hb] at w1 ⊢
          cases w1
          exact q1 σ1 H02 H2 O2 k2 S2 .refl
  · unfold sWhile at q
    rw [dif_neg hx] at q
    exact q.elim
end
end Pv

set_option maxRecDepth 100000
set_option maxHeartbeats 1000000
namespace Pv
open PySem PySem.Spec PyProof.Rows L2

section
variable {g : Prg} {Γ : Sx} {K : PySem.W.Frag} {H0 H : Hp} {O : Fp} {σ : L2.St}
variable {tg iter elt : Expr} {f : EF} {t : TFn} {pos p : Pos} {s : IF'} {bf : BF}
/-! ## list comprehensions -/
def wipeE (ρ : Ev) : List Nat → Ev
  | [] => ρ
  | v :: vs => (wipeE ρ vs).set v none
def backE (ρ ρ3 : Ev) : List Nat → Ev
  | [] => ρ3
  | v :: vs => (backE ρ ρ3 vs).set v (ρ.getD v none)
/-- no ownership at the block's own slots -/
def freeS (ρ : Ev) (v : Nat) : Bool := match ρ.getD v none with
  | some (n, x) => n == 0 || x.imm
  | none => true
def lcLoop (own : List Nat) (bf : BF) (t : TFn) (f : EF) : List PV → Ev → Option (List PV × Ev × Bool)
  | [], ρ => some ([], ρ, true)
  | x :: xs, ρ => match bf x ρ with
    | none => none
    | some ρ1 => match t ρ1 with
      | .ok r => if r.b = true then match f r.ρ with
          | .ok q => if shOk (q.lv, q.x) = true then (lcLoop own bf t f xs (wipeE q.ρ own)).map fun z => (q.x :: z.1, z.2.1, r.pu && q.pu && z.2.2) else none
          | _ => none
        else (lcLoop own bf t f xs (wipeE r.ρ own)).map fun z => (z.1, z.2.1, r.pu && z.2.2)
      | _ => none
def eLc (own : List Nat) (s : IF') (bf : BF) (t : TFn) (f : EF) : EF := fun ρ => match s ρ with
  | .ok r => if (own.all fun v => freeS r.ρ v) = true then match lcLoop own bf t f r.xs (wipeE r.ρ own) with
      | some (ys, ρ3, pu) => if ys.length ≤ sizeLine then .ok ⟨r.pu && pu, true, 1, .lst ys, backE r.ρ ρ3 own⟩ else .bad
      | none => .bad
    else .bad
  | .exc c fs ρ' => .exc c fs ρ'
  | .bad => .bad
theorem St0.wipe {ρ : Ev} (S : St0 K H0 H O σ ρ) : ∀ vs : List Nat, St0 K H0 H O (L2.wipe σ vs) (wipeE ρ vs)
  | [] => S
  | v :: vs => (St0.wipe S vs).drop
theorem wipe_ne {σ : L2.St} {j : Nat} : ∀ {vs : List Nat}, j ∉ vs → (L2.wipe σ vs)[j]? = σ[j]?
  | [], _ => rfl
  | v :: vs, h => by
    show ((L2.wipe σ vs).set v none)[j]? = _
    rw [List.getElem?_set_ne fun e => h (by rw [e]; exact List.mem_cons_self)]
    exact wipe_ne fun z => h (List.mem_cons_of_mem _ z)
theorem wipe_same {σ σ' : L2.St} (hl : σ'.length = σ.length) : ∀ {vs sl : List Nat}, (∀ j ∈ sl, j ∈ vs) → (∀ j, j ∉ sl → σ'[j]? = (L2.wipe σ vs)[j]?) → L2.wipe σ' vs = L2.wipe σ vs := fun {vs sl} hsl hj => by
  have key : ∀ (vs' : List Nat) (τ : L2.St) (j : Nat), j ∈ vs' → j < τ.length → (L2.wipe τ vs')[j]? = some none := by
    intro vs'
    induction vs' with
    | nil => intro τ j h; cases h
    | cons v r ih =>
      intro τ j h hlt
      show ((L2.wipe τ r).set v none)[j]? = _
      by_cases e : v = j
      · subst e
        rw [List.getElem?_set_self (by rw [wipe_length]; exact hlt)]
      · rw [List.getElem?_set_ne e]
        rcases List.mem_cons.mp h with z | z
        · exact absurd z.symm e
        · exact ih τ j z hlt
  refine List.ext_getElem? fun j => ?_
  by_cases hm : j ∈ vs
  · by_cases hlt : j < σ.length
    · rw [key vs σ' j hm (by rw [hl]; exact hlt), key vs σ j hm hlt]
    · rw [List.getElem?_eq_none (by rw [wipe_length, hl]; omega), List.getElem?_eq_none (by rw [wipe_length]; omega)]
  · rw [wipe_ne hm, hj j fun z => hm (hsl j z)]
theorem St0.back {H0' H' : Hp} {O' : Fp} {ρ ρ3 : Ev} (S : St0 K H0 H O σ ρ) (sh : Same H0 H0') : ∀ {vs : List Nat}, (vs.all fun v => freeS ρ v) = true → St0 K H0' H' O' (L2.wipe σ vs) ρ3 → St0 K H0' H' O' σ (backE ρ ρ3 vs) := fun {vs} hf S3 => by
  have hlen : ∀ vs' : List Nat, (backE ρ ρ3 vs').length = ρ3.length := by
    intro vs'
    induction vs' with
    | nil => rfl
    | cons v r ih => show ((backE ρ ρ3 r).set v _).length = _; rw [List.length_set, ih]
  have hin : ∀ (vs' : List Nat) (j : Nat), j ∈ vs' → j < ρ3.length → (backE ρ ρ3 vs')[j]? = some (ρ.getD j none) := by
    intro vs'
    induction vs' with
    | nil => intro j h; cases h
    | cons v r ih =>
      intro j h hlt
      show ((backE ρ ρ3 r).set v (ρ.getD v none))[j]? = _
      by_cases e : v = j
      · subst e
        rw [List.getElem?_set_self (by rw [hlen]; exact hlt)]
      · rw [List.getElem?_set_ne e]
        rcases List.mem_cons.mp h with z | z
        · exact absurd z.symm e
        · exact ih j z hlt
  have hout : ∀ (vs' : List Nat) (j : Nat), j ∉ vs' → (backE ρ ρ3 vs')[j]? = ρ3[j]? := by
    intro vs'
    induction vs' with
    | nil => intro j _; rfl
    | cons v r ih =>
      intro j h
      show ((backE ρ ρ3 r).set v (ρ.getD v none))[j]? = _
      rw [List.getElem?_set_ne fun e => h (by rw [e]; exact List.mem_cons_self)]
      exact ih j fun z => h (List.mem_cons_of_mem _ z)
  obtain ⟨F3, f1, f2, f3⟩ := S3.own
  have hl3 : σ.length = ρ3.length := by rw [← wipe_length σ vs]; exact S3.len
  refine ⟨S3.sub, S3.dom, S3.sep, by rw [hlen]; exact hl3, fun i a => if i ∈ vs then False else F3 i a, fun i j a h1 h2 => ?_, fun i a h => ?_, fun i n x e => ?_⟩
  · by_cases hi : i ∈ vs
    · simp only [hi, ↓reduceIte] at h1
    · by_cases hj : j ∈ vs
      · simp only [hj, ↓reduceIte] at h2
      · simp only [hi, ↓reduceIte] at h1
        simp only [hj, ↓reduceIte] at h2
        exact f1 i j a h1 h2
  · by_cases hi : i ∈ vs
    · simp only [hi, ↓reduceIte] at h
    · simp only [hi, ↓reduceIte] at h
      exact f2 i a h
  · by_cases hi : i ∈ vs
    · have hlt : i < ρ3.length := by
        rw [← hlen vs]
        exact (List.getElem?_eq_some_iff.mp e).1
      rw [hin vs i hi hlt] at e
      have hg : ρ.getD i none = some (n, x) := Option.some.inj e
      have hr : ρ[i]? = some (some (n, x)) := by
        rw [List.getD_eq_getElem?_getD] at hg
        cases hq : ρ[i]? with
        | none => rw [hq] at hg; cases hg
        | some o => rw [hq] at hg; exact congrArg some hg
      obtain ⟨F, g1, g2, g3⟩ := S.own
      obtain ⟨v, e1, e2⟩ := g3 i n x hr
      have hfr := List.all_eq_true.mp hf i hi
      unfold freeS at hfr
      rw [hg] at hfr
      simp only [Bool.or_eq_true, beq_iff_eq] at hfr
      refine ⟨v, e1, ?_⟩
      have z := own_imm (H' := H') (F' := noF) e2 hfr sh
      rcases hfr with h | h
      · rw [h]; exact own0 (fun _ _ z => z) _ _ _ _ z
      · exact imm_own z h fun _ _ z => z
    · rw [hout vs i hi] at e
      obtain ⟨v, e1, e2⟩ := f3 i n x e
      rw [wipe_ne hi] at e1
      refine ⟨v, e1, ?_⟩
      have : (fun a => if i ∈ vs then False else F3 i a) = F3 i := by
        funext a
        simp only [hi, ↓reduceIte]
      show Own K H0' H' x n v (fun a => if i ∈ vs then False else F3 i a)
      rw [this]
      exact e2
/-- a thing that is not owned by the slots changes -/
theorem St0.other {ρ : Ev} {D : Addr} {o : HO} (S : St0 K H0 H O σ ρ) (hD : ¬ O D) (h0 : H0 D = none) : St0 K H0 (upd H D o) O σ ρ := by
  obtain ⟨s1, s2, s3, s4, F, f1, f2, f3⟩ := S
  refine ⟨fun b x e => ?_, fun a z => ?_, s3, s4, F, f1, f2, fun i n x e => ?_⟩
  · rw [upd_ne fun z => by rw [z, h0] at e; cases e]
    exact s1 _ _ e
  · by_cases ha : a = D
    · exact absurd (by rw [← ha]; exact z) hD
    · rw [upd_ne ha]; exact s2 a z
  · obtain ⟨v, e1, e2⟩ := f3 i n x e
    refine ⟨v, e1, own_tr (fun _ _ z => z) _ _ _ _ _ e2 (fun a o' hF e => ?_) fun _ z => z⟩
    rw [upd_ne fun z => hD (by rw [← z]; exact f2 i a hF)]
    exact e
def Γblk (Γ : Sx) (sc : Scope) : Sx := { Γ with sc := relS sc Γ.sc, blk := true, xc := none }
theorem fits_blk {X : Cx} {W : WX} (F : Fits g Γ X W) (hh : Γ.hot = false) (s : Shared) (H : Hp) (scope : Scope) (cl : List (Str × Addr)) (C : Addr) (fp : List Addr) : Fits g (Γblk Γ scope) (X.blk s H scope (compEnvC scope cl C X.env) fp) (fun _ _ _ _ => False) where
  xc := fun _ _ _ z => by cases z
  prog := F.prog
  w := F.w
  K := F.K
  mg := F.mg
  base := F.base
  N := F.N
  sc := by
    show relS scope X.env.scope = relS scope Γ.sc
    rw [F.sc]
  takes := takes_none5
  un := F.un
  room := F.room
  calm := F.calm
  hotc := fun z => by rw [show Γ.hot = true from z] at hh; cases hh
  nd := F.nd
  pas := PassesOwn.never
  fn := fun h => by cases h
  stk := fun h => by cases h
/-- the tests -/
inductive TsV (g : Prg) (Γ : Sx) : List Expr → TFn → Prop
  | nil : TsV g Γ [] (fun ρ => .ok ⟨true, true, ρ⟩)
  | one {c : Expr} {t : TFn} (h : TV g Γ c t) : TsV g Γ [c] t
theorem tsv_pts {X : Cx} {W : WX} {ifs : List Expr} (F : Fits g Γ X W) (h : TsV g Γ ifs t) : PTs X ifs (tT g W t) := by
  cases h with
  | nil => exact ⟨fun pins s σ H Q I ⟨H0, O, ρ, S, q⟩ => pts_nil.run pins s σ H Q I (q H0 H O .refl (fun _ _ _ z => z) S)⟩
  | one h => exact pts_one (h X W F)
theorem lc_run {own : List (Str × Nat)} {sl : List Nat} {scope : Scope} {W : WX} {Q : VK} (hsl : ∀ j ∈ sl, j ∈ own.map (·.2)) (q : tF g W (eLc (own.map (·.2)) s bf t f) σ H Q) :
    tLc (tI g W s) (gF g sl bf) (tT g (fun _ _ _ _ => False) t) (tF g (fun _ _ _ _ => False) f) (own.map (·.2)) σ H Q := by
  obtain ⟨H0, O, ρ, S, q⟩ := q
  refine ⟨H0, O, ρ, S, ?_⟩
  generalize own.map (·.2) = vs at hsl q ⊢
  unfold eLc at q
  cases e : s ρ with
  | bad => rw [e] at q; exact q
  | exc c fs ρ' => rw [e] at q; exact q
  | ok r =>
    rw [e] at q
    simp only [] at q
    intro J RR Ha Hb Oa B ka hpa Sa Ta src r0 D hD
    by_cases hfr : (vs.all fun v => freeS r.ρ v) = true
    case neg => rw [if_neg hfr] at q; exact q.elim
    rw [if_pos hfr] at q
    cases el : lcLoop vs bf t f r.xs (wipeE r.ρ vs) with
    | none => rw [el] at q; exact q.elim
    | some z =>
      obtain ⟨ys, ρ3, pu⟩ := z
      rw [el] at q
      simp only [] at q
      by_cases hys : ys.length ≤ sizeLine
      case neg => rw [if_neg hys] at q; exact q.elim
      rw [if_pos hys] at q
      have ka0 : Grow H0 H O Ha Hb Oa := ka.mono fun a z => .inl z
      refine ⟨fun i m H1 => ∃ H01 O1 ρ1 acc vacc rest pu1 pu2, m = r.xs.length - i ∧ Grow Ha Hb Oa H01 H1 O1 ∧ (pu1 = true → Same Hb H1) ∧ St0 g.K H01 H1 O1 (L2.wipe σ vs) ρ1 ∧ H1 D = some (.lst vacc) ∧ Sh g.K H01 H1 acc vacc ∧ ¬ O1 D ∧ H01 D = none ∧ RR H01 H1 ∧
        lcLoop vs bf t f (r.xs.drop i) ρ1 = some (rest, ρ3, pu2) ∧ acc ++ rest = ys ∧ (pu1 && pu2) = pu, ⟨r.xs.length, Ha, Oa, wipeE r.ρ vs, [], [], ys, true, pu, rfl, ?_, fun _ => same_new hD, (Sa.wipe vs).other (fun z => mut_ne (Sa.dom D z) hD) (Sa.sub.free hD), upd_same, .nil, fun z => mut_ne (Sa.dom D z) hD, Sa.sub.free hD, ?_, el, rfl, rfl⟩, ?_⟩
      · exact (alloc_own Sa.sub hD).grow.mono fun a z => .inl z
      · exact src.keep r0 (fun _ _ z => z) fun a o hb e => by rw [upd_ne fun z => mut_ne (Ta.dom a hb) (by rw [z]; exact hD)]; exact e
      rintro i m H1 ⟨H01, O1, ρ1, acc, vacc, rest, pu1, pu2, em, k1, hp1, S1, hD1, sh1, nO1, n01, rr, el1, ey, ep⟩
      by_cases hi : i < r.xs.length
      · refine .inr ⟨src.go S1.sub rr hi, ?_⟩
        rw [drop_cons hi] at el1
        unfold lcLoop at el1
        cases eb : bf r.xs[i] ρ1 with
        | none => rw [eb] at el1; cases el1
        | some ρ2 =>
          rw [eb] at el1
          simp only [] at el1
          cases et : t ρ2 with
          | bad => rw [et] at el1; cases el1
          | exc c fs ρ' => rw [et] at el1; cases el1
          | ok rt =>
            rw [et] at el1
            simp only [] at el1
            let Nx : Hp → Prop := fun H3 => ∃ H03 O3 ρ4 acc' vacc' rest' pu1' pu2', Grow Ha Hb Oa H03 H3 O3 ∧ (pu1' = true → Same Hb H3) ∧ St0 g.K H03 H3 O3 (L2.wipe σ vs) ρ4 ∧ H3 D = some (.lst vacc') ∧ Sh g.K H03 H3 acc' vacc' ∧ ¬ O3 D ∧ H03 D = none ∧ RR H03 H3 ∧
              lcLoop vs bf t f (r.xs.drop (i + 1)) ρ4 = some (rest', ρ3, pu2') ∧ acc' ++ rest' = ys ∧ (pu1' && pu2') = pu
            refine ⟨Nx, fun H3 ⟨H03, O3, ρ4, acc', vacc', rest', pu1', pu2', h1, h2, h3, h4, h5, h6, h7, h8, h9, h10, h11⟩ => ⟨r.xs.length - (i + 1), by omega, H03, O3, ρ4, acc', vacc', rest', pu1', pu2', rfl, h1, h2, h3, h4, h5, h6, h7, h8, h9, h10, h11⟩, fun x H2 hy => ?_⟩
            obtain ⟨H02, A, ow⟩ := src.yld S1.sub rr hy _ (List.getElem?_eq_getElem hi)
            refine ⟨H02, O1, ρ1, _, ρ2, A.st S1, ow, eb, fun σ2 O' ho S' hj hl2 => ?_⟩
            have hw2 : L2.wipe σ2 vs = L2.wipe σ vs := wipe_same (by rw [hl2, wipe_length]) hsl hj
            have k2 : Grow Ha Hb Oa H02 H2 O' := (k1.trans0 A.grow).mono fun a z => .inl (ho a z)
            have hD2 : H2 D = some (.lst vacc) := A.sm _ _ hD1
            have n02 : H02 D = none := by
              cases q0 : H02 D with
              | none => rfl
              | some o =>
                rcases A.nsh D (by rw [q0]; exact Option.some_ne_none _) with z | z
                · exact absurd n01 z
                · exact (mut_not (by rw [hD1]; exact True.intro) z).elim
            have nO2 : ¬ O' D := fun z => nO1 (ho D z)
            have rr2 : RR H02 H2 := src.keep rr A.sh fun a o _ e => A.sm _ _ e
            refine ⟨hw2, H02, O', ρ2, S', ?_⟩
            rw [et]
            intro H03 H3 O3 k3 hp3 S3
            have k13 : Grow Ha Hb Oa H03 H3 O3 := k2.trans0 k3
            have hD3 : H3 D = some (.lst vacc) := k3.keep _ _ hD2 nO2
            have n03 : H03 D = none := by
              cases q0 : H03 D with
              | none => rfl
              | some o =>
                rcases k3.nsh D (by rw [q0]; exact Option.some_ne_none _) with z | z | z
                · exact absurd n02 z
                · exact absurd z nO2
                · exact (mut_not (by rw [hD2]; exact True.intro) z).elim
            have nO3 : ¬ O3 D := fun z => by
              rcases k3.own D z with y | y
              · exact nO2 y
              · rw [hD2] at y; cases y
            have T2 : Tmp H02 H2 O' B := by
              have z := (Ta.step k1)
              exact ⟨fun a b y => z.off a b (ho a y), fun a b => (Ta.step (k1.trans0 (A.grow.mono fun a z => .inl z))).dom a b, fun a b => (Ta.step (k1.trans0 (A.grow.mono fun a z => .inl z))).sep a b⟩
            have rr3 : RR H03 H3 := src.keep rr2 k3.sh fun a o hb e => k3.keep a o e (T2.off a hb)
            have nDB : ¬ B D := fun z => mut_ne (Ta.dom D z) hD
            by_cases hb : rt.b = true
            · rw [if_pos hb] at el1 ⊢
              cases ef : f rt.ρ with
              | bad => rw [ef] at el1; cases el1
              | exc c fs ρ' => rw [ef] at el1; cases el1
              | ok rq =>
                rw [ef] at el1
                simp only [] at el1
                by_cases hok : shOk (rq.lv, rq.x) = true
                case neg => rw [if_neg hok] at el1; cases el1
                rw [if_pos hok] at el1
                obtain ⟨⟨rest', ρ3', pu3⟩, el2, e3⟩ := Option.map_eq_some_iff.mp el1
                simp only [Prod.mk.injEq] at e3
                obtain ⟨e3a, e3b, e3c⟩ := e3
                subst e3a e3b
                refine ⟨H03, O3, rt.ρ, S3, ?_⟩
                rw [ef]
                intro y H04 H4 O4 B4 k4 hp4 S4 T4 w4
                have k4' : Grow H03 H3 O3 H04 H4 O4 := k4.mono fun a z => .inl z
                have hD4 : H4 D = some (.lst vacc) := k4.keep _ _ hD3 nO3
                have n04 : H04 D = none := by
                  cases q0 : H04 D with
                  | none => rfl
                  | some o =>
                    rcases k4.nsh D (by rw [q0]; exact Option.some_ne_none _) with z | z | z
                    · exact absurd n03 z
                    · exact absurd z nO3
                    · exact (mut_not (by rw [hD3]; exact True.intro) z).elim
                have nO4 : ¬ O4 D := fun z => by
                  rcases k4'.own D z with y | y
                  · exact nO3 y
                  · rw [hD3] at y; cases y
                have T3 : Tmp H03 H3 O3 B := T2.step k3
                have hv : Own g.K H04 H4 rq.x 0 y noF := by
                  have z : ∃ F, Own g.K H04 H4 rq.x rq.lv y F := by
                    split at w4
                    · exact ⟨_, w4⟩
                    · exact w4
                  obtain ⟨F, z⟩ := z
                  have c : rq.lv = 0 ∨ rq.x.imm = true := by
                    unfold shOk at hok
                    simpa using hok
                  exact own_imm z c fun _ _ z => z
                have sh4 : Sh g.K H04 (upd H4 D (.lst (vacc ++ [y]))) (acc ++ [rq.x]) (vacc ++ [y]) := Paired.app (sh_tr (A.sh.trans (k3.sh.trans k4.sh)) sh1) (.cons (own0 (fun _ _ z => z) _ _ _ _ hv) .nil)
                have lv : vacc.length < sizeLine := by
                  have h1 : acc.length < ys.length := by
                    rw [← ey, List.length_append, List.length_cons]
                    omega
                  rw [← Paired.length sh1]
                  omega
                refine ⟨vacc, hD4, lv, H04, O4, wipeE rq.ρ vs, acc ++ [rq.x], vacc ++ [y], rest', pu1 && (rt.pu && rq.pu), pu3, ?_, fun z => ?_, ?_, upd_same, sh4, nO4, n04, ?_, el2, by rw [← ey, List.append_assoc]; rfl, ?_⟩
                · have k14 : Grow Ha Hb Oa H04 H4 O4 := k13.trans0 k4'
                  exact ⟨k14.sh, fun a o e n => by rw [upd_ne fun z => by rw [z, hD] at e; cases e]; exact k14.keep a o e n, fun a z => by
                    by_cases ha : a = D
                    · rw [ha, upd_same]; exact Option.some_ne_none _
                    · rw [upd_ne ha]; exact k14.dom a z, k14.own, k14.nsh⟩
                · simp only [Bool.and_eq_true] at z
                  intro a o e
                  rw [upd_ne fun z => by rw [z, hD] at e; cases e]
                  exact hp4 z.2.2 _ _ (hp3 z.2.1 _ _ (A.sm _ _ (hp1 z.1 _ _ e)))
                · have z := S4.wipe vs
                  rw [hw2] at z
                  exact z.other nO4 n04
                · refine src.keep rr3 k4.sh fun a o hb e => ?_
                  rw [upd_ne fun z => nDB (by rw [← z]; exact hb)]
                  exact k4.keep a o e (T3.off a hb)
                · rw [← ep, ← e3c]
                  simp only [Bool.and_assoc]
            · rw [if_neg hb] at el1 ⊢
              obtain ⟨⟨rest', ρ3', pu3⟩, el2, e3⟩ := Option.map_eq_some_iff.mp el1
              simp only [Prod.mk.injEq] at e3
              obtain ⟨e3a, e3b, e3c⟩ := e3
              subst e3a e3b
              refine ⟨H03, O3, wipeE rt.ρ vs, acc, vacc, rest', pu1 && rt.pu, pu3, k13, fun z => ?_, ?_, hD3, sh_tr (A.sh.trans k3.sh) sh1, nO3, n03, rr3, el2, ey, ?_⟩
              · simp only [Bool.and_eq_true] at z
                exact fun a o e => hp3 z.2 _ _ (A.sm _ _ (hp1 z.1 _ _ e))
              · have z := S3.wipe vs
                rw [hw2] at z
                exact z
              · rw [← ep, ← e3c]
                simp only [Bool.and_assoc]
      · refine .inl ⟨src.stop S1.sub rr (by omega), ?_⟩
        rw [List.drop_eq_nil_of_le (by omega)] at el1
        cases el1
        rw [List.append_nil] at ey
        subst ey
        have k0 : Grow H0 H O H01 H1 O1 := ka0.trans0 k1
        refine q (.ref D) H01 H1 O1 (fun a => a = D) ⟨k0.sh, k0.keep, k0.dom, fun a z => ?_, k0.nsh⟩ (fun z => ?_) (Sa.back k1.sh hfr S1) ⟨fun a z y => nO1 (by rw [← z]; exact y), fun a z => by rw [z, hD1]; exact True.intro, fun a z => by rw [z]; exact n01⟩ ?_
        · rcases z with z | z
          · exact k0.own a z
          · rw [z]
            refine .inr ?_
            cases q0 : H D with
            | none => rfl
            | some o => exact absurd hD (ka0.dom D (by rw [q0]; exact Option.some_ne_none _))
        · simp only [Bool.and_eq_true] at z
          have z1 : pu1 = true := by
            have : (pu1 && true) = pu := ep
            rw [Bool.and_true] at this
            rw [this]
            exact z.2
          exact L2.Same.trans (hpa z.1) (hp1 z1)
        · show if true = true then Own g.K H01 H1 (.lst acc) 1 (.ref D) (fun a => a = D) else _
          rw [if_pos rfl]
          exact ⟨D, vacc, rfl, hD1, rfl, pair_own sh1⟩
theorem ev_lc {own : List (Str × Nat)} {sl : List Nat} {scope : Scope} {ifs : List Expr} (hh : Γ.hot = false) (hns : noSet iter = true) (hok : blkC Γ.N Γ.sc scope own = true) (hsl : ∀ j ∈ sl, j ∈ own.map (·.2)) (hi : IV g Γ tg iter s) (hg : GV g (Γblk Γ scope) tg sl bf) (ht : TsV g (Γblk Γ scope) ifs t) (he : EV g (Γblk Γ scope) elt f) :
    EV g Γ (.ListComp elt [⟨tg, iter, ifs, 0⟩] scope pos) (eLc (own.map (·.2)) s bf t f) := fun X W F =>
  PE.imp (pe_lc (own := own) (F.calm hh) F.nd (hi X W F) (by rw [F.N, F.sc]; exact blkOk_by hok) (fun s H C cl fp => hg _ _ (fits_blk F hh s H scope cl C fp)) (fun s H C cl fp => tsv_pts (fits_blk F hh s H scope cl C fp) ht) (fun s H C cl fp => he _ _ (fits_blk F hh s H scope cl C fp)) (fold_no hns _)) fun σ H Q q => lc_run (scope := scope) hsl q
/-- x = [..], x a local name, on one line -/
theorem sv_lc {own : List (Str × Nat)} {sl : List Nat} {scope : Scope} {ifs : List Expr} {i : Nat} {x : Str} {py spos : Pos} (hh : Γ.hot = false) (hx : Γ.N[i]? = some x) (hxl : Γ.sc.names.lookup x = some .local) (hpn : i ∉ Γ.pn)
    (hsw : ∀ env : Env, env.scope = Γ.sc → swapsWith (.ListComp elt [⟨tg, iter, ifs, 0⟩] scope pos) (some (.Name x py)) spos.line env = pure true)
    (hns : noSet iter = true) (hok : blkC Γ.N Γ.sc scope own = true) (hsl : ∀ j ∈ sl, j ∈ own.map (·.2)) (hi : IV g Γ tg iter s) (hg : GV g (Γblk Γ scope) tg sl bf) (ht : TsV g (Γblk Γ scope) ifs t) (he : EV g (Γblk Γ scope) elt f) :
    SV g Γ (.Assign [.Name x py] (.ListComp elt [⟨tg, iter, ifs, 0⟩] scope pos) spos) (sSet i (eLc (own.map (·.2)) s bf t f)) := fun X W F => by
  refine ⟨fun pins st σ H D I q => (ps_setLc (own := own) (F.calm hh) F.nd (by rw [F.N]; exact hx) (by rw [F.sc]; exact hxl) (hsw _ F.sc) (hi X W F) (by rw [F.N, F.sc]; exact blkOk_by hok) (fun s H C cl fp => hg _ _ (fits_blk F hh s H scope cl C fp)) (fun s H C cl fp => tsv_pts (fits_blk F hh s H scope cl C fp) ht) (fun s H C cl fp => he _ _ (fits_blk F hh s H scope cl C fp)) (fold_no hns _)).run pins st σ H D I ?_⟩
  have hls : i < σ.length := len_of I (by rw [F.N]; exact hx)
  exact lc_run (scope := scope) hsl (ofE_run q fun {H0 O ρ r} S e q v H0' H' O' B k hp S' T w => set_end hls hpn q k S' T w)
end
end Pv

set_option maxRecDepth 100000
set_option maxHeartbeats 1000000
namespace Pv
open PySem PySem.Spec PyProof.Rows L2

section
variable {g : Prg} {Γ : Sx} {K : PySem.W.Frag} {H0 H : Hp} {O : Fp} {σ : L2.St} {X : Cx}
/-! ## steps that only say more of the heap -/
def Gh (X : Cx) (σ : L2.St) (H : Hp) (P : Hp → Prop) : Prop := ∀ pins s, Inv X pins σ H s → ∃ H', P H' ∧ Inv X pins σ H' s
theorem Gh.ret {P : Hp → Prop} (h : P H) : Gh X σ H P := fun pins s I => ⟨H, h, I⟩
theorem Gh.bind {P P' : Hp → Prop} (h : Gh X σ H P) (k : ∀ H', P H' → Gh X σ H' P') : Gh X σ H P' := fun pins s I => by
  obtain ⟨H', p, I'⟩ := h pins s I
  exact k H' p pins s I'
theorem PE.ghost {e : Expr} {t : TE} (h : PE X e t) : PE X e (fun σ H Q => t σ H fun v H1 => ∃ P, Gh X σ H1 P ∧ ∀ H2, P H2 → Q v H2) := by
  refine ⟨fun pins s σ H Q I q => thn (h.run pins s σ H _ I q) fun u s1 ⟨v, H1, I1, r, P, gh, q1⟩ => ?_⟩
  obtain ⟨H2, p, I2⟩ := gh pins s1 I1
  exact ⟨v, H2, I2, r, q1 H2 p⟩
structure Frozen (H0 H : Hp) (F : Fp) (H0' H' : Hp) : Prop where
  sh : Same H0 H0'
  sub : Same H0' H'
  off : ∀ a, ¬ F a → H' a = H a
  dom : ∀ a, H a ≠ none → H' a ≠ none
  nsh : ∀ a, H0' a ≠ none → H0 a ≠ none ∨ F a
theorem Frozen.refl {F : Fp} (s : Same H0 H) : Frozen H0 H F H0 H := ⟨fun _ _ z => z, s, fun _ _ => rfl, fun _ z => z, fun _ z => .inl z⟩
theorem Frozen.trans {F G : Fp} {H1 H1' H2 H2' : Hp} (a : Frozen H0 H F H1 H1') (b : Frozen H1 H1' G H2 H2') : Frozen H0 H (fun x => F x ∨ G x) H2 H2' where
  sh := L2.Same.trans a.sh b.sh
  sub := b.sub
  off := fun x n => (b.off x fun z => n (.inr z)).trans (a.off x fun z => n (.inl z))
  dom := fun x z => b.dom x (a.dom x z)
  nsh := fun x z => (b.nsh x z).elim (fun y => (a.nsh x y).elim .inl fun y => .inr (.inl y)) fun y => .inr (.inr y)
theorem Frozen.mono {F G : Fp} {H1 H1' : Hp} (a : Frozen H0 H F H1 H1') (h : ∀ x, F x → G x) : Frozen H0 H G H1 H1' :=
  ⟨a.sh, a.sub, fun x n => a.off x fun z => n (h x z), a.dom, fun x z => (a.nsh x z).imp id (h x)⟩
theorem mut_dic {u : HO} {l : List (DK × V)} (h : IsDic u l) : Mut (some u) := by cases h <;> exact True.intro
mutual
theorem frz_own : ∀ (x : PV) (n : Nat) (v : V) (F : Fp) (H0 H : Hp), Own K H0 H x n v F → (∀ a, F a → H0 a = none) → Same H0 H → Gh X σ H fun H' => ∃ H0', Frozen H0 H F H0' H' ∧ Own K H0' H' x 0 v noF
  | .non, n, v, F, H0, H, h, hF, s => .ret ⟨H0, .refl s, h⟩
  | .bl b, n, v, F, H0, H, h, hF, s => .ret ⟨H0, .refl s, h⟩
  | .int b, n, v, F, H0, H, h, hF, s => .ret ⟨H0, .refl s, h⟩
  | .str b, n, v, F, H0, H, h, hF, s => .ret ⟨H0, .refl s, h⟩
  | .tup xs, n, v, F, H0, H, h, hF, s => .ret ⟨H0, .refl s, h⟩
  | .ctup xs, n, v, F, H0, H, h, hF, s => .ret ⟨H0, .refl s, h⟩
  | .clst xs, n, v, F, H0, H, h, hF, s => .ret ⟨H0, .refl s, h⟩
  | .lst xs, 0, v, F, H0, H, h, hF, s => .ret ⟨H0, .refl s, h⟩
  | .dic xs, 0, v, F, H0, H, h, hF, s => .ret ⟨H0, .refl s, h⟩
  | .lst xs, n + 1, v, F, H0, H, ⟨a, vs, e, h1, h2, h3⟩, hF, s => by
    refine Gh.bind (frz_ownL xs n vs _ H0 H h3 (fun b z => hF b z.1) s) fun H' ⟨H0', fz, o⟩ => .ret ?_
    have ha : H' a = some (.lst vs) := (fz.off a fun z => z.2 rfl).trans h1
    have h0 : H0' a = none := by
      cases q : H0' a with
      | none => rfl
      | some o =>
        rcases fz.nsh a (by rw [q]; exact Option.some_ne_none _) with z | z
        · exact absurd (hF a h2) z
        · exact absurd rfl z.2
    refine ⟨upd H0' a (.lst vs), ⟨L2.Same.trans fz.sh (same_new h0), fun b x e => ?_, fun b n => fz.off b fun z => n z.1, fz.dom, fun b z => ?_⟩, a, vs, e, upd_same, ownL0 (same_new h0) _ _ _ _ o⟩
    · by_cases hb : b = a
      · rw [hb, upd_same] at e; rw [hb, ha]; exact e
      · rw [upd_ne hb] at e; exact fz.sub _ _ e
    · by_cases hb : b = a
      · rw [hb]; exact .inr h2
      · rw [upd_ne hb] at z; exact (fz.nsh b z).imp id fun y => y.1
  | .dic kvs, n + 1, v, F, H0, H, ⟨a, u, l, e, h1, h2, h3, h4⟩, hF, s => by
    refine Gh.bind (frz_ownD kvs n l _ H0 H h4 (fun b z => hF b z.1) s) fun H' ⟨H0', fz, o⟩ => ?_
    have ha : H' a = some u := (fz.off a fun z => z.2 rfl).trans h1
    have h0 : H0' a = none := by
      cases q : H0' a with
      | none => rfl
      | some o =>
        rcases fz.nsh a (by rw [q]; exact Option.some_ne_none _) with z | z
        · exact absurd (hF a h3) z
        · exact absurd rfl z.2
    intro pins st I
    obtain ⟨od, I2⟩ := I.lock ha (mut_dic h2)
    refine ⟨_, ⟨upd H0' a (.frz od u), ⟨L2.Same.trans fz.sh (same_new h0), fun b x e => ?_, fun b n => ?_, fun b z => ?_, fun b z => ?_⟩, a, od, u, l, e, upd_same, h2, ownD0 (same_new h0) _ _ _ _ o⟩, I2⟩
    · by_cases hb : b = a
      · rw [hb, upd_same] at e ⊢; exact e
      · rw [upd_ne hb] at e ⊢; exact fz.sub _ _ e
    · have hb : b ≠ a := fun z => n (by rw [z]; exact h3)
      rw [upd_ne hb]
      exact fz.off b fun z => n z.1
    · by_cases hb : b = a
      · rw [hb, upd_same]; exact Option.some_ne_none _
      · rw [upd_ne hb]; exact fz.dom b z
    · by_cases hb : b = a
      · rw [hb]; exact .inr h3
      · rw [upd_ne hb] at z; exact (fz.nsh b z).imp id fun y => y.1
  | .exn a d c fs, n, v, F, H0, H, h, hF, s => .ret ⟨H0, .refl s, own0 (fun _ _ z => z) (.exn a d c fs) v F noF (show Own K H0 H (.exn a d c fs) 0 v F from h)⟩
theorem frz_ownL : ∀ (xs : List PV) (n : Nat) (vs : List V) (F : Fp) (H0 H : Hp), OwnL K H0 H xs n vs F → (∀ a, F a → H0 a = none) → Same H0 H → Gh X σ H fun H' => ∃ H0', Frozen H0 H F H0' H' ∧ OwnL K H0' H' xs 0 vs noF
  | [], n, vs, F, H0, H, h, hF, s => .ret ⟨H0, .refl s, h⟩
  | x :: xs, n, _, F, H0, H, ⟨v, vs', G, e, h1, h2⟩, hF, s => by
    refine Gh.bind (frz_own x n v _ H0 H h1 (fun b z => hF b z.1) s) fun H' ⟨H0', fz, o⟩ => ?_
    have h2' : OwnL K H0' H' xs n vs' (fun b => F b ∧ ¬ G b) := ownL_tr fz.sh _ _ _ _ _ h2 (fun a o z e => (fz.off a fun y => z.2 y.2).trans e) fun _ z => z
    refine Gh.bind (frz_ownL xs n vs' _ H0' H' h2' (fun b z => ?_) fz.sub) fun H'' ⟨H0'', fz2, o2⟩ => .ret ?_
    · cases q : H0' b with
      | none => rfl
      | some o =>
        rcases fz.nsh b (by rw [q]; exact Option.some_ne_none _) with y | y
        · exact absurd (hF b z.1) y
        · exact absurd y.2 z.2
    · exact ⟨H0'', (fz.trans fz2).mono fun b z => z.elim (fun y => y.1) fun y => y.1, v, vs', noF, e, own0 fz2.sh _ _ _ _ o, ownL0 (fun _ _ z => z) _ _ _ _ o2⟩
theorem frz_ownD : ∀ (xs : List (DK × PV)) (n : Nat) (vs : List (DK × V)) (F : Fp) (H0 H : Hp), OwnD K H0 H xs n vs F → (∀ a, F a → H0 a = none) → Same H0 H → Gh X σ H fun H' => ∃ H0', Frozen H0 H F H0' H' ∧ OwnD K H0' H' xs 0 vs noF
  | [], n, vs, F, H0, H, h, hF, s => .ret ⟨H0, .refl s, h⟩
  | (k, x) :: xs, n, _, F, H0, H, ⟨v, vs', G, e, h1, h2⟩, hF, s => by
    refine Gh.bind (frz_own x n v _ H0 H h1 (fun b z => hF b z.1) s) fun H' ⟨H0', fz, o⟩ => ?_
    have h2' : OwnD K H0' H' xs n vs' (fun b => F b ∧ ¬ G b) := ownD_tr fz.sh _ _ _ _ _ h2 (fun a o z e => (fz.off a fun y => z.2 y.2).trans e) fun _ z => z
    refine Gh.bind (frz_ownD xs n vs' _ H0' H' h2' (fun b z => ?_) fz.sub) fun H'' ⟨H0'', fz2, o2⟩ => .ret ?_
    · cases q : H0' b with
      | none => rfl
      | some o =>
        rcases fz.nsh b (by rw [q]; exact Option.some_ne_none _) with y | y
        · exact absurd (hF b z.1) y
        · exact absurd y.2 z.2
    · exact ⟨H0'', (fz.trans fz2).mono fun b z => z.elim (fun y => y.1) fun y => y.1, v, vs', noF, e, own0 fz2.sh _ _ _ _ o, ownD0 (fun _ _ z => z) _ _ _ _ o2⟩
end
/-- the slots' state when something outside of the rest of them is frozen -/
theorem Frozen.st {F : Fp} {H0' H' : Hp} {ρ : Ev} {O' : Fp} (fz : Frozen H0 H F H0' H') (S : St0 K H0 H O' σ ρ) (hd : ∀ a, O' a → ¬ F a) : St0 K H0' H' O' σ ρ := by
  obtain ⟨s1, s2, s3, s4, G, f1, f2, f3⟩ := S
  refine ⟨fz.sub, fun a z => (by rw [fz.off a (hd a z)]; exact s2 a z), fun a z => ?_, s4, G, f1, f2, fun i n x e => ?_⟩
  · cases q : H0' a with
    | none => rfl
    | some o =>
      rcases fz.nsh a (by rw [q]; exact Option.some_ne_none _) with y | y
      · exact absurd (s3 a z) y
      · exact absurd y (hd a z)
  · obtain ⟨v, e1, e2⟩ := f3 i n x e
    exact ⟨v, e1, own_tr fz.sh _ _ _ _ _ e2 (fun a o hF e => (fz.off a (hd a (f2 i a hF))).trans e) fun _ z => z⟩
/-- a slot is taken out -/
theorem St0.take {ρ : Ev} {i n : Nat} {x : PV} (S : St0 K H0 H O σ ρ) (e : ρ[i]? = some (some (n, x))) :
    ∃ v, ∃ F : Fp, σ[i]? = some (some v) ∧ Own K H0 H x n v F ∧ (∀ a, F a → O a) ∧ St0 K H0 H (fun a => O a ∧ ¬ F a) σ (ρ.set i none) ∧ Tmp H0 H (fun a => O a ∧ ¬ F a) F := by
  obtain ⟨G, f1, f2, f3⟩ := S.own
  obtain ⟨v, e1, e2⟩ := f3 i n x e
  refine ⟨v, G i, e1, e2, f2 i, ⟨S.sub, fun a z => S.dom a z.1, fun a z => S.sep a z.1, by rw [List.length_set]; exact S.len, fun j a => j ≠ i ∧ G j a, fun j k a h1 h2 => f1 j k a h1.2 h2.2, fun j a h => ⟨f2 j a h.2, fun z => h.1 (f1 j i a h.2 z)⟩, fun j m y ej => ?_⟩, ⟨fun a z y => y.2 z, fun a z => S.dom a (f2 i a z), fun a z => S.sep a (f2 i a z)⟩⟩
  by_cases hj : j = i
  · subst hj
    by_cases hl : j < ρ.length
    · rw [List.getElem?_set_self hl] at ej; cases ej
    · rw [List.getElem?_eq_none (by rw [List.length_set]; omega)] at ej; cases ej
  · rw [List.getElem?_set_ne (Ne.symm hj)] at ej
    obtain ⟨w, g1, g2⟩ := f3 j m y ej
    exact ⟨w, g1, own_tr (fun _ _ z => z) _ _ _ _ _ g2 (fun _ _ _ e => e) fun a z => ⟨hj, z⟩⟩
/-- .. and put in, the very value -/
theorem St0.put {ρ : Ev} {B : Fp} {i n : Nat} {x : PV} {v : V} (S : St0 K H0 H O σ (ρ.set i none)) (T : Tmp H0 H O B) (o : Own K H0 H x n v B) (e : σ[i]? = some (some v)) : St0 K H0 H (O.or B) σ (ρ.set i (some (n, x))) := by
  have hi : i < σ.length := (List.getElem?_eq_some_iff.mp e).1
  have z := S.set T o hi
  rw [List.set_set] at z
  have hs : σ.set i (some v) = σ := List.ext_getElem? fun j => by
    by_cases hj : i = j
    · subst hj
      rw [List.getElem?_set_self hi, e]
    · rw [List.getElem?_set_ne hj]
  rw [hs] at z
  exact z
theorem Grow.frozen {F O' : Fp} {H0' H' : Hp} (fz : Frozen H0 H F H0' H') (hF : ∀ a, F a → O a) (hO : ∀ a, O' a → O a) : Grow H0 H O H0' H' O' :=
  ⟨fz.sh, fun a o e n => (fz.off a fun z => n (hF a z)).trans e, fz.dom, fun a z => .inl (hO a z), fun a z => (fz.nsh a z).elim .inl fun y => .inr (.inl (hF a y))⟩

/-! ## a name, frozen; a name, moved -/
def eFrzV (i : Nat) : EF := fun ρ => match ρ[i]? with
  | some (some (n, x)) => .ok ⟨n == 0, true, 0, x, ρ.set i (some (0, x))⟩
  | _ => .bad
def eMove (i : Nat) : EF := fun ρ => match ρ[i]? with
  | some (some (n, x)) => .ok ⟨true, true, n, x, ρ.set i none⟩
  | _ => .bad
variable {i : Nat} {x : Str} {pos : Pos}
theorem ev_move (hN : Γ.N[i]? = some x) (hv : Vis Γ.sc x) (hd : (x == ("__debug__" : Str)) = false) (hcd : (x == ("__classdict__" : Str)) = false) : EV g Γ (.Name x pos) (eMove i) := fun X W F => by
  refine PE.imp (pe_var (i := i) (by rw [F.N]; exact hN) (by rw [F.sc]; exact hv) hd hcd) fun σ H Q ⟨H0, O, ρ, S, q⟩ => ?_
  unfold eMove at q
  cases e : ρ[i]? with
  | none => rw [e] at q; exact q.elim
  | some o =>
    cases o with
    | none => rw [e] at q; exact q.elim
    | some p =>
      obtain ⟨n, y⟩ := p
      rw [e] at q
      obtain ⟨v, F', e1, o, hF, S', T⟩ := S.take e
      exact ⟨v, e1, q v H0 H _ F' (Grow.refl.mono fun a z => z.elim (fun y => y.1) (hF a)) (fun _ _ _ z => z) S' T o⟩
theorem ev_frz (hN : Γ.N[i]? = some x) (hv : Vis Γ.sc x) (hd : (x == ("__debug__" : Str)) = false) (hcd : (x == ("__classdict__" : Str)) = false) : EV g Γ (.Name x pos) (eFrzV i) := fun X W F => by
  refine PE.imp (PE.ghost (pe_var (i := i) (by rw [F.N]; exact hN) (by rw [F.sc]; exact hv) hd hcd)) fun σ H Q ⟨H0, O, ρ, S, q⟩ => ?_
  unfold eFrzV at q
  cases e : ρ[i]? with
  | none => rw [e] at q; exact q.elim
  | some o =>
    cases o with
    | none => rw [e] at q; exact q.elim
    | some p =>
      obtain ⟨n, y⟩ := p
      rw [e] at q
      obtain ⟨v, F', e1, o, hF, S', T⟩ := S.take e
      refine ⟨v, e1, ?_⟩
      by_cases hn : n = 0
      · subst hn
        refine ⟨fun H2 => H2 = H, .ret rfl, fun H2 e2 => ?_⟩
        subst e2
        refine q v H0 _ (fun a => (O a ∧ ¬ F' a) ∨ noF a) noF (Grow.refl.mono fun a z => z.elim (fun y => y.elim (fun z => z.1) False.elim) False.elim) (fun _ _ _ z => z) (S'.put .no (own0 (fun _ _ z => z) _ _ _ _ o) e1) .no ?_
        exact own0 (fun _ _ z => z) _ _ _ _ o
      · refine ⟨_, frz_own y n v F' H0 H o (fun a z => S.sep a (hF a z)) S.sub, fun H2 ⟨H02, fz, o2⟩ => ?_⟩
        have S2 := fz.st S' fun a z => z.2
        refine q v H02 H2 (fun a => (O a ∧ ¬ F' a) ∨ noF a) noF ((Grow.frozen fz hF fun a z => z.elim (fun y => y.1) False.elim).mono fun a z => z.elim id False.elim) (fun z => ?_) (S2.put .no o2 e1) .no o2
        simp only [beq_iff_eq] at z
        exact absurd z hn
/-- a temporary, frozen -/
def eFrz (f : EF) : EF := fun ρ => (f ρ).bind fun r => if r.ow = true then .ok ⟨r.pu && r.lv == 0, true, 0, r.x, r.ρ⟩ else .ok r
theorem ev_frzT {e : Expr} {f : EF} (he : EV g Γ e f) : EV g Γ e (eFrz f) := fun X W F => by
  refine PE.imp (PE.ghost (he X W F)) fun σ H Q ⟨H0, O, ρ, S, q⟩ => ⟨H0, O, ρ, S, ?_⟩
  unfold eFrz at q
  cases e : f ρ with
  | bad => rw [e] at q; exact q
  | exc c fs ρ' => rw [e] at q; exact q
  | ok r =>
    rw [e] at q
    simp only [Res.bind] at q
    intro v H0' H' O' B k hp S' T w
    by_cases ho : r.ow = true
    · rw [if_pos ho] at q w
      by_cases hn : r.lv = 0
      · refine ⟨fun H2 => H2 = H', .ret rfl, fun H2 e2 => ?_⟩
        subst e2
        refine q v H0' _ O' noF (k.mono fun a z => .inl (z.elim id False.elim)) (fun z => hp (by simp only [Bool.and_eq_true] at z; exact z.1)) S' .no ?_
        rw [hn] at w
        exact own0 (fun _ _ z => z) _ _ _ _ w
      · refine ⟨_, frz_own r.x r.lv v B H0' H' w T.sep S'.sub, fun H2 ⟨H02, fz, o2⟩ => ?_⟩
        have S2 := fz.st S' fun a z y => T.off a y z
        have k2 : Grow H0 H O H02 H2 O' := k.trans0 (Grow.frozen (O := O'.or B) fz (fun a z => .inr z) fun a z => .inl z)
        refine q v H02 H2 O' noF (k2.mono fun a z => z.elim id False.elim) (fun z => ?_) S2 .no o2
        simp only [Bool.and_eq_true, beq_iff_eq] at z
        exact absurd z.2 hn
    · rw [if_neg ho] at q w
      refine ⟨fun H2 => H2 = H', .ret rfl, fun H2 e2 => ?_⟩
      subst e2
      refine q v H0' _ O' B k hp S' T ?_
      rw [if_neg ho]
      exact w

/-! ## x.append(e) -/
/-- fits into the items of an owned list of level n + 1 -/
def fitL (n : Nat) (r : Rr) : Bool := (r.lv == n && (r.ow || n == 0)) || r.x.imm
theorem fit_own {n : Nat} {r : Rr} {v : V} {B : Fp} (h : fitL n r = true) (w : if r.ow = true then Own K H0 H r.x r.lv v B else ∃ F, Own K H0 H r.x r.lv v F) : Own K H0 H r.x n v B := by
  unfold fitL at h
  simp only [Bool.or_eq_true, Bool.and_eq_true, beq_iff_eq] at h
  rcases h with ⟨h1, h2 | h2⟩ | h
  · rw [if_pos h2, h1] at w
    exact w
  · subst h2
    split at w
    · rw [h1] at w; exact w
    · obtain ⟨F, w⟩ := w
      rw [h1] at w
      exact own0 (fun _ _ z => z) _ _ _ _ w
  · have z : ∃ F, Own K H0 H r.x r.lv v F := by
      split at w
      · exact ⟨_, w⟩
      · exact w
    obtain ⟨F, z⟩ := z
    exact imm_own (own_imm (F' := B) (H' := H) z (.inr h) fun _ _ z => z) h fun _ _ z => z
theorem ownL_snoc : ∀ {xs : List PV} {n : Nat} {vs : List V} {F B : Fp} {x : PV} {v : V}, OwnL K H0 H xs n vs F → Own K H0 H x n v B → (∀ a, B a → ¬ F a) → OwnL K H0 H (xs ++ [x]) n (vs ++ [v]) (fun a => F a ∨ B a)
  | [], n, vs, F, B, x, v, h, o, hd => by
    rw [show vs = [] from h]
    exact ⟨v, [], B, rfl, own_tr (fun _ _ z => z) _ _ _ _ _ o (fun _ _ _ e => e) fun a z => ⟨.inr z, z⟩, rfl⟩
  | y :: ys, n, _, F, B, x, v, ⟨w, ws, G, e, h1, h2⟩, o, hd => by
    rw [e]
    refine ⟨w, ws ++ [v], fun a => F a ∧ G a, rfl, own_tr (fun _ _ z => z) _ _ _ _ _ h1 (fun _ _ _ e => e) fun a z => ⟨.inl z.1, z⟩, ?_⟩
    refine ownL_tr (fun _ _ z => z) _ _ _ _ _ (ownL_snoc h2 o fun a z y => hd a z y.1) (fun _ _ _ e => e) fun a z => ?_
    rcases z with z | z
    · exact ⟨.inl z.1, fun y => z.2 y.2⟩
    · exact ⟨.inr z, fun y => hd a z y.1⟩
def eAppend (i : Nat) (f : EF) : EF := fun ρ => match ρ[i]? with
  | some (some (_ + 1, .lst _)) => (f ρ).bind fun r => match r.ρ[i]? with
    | some (some (n + 1, .lst xs)) => if fitL n r = true ∧ xs.length < sizeLine then .ok ⟨false, true, 0, .non, r.ρ.set i (some (n + 1, .lst (xs ++ [r.x])))⟩ else .bad
    | _ => .bad
  | _ => .bad
/-- the object at a, owned by the slot i, is changed -/
theorem mut_slot {ρ : Ev} {i n' : Nat} {x' : PV} {v : V} {F B : Fp} {a : Addr} {o' : HO} (S' : St0 K H0 H (fun a => O a ∧ ¬ F a) σ (ρ.set i none)) (T : Tmp H0 H (fun a => O a ∧ ¬ F a) F) (hF : ∀ a, F a → O a) (TB : Tmp H0 H O B) (e1 : σ[i]? = some (some v)) (ha : F a) (ow : Own K H0 (upd H a o') x' n' v (F.or B)) (hmo : Mut (some o') := by exact True.intro) :
    St0 K H0 (upd H a o') (O.or B) σ (ρ.set i (some (n', x'))) ∧ Grow H0 H O H0 (upd H a o') O := by
  have S2 : St0 K H0 (upd H a o') (fun a => O a ∧ ¬ F a) σ (ρ.set i none) := S'.other (fun z => z.2 ha) (T.sep a ha)
  have T2 : Tmp H0 (upd H a o') (fun a => O a ∧ ¬ F a) (F.or B) := ⟨fun b z y => z.elim (fun z => y.2 z) fun z => TB.off b z y.1, fun b z => by
    by_cases hb : b = a
    · rw [hb, upd_same]; exact hmo
    · rw [upd_ne hb]; exact z.elim (T.dom b) (TB.dom b), fun b z => z.elim (T.sep b) (TB.sep b)⟩
  have z := S2.put T2 ow e1
  refine ⟨?_, ⟨fun _ _ z => z, fun b o e n => ?_, fun b z => ?_, fun b z => .inl z, fun b z => .inl z⟩⟩
  · obtain ⟨G, f1, f2, f3⟩ := z.own
    exact ⟨z.sub, fun b y => by
      by_cases hb : F b
      · exact z.dom b (.inr (.inl hb))
      · exact y.elim (fun y => z.dom b (.inl ⟨y, hb⟩)) fun y => z.dom b (.inr (.inr y)), fun b y => by
      by_cases hb : F b
      · exact z.sep b (.inr (.inl hb))
      · exact y.elim (fun y => z.sep b (.inl ⟨y, hb⟩)) fun y => z.sep b (.inr (.inr y)), z.len, G, f1, fun j b h => (f2 j b h).elim (fun y => .inl y.1) fun y => y.elim (fun y => .inl (hF b y)) .inr, f3⟩
  · rw [upd_ne fun z => n (by rw [z]; exact hF a ha)]
    exact e
  · by_cases hb : b = a
    · rw [hb, upd_same]; exact Option.some_ne_none _
    · rw [upd_ne hb]; exact z
theorem ev_append {e : Expr} {f : EF} {p apos cpos : Pos} (hN : Γ.N[i]? = some x) (hv : Vis Γ.sc x) (hd : (x == ("__debug__" : Str)) = false) (hcd : (x == ("__classdict__" : Str)) = false) (hs : noStar e = true) (hl : (apos.endLine == cpos.line) = true) (he : EV g Γ e f) :
    EV g Γ (.Call (.Attribute (.Name x p) "append" apos) [e] [] cpos) (eAppend i f) := fun X W Fi => by
  have hss : noStars [e] = true := by show (noStar e && true) = true; rw [hs]; rfl
  refine PE.imp (pe_bm (t := tCons (tF g W f) tNil) PySem.F.plainAttrs_list PySem.F.slot_list_append PySem.F.type_list_append mt_append (pe_var (i := i) (by rw [Fi.N]; exact hN) (by rw [Fi.sc]; exact hv) hd hcd) (pa_cons (he X W Fi) pa_nil (star_cons hs)) (base_ok rfl) ?_ hl (star_cons hs) rfl) fun σ H Q ⟨H0, O, ρ, S, q⟩ => ?_
  · rw [star_all hss]
    rfl
  · unfold eAppend at q
    cases e0 : ρ[i]? with
    | none => rw [e0] at q; exact q.elim
    | some o =>
      cases o with
      | none => rw [e0] at q; exact q.elim
      | some p0 =>
        obtain ⟨n0, y0⟩ := p0
        rw [e0] at q
        cases n0 with
        | zero => exact q.elim
        | succ n0 =>
          cases y0 <;> first | exact q.elim | skip
          rename_i xs0
          obtain ⟨v, F0, e1, o1⟩ := own_slot S e0
          refine ⟨v, e1, by rw [Fi.K]; exact ty_lst S.sub o1 rfl, H0, O, ρ, S, ?_⟩
          simp only [] at q
          cases ef : f ρ with
          | bad => rw [ef] at q; exact q
          | exc c fs ρ' => rw [ef] at q; exact q
          | ok r =>
            rw [ef] at q
            simp only [Res.bind] at q
            intro w H0' H' O' B k hp S' T ow
            cases er : r.ρ[i]? with
            | none => rw [er] at q; exact q.elim
            | some o =>
              cases o with
              | none => rw [er] at q; exact q.elim
              | some p1 =>
                obtain ⟨n1, y1⟩ := p1
                rw [er] at q
                cases n1 with
                | zero => exact q.elim
                | succ n =>
                  cases y1 <;> first | exact q.elim | skip
                  rename_i xs
                  simp only [] at q
                  by_cases hc : fitL n r = true ∧ xs.length < sizeLine
                  case neg => rw [if_neg hc] at q; exact q.elim
                  rw [if_pos hc] at q
                  obtain ⟨v', F, e2, o2, hF, S2, T2⟩ := S'.take er
                  rw [e1] at e2
                  cases e2
                  obtain ⟨a, vs, rfl, ha, hFa, ol⟩ := o2
                  have oy := fit_own hc.1 ow
                  have hlen := ownL_len ol
                  refine ⟨a, vs, w, rfl, rfl, ha, by rw [hlen]; exact hc.2, ?_⟩
                  have hBF : ∀ b, B b → ¬ F b := fun b z y => T.off b z (hF b y)
                  have ol2 : OwnL g.K H0' (upd H' a (.lst (vs ++ [w]))) (xs ++ [r.x]) n (vs ++ [w]) (fun b => (F.or B) b ∧ b ≠ a) := by
                    refine ownL_tr (H := H') (fun _ _ z => z) _ _ _ _ _ (ownL_snoc ol oy fun b z y => hBF b z y.1) (fun b o z e => ?_) fun b z => ?_
                    · rw [upd_ne fun y => by
                        rcases z with z | z
                        · exact z.2 y
                        · exact hBF b z (by rw [y]; exact hFa)]
                      exact e
                    · rcases z with z | z
                      · exact ⟨.inl z.1, z.2⟩
                      · exact ⟨.inr z, fun y => hBF b z (by rw [y]; exact hFa)⟩
                  obtain ⟨S3, k3⟩ := mut_slot (n' := n + 1) (x' := .lst (xs ++ [r.x])) (v := .ref a) (o' := .lst (vs ++ [w])) S2 T2 hF T e1 hFa ⟨a, _, rfl, upd_same, .inl hFa, ol2⟩
                  refine q .non H0' _ (O'.or B) noF ?_ (fun z => by cases z) S3 .no rfl
                  have k4 : Grow H0' H' (O'.or B) H0' (upd H' a (.lst (vs ++ [w]))) (O'.or B) := ⟨k3.sh, fun b o e n => k3.keep b o e fun z => n (.inl z), k3.dom, fun b z => .inl z, fun b z => .inl z⟩
                  exact (k.trans0 k4).mono fun b z => z.elim id False.elim
end
end Pv

set_option maxRecDepth 100000
set_option maxHeartbeats 1000000
namespace Pv
open PySem PySem.Spec PyProof.Rows L2

/-! ## defs -/
def argsE (ms : List Nat) (pvs : List PV) : Ev := (ms.zip pvs).map some
def spF (g : Prg) (ms : List Nat) (f : FF) : Sp := fun vs H Q E => ∃ H0 O pvs, vs.length = ms.length ∧ pvs.length = ms.length ∧ St0 g.K H0 H O (vs.map some) (argsE ms pvs) ∧ match f pvs with
  | .ok lv x outs => outs.length = ms.length ∧ ∀ v H0' H' O' B, Grow H0 H O H0' H' (O'.or B) → St0 g.K H0' H' O' (vs.map some) (argsE ms outs) → Tmp H0' H' O' B → Own g.K H0' H' x lv v B → Q v H'
  | .exc c fs outs => outs.length = ms.length ∧ ∀ H0' H' O' d, Grow H0 H O H0' H' O' → St0 g.K H0' H' O' (vs.map some) (argsE ms outs) → ExD g.K H0' H' fs d → E (.ref (g.ea c)) d H'
  | .bad => False
def outsOf : List Nat → List PV → Ev → Option (List PV)
  | 0 :: ms, x :: xs, _ :: ρ => (outsOf ms xs ρ).map (x :: ·)
  | (m + 1) :: ms, _ :: xs, some (k, y) :: ρ => if k = m + 1 then (outsOf ms xs ρ).map (y :: ·) else none
  | [], [], _ => some []
  | _, _, _ => none
def fnF (ms : List Nat) (n : Nat) (body : SF) : FF := fun pvs => if pvs.length = ms.length then match body (argsE ms pvs ++ List.replicate (n - ms.length) none) with
    | .nx ρ' => match outsOf ms pvs ρ' with
      | some o => .ok 0 .non o
      | none => .bad
    | .rt lv x ρ' => match outsOf ms pvs ρ' with
      | some o => .ok lv x o
      | none => .bad
    | .exc c fs ρ' => match outsOf ms pvs ρ' with
      | some o => .exc c fs o
      | none => .bad
    | _ => .bad
  else .bad
def pnOf (ms : List Nat) : List Nat := (List.range ms.length).filter fun i => ms[i]? != some 0

section
variable {g : Prg} {Γ : Sx} {K : PySem.W.Frag} {H0 H : Hp} {O : Fp} {σ : L2.St} {X : Cx}
theorem argsE_get {ms : List Nat} {pvs : List PV} {i n : Nat} {x : PV} (h : (argsE ms pvs)[i]? = some (some (n, x))) : ms[i]? = some n ∧ pvs[i]? = some x := by
  unfold argsE at h
  rw [List.getElem?_map] at h
  cases e : (ms.zip pvs)[i]? with
  | none => rw [e] at h; cases h
  | some p =>
    rw [e] at h
    cases h
    exact List.getElem?_zip_eq_some.mp e
theorem argsE_len {ms : List Nat} {pvs : List PV} (h : pvs.length = ms.length) : (argsE ms pvs).length = ms.length := by
  unfold argsE
  rw [List.length_map, List.length_zip, h, Nat.min_self]
theorem argsE_at {ms : List Nat} {pvs : List PV} {i n : Nat} {x : PV} (h1 : ms[i]? = some n) (h2 : pvs[i]? = some x) : (argsE ms pvs)[i]? = some (some (n, x)) := by
  unfold argsE
  rw [List.getElem?_map, show (ms.zip pvs)[i]? = some (n, x) from List.getElem?_zip_eq_some.mpr ⟨h1, h2⟩]
  rfl
theorem outs_get : ∀ {ms : List Nat} {pvs : List PV} {ρ : Ev} {outs : List PV} {i n : Nat} {x : PV}, outsOf ms pvs ρ = some outs → ms[i]? = some n → outs[i]? = some x → (n = 0 ∧ pvs[i]? = some x) ∨ (n ≠ 0 ∧ ρ[i]? = some (some (n, x)))
  | 0 :: ms, x :: xs, o :: ρ, outs, i, n, y, h, h1, h2 => by
    obtain ⟨r, e1, e2⟩ := Option.map_eq_some_iff.mp (show (outsOf ms xs ρ).map (x :: ·) = some outs from h)
    subst e2
    cases i with
    | zero => simp at h1 h2; exact .inl ⟨h1.symm, by simp [h2]⟩
    | succ i => simpa using outs_get (i := i) e1 (by simpa using h1) (by simpa using h2)
  | (m + 1) :: ms, x :: xs, some (k, z) :: ρ, outs, i, n, y, h, h1, h2 => by
    have h' : (if k = m + 1 then (outsOf ms xs ρ).map (z :: ·) else none) = some outs := h
    split at h'
    · rename_i hk
      obtain ⟨r, e1, e2⟩ := Option.map_eq_some_iff.mp h'
      subst e2
      cases i with
      | zero => simp at h1 h2; subst h1 h2 hk; exact .inr ⟨by omega, rfl⟩
      | succ i => simpa using outs_get (i := i) e1 (by simpa using h1) (by simpa using h2)
    · cases h'
  | [], _, _, _, _, _, _, _, h1, _ => by simp at h1
  | 0 :: _, [], _, _, _, _, _, h, _, _ => by cases h
  | (_ + 1) :: _, [], _, _, _, _, _, h, _, _ => by cases h
  | 0 :: _, _ :: _, [], _, _, _, _, h, _, _ => by cases h
  | (_ + 1) :: _, _ :: _, [], _, _, _, _, h, _, _ => by cases h
  | (_ + 1) :: _, _ :: _, none :: _, _, _, _, _, h, _, _ => by cases h
theorem outs_len : ∀ {ms : List Nat} {pvs : List PV} {ρ : Ev} {outs : List PV}, outsOf ms pvs ρ = some outs → outs.length = ms.length
  | 0 :: ms, x :: xs, o :: ρ, outs, h => by
    obtain ⟨r, e1, e2⟩ := Option.map_eq_some_iff.mp (show (outsOf ms xs ρ).map (x :: ·) = some outs from h)
    subst e2
    rw [List.length_cons, List.length_cons, outs_len e1]
  | (m + 1) :: ms, x :: xs, some (k, z) :: ρ, outs, h => by
    have h' : (if k = m + 1 then (outsOf ms xs ρ).map (z :: ·) else none) = some outs := h
    split at h'
    · obtain ⟨r, e1, e2⟩ := Option.map_eq_some_iff.mp h'
      subst e2
      rw [List.length_cons, List.length_cons, outs_len e1]
    · cases h'
  | [], [], _, _, h => by cases h; rfl
  | [], _ :: _, _, _, h => by cases h
  | 0 :: _, [], _, _, h => by cases h
  | (_ + 1) :: _, [], _, _, h => by cases h
  | 0 :: _, _ :: _, [], _, h => by cases h
  | (_ + 1) :: _, _ :: _, [], _, h => by cases h
  | (_ + 1) :: _, _ :: _, none :: _, _, h => by cases h
theorem start_get {N : List Str} {vs : List V} {i : Nat} {v : V} (h : vs[i]? = some v) : (L2.start N vs)[i]? = some (some v) := by
  unfold L2.start
  have hi : i < vs.length := (List.getElem?_eq_some_iff.mp h).1
  rw [List.getElem?_append_left (by rw [List.length_map]; exact hi), List.getElem?_map, h]
  rfl
/-- the body begins -/
theorem St0.begin {N : List Str} {ms : List Nat} {vs : List V} {pvs : List PV} (hv : vs.length = ms.length) (hp : pvs.length = ms.length) (S : St0 K H0 H O (vs.map some) (argsE ms pvs)) : St0 K H0 H O (L2.start N vs) (argsE ms pvs ++ List.replicate (N.length - ms.length) none) := by
  obtain ⟨F, f1, f2, f3⟩ := S.own
  refine ⟨S.sub, S.dom, S.sep, ?_, F, f1, f2, fun i n x e => ?_⟩
  · unfold L2.start
    rw [List.length_append, List.length_append, List.length_map, List.length_replicate, List.length_replicate, argsE_len hp, hv]
  · by_cases hi : i < (argsE ms pvs).length
    · rw [List.getElem?_append_left hi] at e
      obtain ⟨v, e1, e2⟩ := f3 i n x e
      rw [List.getElem?_map] at e1
      cases q : vs[i]? with
      | none => rw [q] at e1; cases e1
      | some w =>
        rw [q] at e1
        cases e1
        exact ⟨v, start_get q, e2⟩
    · rw [List.getElem?_append_right (by omega), List.getElem?_replicate] at e
      split at e <;> cases e
/-- the body has ended: the parameters -/
theorem St0.fin {H0' H' : Hp} {O' : Fp} {N : List Str} {ms : List Nat} {vs : List V} {pvs outs : List PV} {σ' : L2.St} {ρ' : Ev} (hv : vs.length = ms.length) (hp : pvs.length = ms.length) (S : St0 K H0 H O (vs.map some) (argsE ms pvs)) (sh : Same H0 H0') (S' : St0 K H0' H' O' σ' ρ')
    (P : Pin (pnOf ms) (L2.start N vs) σ') (h : outsOf ms pvs ρ' = some outs) : St0 K H0' H' O' (vs.map some) (argsE ms outs) := by
  obtain ⟨F, f1, f2, f3⟩ := S.own
  obtain ⟨G, g1, g2, g3⟩ := S'.own
  refine ⟨S'.sub, S'.dom, S'.sep, by rw [List.length_map, argsE_len (outs_len h), hv], fun i a => if ms[i]? = some 0 then False else G i a, fun i j a h1 h2 => ?_, fun i a h1 => ?_, fun i n x e => ?_⟩
  · by_cases hi : ms[i]? = some 0
    · simp only [hi, ↓reduceIte] at h1
    · by_cases hj : ms[j]? = some 0
      · simp only [hj, ↓reduceIte] at h2
      · simp only [hi, ↓reduceIte] at h1
        simp only [hj, ↓reduceIte] at h2
        exact g1 i j a h1 h2
  · by_cases hi : ms[i]? = some 0
    · simp only [hi, ↓reduceIte] at h1
    · simp only [hi, ↓reduceIte] at h1
      exact g2 i a h1
  · obtain ⟨e1, e2⟩ := argsE_get e
    rcases outs_get h e1 e2 with ⟨rfl, q⟩ | ⟨hn, q⟩
    · obtain ⟨v, k1, k2⟩ := f3 i 0 x (argsE_at e1 q)
      exact ⟨v, k1, own0 sh _ _ _ _ k2⟩
    · obtain ⟨v, k1, k2⟩ := g3 i n x q
      have hil : i < ms.length := (List.getElem?_eq_some_iff.mp e1).1
      have hm : i ∈ pnOf ms := List.mem_filter.mpr ⟨List.mem_range.mpr hil, by
        rw [e1]
        simp [hn]⟩
      have hvi : vs[i]? = some (vs[i]'(by omega)) := List.getElem?_eq_getElem (by omega)
      rw [P i hm, start_get hvi] at k1
      cases k1
      refine ⟨_, by rw [List.getElem?_map, hvi]; rfl, ?_⟩
      have hne : ¬ ms[i]? = some 0 := by rw [e1]; simp [hn]
      show Own K H0' H' x n _ (fun a => if ms[i]? = some 0 then False else G i a)
      simp only [hne, ↓reduceIte]
      exact k2
theorem fits_def {qual : Str} {N : List Str} {sc : Scope} {f : Addr} {cdv : Value} {A : Around} {outer : List Env} {s : Shared} {E : XK} {k : Nat} {ms : List Nat} (hr : Room k (A.deeper (envOfC qual sc s.heap.objs.size f cdv))) (nd : N.Nodup) :
    Fits g ⟨N, sc, k, pnOf ms, false, false, none⟩ (cxOf (L2.CX g.P g.w) g.P g.w g.K g.mg g.base N qual sc f cdv A outer s H E) (fun cls d _ H => E cls d H) where
  xc := fun _ _ _ z => by cases z
  prog := rfl
  w := rfl
  K := rfl
  mg := rfl
  base := rfl
  N := rfl
  sc := rfl
  takes := takes_of rfl rfl rfl rfl
  un := by have := hr.un; show (A.deeper _).units + 100 < cLine; omega
  room := fun _ => hr
  calm := fun _ => rfl
  hotc := fun z => by cases z
  nd := nd
  pas := passes_of rfl
  fn := fun _ _ => rfl
  stk := fun _ => ⟨rfl, rfl, rfl⟩
/-- THE RULE for a def -/
theorem fn_ok {x qual : Str} {params : Arguments} {bd : List Stmt} {scope : Scope} {dvs : List V} {kws : List (Str × V)} {f : Addr} {fd : FuncData} {N ps : List Str} {k : Nat} {ms : List Nat} {body : SF} (Fn : FunD g.K x qual params bd scope dvs kws f fd) (S : FnScope N ps scope) (hm : ms.length = ps.length)
    (hb : SVs g ⟨N, scope, k, pnOf ms, false, false, none⟩ bd body) : FnOk g.P g.w g.K g.mg g.base (L2.CX g.P g.w) (k + 1) f fd ps (spF g ms (fnF ms N.length body)) := by
  refine Fn.ok S (fun vs H Q E ⟨H0, O, pvs, h1, h2, _⟩ => by rw [h1, hm]) fun cdv A outer s H vs Q E hr ⟨H0, O, pvs, hv, hp, S0, q⟩ => ?_
  refine ⟨_, hb _ _ (fits_def (E := E) hr S.nd), H0, O, _, S0.begin hv hp, ?_⟩
  unfold fnF at q
  rw [if_pos hp] at q
  cases e : body (argsE ms pvs ++ List.replicate (N.length - ms.length) none) with
  | nx ρ' =>
    rw [e] at q
    simp only [] at q
    intro σ' H0' H' O' k2 S2 P2
    cases eo : outsOf ms pvs ρ' with
    | none => rw [eo] at q; exact q.elim
    | some outs =>
      rw [eo] at q
      exact q.2 .non H0' H' O' noF (k2.mono fun a z => z.elim id False.elim) (S0.fin hv hp k2.sh S2 P2 eo) .no rfl
  | rt lv y ρ' =>
    rw [e] at q
    simp only [] at q
    intro v σ' H0' H' O' B k2 S2 T2 w P2
    cases eo : outsOf ms pvs ρ' with
    | none => rw [eo] at q; exact q.elim
    | some outs =>
      rw [eo] at q
      exact q.2 v H0' H' O' B k2 (S0.fin hv hp k2.sh S2 P2 eo) T2 w
  | exc c fs ρ' =>
    rw [e] at q
    simp only [] at q
    intro σ' H0' H' O' d k2 S2 ex P2
    cases eo : outsOf ms pvs ρ' with
    | none => rw [eo] at q; exact q.elim
    | some outs =>
      rw [eo] at q
      exact q.2 H0' H' O' d k2 (S0.fin hv hp k2.sh S2 P2 eo) ex
  | bk ρ' => rw [e] at q; exact q.elim
  | ct ρ' => rw [e] at q; exact q.elim
  | bad => rw [e] at q; exact q.elim

/-! ## calls -/
structure Callee (g : Prg) (x : Str) (ms : List Nat) (f : FF) (k : Nat) : Prop where
  db : (x == ("__debug__" : Str)) = false
  ex : ∃ (a : Addr) (fd : FuncData) (ps : List Str), g.mg x = some (.ref a) ∧ PySem.W.keepIn g.K (.ref a) = true ∧ Binds g.K fd ps [] ∧ FnOk g.P g.w g.K g.mg g.base (L2.CX g.P g.w) k a fd ps (spF g ms f)
/-- the arguments' values: a view, or a slot that is handed on -/
def ViewsM (K : PySem.W.Frag) (H0 H : Hp) (σ : L2.St) : List (Option Nat) → List (Nat × PV) → List V → Prop
  | [], [], [] => True
  | none :: sl, p :: ps, v :: vs => (∃ F, Own K H0 H p.2 p.1 v F) ∧ ViewsM K H0 H σ sl ps vs
  | some i :: sl, _ :: ps, v :: vs => σ[i]? = some (some v) ∧ ViewsM K H0 H σ sl ps vs
  | _, _, _ => False
def PostM (K : PySem.W.Frag) (H0 H : Hp) (O : Fp) (σ : L2.St) (sl : List (Option Nat)) (a : Ar) (Q : List V → Hp → Prop) : Prop :=
  ∀ vs H0' H' O', Grow H0 H O H0' H' O' → (a.pu = true → Same H H') → St0 K H0' H' O' σ a.ρ → ViewsM K H0' H' σ sl a.vs vs → Q vs H'
def tM (g : Prg) (W : WX) (sl : List (Option Nat)) (f : AF) : TA := fun σ H Q => ∃ H0 O ρ, St0 g.K H0 H O σ ρ ∧ match f ρ with
  | .ok a => PostM g.K H0 H O σ sl a Q
  | .exc c fs ρ' => PostX g H0 H O σ c fs ρ' W
  | .bad => False
def AM (g : Prg) (Γ : Sx) (es : List Expr) (sl : List (Option Nat)) (f : AF) : Prop := ∀ X W, Fits g Γ X W → PA X es (tM g W sl f)
def aMut (i : Nat) (af : AF) : AF := fun ρ => match ρ[i]? with
  | some (some _) => (af ρ).bind fun a => .ok ⟨a.pu, (0, .non) :: a.vs, a.ρ⟩
  | _ => .bad
theorem am_nil : AM g Γ [] [] aNil := fun X W F => PA.imp pa_nil fun σ H Q ⟨H0, O, ρ, S, q⟩ => q [] H0 H O .refl (fun _ _ _ z => z) S True.intro
theorem am_cons {e : Expr} {es : List Expr} {sl : List (Option Nat)} {f : EF} {af : AF} (hn : noStar e = true) (he : EV g Γ e f) (hr : AM g Γ es sl af) : AM g Γ (e :: es) (none :: sl) (aCons f af) := fun X W F => by
  refine PA.imp (pa_cons (he X W F) (hr X W F) (star_cons hn)) fun σ H Q ⟨H0, O, ρ, S, q⟩ => ⟨H0, O, ρ, S, ?_⟩
  unfold aCons at q
  cases hf : f ρ with
  | bad => rw [hf] at q; exact q
  | exc c fs ρ' => rw [hf] at q; exact q
  | ok r =>
    rw [hf] at q
    show PostR _ _ _ _ _ r _
    intro v H0' H' O' B k hpu S' T o
    refine ⟨H0', O', r.ρ, S', ?_⟩
    simp only [Res.bind] at q
    cases ha : af r.ρ with
    | bad => rw [ha] at q; exact q
    | exc c fs ρ' => rw [ha] at q; exact PostX.step q k
    | ok a =>
      rw [ha] at q
      simp only [] at q
      by_cases hs : stays r a.pu = true
      · rw [if_pos hs] at q
        intro vs H0'' H'' O'' k2 hpu2 S'' vw
        refine q (v :: vs) H0'' H'' O'' ((k.trans k2).mono fun a z => .inl z) (fun z => ?_) S'' ⟨view_stay hs T o k2 hpu2, vw⟩
        have z' := Bool.and_eq_true_iff.mp z
        exact L2.Same.trans (hpu z'.1) (hpu2 z'.2)
      · rw [if_neg hs] at q
        exact q.elim
theorem am_mut {x : Str} {pos : Pos} {i : Nat} {es : List Expr} {sl : List (Option Nat)} {af : AF} (hN : Γ.N[i]? = some x) (hv : Vis Γ.sc x) (hd : (x == ("__debug__" : Str)) = false) (hcd : (x == ("__classdict__" : Str)) = false) (hr : AM g Γ es sl af) : AM g Γ (.Name x pos :: es) (some i :: sl) (aMut i af) := fun X W F => by
  refine PA.imp (pa_cons (pe_var (i := i) (by rw [F.N]; exact hN) (by rw [F.sc]; exact hv) hd hcd) (hr X W F) (star_cons rfl)) fun σ H Q ⟨H0, O, ρ, S, q⟩ => ?_
  unfold aMut at q
  cases e : ρ[i]? with
  | none => rw [e] at q; exact q.elim
  | some o =>
    cases o with
    | none => rw [e] at q; exact q.elim
    | some p =>
      obtain ⟨n, y⟩ := p
      rw [e] at q
      obtain ⟨v, F', e1, _⟩ := own_slot S e
      refine ⟨v, e1, H0, O, ρ, S, ?_⟩
      simp only [] at q
      cases ha : af ρ with
      | bad => rw [ha] at q; exact q
      | exc c fs ρ' => rw [ha] at q; exact q
      | ok a =>
        rw [ha] at q
        intro vs H0'' H'' O'' k2 hpu2 S'' vw
        exact q (v :: vs) H0'' H'' O'' k2 hpu2 S'' ⟨e1, vw⟩
/-- the arguments as the callee has them; the slots that are handed on are taken out -/
def callIn : List Nat → List (Option Nat) → List (Nat × PV) → Ev → Option (List PV × Ev)
  | [], [], [], ρ => some ([], ρ)
  | 0 :: ms, none :: sl, p :: ps, ρ => if shOk p = true then (callIn ms sl ps ρ).map fun z => (p.2 :: z.1, z.2) else none
  | (m + 1) :: ms, some i :: sl, _ :: ps, ρ => match ρ[i]? with
    | some (some (n, y)) => if n = m + 1 then (callIn ms sl ps (ρ.set i none)).map fun z => (y :: z.1, z.2) else none
    | _ => none
  | _, _, _, _ => none
def callOut : List Nat → List (Option Nat) → List PV → Ev → Ev
  | m :: ms, some i :: sl, y :: ys, ρ => callOut ms sl ys (ρ.set i (some (m, y)))
  | _ :: ms, none :: sl, _ :: ys, ρ => callOut ms sl ys ρ
  | _, _, _, ρ => ρ
def eCall (ms : List Nat) (sl : List (Option Nat)) (f : FF) (af : AF) : EF := fun ρ => (af ρ).bind fun a => match callIn ms sl a.vs a.ρ with
  | none => .bad
  | some (pvs, ρ') => match f pvs with
    | .ok lv x outs => if outs.length = ms.length then .ok ⟨a.pu && ms.all (· == 0), true, lv, x, callOut ms sl outs ρ'⟩ else .bad
    | .exc c fs outs => if outs.length = ms.length then .exc c fs (callOut ms sl outs ρ') else .bad
    | .bad => .bad
theorem St0.consA {O' F : Fp} {n : Nat} {ms : List Nat} {x : PV} {pvs : List PV} {v : V} {vs : List V} (S : St0 K H0 H O' (vs.map some) (argsE ms pvs)) (o : Own K H0 H x n v F) (hF : ∀ a, F a → ¬ O' a) (hd : ∀ a, F a → Mut (H a)) (h0 : ∀ a, F a → H0 a = none) :
    St0 K H0 H (F.or O') ((v :: vs).map some) (argsE (n :: ms) (x :: pvs)) := by
  obtain ⟨G, g1, g2, g3⟩ := S.own
  refine ⟨S.sub, fun a z => z.elim (hd a) (S.dom a), fun a z => z.elim (h0 a) (S.sep a), by have := S.len; simpa [argsE] using this, fun i a => match i with | 0 => F a | i + 1 => G i a, fun i j a h1 h2 => ?_, fun i a h => ?_, fun i m y e => ?_⟩
  · cases i with
    | zero => cases j with
      | zero => rfl
      | succ j => exact absurd (g2 j a h2) (hF a h1)
    | succ i => cases j with
      | zero => exact absurd (g2 i a h1) (hF a h2)
      | succ j => exact congrArg (· + 1) (g1 i j a h1 h2)
  · cases i with
    | zero => exact .inl h
    | succ i => exact .inr (g2 i a h)
  · cases i with
    | zero => 
      have e' : some (some (n, x)) = some (some (m, y)) := e
      cases e'
      exact ⟨v, rfl, o⟩
    | succ i =>
      obtain ⟨w, k1, k2⟩ := g3 i m y (by simpa [argsE] using e)
      exact ⟨w, by simpa using k1, k2⟩
theorem St0.unconsA {n : Nat} {ms : List Nat} {x : PV} {pvs : List PV} {v : V} {vs : List V} (S : St0 K H0 H O ((v :: vs).map some) (argsE (n :: ms) (x :: pvs))) :
    ∃ F : Fp, Own K H0 H x n v F ∧ (∀ a, F a → O a) ∧ St0 K H0 H (fun a => O a ∧ ¬ F a) (vs.map some) (argsE ms pvs) := by
  obtain ⟨G, g1, g2, g3⟩ := S.own
  obtain ⟨w, k1, k2⟩ := g3 0 n x rfl
  have hw : w = v := by
    have : some (some v) = some (some w) := k1
    cases this
    rfl
  subst hw
  refine ⟨G 0, k2, g2 0, S.sub, fun a z => S.dom a z.1, fun a z => S.sep a z.1, by have := S.len; simpa [argsE] using this, fun i a => G (i + 1) a, fun i j a h1 h2 => by have := g1 _ _ a h1 h2; omega, fun i a h => ⟨g2 _ a h, fun z => by have := g1 _ _ a h z; omega⟩, fun i m y e => ?_⟩
  obtain ⟨u, j1, j2⟩ := g3 (i + 1) m y (by simpa [argsE] using e)
  exact ⟨u, by simpa using j1, j2⟩
theorem call_in : ∀ {ms : List Nat} {sl : List (Option Nat)} {ps : List (Nat × PV)} {vs : List V} {ρ ρ' : Ev} {pvs : List PV} {O : Fp}, St0 K H0 H O σ ρ → callIn ms sl ps ρ = some (pvs, ρ') → ViewsM K H0 H σ sl ps vs →
    ∃ Oc Or : Fp, (∀ a, Oc a → O a) ∧ (∀ a, Or a → O a ∧ ¬ Oc a) ∧ St0 K H0 H Or σ ρ' ∧ St0 K H0 H Oc (vs.map some) (argsE ms pvs) ∧ vs.length = ms.length ∧ pvs.length = ms.length ∧ (ms.all (· == 0) = true → ∀ a, ¬ Oc a)
  | [], [], [], vs, ρ, ρ', pvs, O, S, e, w => by
    cases e
    cases vs with
    | cons _ _ => exact w.elim
    | nil => exact ⟨noF, O, fun _ z => z.elim, fun a z => ⟨z, id⟩, S, ⟨S.sub, fun _ z => z.elim, fun _ z => z.elim, rfl, fun _ => noF, fun _ _ _ z => z.elim, fun _ _ z => z.elim, fun i n x e => by cases e⟩, rfl, rfl, fun _ _ z => z⟩
  | 0 :: ms, none :: sl, p :: ps, vs, ρ, ρ', pvs, O, S, e, w => by
    have e' : (if shOk p = true then (callIn ms sl ps ρ).map fun z => (p.2 :: z.1, z.2) else none) = some (pvs, ρ') := e
    split at e'
    · rename_i hk
      obtain ⟨⟨q1, q2⟩, e1, e2⟩ := Option.map_eq_some_iff.mp e'
      cases e2
      cases vs with
      | nil => exact w.elim
      | cons v vs =>
        obtain ⟨⟨F, o⟩, w⟩ := w
        obtain ⟨Oc, Or, c1, c2, c3, c4, c5, c6, c7⟩ := call_in S e1 w
        have o0 : Own K H0 H p.2 0 v noF := own_imm o (by unfold shOk at hk; simpa using hk) fun _ _ z => z
        have z := c4.consA (F := noF) o0 (fun _ z => z.elim) (fun _ z => z.elim) fun _ z => z.elim
        refine ⟨noF.or Oc, Or, fun a z => z.elim False.elim (c1 a), fun a z => ⟨(c2 a z).1, fun y => y.elim False.elim (c2 a z).2⟩, c3, z, by rw [List.length_cons, List.length_cons, c5], by rw [List.length_cons, List.length_cons, c6], fun z a y => y.elim id (c7 (by simpa using z) a)⟩
    · cases e'
  | (m + 1) :: ms, some i :: sl, p :: ps, vs, ρ, ρ', pvs, O, S, e, w => by
    cases vs with
    | nil => exact w.elim
    | cons v vs =>
      obtain ⟨ev, w⟩ := w
      unfold callIn at e
      split at e
      · rename_i n y er
        split at e
        · rename_i hn
          subst hn
          obtain ⟨⟨q1, q2⟩, e1, e2⟩ := Option.map_eq_some_iff.mp e
          cases e2
          obtain ⟨v', F, f1, f2, f3, f4, f5⟩ := S.take er
          rw [ev] at f1
          cases f1
          obtain ⟨Oc, Or, c1, c2, c3, c4, c5, c6, c7⟩ := call_in f4 e1 w
          have z := c4.consA f2 (fun a z y => (c1 a y).2 z) (fun a z => S.dom a (f3 a z)) fun a z => S.sep a (f3 a z)
          exact ⟨F.or Oc, Or, fun a z => z.elim (f3 a) fun y => (c1 a y).1, fun a z => ⟨(c2 a z).1.1, fun y => y.elim (c2 a z).1.2 (c2 a z).2⟩, c3, z, by rw [List.length_cons, List.length_cons, c5], by rw [List.length_cons, List.length_cons, c6], fun z => by simp at z⟩
        · cases e
      · cases e
  | [], [], _ :: _, _, _, _, _, _, _, e, _ => by cases e
  | [], _ :: _, _, _, _, _, _, _, _, e, _ => by cases e
  | 0 :: _, [], _, _, _, _, _, _, _, e, _ => by cases e
  | (_ + 1) :: _, [], _, _, _, _, _, _, _, e, _ => by cases e
  | 0 :: _, none :: _, [], _, _, _, _, _, _, e, _ => by cases e
  | 0 :: _, some _ :: _, _, _, _, _, _, _, _, e, _ => by cases e
  | (_ + 1) :: _, none :: _, _, _, _, _, _, _, _, e, _ => by cases e
  | (_ + 1) :: _, some _ :: _, [], _, _, _, _, _, _, e, _ => by cases e
theorem call_out : ∀ {ms : List Nat} {sl : List (Option Nat)} {ps : List (Nat × PV)} {vs : List V} {ρ : Ev} {outs : List PV} {Or Oc : Fp} {H00 Hx : Hp}, ViewsM K H00 Hx σ sl ps vs → outs.length = ms.length → vs.length = ms.length → St0 K H0 H Or σ ρ → St0 K H0 H Oc (vs.map some) (argsE ms outs) → (∀ a, Oc a → ¬ Or a) →
    St0 K H0 H (Or.or Oc) σ (callOut ms sl outs ρ)
  | [], sl, ps, vs, ρ, outs, Or, Oc, H00, Hx, w, ho, hv, S, Sc, hd => by
    have e : callOut [] sl outs ρ = ρ := by cases sl <;> rfl
    rw [e]
    obtain ⟨G, g1, g2, g3⟩ := S.own
    exact ⟨S.sub, fun a z => z.elim (S.dom a) (Sc.dom a), fun a z => z.elim (S.sep a) (Sc.sep a), S.len, G, g1, fun i a z => .inl (g2 i a z), g3⟩
  | m :: ms, sl, ps, vs, ρ, [], Or, Oc, H00, Hx, w, ho, hv, S, Sc, hd => by cases ho
  | m :: ms, sl, ps, [], ρ, y :: ys, Or, Oc, H00, Hx, w, ho, hv, S, Sc, hd => by cases hv
  | m :: ms, [], ps, v :: vs, ρ, y :: ys, Or, Oc, H00, Hx, w, ho, hv, S, Sc, hd => by cases ps <;> exact w.elim
  | m :: ms, none :: sl, [], v :: vs, ρ, y :: ys, Or, Oc, H00, Hx, w, ho, hv, S, Sc, hd => w.elim
  | m :: ms, some i :: sl, [], v :: vs, ρ, y :: ys, Or, Oc, H00, Hx, w, ho, hv, S, Sc, hd => w.elim
  | m :: ms, none :: sl, p :: ps, v :: vs, ρ, y :: ys, Or, Oc, H00, Hx, w, ho, hv, S, Sc, hd => by
    obtain ⟨F, f1, f2, f3⟩ := Sc.unconsA
    have z := call_out (ρ := ρ) w.2 (by simpa using ho) (by simpa using hv) S f3 fun a z => hd a z.1
    show St0 K H0 H (Or.or Oc) σ (callOut ms sl ys ρ)
    obtain ⟨G, g1, g2, g3⟩ := z.own
    exact ⟨z.sub, fun a q => q.elim (S.dom a) (Sc.dom a), fun a q => q.elim (S.sep a) (Sc.sep a), z.len, G, g1, fun i a q => (g2 i a q).imp id fun q => q.1, g3⟩
  | m :: ms, some i :: sl, p :: ps, v :: vs, ρ, y :: ys, Or, Oc, H00, Hx, w, ho, hv, S, Sc, hd => by
    obtain ⟨F, f1, f2, f3⟩ := Sc.unconsA
    have hi : i < σ.length := (List.getElem?_eq_some_iff.mp w.1).1
    have S2 := S.set (i := i) (n := m) (x := y) (v := v) (B := F) ⟨fun a z => hd a (f2 a z), fun a z => Sc.dom a (f2 a z), fun a z => Sc.sep a (f2 a z)⟩ f1 hi
    have hs : σ.set i (some v) = σ := List.ext_getElem? fun j => by
      by_cases hj : i = j
      · subst hj
        rw [List.getElem?_set_self hi, w.1]
      · rw [List.getElem?_set_ne hj]
    rw [hs] at S2
    have z := call_out (ρ := ρ.set i (some (m, y))) w.2 (by simpa using ho) (by simpa using hv) S2 f3 fun a z y => y.elim (hd a z.1) z.2
    show St0 K H0 H (Or.or Oc) σ (callOut ms sl ys (ρ.set i (some (m, y))))
    obtain ⟨G, g1, g2, g3⟩ := z.own
    exact ⟨z.sub, fun a q => q.elim (S.dom a) (Sc.dom a), fun a q => q.elim (S.sep a) (Sc.sep a), z.len, G, g1, fun j a q => (g2 j a q).elim (fun q => q.imp id (f2 a)) fun q => .inr q.1, g3⟩
theorem call_run {W : WX} {ms : List Nat} {sl : List (Option Nat)} {f : FF} {af : AF} {Q : VK} (q : tF g W (eCall ms sl f af) σ H Q) : tM g W sl af σ H fun vs H1 => spF g ms f vs H1 Q (fun cls d H' => W cls d σ H') := by
  obtain ⟨H0, O, ρ, S, q⟩ := q
  refine ⟨H0, O, ρ, S, ?_⟩
  unfold eCall at q
  cases ea : af ρ with
  | bad => rw [ea] at q; exact q
  | exc c fs ρ' => rw [ea] at q; exact q
  | ok a =>
    rw [ea] at q
    simp only [Res.bind] at q
    intro vs H0' H' O' k hp S' w
    cases ei : callIn ms sl a.vs a.ρ with
    | none => rw [ei] at q; exact q.elim
    | some z =>
      obtain ⟨pvs, ρ'⟩ := z
      rw [ei] at q
      simp only [] at q
      obtain ⟨Oc, Or, c1, c2, c3, c4, c5, c6, c7⟩ := call_in S' ei w
      refine ⟨H0', Oc, pvs, c5, c6, c4, ?_⟩
      have rest : ∀ {H02 H2 : Hp} {O2 : Fp}, Same H02 H2 → Grow H0' H' Oc H02 H2 O2 → St0 g.K H02 H2 Or σ ρ' ∧ (∀ a, O2 a → ¬ Or a) := fun {H02 H2 O2} sb k2 => by
        obtain ⟨G, g1, g2, g3⟩ := c3.own
        refine ⟨⟨sb, fun a z => k2.mut (c3.dom a z) (c2 a z).2, fun a z => ?_, c3.len, G, g1, g2, fun i n x e => ?_⟩, fun a z y => ?_⟩
        · cases q0 : H02 a with
          | none => rfl
          | some o =>
            rcases k2.nsh a (by rw [q0]; exact Option.some_ne_none _) with y | y | y
            · exact absurd (c3.sep a z) y
            · exact absurd y (c2 a z).2
            · exact (mut_not (c3.dom a z) y).elim
        · obtain ⟨v, e1, e2⟩ := g3 i n x e
          exact ⟨v, e1, own_tr k2.sh _ _ _ _ _ e2 (fun a o z e => k2.keep a o e (c2 a (g2 i a z)).2) fun _ z => z⟩
        · rcases k2.own a z with u | u
          · exact (c2 a y).2 u
          · exact mut_ne (c3.dom a y) u
      have big : ∀ {H02 H2 : Hp} {O2 : Fp}, Grow H0' H' Oc H02 H2 O2 → Grow H0 H O H02 H2 (Or.or O2) := fun {H02 H2 O2} k2 => by
        refine Grow.trans0 k ⟨k2.sh, fun a o e n => k2.keep a o e fun z => n (c1 a z), k2.dom, fun a z => ?_, fun a z => ?_⟩
        · rcases z with z | z
          · exact .inl (c2 a z).1
          · exact (k2.own a z).imp (c1 a) id
        · rcases k2.nsh a z with y | y | y
          · exact .inl y
          · exact .inr (.inl (c1 a y))
          · exact .inr (.inr y)
      cases ef : f pvs with
      | bad => rw [ef] at q; exact q.elim
      | ok lv x outs =>
        rw [ef] at q
        simp only [] at q
        by_cases hl : outs.length = ms.length
        case neg => rw [if_neg hl] at q; exact q.elim
        rw [if_pos hl] at q
        refine ⟨hl, fun v H02 H2 O2 B k2 S2 T2 o => ?_⟩
        obtain ⟨r1, r2⟩ := rest S2.sub (k2.mono fun a z => .inl z)
        have bg := big k2
        refine q v H02 H2 (Or.or O2) B (bg.mono fun a z => ?_) (fun z => ?_) (call_out w hl c5 r1 S2 r2) ⟨fun a z y => ?_, T2.dom, T2.sep⟩ (by simpa using o)
        · rcases z with (z | z) | z
          · exact .inl z
          · exact .inr (.inl z)
          · exact .inr (.inr z)
        · have z' := Bool.and_eq_true_iff.mp z
          have no := c7 z'.2
          exact L2.Same.trans (hp z'.1) fun a o e => k2.keep a o e (no a)
        · rcases y with y | y
          · rcases k2.own a (.inr z) with u | u
            · exact (c2 a y).2 u
            · exact mut_ne (c3.dom a y) u
          · exact T2.off a z y
      | exc c fs outs =>
        rw [ef] at q
        simp only [] at q
        by_cases hl : outs.length = ms.length
        case neg => rw [if_neg hl] at q; exact q.elim
        rw [if_pos hl] at q
        refine ⟨hl, fun H02 H2 O2 d k2 S2 ex => ?_⟩
        obtain ⟨r1, r2⟩ := rest S2.sub k2
        exact q H02 H2 (Or.or O2) d (big k2) (call_out w hl c5 r1 S2 r2) ex
theorem pe_callS0 {CX : CXT} {k : Nat} {f : Addr} {fd : FuncData} {ps : List Str} {sp : Sp} {E : L2.St → XK} {x : Str} {p pos : Pos} (F : FnOk X.prog X.w X.K X.mg X.base CX k f fd ps sp) (hr : Room k X.A) (hg : Gl X x) (hm : X.mg x = some (.ref f)) (hk : PySem.W.keepIn X.K (.ref f) = true) (hb : Binds X.K fd ps []) (hx : ∀ σ, PassesAt CX X σ (E σ))
    (hdb : (x == ("__debug__" : Str)) = false) : PE X (.Call (.Name x p) [] [] pos) (tCallS sp E tNil) := by
  refine ⟨fun pins s σ H Q I h => ?_⟩
  refine wpAny_Call_Name_kw (ld_glob I hg hm ?_ hdb)
  exact PySem.W.callWith_K0 I.kIn hk (run_fnS (us := []) F hr hb (hx σ) I .nil h)
theorem ev_call {x : Str} {p pos : Pos} {e : Expr} {es : List Expr} {ms : List Nat} {sl : List (Option Nat)} {f : FF} {af : AF} {k : Nat} (C : Callee g x ms f k) (hg : IsGl Γ x) (hk : k ≤ Γ.lv) (hh : Γ.hot = false) (ha : AM g Γ (e :: es) sl af) (hs : noStars (e :: es) = true) :
    EV g Γ (.Call (.Name x p) (e :: es) [] pos) (eCall ms sl f af) := fun X W F => by
  obtain ⟨a, fd, ps, hm, kp, b, fn⟩ := C.ex
  have fn' : FnOk X.prog X.w X.K X.mg X.base (L2.CX X.prog X.w) k a fd ps (spF g ms f) := by
    rw [F.prog, F.w, F.K, F.mg, F.base]; exact fn
  refine PE.imp (pe_callS (E := WE W) fn' ((F.room hh).mono hk) (IsGl.of F hg) (by rw [F.mg]; exact hm) (by rw [F.K]; exact kp) (by rw [F.K]; exact b) (fun σ => passAt F.takes σ) (ha X W F) C.db (star_cons (noStars_all hs _ List.mem_cons_self)) (star_any fun y hy => noStars_all hs _ (List.mem_cons_of_mem _ hy))) fun σ H Q q => ?_
  exact call_run q
theorem ev_call0 {x : Str} {p pos : Pos} {f : FF} {k : Nat} (C : Callee g x [] f k) (hg : IsGl Γ x) (hk : k ≤ Γ.lv) (hh : Γ.hot = false) :
    EV g Γ (.Call (.Name x p) [] [] pos) (eCall [] [] f aNil) := fun X W F => by
  obtain ⟨a, fd, ps, hm, kp, b, fn⟩ := C.ex
  have fn' : FnOk X.prog X.w X.K X.mg X.base (L2.CX X.prog X.w) k a fd ps (spF g [] f) := by
    rw [F.prog, F.w, F.K, F.mg, F.base]; exact fn
  refine PE.imp (pe_callS0 (E := WE W) fn' ((F.room hh).mono hk) (IsGl.of F hg) (by rw [F.mg]; exact hm) (by rw [F.K]; exact kp) (by rw [F.K]; exact b) (fun σ => passAt F.takes σ) C.db) fun σ H Q q => ?_
  obtain ⟨H0, O, ρ, S, q⟩ := call_run q
  exact q [] H0 H O .refl (fun _ _ _ z => z) S True.intro
end
end Pv

set_option maxRecDepth 100000
set_option maxHeartbeats 1000000
namespace Pv
open PySem PySem.Spec PyProof.Rows L2

/-! ## own exceptions with fields -/
/-- what the written part must say of such a class, decidably -/
def oexB (K : PySem.W.Frag) (C : Addr) : Bool := (match K.lookup C with
    | some ⟨.type "type", _, .cls cd, sl⟩ => (match cd.mro, sl.toList with
      | .ref C' :: bm, [_, _, _, _, some (.builtin n), _] => C' == C && (n == "ValueError.__new__" && (cd.hasDict && (!cd.hasDel && PySem.HandSPX.refsVE bm)))
      | _, _ => false)
    | _ => false) && (decide (PySem.W.findIn K (.ref C) "__setattr__" = some (some (.builtin "object.__setattr__"))) && (decide (PySem.W.subIn K (.ref C) (.type "BaseException") = some true) && (decide (PySem.W.typeIn K (.ref C) = some (.type "type")) && PySem.W.keepIn K (.ref C))))
theorem and2 {a b : Bool} (h : (a && b) = true) : a = true ∧ b = true := by cases a <;> cases b <;> simp_all
theorem oexB_ok {K : PySem.W.Frag} {C : Addr} (h : oexB K C = true) : OexC K C := by
  obtain ⟨h0, h⟩ := and2 h
  obtain ⟨h1, h⟩ := and2 h
  obtain ⟨h2, h⟩ := and2 h
  obtain ⟨h3, h4⟩ := and2 h
  refine ⟨?_, of_decide_eq_true h1, of_decide_eq_true h2, of_decide_eq_true h3, h4⟩
  clear h1 h2 h3 h4
  split at h0
  case h_2 => cases h0
  case h_1 dd cd sl ho =>
    split at h0
    case h_2 => cases h0
    case h_1 C' bm k0 k1 k2 k3 n k5 hm hs =>
      obtain ⟨a1, h0⟩ := and2 h0
      obtain ⟨a2, h0⟩ := and2 h0
      obtain ⟨a3, h0⟩ := and2 h0
      obtain ⟨a4, a5⟩ := and2 h0
      obtain rfl := eq_of_beq a1
      obtain rfl := eq_of_beq a2
      have a4' : cd.hasDel = false := by simpa using a4
      obtain ⟨c1, c2, c3, c4, c5, c6, c7, c8, c9, c10, c11⟩ := cd
      obtain ⟨l⟩ := sl
      dsimp only at hm a3 a4' hs
      subst hm a4' a3 hs
      exact ⟨c1, c5, c4, c2, bm, c7, c8, c9, c10, dd, k0, k1, k2, k3, k5, ho, a5⟩

/-- making an own exception: its class's name, its fields' names -/
structure ExK (g : Prg) (x c : Str) (fs : List Str) : Prop where
  go : ∀ {Γ : Sx} {X : Cx} {W : WX}, Fits g Γ X W → Γ.hot = false → 2 ≤ Γ.lv → Gl X x → ∀ (e : Expr) (es : List Expr) (af : AF) (p pos : Pos), (∀ y ∈ e :: es, noStar y = true) → AV g Γ (e :: es) af →
    PMk X (.Call (.Name x p) (e :: es) [] pos) (fun σ H Q => tA g W af σ H fun vs H1 => vs.length = fs.length ∧ ∀ d, H1 d = none → Q (.ref (g.ea c)) (some d) (upd H1 d (.xd (fs.zip vs).reverse)))
theorem tA_mono {g : Prg} {W : WX} {af : AF} {σ : L2.St} {H : Hp} {Q Q' : List V → Hp → Prop} (h : tA g W af σ H Q) (k : ∀ vs H1, Q vs H1 → Q' vs H1) : tA g W af σ H Q' := by
  obtain ⟨H0, O, ρ, S, q⟩ := h
  refine ⟨H0, O, ρ, S, ?_⟩
  cases e : af ρ with
  | bad => rw [e] at q; exact q
  | exc c fs ρ' => rw [e] at q; exact q
  | ok a =>
    rw [e] at q
    exact fun vs H0' H' O' g1 g2 g3 g4 => k _ _ (q vs H0' H' O' g1 g2 g3 g4)
section
variable {P : Program} {w : World} {K : PySem.W.Frag} {mg : Str → Option Value} {base : Heap} {params : Arguments} {scope : Scope} {dvs : List V} {kws : List (Str × V)} {fI : Addr} {fd : FuncData} {qual : Str}
def spI1 (K : PySem.W.Frag) (f : Str) : Sp := fun vs H Q E => ∃ (a : Addr) (v : V) (C : Addr), vs = [.ref a, v] ∧ OexC K C ∧ PySem.W.findIn K (.ref C) f = some none ∧ H a = some (exo a C none) ∧ ∀ dx, H dx = none → dx ≠ a → Q .non (upd (upd H dx (exd dx [(f, v)])) a (exo a C (some dx)))
def spI2 (K : PySem.W.Frag) (f f2 : Str) : Sp := fun vs H Q E => ∃ (a : Addr) (v v2 : V) (C : Addr), vs = [.ref a, v, v2] ∧ OexC K C ∧ PySem.W.findIn K (.ref C) f = some none ∧ PySem.W.findIn K (.ref C) f2 = some none ∧ H a = some (exo a C none) ∧
  ∀ dx, H dx = none → dx ≠ a → Q .non (upd (upd (upd H dx (exd dx [(f, v)])) a (exo a C (some dx))) dx (exd dx [(f2, v2), (f, v)]))
theorem init1_ok {n1 f : Str} {p1 p2 p3 p4 : Pos} (F : FunD K "__init__" qual params [.Assign [.Attribute (.Name "self" p1) f p2] (.Name n1 p3) p4] scope dvs kws fI fd) (S : FnScope ["self", n1] ["self", n1] scope)
    (d1 : (n1 == ("__debug__" : Str)) = false) (d2 : (n1 == ("__classdict__" : Str)) = false) : FnOk P w K mg base (L2.CX P w) 1 fI fd ["self", n1] (spI1 K f) := by
  refine F.ok S (fun vs H Q E ⟨_, _, _, h, _⟩ => by rw [h]; rfl) fun cdv A outer s H vs Q E hr ⟨a, v, C, ev, T, no, ea, q⟩ => ?_
  have v1 : Vis scope "self" := (S.par _ List.mem_cons_self).imp id .inl
  have v2 : Vis scope n1 := (S.par _ (List.mem_cons_of_mem _ List.mem_cons_self)).imp id .inl
  refine ⟨_, pss_one (ps_ost (pe_var (i := 0) rfl v1) (pe_var (i := 1) rfl v2 d1 d2)), ?_⟩
  subst ev
  exact ⟨v, rfl, .ref a, rfl, a, C, rfl, T, no, .inl ⟨ea, fun dx h1 h2 => q dx h1 h2⟩⟩
theorem init2_ok {n1 n2 f f2 : Str} {p1 p2 p3 p4 q1 q2 q3 q4 : Pos} (F : FunD K "__init__" qual params [.Assign [.Attribute (.Name "self" p1) f p2] (.Name n1 p3) p4, .Assign [.Attribute (.Name "self" q1) f2 q2] (.Name n2 q3) q4] scope dvs kws fI fd)
    (S : FnScope ["self", n1, n2] ["self", n1, n2] scope) (d1 : (n1 == ("__debug__" : Str)) = false) (d2 : (n1 == ("__classdict__" : Str)) = false) (d3 : (n2 == ("__debug__" : Str)) = false) (d4 : (n2 == ("__classdict__" : Str)) = false) :
    FnOk P w K mg base (L2.CX P w) 1 fI fd ["self", n1, n2] (spI2 K f f2) := by
  refine F.ok S (fun vs H Q E ⟨_, _, _, _, h, _⟩ => by rw [h]; rfl) fun cdv A outer s H vs Q E hr ⟨a, v, v', C, ev, T, no, no2, ea, q⟩ => ?_
  have v1 : Vis scope "self" := (S.par _ List.mem_cons_self).imp id .inl
  have v2 : Vis scope n1 := (S.par _ (List.mem_cons_of_mem _ List.mem_cons_self)).imp id .inl
  have v3 : Vis scope n2 := (S.par _ (List.mem_cons_of_mem _ (List.mem_cons_of_mem _ List.mem_cons_self))).imp id .inl
  refine ⟨_, pss_cons (ps_ost (pe_var (i := 0) rfl v1) (pe_var (i := 1) rfl v2 d1 d2)) (pss_one (ps_ost (pe_var (i := 0) rfl v1) (pe_var (i := 2) rfl v3 d3 d4))), ?_⟩
  subst ev
  refine ⟨v, rfl, .ref a, rfl, a, C, rfl, T, no, .inl ⟨ea, fun dx h1 h2 => ?_⟩⟩
  refine ⟨v', rfl, .ref a, rfl, a, C, rfl, T, no2, .inr ⟨dx, [(f, v)], upd_same, ?_, by simp, q dx h1 h2⟩⟩
  rw [upd_ne h2, upd_same]
end
/-- the class's facts -/
structure ExF (g : Prg) (x c : Str) : Prop where
  T : OexC g.K (g.ea c)
  gl : g.mg x = some (.ref (g.ea c))
  db : (x == ("__debug__" : Str)) = false
section
variable {g : Prg} {x c qual : Str} {params : Arguments} {scope : Scope} {kws : List (Str × V)} {fI : Addr} {fd : FuncData}
theorem heap_end {H : Hp} {a d : Addr} {o o2 o3 : HO} {u : HO} (ha : H a = none) (hne : d ≠ a) : upd (del (upd (upd (upd H a o) d o2) a o3) a) d u = upd H d u := by
  funext b
  by_cases hb : b = d
  · rw [hb, upd_same, upd_same]
  · rw [upd_ne hb, upd_ne hb]
    by_cases h2 : b = a
    · rw [h2, del_same, ha]
    · rw [del_ne h2, upd_ne h2, upd_ne hb, upd_ne h2]
theorem heap_end2 {H : Hp} {a d : Addr} {o o2 o3 o4 : HO} {u : HO} (ha : H a = none) (hne : d ≠ a) : upd (del (upd (upd (upd (upd H a o) d o2) a o3) d o4) a) d u = upd H d u := by
  funext b
  by_cases hb : b = d
  · rw [hb, upd_same, upd_same]
  · rw [upd_ne hb, upd_ne hb]
    by_cases h2 : b = a
    · rw [h2, del_same, ha]
    · rw [del_ne h2, upd_ne hb, upd_ne h2, upd_ne hb, upd_ne h2]
theorem exk1 {n1 f : Str} {p1 p2 p3 p4 : Pos} (E : ExF g x c) (F : FunD g.K "__init__" qual params [.Assign [.Attribute (.Name "self" p1) f p2] (.Name n1 p3) p4] scope [] kws fI fd) (S : FnScope ["self", n1] ["self", n1] scope)
    (d1 : (n1 == ("__debug__" : Str)) = false) (d2 : (n1 == ("__classdict__" : Str)) = false) (hb : Binds g.K fd ["self", n1] [])
    (iC : PySem.W.findIn g.K (.ref (g.ea c)) "__init__" = some (some (.ref fI))) (tI : PySem.W.typeIn g.K (.ref fI) = some (.type "function")) (no : PySem.W.findIn g.K (.ref (g.ea c)) f = some none) : ExK g x c [f] := by
  refine ⟨fun {Γ X W} Fi hh hl hg e es af p pos hs ha => ?_⟩
  have F1 : FnOk X.prog X.w X.K X.mg X.base (L2.CX X.prog X.w) 1 fI fd ["self", n1] (spI1 X.K f) := by
    rw [Fi.prog, Fi.w, Fi.K, Fi.mg, Fi.base]; exact init1_ok F S d1 d2
  have M := pmk_oex (p := p) (pos := pos) (C := g.ea c) (ds := []) (dvs := []) (by rw [Fi.K]; exact E.T) (by rw [Fi.K]; exact iC) (by rw [Fi.K]; exact tI) F1 ((Fi.room hh).mono hl) (by rw [Fi.K]; exact hb) .nil passL hg (by rw [Fi.mg]; exact E.gl) (ha X W Fi) E.db (star_cons (hs _ List.mem_cons_self)) (star_any fun y hy => hs _ (List.mem_cons_of_mem _ hy))
  intro pins s σ H Q I h
  refine M pins s σ H Q I (tA_mono h fun vs H1 ⟨hn, q⟩ => ?_)
  match vs, hn with
  | [v], _ =>
    refine ⟨by simp, fun a ha => ⟨a, v, g.ea c, rfl, by rw [Fi.K]; exact E.T, by rw [Fi.K]; exact no, upd_same, fun dx h1 h2 => ⟨rfl, dx, [(f, v)], upd_same, ?_, ?_, ?_⟩⟩⟩
    · rw [upd_ne h2, upd_same]
    · rw [upd_ne h2] at h1; exact h1
    · rw [heap_end ha h2]
      exact q dx (by rw [upd_ne h2] at h1; exact h1)
theorem exk2 {n1 n2 f f2 : Str} {p1 p2 p3 p4 q1 q2 q3 q4 : Pos} (E : ExF g x c) (F : FunD g.K "__init__" qual params [.Assign [.Attribute (.Name "self" p1) f p2] (.Name n1 p3) p4, .Assign [.Attribute (.Name "self" q1) f2 q2] (.Name n2 q3) q4] scope [] kws fI fd)
    (S : FnScope ["self", n1, n2] ["self", n1, n2] scope) (d1 : (n1 == ("__debug__" : Str)) = false) (d2 : (n1 == ("__classdict__" : Str)) = false) (d3 : (n2 == ("__debug__" : Str)) = false) (d4 : (n2 == ("__classdict__" : Str)) = false) (hb : Binds g.K fd ["self", n1, n2] [])
    (iC : PySem.W.findIn g.K (.ref (g.ea c)) "__init__" = some (some (.ref fI))) (tI : PySem.W.typeIn g.K (.ref fI) = some (.type "function")) (no : PySem.W.findIn g.K (.ref (g.ea c)) f = some none) (no2 : PySem.W.findIn g.K (.ref (g.ea c)) f2 = some none) : ExK g x c [f, f2] := by
  refine ⟨fun {Γ X W} Fi hh hl hg e es af p pos hs ha => ?_⟩
  have F1 : FnOk X.prog X.w X.K X.mg X.base (L2.CX X.prog X.w) 1 fI fd ["self", n1, n2] (spI2 X.K f f2) := by
    rw [Fi.prog, Fi.w, Fi.K, Fi.mg, Fi.base]; exact init2_ok F S d1 d2 d3 d4
  have M := pmk_oex (p := p) (pos := pos) (C := g.ea c) (ds := []) (dvs := []) (by rw [Fi.K]; exact E.T) (by rw [Fi.K]; exact iC) (by rw [Fi.K]; exact tI) F1 ((Fi.room hh).mono hl) (by rw [Fi.K]; exact hb) .nil passL hg (by rw [Fi.mg]; exact E.gl) (ha X W Fi) E.db (star_cons (hs _ List.mem_cons_self)) (star_any fun y hy => hs _ (List.mem_cons_of_mem _ hy))
  intro pins s σ H Q I h
  refine M pins s σ H Q I (tA_mono h fun vs H1 ⟨hn, q⟩ => ?_)
  match vs, hn with
  | [v, v2], _ =>
    refine ⟨by simp, fun a ha => ⟨a, v, v2, g.ea c, rfl, by rw [Fi.K]; exact E.T, by rw [Fi.K]; exact no, by rw [Fi.K]; exact no2, upd_same, fun dx h1 h2 => ⟨rfl, dx, [(f2, v2), (f, v)], ?_, upd_same, ?_, ?_⟩⟩⟩
    · rw [upd_ne (Ne.symm h2), upd_same]
    · rw [upd_ne h2] at h1; exact h1
    · rw [heap_end2 ha h2]
      exact q dx (by rw [upd_ne h2] at h1; exact h1)
end

/-! ## raise -/
def sRaise (c : Str) (fs : List Str) (af : AF) : SF := fun ρ => match af ρ with
  | .ok a => if a.vs.length = fs.length ∧ a.vs.all shOk = true then .exc c (fs.zip (a.vs.map (·.2))) a.ρ else .bad
  | .exc c fs ρ' => .exc c fs ρ'
  | .bad => .bad
section
variable {g : Prg} {Γ : Sx} {K : PySem.W.Frag} {H0 H : Hp}
theorem lookup_append' {α β : Type} [BEq α] (l1 l2 : List (α × β)) (k : α) : (l1 ++ l2).lookup k = (l1.lookup k).or (l2.lookup k) := by
  induction l1 with
  | nil => rfl
  | cons p r ih =>
    obtain ⟨a, b⟩ := p
    simp only [List.cons_append, List.lookup_cons]
    cases e : k == a with
    | true => rfl
    | false => exact ih
theorem fields_own : ∀ {fs : List Str} {ps : List (Nat × PV)} {vs : List V} {l : List (Str × V)}, (∀ f ∈ fs, l.lookup f = none) → fs.Nodup → ps.length = fs.length → ps.all shOk = true → Views K H0 H ps vs → OwnF K H0 H (fs.zip (ps.map (·.2))) ((fs.zip vs).reverse ++ l)
  | [], _, _, _, _, _, _, _, _ => True.intro
  | f :: fs, [], _, _, _, _, e, _, _ => by cases e
  | f :: fs, p :: ps, vs, l, hl, nd, e, ok, w => by
    cases w with
    | cons o w =>
      rename_i v vs
      obtain ⟨F, o⟩ := o
      have ok' : shOk p = true ∧ ps.all shOk = true := by simpa using ok
      have o0 : Own K H0 H p.2 0 v noF := own_imm o (by have := ok'.1; unfold shOk at this; simpa using this) fun _ _ z => z
      have nd' := List.nodup_cons.mp nd
      have e1 : ((f, v) :: fs.zip vs).reverse ++ l = (fs.zip vs).reverse ++ ((f, v) :: l) := by simp
      show (∃ u, (((f, v) :: fs.zip vs).reverse ++ l).lookup f = some u ∧ Own K H0 H p.2 0 u noF) ∧ OwnF K H0 H (fs.zip (ps.map (·.2))) (((f, v) :: fs.zip vs).reverse ++ l)
      rw [e1]
      refine ⟨⟨v, ?_, o0⟩, fields_own (fun f' hf => ?_) nd'.2 (by simpa using e) ok'.2 w⟩
      · rw [lookup_append']
        have : (fs.zip vs).reverse.lookup f = none := by
          rw [List.lookup_eq_none_iff]
          intro q hq
          have := (List.of_mem_zip (List.mem_reverse.mp hq)).1
          simp only [beq_eq_false_iff_ne, ne_eq, bne_iff_ne]
          intro z
          exact nd'.1 (by rw [z]; exact this)
        rw [this]
        simp
      · rw [List.lookup_cons]
        have : (f' == f) = false := by
          simp only [beq_eq_false_iff_ne, ne_eq]
          intro z
          exact nd'.1 (by rw [← z]; exact hf)
        rw [this]
        exact hl f' (List.mem_cons_of_mem _ hf)
theorem sv_raise {x c : Str} {fs : List Str} {e : Expr} {es : List Expr} {af : AF} {p pos pos' : Pos} (E : ExK g x c fs) (nd : fs.Nodup) (hg : IsGl Γ x) (hh : Γ.hot = false) (hl : 2 ≤ Γ.lv) (ha : AV g Γ (e :: es) af) (hs : noStars (e :: es) = true) :
    SV g Γ (.Raise (some (.Call (.Name x p) (e :: es) [] pos)) none pos') (sRaise c fs af) := fun X W F => by
  refine PS.imp (ps_raise (F.calm hh) F.takes (E.go F hh hl (IsGl.of F hg) e es af p pos (noStars_all hs) ha)) fun D σ H ⟨H0, O, ρ, S, q⟩ => ⟨H0, O, ρ, S, ?_⟩
  unfold sRaise at q
  cases ea : af ρ with
  | bad => rw [ea] at q; exact q.elim
  | exc c fs ρ' =>
    rw [ea] at q
    exact fun H0' H' O' d k S' x => q σ H0' H' O' d k S' x .refl
  | ok a =>
    rw [ea] at q
    intro vs H0' H' O' k hp S' w
    simp only [] at q
    by_cases hc : a.vs.length = fs.length ∧ a.vs.all shOk = true
    case neg => rw [if_neg hc] at q; exact q.elim
    rw [if_pos hc] at q
    refine ⟨by rw [views_len w, hc.1], fun d hd => ?_⟩
    have nO : ¬ O' d := fun z => mut_ne (S'.dom d z) hd
    have h0d : H0' d = none := by
      cases e : H0' d with
      | none => rfl
      | some o => rw [S'.sub _ _ e] at hd; cases hd
    have sm : Same H0' (upd H0' d (.xd (fs.zip vs).reverse)) := fun b o e => by
      rw [upd_ne fun z => by rw [z, h0d] at e; cases e]; exact e
    obtain ⟨G, g1, g2, g3⟩ := S'.own
    refine q σ (upd H0' d (.xd (fs.zip vs).reverse)) _ O' (some d) (k.trans0 ⟨sm, fun b o e n => ?_, fun b z => ?_, fun b z => .inl z, fun b z => ?_⟩) ⟨fun b o e => ?_, fun b z => ?_, fun b z => ?_, S'.len, G, g1, g2, fun i n x e => ?_⟩ ?_ .refl
    · rw [upd_ne fun z => by rw [z, hd] at e; cases e]; exact e
    · by_cases hb : b = d
      · rw [hb, upd_same]; exact Option.some_ne_none _
      · rw [upd_ne hb]; exact z
    · by_cases hb : b = d
      · exact .inr (.inr (.inl (by rw [hb]; exact hd)))
      · rw [upd_ne hb] at z; exact .inl z
    · by_cases hb : b = d
      · subst hb
        rw [upd_same] at e ⊢; exact e
      · rw [upd_ne hb] at e ⊢; exact S'.sub _ _ e
    · rw [upd_ne fun z' => nO (by rw [← z']; exact z)]; exact S'.dom b z
    · rw [upd_ne fun z' => nO (by rw [← z']; exact z)]; exact S'.sep b z
    · obtain ⟨v, e1, e2⟩ := g3 i n x e
      refine ⟨v, e1, own_tr sm _ _ _ _ _ e2 (fun b o hF e => ?_) fun _ z => z⟩
      rw [upd_ne fun z' => nO (by rw [← z']; exact g2 i b hF)]; exact e
    · refine .inr ⟨d, _, rfl, upd_same, ?_⟩
      have := fields_own (l := []) (fun f hf => rfl) nd hc.1 hc.2 w
      rw [List.append_nil] at this
      exact ownF_tr sm _ _ this
end
end Pv

set_option maxRecDepth 100000
set_option maxHeartbeats 1000000
namespace Pv
open PySem PySem.Spec PyProof.Rows L2

/-! ## try with clauses, each with or without a name -/
abbrev Cl : Type := Value × Option Nat × (Addr → Value → Option Addr → TS)
def clear (i : Nat) (D : Ends) : Ends := { nx := fun σ H => D.nx (σ.set i none) H, bk := fun σ H => D.bk (σ.set i none) H, ct := fun σ H => D.ct (σ.set i none) H, rt := D.rt }
def wCl (K : PySem.W.Frag) (W : WX) (D : Ends) : List Cl → WX
  | [] => W
  | (c, o, ts) :: r => fun cls d σ H => ∃ b, PySem.W.exmOne K cls c = some b ∧ (b = false → wCl K W D r cls d σ H) ∧ (b = true → ∀ a, H a = none → match o with
      | none => ts a cls d D σ H
      | some i => ts a cls d (clear i D) (σ.set i (some (.ref a))) H)
inductive ClOk (X : Cx) : List ExceptHandler → List Cl → Prop
  | nil : ClOk X [] []
  | plain {x : Str} {c : Value} {ts : Addr → Value → Option Addr → TS} {st : Stmt} {suite : List Stmt} {np ep : Pos} {hs : List ExceptHandler} {l : List Cl} (hc : Names X x c)
      (ok : ∀ (a : Addr) (oe : Obj) (cls : Value) (d : Option Addr) (pn : List (Addr × Obj)), Zc cls d oe → (∃ vs, oe.data = .fields vs) → PSs (X.suite a ((a, oe) :: pn)) (st :: suite) (ts a cls d)) (r : ClOk X hs l) :
      ClOk X (.ExceptHandler (some (.Name x np)) none (st :: suite) ep :: hs) ((c, none, ts) :: l)
  | named {x n : Str} {c : Value} {i : Nat} {ts : Addr → Value → Option Addr → TS} {st : Stmt} {suite : List Stmt} {np ep : Pos} {hs : List ExceptHandler} {l : List Cl} (hc : Names X x c) (hN : X.N.Nodup) (hi : X.N[i]? = some n) (hk : X.env.kindOf n = some .local)
      (ok : ∀ (a : Addr) (oe : Obj) (cls : Value) (d : Option Addr) (pn : List (Addr × Obj)), Zc cls d oe → (∃ vs, oe.data = .fields vs) → PSs (X.suite a ((a, oe) :: pn)) (st :: suite) (ts a cls d)) (r : ClOk X hs l) :
      ClOk X (.ExceptHandler (some (.Name x np)) (some n) (st :: suite) ep :: hs) ((c, some i, ts) :: l)
section
variable {X : Cx} {body : List Stmt} {h1 : ExceptHandler} {hds : List ExceptHandler} {l : List Cl} {pos : Pos} {tb : WX → TS} {W : WX}
theorem sp_back {pins q : List (Addr × Obj)} {D : Ends} {a : Addr} {oe : Obj} {f : Flow} {s : Shared} (ok : X.Ok) (h : SP (X.suite a ((a, oe) :: (X.pn ++ pins))) q D f s) : SP X pins D f s := by
  cases f with
  | next => obtain ⟨σ6, H6, J, q⟩ := h; exact ⟨σ6, H6, J.unsuite ok, q⟩
  | brk => obtain ⟨σ6, H6, J, q⟩ := h; exact ⟨σ6, H6, J.unsuite ok, q⟩
  | cont => obtain ⟨σ6, H6, J, q⟩ := h; exact ⟨σ6, H6, J.unsuite ok, q⟩
  | ret u => obtain ⟨v6, σ6, H6, J, r, q⟩ := h; exact ⟨v6, σ6, H6, J.unsuite ok, r, q⟩
theorem ps_try_cl (ss : X.stack = X.env :: X.outer) (ff : X.env.frame = some X.env.locals) (tk : Takes X W)
    (hb : ∀ (W' : WX) (pn : List (Addr × Obj)) (xe : Value → Shared → Prop), Takes (X.tr pn xe) W' → PassesOwn (model X.prog X.w) X.A X.env xe → PSs (X.tr pn xe) body (tb W'))
    (hcl : ClOk X (h1 :: hds) l) : PS X (.Try body (h1 :: hds) [] [] pos) (fun D σ H => tb (wCl X.K W D l) D σ H) := by
  refine ⟨fun pins s σ H D I h => ?_⟩
  have ok := I.ok
  have fr0 : X.A.frames = some (X.env :: X.outer) := by rw [ok.frames, ss]
  refine wpAny_Try_except (wpAny_mono ((hb (wCl X.K W D l) (X.pn ++ pins) (fun e z => wpAny (model X.prog X.w) X.A (noteFrame e X.env) (fun _ z2 => wpAny (model X.prog X.w) X.A (setFlight e none) (fun _ z3 =>
    wpAny (model X.prog X.w) X.A (handleBy e X.env (h1 :: hds)) (SP X pins D) X.xe z3) X.xe z2) X.xe z) (fun u s' xx => ?_) PassesOwn.looking).run [] s σ H D (I.toTry _) h) (fun f z hz => ?_) (fun e z hz => hz))
  case refine_2 =>
    cases f with
    | next => obtain ⟨σ6, H6, J, q⟩ := hz; exact wpAny_execs_nil ⟨σ6, H6, J.ofTry ok, q⟩
    | brk => obtain ⟨σ6, H6, J, q⟩ := hz; exact ⟨σ6, H6, J.ofTry ok, q⟩
    | cont => obtain ⟨σ6, H6, J, q⟩ := hz; exact ⟨σ6, H6, J.ofTry ok, q⟩
    | ret u => obtain ⟨v6, σ6, H6, J, r, q⟩ := hz; exact ⟨v6, σ6, H6, J.ofTry ok, r, q⟩
  obtain ⟨a, B, sI, pi, σe, He, cls, d, rfl, Je, nb, up, sk, na, os, ag, w⟩ := xx
  have J : Inv X pins σe He sI := Je.ofTry ok
  have sk' : Sky B (X.env :: X.outer) a (Zc cls d) X.env.locals s'.heap := by rw [← ss]; exact sk
  show wpAny (model X.prog X.w) X.A (noteFrame (.ref a) X.env) _ _ _
  refine Sky.land Zc.steady fr0 ff sk' fun g3 fl g3u => ?_
  have K3 : Inv X pins σe He { s' with heap := g3 } := J.landed nb fl.1 (up.trans g3u) os ag
  obtain ⟨ob, fv, hob, zob, fob⟩ := fl.there
  have nofr : a ∉ frs (X.env :: X.outer) := fun hm => by
    obtain ⟨_, o', e', hnf⟩ := fl.2.2.1.mem hm
    rw [hob] at e'
    cases e'
    exact hnf _ fob
  have nL : a ≠ X.env.locals := fun z => nofr (List.mem_filterMap.mpr ⟨X.env, List.mem_cons_self, by rw [ff, z]⟩)
  have nF : a ∉ X.fs := fun hm => by
    obtain ⟨e, he, q⟩ := List.mem_filterMap.mp hm
    exact nofr (List.mem_filterMap.mpr ⟨e, List.mem_cons_of_mem _ he, q⟩)
  have T3 := K3.suite hob fob na nL nF
  have test : ∀ {x : Str} {c : Value} {np : Pos} {Q : Value → Shared → Prop} {E : Value → Shared → Prop}, Names X x c → Q c { s' with heap := g3 } → wpAny (model X.prog X.w) (X.A.mark (some (.ref a))) (eval (.Name x np) X.env) Q E { s' with heap := g3 } := fun {x c np Q E} hc q => by
    obtain ⟨hg, hdb, hm | ⟨hm, hv, hn⟩⟩ := hc
    · exact ld_glob (X := X.suite a ((a, ob) :: (X.pn ++ pins))) T3 hg hm q hdb
    · exact ld_blt (X := X.suite a ((a, ob) :: (X.pn ++ pins))) T3 hg hm hv q hn hdb
  have look : ∀ {c : Value} {b : Bool}, PySem.W.exmOne X.K cls c = some b → _ := fun {c b} hb1 => PySem.W.exm_one (M := model X.prog X.w) K3.kIn (fun A Q E s k q => wpAny_typeOf_ref (k _ _ hob) (by rw [zob.1]; exact q) : PySem.W.Looks (model X.prog X.w) g3 (typeOf (.ref a)) cls) hb1
  have main : ∀ {hs : List ExceptHandler} {l' : List Cl}, ClOk X hs l' → wCl X.K W D l' cls d σe He → wpAny (model X.prog X.w) X.A (handleBy (.ref a) X.env hs) (SP X pins D) X.xe { s' with heap := g3 } := by
    intro hs l' hk
    induction hk with
    | nil =>
      intro w
      refine wpAny_handleBy_nil ?_
      obtain ⟨k1, k2, k3, oe, vs, T, oT, ts', he, hz, hd, hone, hr⟩ := id fl
      unfold PySem.passOn
      refine wpAny_bind (wpAny_field he hd hone ?_)
      rw [if_neg (show ¬ ((Value.ref T == Value.none) = true) by simp)]
      have fin : wpAny (model X.prog X.w) X.A (setFlight (.ref a) X.env.frame) (fun _ z => wpAny (model X.prog X.w) X.A (throw (.ref a) : Sem Flow) (SP X pins D) X.xe z) X.xe { s' with heap := g3 } := by
        rw [ff]
        exact HandSPX.setFlight_upZ fl fun g4 hh4 up4 => wpAny_throw (tk _ _ ⟨a, B, sI, pins, σe, He, cls, d, rfl, J, nb, (up.trans g3u).trans up4, .inr (.inr (by rw [ss]; exact hh4)), na, os, ag, w⟩)
      first | exact wpAny_bind (wpAny_pure (wpAny_bind fin)) | exact wpAny_bind fin
    | @plain x c ts st suite np ep hs2 l2 hc hsu r ih =>
      intro w
      obtain ⟨b, hb1, hno, hyes⟩ := w
      refine wpAny_handleBy_cons (codeAny_handlers_test ?_) (by intro q; cases q)
      refine test hc ((look hb1).here ?_)
      cases b with
      | false => exact ih (hno rfl)
      | true =>
        refine codeAny_handlers_suite (HandSPX.lands_againZ fl fun g4 fl4 up4 => ?_)
        have K4 : Inv X pins σe He { s' with heap := g4 } := J.landed nb fl4.1 ((up.trans g3u).trans up4) os ag
        obtain ⟨o4, f4, ho4, z4, d4⟩ := fl4.there
        exact wpAny_mono ((hsu a o4 cls d (X.pn ++ pins) z4 ⟨_, d4⟩).run [] _ _ He _ (K4.suite ho4 d4 na nL nF) (hyes rfl a na)) (fun f z hz => sp_back ok hz) (fun _ _ z => False.elim z)
    | @named x n c i ts st suite np ep hs2 l2 hc hN hi hk' hsu r ih =>
      intro w
      obtain ⟨b, hb1, hno, hyes⟩ := w
      refine wpAny_handleBy_cons (codeAny_handlers_test ?_) (by intro q; cases q)
      refine test hc ((look hb1).here ?_)
      cases b with
      | false => exact ih (hno rfl)
      | true =>
        refine codeAny_handlers_suite_as (HandSPX.lands_againZ fl fun g4 fl4 up4 => ?_)
        have K4 : Inv X pins σe He { s' with heap := g4 } := J.landed nb fl4.1 ((up.trans g3u).trans up4) os ag
        obtain ⟨o4, f4, ho4, z4, d4⟩ := fl4.there
        have T4 := K4.suite ho4 d4 na nL nF
        refine store_ok (X := X.suite a ((a, o4) :: (X.pn ++ pins))) (v := .ref a) T4 hN hi (.inl hk') rfl (fun s5 T5 => ?_) (.inr hk')
        refine wpAny_mono ((hsu a o4 cls d (X.pn ++ pins) z4 ⟨_, d4⟩).run [] s5 _ He _ T5 (hyes rfl a na)) (fun f z hz => ?_) (fun _ _ z => False.elim z)
        have done : ∀ {σ6 : L2.St} {H6 : Hp} {Q : Shared → Prop}, Inv (X.suite a ((a, o4) :: (X.pn ++ pins))) [] σ6 H6 z → (∀ s7, Inv X pins (σ6.set i none) H6 s7 → Q s7) → wpAny (model X.prog X.w) X.A (do bindName X.env n .none; unbindBehindTheSuite X.env n ep) (fun _ s7 => Q s7) X.xe z :=
          fun {σ6 H6 Q} T6 hq => gone_ok (T6.unsuite ok) hN hi hk' hq
        cases f with
        | next => obtain ⟨σ6, H6, T6, q⟩ := hz; exact done T6 fun s7 J7 => ⟨_, _, J7, q⟩
        | brk => obtain ⟨σ6, H6, T6, q⟩ := hz; exact done T6 fun s7 J7 => ⟨_, _, J7, q⟩
        | cont => obtain ⟨σ6, H6, T6, q⟩ := hz; exact done T6 fun s7 J7 => ⟨_, _, J7, q⟩
        | ret u => obtain ⟨v6, σ6, H6, T6, r6, q⟩ := hz; exact done T6 fun s7 J7 => ⟨_, _, _, J7, r6, q⟩
  exact main hcl w
end
end Pv

set_option maxRecDepth 100000
set_option maxHeartbeats 1000000
namespace Pv
open PySem PySem.Spec PyProof.Rows L2

/-! ## try, at the level of pure values -/
structure Hd where
  cs : List Str
  ncs : List Str
  sl : Option Nat
  sf : Addr → Option Addr → Str → SF
def SR.drop (i : Nat) : SR → SR
  | .nx ρ => .nx (ρ.set i none)
  | .bk ρ => .bk (ρ.set i none)
  | .ct ρ => .ct (ρ.set i none)
  | .rt lv x ρ => .rt lv x (ρ.set i none)
  | .exc _ _ _ => .bad
  | .bad => .bad
def SR.noX : SR → SR
  | .exc _ _ _ => .bad
  | r => r
open Classical in
noncomputable def hRun (h : Hd) (c : Str) (fs : List (Str × PV)) (ρ : Ev) : SR := match h.sl with
  | none => if ∀ a d, (h.sf a d c ρ).noX = (h.sf 0 none c ρ).noX then (h.sf 0 none c ρ).noX else .bad
  | some i => if i < ρ.length ∧ ∀ a d, (h.sf a d c (ρ.set i (some (0, .exn a d c fs)))).drop i = (h.sf 0 none c (ρ.set i (some (0, .exn 0 none c fs)))).drop i then (h.sf 0 none c (ρ.set i (some (0, .exn 0 none c fs)))).drop i else .bad
noncomputable def sHs : List Hd → Str → List (Str × PV) → Ev → SR
  | [], c, fs, ρ => .exc c fs ρ
  | h :: t, c, fs, ρ => if h.cs.contains c = true then hRun h c fs ρ else if h.ncs.contains c = true then sHs t c fs ρ else .bad
noncomputable def sTry (body : SF) (hds : List Hd) : SF := fun ρ => match body ρ with
  | .exc c fs ρ' => sHs hds c fs ρ'
  | r => r
/-- the field f of the exception that the suite holds -/
def eXf (a : Addr) (d : Option Addr) (c f : Str) (i : Nat) : EF := fun ρ => match ρ[i]? with
  | some (some (_, .exn a' d' c' fs)) => if a' = a ∧ d' = d ∧ c' = c then (match fs.lookup f with
    | some x => .ok ⟨true, true, 0, x, ρ⟩
    | none => .bad) else .bad
  | _ => .bad
def NamC (g : Prg) (Γ : Sx) (x : Str) (c : Value) : Prop := IsGl Γ x ∧ (g.mg x = some c ∨ (g.mg x = none ∧ bootBuiltins x = some c ∧ x ≠ "__name__"))
def Γs (Γ : Sx) (a : Addr) (d : Option Addr) (c : Str) : Sx := { Γ with hot := true, xc := some (a, d, c) }
inductive HsV (g : Prg) (Γ : Sx) : List ExceptHandler → List Hd → Prop
  | nil : HsV g Γ [] []
  | plain {x : Str} {cv : Value} {cs ncs : List Str} {sf : Addr → Option Addr → Str → SF} {st : Stmt} {suite : List Stmt} {np ep : Pos} {hs : List ExceptHandler} {l : List Hd} (hn : NamC g Γ x cv) (h1 : ∀ c ∈ cs, PySem.W.exmOne g.K (.ref (g.ea c)) cv = some true)
      (h0 : ∀ c ∈ ncs, PySem.W.exmOne g.K (.ref (g.ea c)) cv = some false) (ok : ∀ a d c, c ∈ cs → SVs g (Γs Γ a d c) (st :: suite) (sf a d c)) (r : HsV g Γ hs l) : HsV g Γ (.ExceptHandler (some (.Name x np)) none (st :: suite) ep :: hs) (⟨cs, ncs, none, sf⟩ :: l)
  | named {x n : Str} {i : Nat} {cv : Value} {cs ncs : List Str} {sf : Addr → Option Addr → Str → SF} {st : Stmt} {suite : List Stmt} {np ep : Pos} {hs : List ExceptHandler} {l : List Hd} (hn : NamC g Γ x cv) (h1 : ∀ c ∈ cs, PySem.W.exmOne g.K (.ref (g.ea c)) cv = some true)
      (h0 : ∀ c ∈ ncs, PySem.W.exmOne g.K (.ref (g.ea c)) cv = some false) (hN : Γ.N[i]? = some n) (hl : Γ.sc.names.lookup n = some .local) (hp : i ∉ Γ.pn) (ok : ∀ a d c, c ∈ cs → SVs g (Γs Γ a d c) (st :: suite) (sf a d c)) (r : HsV g Γ hs l) :
      HsV g Γ (.ExceptHandler (some (.Name x np)) (some n) (st :: suite) ep :: hs) (⟨cs, ncs, some i, sf⟩ :: l)
section
variable {g : Prg} {Γ : Sx} {K : PySem.W.Frag} {H0 H : Hp} {pn : List Nat} {W W' : WX} {O : Fp} {σ : L2.St} {D : Ends}
theorem pin_set2 {σ σ' : L2.St} {i : Nat} {o : Option V} (hi : i ∉ pn) (h : Pin pn σ σ') : Pin pn σ (σ'.set i o) := fun j hj => by
  rw [List.getElem?_set_ne fun z => hi (by rw [z]; exact hj)]
  exact h j hj
theorem pin_set' {σ σ' : L2.St} {i : Nat} {o : Option V} (hi : i ∉ pn) (h : Pin pn (σ.set i o) σ') : Pin pn σ σ' := fun j hj => by
  rw [h j hj, List.getElem?_set_ne fun z => hi (by rw [z]; exact hj)]
theorem drop_q {i : Nat} {o : Option V} {r : SR} (hi : i ∉ pn) (q : SQ g pn W H0 H O σ D (r.drop i)) : SQ g pn W' H0 H O (σ.set i o) (clear i D) r := by
  cases r with
  | nx ρ' => exact fun σ2 H02 H2 O2 k S P => q (σ2.set i none) H02 H2 O2 k S.drop (pin_set2 hi (pin_set' hi P))
  | bk ρ' => exact fun σ2 H02 H2 O2 k S P => q (σ2.set i none) H02 H2 O2 k S.drop (pin_set2 hi (pin_set' hi P))
  | ct ρ' => exact fun σ2 H02 H2 O2 k S P => q (σ2.set i none) H02 H2 O2 k S.drop (pin_set2 hi (pin_set' hi P))
  | rt lv x ρ' => exact fun v σ2 H02 H2 O2 B k S T w P => q v (σ2.set i none) H02 H2 O2 B k S.drop T w (pin_set2 hi (pin_set' hi P))
  | exc c fs ρ' => exact q.elim
  | bad => exact q.elim
theorem noX_q {r : SR} (q : SQ g pn W H0 H O σ D r.noX) : SQ g pn W' H0 H O σ D r := by
  cases r with
  | exc c fs ρ' => exact q.elim
  | _ => exact q
def fW : WX := fun _ _ _ _ => False
def clsL (g : Prg) (pn : List Nat) : List ExceptHandler → List Hd → List (Value) → List Cl
  | _ :: hs, h :: l, cv :: cvs => (cv, h.sl, fun a cls d D σ H => ∃ c, cls = .ref (g.ea c) ∧ c ∈ h.cs ∧ tS g pn fW (h.sf a d c) D σ H) :: clsL g pn hs l cvs
  | _, _, _ => []
theorem fits_tr {X : Cx} {pnn : List (Addr × Obj)} {xe : Value → Shared → Prop} (F : Fits g Γ X W) (hx : Γ.xc = none) (hh : Γ.hot = false) (t : Takes (X.tr pnn xe) W') (p : PassesOwn (model X.prog X.w) X.A X.env xe) : Fits g Γ (X.tr pnn xe) W' where
  xc := fun _ _ _ z => by rw [hx] at z; cases z
  prog := F.prog
  w := F.w
  K := F.K
  mg := F.mg
  base := F.base
  N := F.N
  sc := F.sc
  takes := t
  un := F.un
  room := F.room
  calm := F.calm
  hotc := fun z => by rw [hh] at z; cases z
  nd := F.nd
  pas := p
  fn := F.fn
  stk := F.stk
theorem fits_suite {X : Cx} {a : Addr} {oe : Obj} {d : Option Addr} {c : Str} {pnn : List (Addr × Obj)} (F : Fits g Γ X W) (z : Zc (.ref (g.ea c)) d oe) (f : ∃ vs, oe.data = .fields vs) : Fits g (Γs Γ a d c) (X.suite a ((a, oe) :: pnn)) fW where
  xc := fun a' d' c' e f' hf y q te p ht => by
    cases e
    exact pe_xf (by show XfC X.K _; rw [F.K]; exact hf.xf) (by show PySem.W.findIn X.K _ _ = _; rw [F.K]; exact hf.no) z f ht
  prog := F.prog
  w := F.w
  K := F.K
  mg := F.mg
  base := F.base
  N := F.N
  sc := F.sc
  takes := takes_none5
  un := F.un
  room := fun z => by cases z
  calm := fun z => by cases z
  hotc := fun _ => ⟨⟨_, List.mem_cons_self⟩, by
    cases e : Γ.hot with
    | false => exact ⟨(F.room e).dp, (F.room e).un⟩
    | true => exact (F.hotc e).2⟩
  nd := F.nd
  pas := PassesOwn.never
  fn := F.fn
  stk := F.stk
theorem NamC.of {X : Cx} {x : Str} {c : Value} (F : Fits g Γ X W) (h : NamC g Γ x c) : Names X x c := ⟨IsGl.of F h.1, h.1.db, by rw [F.mg]; exact h.2⟩
theorem suite_ok {X : Cx} {st : Stmt} {suite : List Stmt} {cs : List Str} {sf : Addr → Option Addr → Str → SF} (F : Fits g Γ X W) (ok : ∀ a d c, c ∈ cs → SVs g (Γs Γ a d c) (st :: suite) (sf a d c)) (a : Addr) (oe : Obj) (cls : Value) (d : Option Addr) (pnn : List (Addr × Obj)) (z : Zc cls d oe) (f : ∃ vs, oe.data = .fields vs) :
    PSs (X.suite a ((a, oe) :: pnn)) (st :: suite) (fun D σ H => ∃ c, cls = .ref (g.ea c) ∧ c ∈ cs ∧ tS g Γ.pn fW (sf a d c) D σ H) := by
  refine ⟨fun pins s σ H D I ⟨c, e, hc, q⟩ => ?_⟩
  subst e
  exact (ok a d c hc _ _ (fits_suite F z f)).run pins s σ H D I q
theorem hs_ok {X : Cx} {hs : List ExceptHandler} {l : List Hd} (F : Fits g Γ X W) (h : HsV g Γ hs l) : ∃ cvs, ClOk X hs (clsL g Γ.pn hs l cvs) ∧ ∀ {H0 H : Hp} {O : Fp} {σ : L2.St} {D : Ends} {c : Str} {fs : List (Str × PV)} {ρ : Ev} {d : Option Addr},
    SQ g Γ.pn W H0 H O σ D (sHs l c fs ρ) → St0 g.K H0 H O σ ρ → ExD g.K H0 H fs d → wCl X.K W D (clsL g Γ.pn hs l cvs) (.ref (g.ea c)) d σ H := by
  induction h with
  | nil => exact ⟨[], .nil, fun {H0 H O σ D c fs ρ d} q S x => q σ H0 H O d .refl S x .refl⟩
  | @plain x cv cs ncs sf st suite np ep hs l hn h1 h0 ok r ih =>
    obtain ⟨cvs, i1, i2⟩ := ih
    refine ⟨cv :: cvs, .plain (hn.of F) (fun a oe cls d pnn z f => suite_ok F ok a oe cls d pnn z f) i1, fun {H0 H O σ D c fs ρ d} q S x => ?_⟩
    unfold sHs at q
    by_cases e1 : cs.contains c = true
    · rw [if_pos e1] at q
      refine ⟨true, by rw [F.K]; exact h1 c (List.contains_iff_mem.mp e1), fun z => (by cases z), fun _ a ha => ⟨c, rfl, List.contains_iff_mem.mp e1, H0, O, ρ, S, ?_⟩⟩
      unfold hRun at q
      simp only [] at q
      split at q
      · rename_i u
        exact noX_q (by rw [u a d]; exact q)
      · exact q.elim
    · rw [if_neg e1] at q
      by_cases e0 : ncs.contains c = true
      · rw [if_pos e0] at q
        exact ⟨false, by rw [F.K]; exact h0 c (List.contains_iff_mem.mp e0), fun _ => i2 q S x, fun z => nomatch z⟩
      · rw [if_neg e0] at q
        exact q.elim
  | @named x n i cv cs ncs sf st suite np ep hs l hn h1 h0 hN hl hp ok r ih =>
    obtain ⟨cvs, i1, i2⟩ := ih
    refine ⟨cv :: cvs, .named (hn.of F) F.nd (by rw [F.N]; exact hN) (by show X.env.scope.names.lookup n = _; rw [F.sc]; exact hl) (fun a oe cls d pnn z f => suite_ok F ok a oe cls d pnn z f) i1, fun {H0 H O σ D c fs ρ d} q S x => ?_⟩
    unfold sHs at q
    by_cases e1 : cs.contains c = true
    · rw [if_pos e1] at q
      refine ⟨true, by rw [F.K]; exact h1 c (List.contains_iff_mem.mp e1), fun z => (by cases z), fun _ a ha => ?_⟩
      unfold hRun at q
      simp only [] at q
      split at q
      · rename_i u
        have hi : i < σ.length := by rw [S.len]; exact u.1
        have S2 := S.set0 (i := i) (x := .exn a d c fs) (v := .ref a) ⟨rfl, x.imp id fun ⟨dd, fvs, e1, e2, e3⟩ => ⟨dd, fvs, e1, e2, e3⟩⟩ hi
        exact ⟨c, rfl, List.contains_iff_mem.mp e1, H0, O, _, S2, drop_q hp (by rw [u.2 a d]; exact q)⟩
      · exact q.elim
    · rw [if_neg e1] at q
      by_cases e0 : ncs.contains c = true
      · rw [if_pos e0] at q
        exact ⟨false, by rw [F.K]; exact h0 c (List.contains_iff_mem.mp e0), fun _ => i2 q S x, fun z => nomatch z⟩
      · rw [if_neg e0] at q
        exact q.elim
theorem sv_try {body : List Stmt} {h1 : ExceptHandler} {hs : List ExceptHandler} {l : List Hd} {pos : Pos} {bf : SF} (hb : SVs g Γ body bf) (hx : Γ.xc = none) (hk : Γ.blk = false) (hh : HsV g Γ (h1 :: hs) l) (hq : Γ.hot = false := by rfl) : SV g Γ (.Try body (h1 :: hs) [] [] pos) (sTry bf l) := fun X W F => by
  obtain ⟨cvs, i1, i2⟩ := hs_ok F hh
  refine PS.imp (ps_try_cl (tb := fun W' => tS g Γ.pn W' bf) (F.stk hk).1 (F.stk hk).2.1 F.takes (fun W' pnn xe t p => hb _ _ (fits_tr F hx hq t p)) i1) fun D σ H ⟨H0, O, ρ, S, q⟩ => ⟨H0, O, ρ, S, ?_⟩
  unfold sTry at q
  cases e : bf ρ with
  | exc c fs ρ' =>
    rw [e] at q
    intro σ' H0' H' O' d k S' x P
    exact i2 (q.of_grow k P) S' x
  | nx ρ' => rw [e] at q; exact q
  | bk ρ' => rw [e] at q; exact q
  | ct ρ' => rw [e] at q; exact q
  | rt lv x ρ' => rw [e] at q; exact q
  | bad => rw [e] at q; exact q
theorem ev_xf {y f : Str} {q p : Pos} {a : Addr} {d : Option Addr} {c : Str} {i : Nat} (hf : XfF g c f) (hx : Γ.xc = some (a, d, c)) (hN : Γ.N[i]? = some y) (hv : Vis Γ.sc y) (hd : (y == ("__debug__" : Str)) = false) (hcd : (y == ("__classdict__" : Str)) = false) : EV g Γ (.Attribute (.Name y q) f p) (eXf a d c f i) := fun X W F => by
  refine PE.imp (F.xc a d c hx f hf y q _ p (pe_var (i := i) (by rw [F.N]; exact hN) (by rw [F.sc]; exact hv) hd hcd)) fun σ H Q ⟨H0, O, ρ, S, h⟩ => ?_
  unfold eXf at h
  cases er : ρ[i]? with
  | none => rw [er] at h; exact h.elim
  | some o =>
    cases o with
    | none => rw [er] at h; exact h.elim
    | some m =>
      obtain ⟨n, x0⟩ := m
      cases x0 with
      | exn a' d' c' fs =>
        rw [er] at h
        dsimp only at h
        by_cases hc : a' = a ∧ d' = d ∧ c' = c
        case neg => rw [if_neg hc] at h; exact h.elim
        rw [if_pos hc] at h
        obtain ⟨rfl, rfl, rfl⟩ := hc
        cases ex : fs.lookup f with
        | none => rw [ex] at h; exact h.elim
        | some x =>
          rw [ex] at h
          obtain ⟨v, G, e1, e2⟩ := own_slot S er
          obtain ⟨rfl, o⟩ := (show v = .ref a' ∧ (fs = [] ∨ ∃ dd fvs, d' = some dd ∧ H0 dd = some (.xd fvs) ∧ OwnF g.K H0 H fs fvs) from e2)
          refine ⟨_, e1, rfl, rfl, ?_⟩
          rcases o with o | ⟨dd, fvs, o1, o2, o3⟩
          · rw [o] at ex; cases ex
          · have : ∀ {fs : List (Str × PV)}, OwnF g.K H0 H fs fvs → fs.lookup f = some x → ∃ u, fvs.lookup f = some u ∧ Own g.K H0 H x 0 u noF := by
              intro fs
              induction fs with
              | nil => intro _ e; cases e
              | cons p r ih =>
                obtain ⟨k, y⟩ := p
                intro o e
                rw [List.lookup_cons] at e
                cases hk : f == k with
                | true =>
                  rw [hk] at e
                  cases e
                  obtain rfl := eq_of_beq hk
                  exact o.1
                | false =>
                  rw [hk] at e
                  exact ih o.2 e
            obtain ⟨u, u1, u2⟩ := this o3 ex
            exact ⟨dd, fvs, u, o1, S.sub _ _ o2, u1, h u H0 H O noF (Grow.refl.mono fun a z => z.elim id False.elim) (fun _ _ _ z => z) S .no u2⟩
      | _ => rw [er] at h; exact h.elim
end
end Pv

set_option maxRecDepth 100000
set_option maxHeartbeats 1000000
namespace Pv
open PySem PySem.Spec PyProof.Rows L2

/-! ## where a token is out -/
def EVT (g : Prg) (Γ : Sx) (e : Expr) (f : EF) : Prop := ∀ X W, Fits g Γ X W → PET X e (tF g W f)
def SVT (g : Prg) (Γ : Sx) (st : Stmt) (F : SF) : Prop := ∀ X W, Fits g Γ X W → PST X st (tS g Γ.pn W F)
def SVsT (g : Prg) (Γ : Sx) (st : List Stmt) (F : SF) : Prop := ∀ X W, Fits g Γ X W → PSsT X st (tS g Γ.pn W F)
section
variable {g : Prg} {Γ : Sx} {a o : Expr} {fa fo : EF} {pos p apos cpos : Pos} {st : Stmt} {rest : List Stmt} {F G : SF}
theorem svt_of (h : SV g Γ st F) : SVT g Γ st F := fun X W Fi => PST.of (h X W Fi)
theorem svst_of (h : SVs g Γ rest F) : SVsT g Γ rest F := fun X W Fi => PSsT.of (h X W Fi)
theorem svst_cons (h : SVT g Γ st F) (hr : SVsT g Γ rest G) : SVsT g Γ (st :: rest) (sSeq F G) := fun X W Fi pins s σ H D h0 I ⟨H0, O, ρ, S, q⟩ =>
  psst_cons (h X W Fi) (hr X W Fi) pins s σ H D h0 I ⟨H0, O, ρ, S, seq_q q⟩
theorem loc_of {X : Cx} {W : WX} {x : Str} (F : Fits g Γ X W) (hl : locOk Γ x = true) : L2.Loc X.env.scope x ∧ (X.fn x = true ∨ X.env.scope.names.lookup x = some .local) := by
  unfold locOk at hl
  unfold L2.Loc
  rw [F.sc]
  split at hl
  · exact ⟨.inl ‹_›, .inr ‹_›⟩
  · exact ⟨.inr ‹_›, .inl (F.fn (by cases h : Γ.blk with | false => rfl | true => rw [h] at hl; cases hl) x)⟩
  · cases hl
theorem asg_q {X : Cx} {pins : List (Addr × Obj)} {s : Shared} {σ : L2.St} {H : Hp} {D : Ends} {W : WX} {i : Nat} {x : Str} (Fi : Fits g Γ X W) (hi : Γ.N[i]? = some x) (hpn : i ∉ Γ.pn) (I : Inv X pins σ H s) (q : tS g Γ.pn W (sSet i fa) D σ H) : tF g W fa σ H fun v H1 => D.nx (σ.set i (some v)) H1 := by
  have hls : i < σ.length := len_of I (by rw [Fi.N]; exact hi)
  exact ofE_run q fun {H0 O ρ r} S e q v H0' H' O' B k hp S' T w => set_end hls hpn q k S' T w
theorem eC_at {W : WX} {c : Int} {σ : L2.St} {H : Hp} {Q : VK} (q : tF g W (eC (.int c)) σ H Q) : Q (.int c) H := by
  obtain ⟨H0, O, ρ, S, q⟩ := q
  exact q (.int c) H0 H O noF (Grow.refl.mono fun a z => z.elim id False.elim) (fun _ _ _ z => z) S .no rfl
/-- x = a op 7: behind it a token is out -/
theorem svs_opC {i j : Nat} {x : Str} {c : Int} {cp bp : Pos} {op : Operator} {po : PO} {r : R2} (hr : ROk g.K (fun vs H Q => ∃ x y, vs = [x, y] ∧ r x y H Q) po) (ho : ∀ X, OpR X (binaryOp op) r)
    (hi : Γ.N[i]? = some x) (hl : locOk Γ x = true) (hpn : i ∉ Γ.pn) (ha : EV g Γ a fa) (h2 : SVsT g Γ rest G) : SVs g Γ (.Assign [.Name x p] (.BinOp a op (.Constant (.int c) j cp) bp) pos :: rest) (sSeq (sSet i (eOp po (aCons fa (aCons (eC (.int c)) aNil)))) G) := fun X W Fi => by
  refine ⟨fun pins s σ H D I ⟨H0, O, ρ, S, q⟩ => ?_⟩
  have q1 := asg_q Fi hi hpn I ⟨H0, O, ρ, S, seq_q q⟩
  have q2 := tA_cons (op_run hr q1)
  refine wpAny_execs_cons (wpAny_Assign_Name (wpAny_BinOp (thn ((ha X W Fi).run pins s σ H _ I q2) fun v s1 ⟨y, H1, I1, r1, q3⟩ => ?_)) (swaps_no rfl))
  have q5 := eC_at (tA_cons q3)
  obtain ⟨y', z', ee, q6⟩ := tA_nil q5
  cases ee
  refine wpAny_Constant_int ?_
  have hb := ho X pins (Shared.mk s1.heap s1.gens s1.drawn (s1.toks + 1) s1.os) σ H1 y (.int c) v (.int c s1.toks) _ (I1.tok _) r1 ⟨_, rfl⟩ q6
  refine wpAny_mono (PySem.wpAny_toks hb) (fun u s2 ⟨hk, z, H2, I2, r2, q7⟩ => ?_) fun _ _ z => z.2
  obtain ⟨l1, l2⟩ := loc_of Fi hl
  refine wpAny_mono (PySem.wpAny_toks (store_ok (Q := fun _ s3 => Inv X pins (σ.set i (some z)) H2 s3) I2 Fi.nd (by rw [Fi.N]; exact hi) l1 r2 (fun _ I3 => I3) l2)) (fun _ s3 ⟨hk3, I3⟩ => ?_) fun _ _ z => z.2
  have hk' : s1.toks + 1 ≤ s2.toks := hk
  exact h2 X W Fi pins s3 _ H2 D (by omega) I3 q7
theorem svt_set {i : Nat} {x : Str} (hi : Γ.N[i]? = some x) (hl : locOk Γ x = true) (hpn : i ∉ Γ.pn) (hn : noComp a = true) (ha : EVT g Γ a fa) : SVT g Γ (.Assign [.Name x p] a pos) (sSet i fa) := fun X W Fi pins s σ H D h0 I q => by
  obtain ⟨l1, l2⟩ := loc_of Fi hl
  exact wpAny_Assign_Name (thn (ha X W Fi pins s σ H _ h0 I (asg_q Fi hi hpn I q)) fun v s1 ⟨y, H1, I1, r1, q1⟩ => store_ok I1 Fi.nd (by rw [Fi.N]; exact hi) l1 r1 (fun s2 I2 => ⟨_, H1, I2, q1⟩) l2) (swaps_no hn)
def pRepl (y z : Str) : PO
  | [(_, .str x)] => if x.length + (x.length + 1) * z.length ≤ 16777216 then sc (.str (Txt.replace x y z)) else none
  | _ => none
theorem rok_repl {K : PySem.W.Frag} {y z : Str} : ROk K (fun vs H Q => ∃ v, vs = [v] ∧ ∃ x, v = .str x ∧ x.length + (x.length + 1) * z.length ≤ 16777216 ∧ Q (.str (Txt.replace x y z)) H) (pRepl y z) := by
  intro H0 H ps vs o Q s w e G
  unfold pRepl at e
  split at e
  · split at e
    · rename_i n x hc
      obtain ⟨v, F, rfl, h1⟩ := views1 w
      cases (show v = _ from h1)
      cases e
      exact ⟨_, rfl, x, rfl, hc, sc_gives (v := .str _) rfl G s rfl⟩
    · cases e
  · cases e
theorem evt_repl {y z : Str} {j k : Nat} {c0 c1 : Pos} (hyz : (y == z) = false) (hn : noSup o = true) (hl : (apos.endLine == cpos.line) = true) (ho : EV g Γ o fo) :
    EVT g Γ (.Call (.Attribute o "replace" apos) [.Constant (.str y) j c0, .Constant (.str z) k c1] [] cpos) (eOp (pRepl y z) (aConsT PV.isStr fo aNil)) := fun X W Fi pins s σ H Q h0 I q => by
  refine CwR.pet_replC (ho X W Fi) hyz rfl (base_ok hn) hl pins s σ H Q h0 I (tF.mono (tA_consT (op_run rok_repl q)) fun x H1 ⟨_, q1⟩ => ?_)
  obtain ⟨v, e, x', e1, e2, e3⟩ := tA_nil q1
  cases e
  exact ⟨x', e1, e2, e3⟩
end
end Pv

set_option maxRecDepth 100000
set_option maxHeartbeats 1000000
namespace Pv
open PySem PySem.Spec PyProof.Rows L2
abbrev sBk : SF := fun ρ => .bk ρ
abbrev sCt : SF := fun ρ => .ct ρ
abbrev tsTrue : TFn := fun ρ => .ok ⟨true, true, ρ⟩
/-- a def that is never asked -/
theorem fn_bad {P : Program} {w : World} {K : PySem.W.Frag} {mg : Str → Option Value} {base : Heap} {CX : CXT} {g : Prg} {f : Addr} {fd : FuncData} {ps : List Str} {ms : List Nat} {k : Nat} (hm : ms.length = ps.length) : FnOk P w K mg base CX k f fd ps (spF g ms fun _ => .bad) :=
  ⟨fun vs H Q E ⟨_, _, _, _, _, _, q⟩ => q.elim, fun A outer s H args us vs Q E hr e0 hb r ⟨_, _, _, _, _, _, q⟩ => q.elim⟩
section
variable {g : Prg} {Γ : Sx} {a o : Expr} {fa fo : EF} {pos p apos cpos : Pos} {st : Stmt} {rest : List Stmt} {F G : SF}
theorem svs_modC {i j : Nat} {x : Str} {c : Int} {cp bp : Pos} (hi : Γ.N[i]? = some x) (hl : locOk Γ x = true) (hpn : i ∉ Γ.pn) (ha : EV g Γ a fa) (h2 : SVsT g Γ rest G) :
    SVs g Γ (.Assign [.Name x p] (.BinOp a .Mod (.Constant (.int c) j cp) bp) pos :: rest) (sSeq (sSet i (eOp pMod (aCons fa (aCons (eC (.int c)) aNil)))) G) :=
  svs_opC (rok_I2 (f' := fun i j => .int (i % j)) (fun i j h => of_decide_eq_true h) fun _ _ _ _ _ => rfl) (fun X => op_mod) hi hl hpn ha h2
theorem svst_one {st : Stmt} {F : SF} (h : SVT g Γ st F) : SVsT g Γ [st] F := fun X W Fi pins s σ H D h0 I q => by
  refine wpAny_execs_cons (thn (h X W Fi pins s σ H D h0 I q) fun f s1 q1 => ?_)
  cases f with
  | next => exact wpAny_execs_nil q1
  | ret v => exact q1
  | brk => exact q1
  | cont => exact q1
end
end Pv

set_option maxRecDepth 100000
set_option maxHeartbeats 1000000
namespace Pv
open PySem PySem.Spec PyProof.Rows L2
/-! ## the end: the law's own call, the program's facts -/
def pvInts (ns : List Int) : List PV := ns.map .int
theorem ownL_pvInts {K : PySem.W.Frag} {H0 H : Hp} : ∀ {ns : List Int} {F : Fp}, OwnL K H0 H (pvInts ns) 0 (ns.map V.int) F
  | [], _ => rfl
  | n :: ns, _ => ⟨.int n, ns.map V.int, noF, rfl, rfl, ownL_pvInts⟩
theorem sp_law {g : Prg} {F : FF} {a : Addr} {ns : List Int} {H : Hp} (hS : SqL g.K H a (ns.map V.int)) (h : ∃ outs, outs.length = 1 ∧ F [.clst (pvInts ns)] = .ok 0 (.bl true) outs) : spF g [0] F [.ref a] H (fun v _ => v = .bl true) (fun _ _ _ => False) := by
  obtain ⟨outs, h1, h2⟩ := h
  refine ⟨H, noF, [.clst (pvInts ns)], rfl, rfl, ⟨fun _ _ z => z, fun _ z => z.elim, fun _ z => z.elim, rfl, fun _ => noF, fun _ _ _ z => z.elim, fun _ _ z => z, fun i n x e => ?_⟩, ?_⟩
  · obtain ⟨e1, e2⟩ := argsE_get e
    match i, e1, e2 with
    | 0, e1, e2 =>
      have e1' : (0 : Nat) = n := by simpa using e1
      have e2' : PV.clst (pvInts ns) = x := by simpa using e2
      subst e1' e2'
      exact ⟨_, rfl, a, _, rfl, hS, ownL_pvInts⟩
  · rw [h2]
    exact ⟨h1, fun v H0' H' O' B k S T w => w⟩
def mkG (P : Program) (w : World) (K : PySem.W.Frag) (mg : Str → Option Value) (base : Heap) : Prg := ⟨P, w, K, mg, base, fun c => He.ga K c⟩
def exAll (l : List (PySem.W.Frag → Bool)) (K : PySem.W.Frag) : Bool := l.all fun f => f K
theorem exAll_at {l : List (PySem.W.Frag → Bool)} {K : PySem.W.Frag} (h : exAll l K = true) (i : Nat) {f : PySem.W.Frag → Bool} (e : l[i]? = some f) : f K = true := List.all_eq_true.mp h _ (List.mem_of_getElem? e)
def iniB (C : Str) (K : PySem.W.Frag) : Bool := decide (PySem.W.findIn K (.ref (He.ga K C)) "__init__" = some (some (.ref (He.ma K (He.ga K C) "__init__")))) && decide (PySem.W.typeIn K (.ref (He.ma K (He.ga K C) "__init__")) = some (.type "function"))
theorem iniB_ok {C : Str} {K : PySem.W.Frag} (h : iniB C K = true) : PySem.W.findIn K (.ref (He.ga K C)) "__init__" = some (some (.ref (He.ma K (He.ga K C) "__init__"))) ∧ PySem.W.typeIn K (.ref (He.ma K (He.ga K C) "__init__")) = some (.type "function") :=
  ⟨of_decide_eq_true (and2 h).1, of_decide_eq_true (and2 h).2⟩
/-- every number of a script -/
def Bits (ns : List Int) : Prop := ∀ z ∈ ns, Builtin.Int.intBits z ≤ 1048576
theorem cx_none {P : Program} {w : World} {l : List Env} {H : Hp} {s s' : Shared} {e : Value} (h : L2.CX P w l H s (fun _ _ _ => False) e s') : False := by
  obtain ⟨_, _, _, _, _, _, _, _, _, _, _, _, z⟩ := h
  exact z
theorem walk_end {l : PySem.W.OpenLaw} {n k : Nat} {q : Program} {loose : List Str} {XP : (Str → Option Value) → Heap → Prop} {YP : World → Heap → Prop} {d : DefRec} {x : Str} (hn : l.most = some n) (hn2 : n ≤ sizeLine) (hdf : d.params.defaults = []) (hr : Room k callerA)
    (F : ∀ (w : World) (mg : Str → Option Value) (fa : Addr) (h : Heap), YP w h → h.Ns mainGlobals mg → mg d.name = some (.ref fa) → ∃ (K : PySem.W.Frag) (fd : FuncData) (sp : Sp), K.In h ∧ (∀ (s : Shared) (u : Value), BindsTo s fd ⟨[u], []⟩ [(x, u)]) ∧
      (∀ (H : Hp) (a : Addr) (ns : List Int), ns.length ≤ n → Bits ns → SqL K H a (ns.map V.int) → sp [.ref a] H (fun v _ => v = .bl true) fun _ _ _ => False) ∧ ∀ base : Heap, FnOk l.prog w K mg base (L2.CX l.prog w) k fa fd [x] sp) :
    PySem.W.WalkO q loose XP YP l.row.toRowW d [] (fun f vs => PySem.call f vs) := by
  refine Att.attach_callB hn hdf fun w s0 s1 mg mb fa o pm cd doc a vs ns G Y ho hd hcd hmg hob hin hlen hbits hgen => ?_
  obtain ⟨K, fd, sp, KX, hb, hsp, hF⟩ := F w mg fa _ Y G.T.g hmg
  exact law_call KX G.T.g G.T.b G.T.builtins G.T.nolimit hgen hob hin (Nat.le_trans hlen hn2) hr (fun base _ _ => hF base) hb (fun H _ hS => hsp H a ns hlen hbits hS) fun H e s' => cx_none
end Pv

set_option maxRecDepth 100000
set_option maxHeartbeats 1000000
namespace Pv
open PySem PySem.Spec PyProof.Rows L2
/-! ## reading mirrors: equations for simp -/
theorem r62_ok {k : Int} (h0 : -2000000000 ≤ k) (h1 : k ≤ 2000000000) : r62 k = true := r62_iff.mpr ⟨by omega, by omega⟩
theorem r62_nat {n : Nat} (h : n ≤ 2000000000) : r62 (n : Int) = true := r62_ok (by omega) (by omega)
def iabs (k : Int) : Int := if k < 0 then -k else k
theorem iabs_nonneg (k : Int) : 0 ≤ iabs k := by unfold iabs; split <;> omega
section
variable {ρ : Ev} {f h : EF} {F G : SF} {af : AF} {t u : TFn} {bf : BF} {s : IF'} {i n m lv : Nat} {x y : PV} {pu ow b : Bool} {r : Rr} {z w : Str} {k l : Int} {xs ys : List PV} {c : Str} {fs : List (Str × PV)}
@[simp] theorem z_seq : sSeq F G ρ = (F ρ).bind G := Eq.trans rfl rfl
@[simp] theorem z_b1 : SR.bind (.nx ρ) G = G ρ := Eq.trans rfl rfl
@[simp] theorem z_b2 : SR.bind (.bk ρ) G = .bk ρ := Eq.trans rfl rfl
@[simp] theorem z_b3 : SR.bind (.ct ρ) G = .ct ρ := Eq.trans rfl rfl
@[simp] theorem z_b4 : SR.bind (.rt n x ρ) G = .rt n x ρ := Eq.trans rfl rfl
@[simp] theorem z_b5 : SR.bind (.exc c fs ρ) G = .exc c fs ρ := Eq.trans rfl rfl
@[simp] theorem z_b6 : SR.bind .bad G = .bad := Eq.trans rfl rfl
@[simp] theorem z_nil : sNil ρ = .nx ρ := Eq.trans rfl rfl
@[simp] theorem z_retN : sRetN ρ = .rt 0 .non ρ := Eq.trans rfl rfl
@[simp] theorem z_rb1 {α β : Type} {a : α} {g : α → Res β} : Res.bind (.ok a) g = g a := Eq.trans rfl rfl
@[simp] theorem z_rb2 {α β : Type} {g : α → Res β} : Res.bind (.exc c fs ρ) g = .exc c fs ρ := Eq.trans rfl rfl
@[simp] theorem z_rb3 {α β : Type} {g : α → Res β} : Res.bind .bad g = .bad := Eq.trans rfl rfl
@[simp] theorem z_var : eVar i ρ = (match ρ[i]? with | some (some (n, x)) => .ok ⟨true, false, n, x, ρ⟩ | _ => .bad) := Eq.trans rfl rfl
@[simp] theorem z_c : eC x ρ = .ok ⟨true, true, 0, x, ρ⟩ := Eq.trans rfl rfl
@[simp] theorem z_move : eMove i ρ = (match ρ[i]? with | some (some (n, x)) => .ok ⟨true, true, n, x, ρ.set i none⟩ | _ => .bad) := Eq.trans rfl rfl
@[simp] theorem z_frzv : eFrzV i ρ = (match ρ[i]? with | some (some (n, x)) => .ok ⟨n == 0, true, 0, x, ρ.set i (some (0, x))⟩ | _ => .bad) := Eq.trans rfl rfl
@[simp] theorem z_frz : eFrz f ρ = ((f ρ).bind fun r => if r.ow = true then .ok ⟨r.pu && r.lv == 0, true, 0, r.x, r.ρ⟩ else .ok r) := Eq.trans rfl rfl
@[simp] theorem z_anil : aNil ρ = .ok ⟨true, [], ρ⟩ := Eq.trans rfl rfl
@[simp] theorem z_acons : aCons f af ρ = ((f ρ).bind fun r => (af r.ρ).bind fun a => if stays r a.pu = true then .ok ⟨r.pu && a.pu, (r.lv, r.x) :: a.vs, a.ρ⟩ else .bad) := Eq.trans rfl rfl
@[simp] theorem z_stays : stays r b = (r.ow || r.lv == 0 || r.x.imm || b) := Eq.trans rfl rfl
@[simp] theorem z_imm1 : PV.imm (.lst xs) = false := Eq.trans rfl rfl
@[simp] theorem z_imm2 {q : List (DK × PV)} : PV.imm (.dic q) = false := Eq.trans rfl rfl
@[simp] theorem z_imm3 : PV.imm .non = true := Eq.trans rfl rfl
@[simp] theorem z_imm4 : PV.imm (.bl b) = true := Eq.trans rfl rfl
@[simp] theorem z_imm5 : PV.imm (.int k) = true := Eq.trans rfl rfl
@[simp] theorem z_imm6 : PV.imm (.str z) = true := Eq.trans rfl rfl
@[simp] theorem z_imm7 : PV.imm (.tup xs) = true := Eq.trans rfl rfl
@[simp] theorem z_imm8 : PV.imm (.ctup xs) = true := Eq.trans rfl rfl
@[simp] theorem z_imm9 : PV.imm (.clst xs) = true := Eq.trans rfl rfl
@[simp] theorem z_sho : shOk (n, x) = (n == 0 || x.imm) := Eq.trans rfl rfl
@[simp] theorem z_op {op : PO} : eOp op af ρ = ((af ρ).bind fun a => match op a.vs with | some o => .ok ⟨a.pu, o.ow, o.lv, o.x, a.ρ⟩ | none => .bad) := Eq.trans rfl rfl
@[simp] theorem z_sc : sc x = some ⟨true, 0, x⟩ := Eq.trans rfl rfl
@[simp] theorem z_aconsT {ty : PV → Bool} : aConsT ty f af ρ = ((f ρ).bind fun r => if ty r.x = true then (af r.ρ).bind fun a => if stays r a.pu = true then .ok ⟨r.pu && a.pu, (r.lv, r.x) :: a.vs, a.ρ⟩ else .bad else .bad) := Eq.trans rfl rfl
@[simp] theorem z_isStr : PV.isStr (.str z) = true := Eq.trans rfl rfl
@[simp] theorem z_isInt : PV.isInt (.int k) = true := Eq.trans rfl rfl
@[simp] theorem z_of : tOf f ρ = ((f ρ).bind fun r => match r.x.tru with | some b => .ok ⟨r.pu, b, r.ρ⟩ | none => .bad) := Eq.trans rfl rfl
@[simp] theorem z_not : tNotF t ρ = ((t ρ).bind fun r => .ok ⟨r.pu, !r.b, r.ρ⟩) := Eq.trans rfl rfl
@[simp] theorem z_tseq : tSeqF b t u ρ = ((t ρ).bind fun r => if r.b = b then (u r.ρ).bind fun r' => .ok ⟨r.pu && r'.pu, r'.b, r'.ρ⟩ else .ok r) := Eq.trans rfl rfl
@[simp] theorem z_tr1 : PV.tru .non = some false := Eq.trans rfl rfl
@[simp] theorem z_tr2 : PV.tru (.bl b) = some b := Eq.trans rfl rfl
@[simp] theorem z_tr3 : PV.tru (.int k) = some (k != 0) := Eq.trans rfl rfl
@[simp] theorem z_tr4 : PV.tru (.tup xs) = some (!xs.isEmpty) := Eq.trans rfl rfl
@[simp] theorem z_tr5 : PV.tru (.lst xs) = some (!xs.isEmpty) := Eq.trans rfl rfl
@[simp] theorem z_eseq : eSeqF b f h ρ = ((f ρ).bind fun r => match r.x.tru with | none => .bad | some d => if d = b then (h r.ρ).bind fun r' => .ok ⟨r.pu && r'.pu, r'.ow, r'.lv, r'.x, r'.ρ⟩ else .ok r) := Eq.trans rfl rfl
@[simp] theorem z_enot : eNotF t ρ = ((t ρ).bind fun r => .ok ⟨r.pu, true, 0, .bl (!r.b), r.ρ⟩) := Eq.trans rfl rfl
@[simp] theorem z_eif : eIf t f h ρ = ((t ρ).bind fun r => ((if r.b = true then f r.ρ else h r.ρ)).bind fun r' => .ok ⟨r.pu && r'.pu, r'.ow, r'.lv, r'.x, r'.ρ⟩) := Eq.trans rfl rfl
@[simp] theorem z_ofE1 {g : Rr → SR} : ofE (.ok r) g = g r := Eq.trans rfl rfl
@[simp] theorem z_ofE2 {g : Rr → SR} : ofE (.exc c fs ρ) g = .exc c fs ρ := Eq.trans rfl rfl
@[simp] theorem z_ofE3 {g : Rr → SR} : ofE .bad g = .bad := Eq.trans rfl rfl
@[simp] theorem z_ofT1 {r : Tr} {g : Tr → SR} : ofT (.ok r) g = g r := Eq.trans rfl rfl
@[simp] theorem z_ofT2 {g : Tr → SR} : ofT (.exc c fs ρ) g = .exc c fs ρ := Eq.trans rfl rfl
@[simp] theorem z_ofT3 {g : Tr → SR} : ofT .bad g = .bad := Eq.trans rfl rfl
@[simp] theorem z_ofI1 {r : Ir} {g : Ir → SR} : ofI (.ok r) g = g r := Eq.trans rfl rfl
@[simp] theorem z_ofI2 {g : Ir → SR} : ofI (.exc c fs ρ) g = .exc c fs ρ := Eq.trans rfl rfl
@[simp] theorem z_ofI3 {g : Ir → SR} : ofI .bad g = .bad := Eq.trans rfl rfl
@[simp] theorem z_expr : sExpr f ρ = ofE (f ρ) fun r => .nx r.ρ := Eq.trans rfl rfl
@[simp] theorem z_ret : sRet f ρ = ofE (f ρ) fun r => (match matL r with | some n => .rt n r.x r.ρ | none => .bad) := Eq.trans rfl rfl
@[simp] theorem z_set : sSet i f ρ = ofE (f ρ) fun r => (match matL r with | some n => .nx (r.ρ.set i (some (n, r.x))) | none => .bad) := Eq.trans rfl rfl
@[simp] theorem z_mat : matL r = if r.ow = true then some r.lv else if r.lv = 0 ∨ r.x.imm = true then some 0 else none := Eq.trans rfl rfl
@[simp] theorem z_if : sIf t F G ρ = ofT (t ρ) fun r => if r.b = true then F r.ρ else G r.ρ := Eq.trans rfl rfl
@[simp] theorem z_for : sFor s bf F ρ = ofI (s ρ) fun r => forL bf F r.xs r.ρ := Eq.trans rfl rfl
@[simp] theorem z_tgt : sTgt bf f ρ = ofE (f ρ) fun r => if r.lv = 0 ∨ r.x.imm = true then (match bf r.x r.ρ with | some ρ' => .nx ρ' | none => .bad) else .bad := Eq.trans rfl rfl
@[simp] theorem z_bname : bName i x ρ = some (ρ.set i (some (0, x))) := Eq.trans rfl rfl
@[simp] theorem z_btup {is : List Nat} : bTup is (.tup xs) ρ = bNames is xs ρ := Eq.trans rfl rfl
@[simp] theorem z_btup2 {is : List Nat} : bTup is (.ctup xs) ρ = bNames is xs ρ := Eq.trans rfl rfl
@[simp] theorem z_bns0 : bNames [] [] ρ = some ρ := Eq.trans rfl rfl
@[simp] theorem z_bns1 {is : List Nat} : bNames (i :: is) (x :: xs) ρ = bNames is xs (ρ.set i (some (0, x))) := Eq.trans rfl rfl
@[simp] theorem z_append : eAppend i f ρ = (match ρ[i]? with
  | some (some (_ + 1, .lst _)) => (f ρ).bind fun r => match r.ρ[i]? with
    | some (some (n + 1, .lst xs)) => if fitL n r = true ∧ xs.length < sizeLine then .ok ⟨false, true, 0, .non, r.ρ.set i (some (n + 1, .lst (xs ++ [r.x])))⟩ else .bad
    | _ => .bad
  | _ => .bad) := rfl
@[simp] theorem z_fit : fitL n r = ((r.lv == n && (r.ow || n == 0)) || r.x.imm) := Eq.trans rfl rfl
@[simp] theorem z_raise {gs : List Str} : sRaise c gs af ρ = (match af ρ with
  | .ok a => if a.vs.length = gs.length ∧ a.vs.all shOk = true then .exc c (gs.zip (a.vs.map (·.2))) a.ρ else .bad
  | .exc c fs ρ' => .exc c fs ρ'
  | .bad => .bad) := rfl
/-! operators -/
@[simp] theorem p_add : pAdd [(m, .int k), (n, .int l)] = some ⟨true, 0, .int (k + l)⟩ := Eq.trans rfl rfl
@[simp] theorem p_adds : pAdd [(m, .str z), (n, .str w)] = if z.length + w.length ≤ sizeLine then some ⟨true, 0, .str (z ++ w)⟩ else none := Eq.trans rfl rfl
@[simp] theorem p_addl : pAdd [(m, .lst xs), (n, .lst ys)] = if m ≤ 1 ∧ n ≤ 1 ∧ xs.length + ys.length ≤ sizeLine then some ⟨true, 1, .lst (xs ++ ys)⟩ else none := Eq.trans rfl rfl
@[simp] theorem p_addt : pAdd [(m, .tup xs), (n, .tup ys)] = if xs.length + ys.length ≤ sizeLine then some ⟨true, 0, .tup (xs ++ ys)⟩ else none := Eq.trans rfl rfl
@[simp] theorem p_sub : pSub [(m, .int k), (n, .int l)] = some ⟨true, 0, .int (k - l)⟩ := Eq.trans rfl rfl
@[simp] theorem p_mod : pMod [(m, .int k), (n, .int l)] = if 0 < l then some ⟨true, 0, .int (k % l)⟩ else none := by
  unfold pMod pI2
  simp
@[simp] theorem p_fdiv : pFdiv [(m, .int k), (n, .int l)] = if 0 < l ∧ l.natAbs.log2 < 9000 then some ⟨true, 0, .int (k / l)⟩ else none := by
  unfold pFdiv pI2
  simp
@[simp] theorem p_mul : pMul [(m, .int k), (n, .int l)] = if k.natAbs.log2 + l.natAbs.log2 < 1000000 then some ⟨true, 0, .int (k * l)⟩ else none := Eq.trans rfl rfl
@[simp] theorem p_muls : pMul [(m, .str z), (n, .int l)] = if 0 ≤ l ∧ l ≤ 1000000 ∧ z.length * l.toNat ≤ 1000000 then some ⟨true, 0, .str (Txt.mul z l)⟩ else none := Eq.trans rfl rfl
@[simp] theorem p_pow : pPow [(m, .int k), (n, .int l)] = if 0 ≤ l ∧ l ≤ 1000000 ∧ k.natAbs < 2 ^ 64 then some ⟨true, 0, .int (k ^ l.toNat)⟩ else none := by
  unfold pPow pI2
  simp [and_assoc]
@[simp] theorem p_neg : pNeg [(m, .int k)] = some ⟨true, 0, .int (-k)⟩ := Eq.trans rfl rfl
@[simp] theorem p_eq : pEq [(m, .int k), (n, .int l)] = some ⟨true, 0, .bl (decide (k = l))⟩ := by
  show (if scal (.int k) (.int l) = true then sc (.bl (false ^^ decide (V.int k = V.int l))) else none) = _
  simp [scal]
@[simp] theorem p_ne : pNe [(m, .int k), (n, .int l)] = some ⟨true, 0, .bl (!decide (k = l))⟩ := by
  show (if scal (.int k) (.int l) = true then sc (.bl (true ^^ decide (V.int k = V.int l))) else none) = _
  simp [scal]
@[simp] theorem p_eqs : pEq [(m, .str z), (n, .str w)] = some ⟨true, 0, .bl (decide (z = w))⟩ := by
  show (if scal (.str z) (.str w) = true then sc (.bl (false ^^ decide (V.str z = V.str w))) else none) = _
  simp [scal]
@[simp] theorem p_nes : pNe [(m, .str z), (n, .str w)] = some ⟨true, 0, .bl (!decide (z = w))⟩ := by
  show (if scal (.str z) (.str w) = true then sc (.bl (true ^^ decide (V.str z = V.str w))) else none) = _
  simp [scal]
@[simp] theorem p_eqb {d : Bool} : pEq [(m, .bl b), (n, .bl d)] = some ⟨true, 0, .bl (decide (b = d))⟩ := by
  show (if scal (.bl b) (.bl d) = true then sc (.bl (false ^^ decide (V.bl b = V.bl d))) else none) = _
  simp [scal]
@[simp] theorem p_lt : pLt [(m, .int k), (n, .int l)] = some ⟨true, 0, .bl (decide (k < l))⟩ := Eq.trans rfl rfl
@[simp] theorem p_le : pLe [(m, .int k), (n, .int l)] = some ⟨true, 0, .bl (decide (k ≤ l))⟩ := Eq.trans rfl rfl
@[simp] theorem p_gt : pGt [(m, .int k), (n, .int l)] = some ⟨true, 0, .bl (decide (l < k))⟩ := Eq.trans rfl rfl
@[simp] theorem p_ge : pGe [(m, .int k), (n, .int l)] = some ⟨true, 0, .bl (decide (l ≤ k))⟩ := Eq.trans rfl rfl
@[simp] theorem p_isN : pIsN b [(m, x), (n, .non)] = some ⟨true, 0, .bl (b ^^ x.isNon)⟩ := Eq.trans rfl rfl
@[simp] theorem p_isNon1 : PV.isNon .non = true := Eq.trans rfl rfl
@[simp] theorem p_isNon2 : PV.isNon (.int k) = false := Eq.trans rfl rfl
@[simp] theorem p_isNon3 : PV.isNon (.str z) = false := Eq.trans rfl rfl
@[simp] theorem p_isNon4 : PV.isNon (.tup xs) = false := Eq.trans rfl rfl
@[simp] theorem p_isNon5 : PV.isNon (.lst xs) = false := Eq.trans rfl rfl
@[simp] theorem p_isNon6 : PV.isNon (.bl b) = false := Eq.trans rfl rfl
@[simp] theorem p_abs : pAbs [(m, .int k)] = some ⟨true, 0, .int (iabs k)⟩ := Eq.trans rfl rfl
@[simp] theorem p_int : pInt [(m, .int k)] = some ⟨true, 0, .int k⟩ := Eq.trans rfl rfl
@[simp] theorem p_lens : pLen [(m, .str z)] = if z.length ≤ sizeLine then some ⟨true, 0, .int z.length⟩ else none := Eq.trans rfl rfl
@[simp] theorem p_lenl : pLen [(m, .lst xs)] = some ⟨true, 0, .int xs.length⟩ := Eq.trans rfl rfl
@[simp] theorem p_lenc : pLen [(m, .clst xs)] = some ⟨true, 0, .int xs.length⟩ := Eq.trans rfl rfl
@[simp] theorem p_lent : pLen [(m, .tup xs)] = some ⟨true, 0, .int xs.length⟩ := Eq.trans rfl rfl
@[simp] theorem p_lenk : pLen [(m, .ctup xs)] = some ⟨true, 0, .int xs.length⟩ := Eq.trans rfl rfl
@[simp] theorem p_tuple : pTuple [(m, .lst xs)] = if m ≤ 1 then some ⟨true, 0, .tup xs⟩ else none := Eq.trans rfl rfl
@[simp] theorem p_tuple2 : pTuple [(m, .tup xs)] = some ⟨true, 0, .tup xs⟩ := Eq.trans rfl rfl
@[simp] theorem p_ixs : pIx [(m, .str z), (n, .int k)] = if z.length ≤ sizeLine then (atI z.cps.toList k).bind fun c => some ⟨true, 0, .str ⟨#[c]⟩⟩ else none := Eq.trans rfl rfl
@[simp] theorem p_ixl : pIx [(m, .lst xs), (n, .int k)] = (atI xs k).bind fun y => some ⟨(m - 1) == 0 || y.imm, if y.imm = true then 0 else (m - 1), y⟩ := Eq.trans rfl rfl
@[simp] theorem p_ixt : pIx [(m, .tup xs), (n, .int k)] = (atI xs k).bind fun y => some ⟨true, if y.imm = true then 0 else 0, y⟩ := Eq.trans rfl rfl
@[simp] theorem p_ixk : pIx [(m, .ctup xs), (n, .int k)] = (atI xs k).bind fun y => some ⟨true, if y.imm = true then 0 else 0, y⟩ := Eq.trans rfl rfl
@[simp] theorem p_ixc : pIx [(m, .clst xs), (n, .int k)] = (atI xs k).bind fun y => some ⟨true, if y.imm = true then 0 else 0, y⟩ := Eq.trans rfl rfl
@[simp] theorem p_slc1 : pSlc true false [(m, .lst xs), (n, .int k)] = if m ≤ 1 then some ⟨true, 1, .lst (cutL xs (some k) none)⟩ else none := Eq.trans rfl rfl
@[simp] theorem p_slc2 : pSlc false true [(m, .clst xs), (n, .int k)] = some ⟨true, 1, .lst (cutL xs none (some k))⟩ := Eq.trans rfl rfl
@[simp] theorem p_slc3 : pSlc false true [(m, .lst xs), (n, .int k)] = if m ≤ 1 then some ⟨true, 1, .lst (cutL xs none (some k))⟩ else none := Eq.trans rfl rfl
@[simp] theorem p_slc4 : pSlc false false [(m, .lst xs)] = if m ≤ 1 then some ⟨true, 1, .lst (cutL xs none none)⟩ else none := Eq.trans rfl rfl
@[simp] theorem p_tup {ps : List (Nat × PV)} : pTup ps = if ps.all shOk = true ∧ ps.length ≤ sizeLine then some ⟨true, 0, .tup (ps.map (·.2))⟩ else none := Eq.trans rfl rfl
@[simp] theorem p_lst {ps : List (Nat × PV)} : pLst ps = if ps.all shOk = true ∧ ps.length ≤ sizeLine then some ⟨true, 1, .lst (ps.map (·.2))⟩ else none := Eq.trans rfl rfl
@[simp] theorem p_split : pSplit [(m, .str z), (n, .str w)] = if (w.length == 0) = false ∧ z.length + 2 ≤ sizeLine then newStrs (Txt.split z w) else none := Eq.trans rfl rfl
@[simp] theorem p_strs {l : List Str} : newStrs l = some ⟨true, 1, .lst (l.map .str)⟩ := Eq.trans rfl rfl
@[simp] theorem p_part : pPart [(m, .str z), (n, .str w)] = if (w.length == 0) = false ∧ z.length ≤ sizeLine then some ⟨true, 0, .tup [.str (Txt.partition z w).1, .str (Txt.partition z w).2.1, .str (Txt.partition z w).2.2]⟩ else none := Eq.trans rfl rfl
@[simp] theorem p_repl {u v : Str} : pRepl u v [(m, .str z)] = if z.length + (z.length + 1) * v.length ≤ 16777216 then some ⟨true, 0, .str (Txt.replace z u v)⟩ else none := Eq.trans rfl rfl
theorem p_ins : inOp b [(m, .str z), (n, .str w)] = some ⟨true, 0, .bl (b ^^ !(Builtin.Str.occurrences w z 0 w.length 1).isEmpty)⟩ := Eq.trans rfl rfl
/-! sources -/
@[simp] theorem z_any : iAny f ρ = ((f ρ).bind fun r => match r.x with
  | .str s => .ok ⟨r.pu, strIt s, r.ρ⟩
  | .tup xs => .ok ⟨r.pu, xs, r.ρ⟩
  | .ctup xs => .ok ⟨r.pu, xs, r.ρ⟩
  | .clst xs => .ok ⟨r.pu, xs, r.ρ⟩
  | .lst xs => if r.lv = 0 ∨ (r.ow = true ∧ r.lv = 1) then .ok ⟨r.pu, xs, r.ρ⟩ else .bad
  | _ => .bad) := rfl
@[simp] theorem z_range {g : List (Nat × PV) → Option (List PV)} : iRange g af ρ = ((af ρ).bind fun a => match g a.vs with
  | some xs => .ok ⟨a.pu, xs, a.ρ⟩
  | none => .bad) := rfl
@[simp] theorem z_rng1 : rngA1 [(m, .int k)] = if r62 k = true then some (rngL 0 k.toNat 1) else none := by
  rfl
@[simp] theorem z_rng2 : rngA2 [(m, .int k), (n, .int l)] = if r62 k = true ∧ r62 l = true then some (rngL k (l - k).toNat 1) else none := by
  rfl
@[simp] theorem z_isi {T : String} : eIsi T f ρ = ((f ρ).bind fun r => match (r.x.tyName).bind fun t => kitB t T with
  | some b => .ok ⟨r.pu, true, 0, .bl b, r.ρ⟩
  | none => .bad) := rfl
@[simp] theorem z_size : sizeLine = 16777216 := sizeLine_eq
/-! calls -/
@[simp] theorem z_call {ms : List Nat} {sl : List (Option Nat)} {g : FF} : eCall ms sl g af ρ = ((af ρ).bind fun a => match callIn ms sl a.vs a.ρ with
  | none => .bad
  | some (pvs, ρ') => match g pvs with
    | .ok lv x outs => if outs.length = ms.length then .ok ⟨a.pu && ms.all (· == 0), true, lv, x, callOut ms sl outs ρ'⟩ else .bad
    | .exc c fs outs => if outs.length = ms.length then .exc c fs (callOut ms sl outs ρ') else .bad
    | .bad => .bad) := rfl
@[simp] theorem z_ci0 : callIn [] [] [] ρ = some ([], ρ) := Eq.trans rfl rfl
@[simp] theorem z_ci1 {ms : List Nat} {sl : List (Option Nat)} {p : Nat × PV} {ps : List (Nat × PV)} : callIn (0 :: ms) (none :: sl) (p :: ps) ρ = if shOk p = true then (callIn ms sl ps ρ).map fun z => (p.2 :: z.1, z.2) else none := Eq.trans rfl rfl
@[simp] theorem z_co0 {ls : List PV} {sl : List (Option Nat)} : callOut [] sl ls ρ = ρ := by cases sl <;> rfl
@[simp] theorem z_co1 {ms : List Nat} {sl : List (Option Nat)} {y : PV} {ls : List PV} : callOut (n :: ms) (none :: sl) (y :: ls) ρ = callOut ms sl ls ρ := by cases n <;> rfl
@[simp] theorem z_co2 {ms : List Nat} {sl : List (Option Nat)} {y : PV} {ls : List PV} : callOut (n :: ms) (some i :: sl) (y :: ls) ρ = callOut ms sl ls (ρ.set i (some (n, y))) := by cases n <;> rfl
@[simp] theorem z_o0 : outsOf [] [] ρ = some [] := by cases ρ <;> rfl
@[simp] theorem z_o1 {ms : List Nat} {ls : List PV} {o : Option (Nat × PV)} : outsOf (0 :: ms) (x :: ls) (o :: ρ) = (outsOf ms ls ρ).map (x :: ·) := Eq.trans rfl rfl
@[simp] theorem z_o2 {ms : List Nat} {ls : List PV} : outsOf ((m + 1) :: ms) (x :: ls) (some (n, y) :: ρ) = if n = m + 1 then (outsOf ms ls ρ).map (y :: ·) else none := Eq.trans rfl rfl
end
/-! ## loops and comprehensions -/
theorem forL_inv {bf : BF} {F : SF} (P : Nat → Ev → Prop) : ∀ {xs : List PV} {ρ : Ev} (k : Nat), P k ρ → (∀ i x ρ, xs[i]? = some x → P (k + i) ρ → ∃ ρ1 ρ2, bf x ρ = some ρ1 ∧ (F ρ1 = .nx ρ2 ∨ F ρ1 = .ct ρ2) ∧ P (k + i + 1) ρ2) → ∃ ρ', forL bf F xs ρ = .nx ρ' ∧ P (k + xs.length) ρ'
  | [], ρ, k, h, _ => ⟨ρ, rfl, h⟩
  | x :: xs, ρ, k, h, st => by
    obtain ⟨ρ1, ρ2, e1, e2, h2⟩ := st 0 x ρ rfl h
    obtain ⟨ρ', e3, h3⟩ := forL_inv P (k + 1) h2 (xs := xs) fun i y ρ hy hp => by
      have := st (i + 1) y ρ (by simpa using hy) (by rw [show k + (i + 1) = k + 1 + i by omega]; exact hp)
      rw [show k + (i + 1) + 1 = k + 1 + i + 1 by omega] at this
      exact this
    refine ⟨ρ', ?_, by rw [List.length_cons, show k + (xs.length + 1) = k + 1 + xs.length by omega]; exact h3⟩
    unfold forL
    rw [e1]
    rcases e2 with e2 | e2 <;> (simp only [e2]; exact e3)
/-- a comprehension whose items are read from the wiped slots -/
theorem lcLoop_sel {own : List Nat} {bf : BF} {t : TFn} {f : EF} {ρ : Ev} (sel : PV → Option PV) : ∀ {xs : List PV}, (∀ x ∈ xs, ∃ ρ1 ρ2 b, bf x ρ = some ρ1 ∧ t ρ1 = .ok ⟨true, b, ρ2⟩ ∧ match sel x with
      | some y => b = true ∧ ∃ ow lv ρ3, f ρ2 = .ok ⟨true, ow, lv, y, ρ3⟩ ∧ shOk (lv, y) = true ∧ wipeE ρ3 own = ρ
      | none => b = false ∧ wipeE ρ2 own = ρ) → lcLoop own bf t f xs ρ = some (xs.filterMap sel, ρ, true)
  | [], _ => rfl
  | x :: xs, h => by
    obtain ⟨ρ1, ρ2, b, e1, e2, e3⟩ := h x List.mem_cons_self
    have ih := lcLoop_sel (own := own) (bf := bf) (t := t) (f := f) (ρ := ρ) sel (xs := xs) fun y hy => h y (List.mem_cons_of_mem _ hy)
    unfold lcLoop
    rw [e1]
    simp only [e2]
    cases es : sel x with
    | some y =>
      rw [es] at e3
      obtain ⟨hb, ow, lv, ρ3, e4, e5, e6⟩ := e3
      subst hb
      rw [if_pos rfl]
      simp only [e4, e5, e6, if_pos, ih, List.filterMap_cons, es, Option.map_some, Bool.and_self]
    | none =>
      rw [es] at e3
      obtain ⟨hb, e6⟩ := e3
      subst hb
      rw [if_neg (by decide)]
      simp only [e6, ih, List.filterMap_cons, es, Option.map_some, Bool.and_self]
end Pv

set_option maxRecDepth 100000
set_option maxHeartbeats 4000000
namespace Pv
open PySem PySem.Spec PyProof.Rows L2
theorem forL_pre {bf : BF} {F : SF} (P : Nat → Ev → Prop) : ∀ {xs : List PV} {ρ : Ev} (k : Nat), P k ρ → (∀ i x ρ, xs[i]? = some x → P (k + i) ρ → ∃ ρ1 ρ2, bf x ρ = some ρ1 ∧ (F ρ1 = .nx ρ2 ∨ F ρ1 = .ct ρ2) ∧ P (k + i + 1) ρ2) → ∃ ρ', P (k + xs.length) ρ' ∧ ∀ zs, forL bf F (xs ++ zs) ρ = forL bf F zs ρ'
  | [], ρ, k, h, _ => ⟨ρ, h, fun _ => rfl⟩
  | x :: xs, ρ, k, h, st => by
    obtain ⟨ρ1, ρ2, e1, e2, h2⟩ := st 0 x ρ rfl h
    obtain ⟨ρ', h3, e3⟩ := forL_pre P (k + 1) h2 (xs := xs) fun i y ρ hy hp => by
      have := st (i + 1) y ρ (by simpa using hy) (by rw [show k + (i + 1) = k + 1 + i by omega]; exact hp)
      rw [show k + (i + 1) + 1 = k + 1 + i + 1 by omega] at this
      exact this
    refine ⟨ρ', by rw [List.length_cons, show k + (xs.length + 1) = k + 1 + xs.length by omega]; exact h3, fun zs => ?_⟩
    rw [List.cons_append, ← e3 zs]
    show (match bf x ρ with | none => SR.bad | some ρ1 => match F ρ1 with | .nx ρ2 => forL bf F (xs ++ zs) ρ2 | .ct ρ2 => forL bf F (xs ++ zs) ρ2 | .bk ρ2 => .nx ρ2 | r => r) = _
    rw [e1]
    rcases e2 with e2 | e2 <;> simp only [e2]
theorem rngL_get {lo c : Int} {n i : Nat} {x : PV} (h : (rngL lo n c)[i]? = some x) : i < n ∧ x = .int (lo + (i : Int) * c) := by
  unfold rngL at h
  rw [List.getElem?_map] at h
  by_cases hi : i < n
  · rw [List.getElem?_range hi] at h
    simp only [Option.map_some, Option.some.injEq] at h
    exact ⟨hi, h.symm⟩
  · rw [List.getElem?_eq_none (by simpa using hi)] at h
    cases h
@[simp] theorem rngL_len {lo c : Int} {n : Nat} : (rngL lo n c).length = n := by simp [rngL]
theorem atI_nat {α : Type} {xs : List α} {i : Nat} (h : i < xs.length) : atI xs (i : Int) = xs[i]? := by
  unfold atI ixN
  rw [if_pos (by omega), if_pos (by omega)]
  rfl
/-! ## the laws' own stream of numbers -/
noncomputable def L1_stream : SF := (sIf (tSeqF true (tOf (eOp pGt (aCons (eVar 6) (aCons (eC (.int (0 : Int))) aNil)))) (tOf (eOp pLt (aCons (eOp pLen (aCons (eVar 2) aNil)) (aCons (eVar 1) aNil))))) (sSeq (sExpr (eAppend 2 (eOp pMod (aCons (eOp pInt (aCons (eVar 6) aNil)) (aCons (eC (.int (1000 : Int))) aNil))))) (sSet 6 (eOp pFdiv (aCons (eVar 6) (aCons (eC (.int (1000 : Int))) aNil))))) sNil)
noncomputable def L2_stream : SF := (sSeq (sSet 6 (eOp pAbs (aCons (eOp pInt (aCons (eVar 4) aNil)) aNil))) (sSeq (sIf (tOf (eOp pGe (aCons (eVar 6) (aCons (eOp pPow (aCons (eC (.int (10 : Int))) (aCons (eC (.int (18 : Int))) aNil))) aNil)))) (sFor (iRange rngA1 (aCons (eC (.int (60 : Int))) aNil)) (bName 5) L1_stream) (sIf (tOf (eOp pLt (aCons (eOp pLen (aCons (eVar 2) aNil)) (aCons (eVar 1) aNil)))) (sExpr (eAppend 2 (eOp pMod (aCons (eOp pInt (aCons (eVar 6) aNil)) (aCons (eC (.int (1000 : Int))) aNil))))) sNil)) (sSet 3 (eOp pMod (aCons (eOp pInt (aCons (eOp pAdd (aCons (eOp pAdd (aCons (eOp pMul (aCons (eVar 3) (aCons (eC (.int (31 : Int))) aNil))) (aCons (eOp pMod (aCons (eOp pInt (aCons (eVar 4) aNil)) (aCons (eC (.int (1000003 : Int))) aNil))) aNil))) (aCons (eC (.int (5 : Int))) aNil))) aNil)) (aCons (eC (.int (1000003 : Int))) aNil))))))
noncomputable def L3_stream : SF := (sIf (tOf (eOp pLt (aCons (eOp pLen (aCons (eVar 2) aNil)) (aCons (eVar 1) aNil)))) (sSeq (sSet 3 (eOp pMod (aCons (eOp pInt (aCons (eOp pAdd (aCons (eOp pMul (aCons (eVar 3) (aCons (eC (.int (48271 : Int))) aNil))) (aCons (eC (.int (11 : Int))) aNil))) aNil)) (aCons (eC (.int (1000003 : Int))) aNil)))) (sExpr (eAppend 2 (eOp pMod (aCons (eOp pInt (aCons (eOp pFdiv (aCons (eVar 3) (aCons (eC (.int (7 : Int))) aNil))) aNil)) (aCons (eC (.int (1000 : Int))) aNil)))))) sNil)
noncomputable def B_stream : SF := (sSeq (sSet 2 (eOp pLst aNil)) (sSeq (sSet 3 (eC (.int (7 : Int)))) (sSeq (sFor (iAny (eOp (pSlc false true) (aCons (eVar 0) (aConsT PV.isInt (eC (.int (63 : Int))) aNil)))) (bName 4) L2_stream) (sSeq (sFor (iRange rngA1 (aCons (eVar 1) aNil)) (bName 5) L3_stream) (sRet (eMove 2))))))
def Dig (xs : List Int) : Prop := ∀ x ∈ xs, 0 ≤ x ∧ x < 1000
theorem Dig.snoc {xs : List Int} {y : Int} (h : Dig xs) (h0 : 0 ≤ y) (h1 : y < 1000) : Dig (xs ++ [y]) := fun x hx => by
  rcases List.mem_append.mp hx with z | z
  · exact h x z
  · rw [List.mem_singleton.mp z]; exact ⟨h0, h1⟩
theorem pvInts_snoc {xs : List Int} {y : Int} : pvInts xs ++ [.int y] = pvInts (xs ++ [y]) := by simp [pvInts]
@[simp] theorem pvInts_len {xs : List Int} : (pvInts xs).length = xs.length := by simp [pvInts]
theorem pvInts_get {xs : List Int} {i : Nat} {x : PV} (h : (pvInts xs)[i]? = some x) : ∃ z, xs[i]? = some z ∧ x = .int z := by
  unfold pvInts at h
  rw [List.getElem?_map] at h
  obtain ⟨z, e1, e2⟩ := Option.map_eq_some_iff.mp h
  exact ⟨z, e1, e2.symm⟩
/-- the slots of the stream's def -/
def SOk (a : PV) (many : Int) (p : List Int → Prop) (ρ : Ev) : Prop := ∃ xs s c k l, ρ = [some (0, a), some (0, .int many), some (1, .lst (pvInts xs)), some (0, .int s), c, k, l] ∧ xs.length ≤ many.toNat ∧ Dig xs ∧ 0 ≤ s ∧ s < 1000003 ∧ p xs
theorem log_small {s : Int} (h0 : 0 ≤ s) (h1 : s < 1000003) : s.natAbs.log2 ≤ 20 := by
  have : s.natAbs < 2 ^ 20 := by omega
  by_cases h : s.natAbs = 0
  · rw [h]; decide
  · have := (Nat.log2_lt h).mpr this
    omega
theorem L1_ok {a : PV} {many s : Int} {xs : List Int} {cell x : PV} {left : Int} (h0 : 0 ≤ many) (h1 : many ≤ 1000) (hx : xs.length ≤ many.toNat) (d : Dig xs) (hl : 0 ≤ left) : ∃ ys left', L1_stream [some (0, a), some (0, .int many), some (1, .lst (pvInts xs)), some (0, .int s), some (0, cell), some (0, x), some (0, .int left)] =
    .nx [some (0, a), some (0, .int many), some (1, .lst (pvInts ys)), some (0, .int s), some (0, cell), some (0, x), some (0, .int left')] ∧ ys.length ≤ many.toNat ∧ Dig ys ∧ 0 ≤ left' := by
  unfold L1_stream
  by_cases c1 : 0 < left
  · by_cases c2 : (xs.length : Int) < many
    · refine ⟨xs ++ [left % 1000], left / 1000, ?_, ?_, d.snoc (by omega) (by omega), by omega⟩
      · simp [c1, c2, show xs.length < 16777216 by omega, pvInts_snoc, show Nat.log2 1000 < 9000 by decide]
      · rw [List.length_append]; simp; omega
    · exact ⟨xs, left, by simp [c1, c2], hx, d, hl⟩
  · exact ⟨xs, left, by simp [c1], hx, d, hl⟩
/-- the slots of the stream's def behind each turn -/
def Sg (a : PV) (many : Int) (p : List Int → Prop) (ρ : Ev) : Prop := ∃ xs s c k l, ρ = [some (0, a), some (0, .int many), some (1, .lst (pvInts xs)), some (0, .int s), c, k, l] ∧ xs.length ≤ many.toNat ∧ Dig xs ∧ (0 ≤ s ∧ s < 1000003) ∧ p xs
theorem log31 : Nat.log2 31 = 4 := by decide
theorem log48271 : Nat.log2 48271 = 15 := by decide
theorem log1000 : Nat.log2 1000 = 9 := by decide
theorem log7 : Nat.log2 7 = 2 := by decide
theorem L2_ok {a : PV} {many z : Int} {ρ : Ev} (h0 : 0 ≤ many) (h1 : many ≤ 1000) (h : Sg a many (fun _ => True) ρ) : ∃ ρ1 ρ2, bName 4 (.int z) ρ = some ρ1 ∧ (L2_stream ρ1 = .nx ρ2 ∨ L2_stream ρ1 = .ct ρ2) ∧ Sg a many (fun _ => True) ρ2 := by
  obtain ⟨xs, s, c, k, l, e, hx, d, ⟨s0, s1⟩, _⟩ := h
  subst e
  have lg := log_small s0 s1
  have sm : ∀ y : Int, 0 ≤ (s * 31 + y + 5) % 1000003 ∧ (s * 31 + y + 5) % 1000003 < 1000003 := fun y => ⟨by omega, by omega⟩
  by_cases c : (1000000000000000000 : Int) ≤ iabs z
  · obtain ⟨ρ', e, ys, k', left, e2, g1, g2, g3⟩ := forL_inv (bf := bName 5) (F := L1_stream) (fun _ ρ => ∃ ys k left, ρ = [some (0, a), some (0, .int many), some (1, .lst (pvInts ys)), some (0, .int s), some (0, .int z), k, some (0, .int left)] ∧ ys.length ≤ many.toNat ∧ Dig ys ∧ 0 ≤ left)
      (xs := rngL 0 60 1) (ρ := [some (0, a), some (0, .int many), some (1, .lst (pvInts xs)), some (0, .int s), some (0, .int z), k, some (0, .int (iabs z))]) 0 ⟨xs, k, _, rfl, hx, d, iabs_nonneg z⟩ (fun i x ρ _ ⟨ys, k, left, e, h2, h3, h4⟩ => by
        subst e
        obtain ⟨ys', left', e, g1, g2, g3⟩ := L1_ok (a := a) (s := s) (cell := .int z) (x := x) h0 h1 h2 h3 h4
        exact ⟨_, _, rfl, .inl e, ys', _, left', rfl, g1, g2, g3⟩)
    subst e2
    exact ⟨_, _, rfl, .inl (by unfold L2_stream; simp [c, e, log31, r62_ok (k := 60) (by omega) (by omega), show s.natAbs.log2 + 4 < 1000000 by omega]; repeat (first | exact rfl | refine ⟨rfl, ?_⟩)), ys, _, _, _, _, rfl, g1, g2, sm _, trivial⟩
  · by_cases c2 : (xs.length : Int) < many
    · exact ⟨_, _, rfl, .inl (by unfold L2_stream; simp [c, c2, log31, show s.natAbs.log2 + 4 < 1000000 by omega, show xs.length < 16777216 by omega, pvInts_snoc]; repeat (first | exact rfl | refine ⟨rfl, ?_⟩)), xs ++ [iabs z % 1000], _, _, _, _, rfl, by rw [List.length_append]; simp; omega, d.snoc (by omega) (by omega), sm _, trivial⟩
    · exact ⟨_, _, rfl, .inl (by unfold L2_stream; simp [c, c2, log31, show s.natAbs.log2 + 4 < 1000000 by omega]; repeat (first | exact rfl | refine ⟨rfl, ?_⟩)), xs, _, _, _, _, rfl, hx, d, sm _, trivial⟩
theorem L3_ok {a x : PV} {many : Int} {ρ : Ev} {i : Nat} (h0 : 0 ≤ many) (h1 : many ≤ 1000) (h : Sg a many (fun xs => min i many.toNat ≤ xs.length) ρ) : ∃ ρ1 ρ2, bName 5 x ρ = some ρ1 ∧ (L3_stream ρ1 = .nx ρ2 ∨ L3_stream ρ1 = .ct ρ2) ∧ Sg a many (fun xs => min (i + 1) many.toNat ≤ xs.length) ρ2 := by
  obtain ⟨xs, s, c, k, l, e, hx, d, ⟨s0, s1⟩, hp⟩ := h
  subst e
  have lg := log_small s0 s1
  by_cases c2 : (xs.length : Int) < many
  · exact ⟨_, _, rfl, .inl (by unfold L3_stream; simp [c2, log48271, log7, show s.natAbs.log2 + 15 < 1000000 by omega, show xs.length < 16777216 by omega, pvInts_snoc]; repeat (first | exact rfl | refine ⟨rfl, ?_⟩)), xs ++ [(s * 48271 + 11) % 1000003 / 7 % 1000], _, _, _, _, rfl, by rw [List.length_append]; simp; omega, d.snoc (by omega) (by omega), ⟨by omega, by omega⟩, by show min (i + 1) many.toNat ≤ (xs ++ [_]).length; rw [List.length_append]; simp; omega⟩
  · exact ⟨_, _, rfl, .inl (by unfold L3_stream; simp [c2]; repeat (first | exact rfl | refine ⟨rfl, ?_⟩)), xs, _, _, _, _, rfl, hx, d, ⟨s0, s1⟩, by show min (i + 1) many.toNat ≤ xs.length; omega⟩
theorem stream_ok (ns : List Int) {many : Int} (h0 : 0 ≤ many) (h1 : many ≤ 1000) : ∃ xs : List Int, xs.length = many.toNat ∧ Dig xs ∧ fnF [0, 0] 7 B_stream [.clst (pvInts ns), .int many] = .ok 1 (.lst (pvInts xs)) [.clst (pvInts ns), .int many] := by
  obtain ⟨ρ1, e1, g1⟩ := forL_inv (bf := bName 4) (F := L2_stream) (fun _ ρ => Sg (.clst (pvInts ns)) many (fun _ => True) ρ) (xs := cutL (pvInts ns) none (some 63)) (ρ := [some (0, .clst (pvInts ns)), some (0, .int many), some (1, .lst []), some (0, .int 7), none, none, none]) 0
    ⟨[], 7, _, _, _, rfl, by simp, fun _ h => (nomatch h), by omega, trivial⟩ (fun i x ρ hx h => by
      have hm : x ∈ pvInts ns := List.mem_of_mem_drop (List.mem_of_mem_take (List.mem_of_getElem? hx))
      obtain ⟨z, _, rfl⟩ := List.mem_map.mp hm
      exact L2_ok h0 h1 h)
  obtain ⟨ρ2, e2, xs, s, c, k, l, e, hx, d, _, hp⟩ := forL_inv (bf := bName 5) (F := L3_stream) (fun i ρ => Sg (.clst (pvInts ns)) many (fun xs => min i many.toNat ≤ xs.length) ρ) (xs := rngL 0 many.toNat 1) (ρ := ρ1) 0
    (by obtain ⟨xs, s, c, k, l, e, hx, d, hs, _⟩ := g1; exact ⟨xs, s, c, k, l, e, hx, d, hs, by omega⟩) (fun i x ρ _ h => by
      have := L3_ok (x := x) h0 h1 h
      exact this)
  refine ⟨xs, by simp at hp; omega, d, ?_⟩
  obtain ⟨xs1, s1, c1, k1, l1, e', _⟩ := g1
  subst e' e
  unfold fnF B_stream
  simp [argsE, e1, e2, r62_ok (k := many) (by omega) (by omega)]
end Pv

set_option maxRecDepth 100000
set_option maxHeartbeats 4000000
namespace Pv
open PySem PySem.Spec PyProof.Rows L2
/-! ## the laws' own comparison -/
noncomputable def L1_same (f_rec : FF) : SF := (sIf (tNotF (tOf (eCall [0, 0] [none, none] f_rec (aCons (eOp pIx (aCons (eVar 0) (aCons (eVar 2) aNil))) (aCons (eOp pIx (aCons (eVar 1) (aCons (eVar 2) aNil))) aNil))))) (sRet (eC (.bl false))) sNil)
noncomputable def L2_same (f_rec : FF) : SF := (sIf (tNotF (tOf (eCall [0, 0] [none, none] f_rec (aCons (eOp pIx (aCons (eVar 0) (aCons (eVar 2) aNil))) (aCons (eOp pIx (aCons (eVar 1) (aCons (eVar 2) aNil))) aNil))))) (sRet (eC (.bl false))) sNil)
noncomputable def B_same (f_rec : FF) : SF := (sSeq (sIf (tOf (eIsi "tuple" (eVar 1))) (sSeq (sIf (tSeqF false (tNotF (tOf (eIsi "tuple" (eVar 0)))) (tOf (eOp pNe (aCons (eOp pLen (aCons (eVar 0) aNil)) (aCons (eOp pLen (aCons (eVar 1) aNil)) aNil))))) (sRet (eC (.bl false))) sNil) (sSeq (sFor (iRange rngA1 (aCons (eOp pLen (aCons (eVar 1) aNil)) aNil)) (bName 2) (L1_same f_rec)) (sRet (eC (.bl true))))) sNil) (sSeq (sIf (tOf (eIsi "list" (eVar 1))) (sSeq (sIf (tSeqF false (tNotF (tOf (eIsi "list" (eVar 0)))) (tOf (eOp pNe (aCons (eOp pLen (aCons (eVar 0) aNil)) (aCons (eOp pLen (aCons (eVar 1) aNil)) aNil))))) (sRet (eC (.bl false))) sNil) (sSeq (sFor (iRange rngA1 (aCons (eOp pLen (aCons (eVar 1) aNil)) aNil)) (bName 2) (L2_same f_rec)) (sRet (eC (.bl true))))) sNil) (sSeq (sIf (tOf (eOp (pIsN false) (aCons (eVar 1) (aCons (eC .non) aNil)))) (sRet (eOp (pIsN false) (aCons (eVar 0) (aCons (eC .non) aNil)))) sNil) (sSeq (sIf (tOf (eIsi "bool" (eVar 1))) (sRet (eSeqF true (eIsi "bool" (eVar 0)) (eOp pEq (aCons (eVar 0) (aCons (eVar 1) aNil))))) sNil) (sSeq (sIf (tOf (eIsi "int" (eVar 1))) (sRet (eSeqF true (eIsi "int" (eVar 0)) (eSeqF true (eNotF (tOf (eIsi "bool" (eVar 0)))) (eOp pEq (aCons (eVar 0) (aCons (eVar 1) aNil)))))) sNil) (sRet (eSeqF true (eIsi "str" (eVar 0)) (eOp pEq (aCons (eVar 0) (aCons (eVar 1) aNil))))))))))
noncomputable def F_same : Nat → FF
  | 0 => fun _ => .bad
  | n + 1 => fnF [0, 0] 3 (B_same (F_same n))
/-- data of less than n levels -/
def Okd : Nat → PV → Prop
  | 0, _ => False
  | _ + 1, .non => True
  | _ + 1, .bl _ => True
  | _ + 1, .int _ => True
  | _ + 1, .str _ => True
  | n + 1, .tup xs => xs.length ≤ 16777216 ∧ ∀ x ∈ xs, Okd n x
  | n + 1, .lst xs => xs.length ≤ 16777216 ∧ ∀ x ∈ xs, Okd n x
  | _ + 1, _ => False
theorem kit_tt : kitB "tuple" "tuple" = some true := by decide +kernel
theorem kit_lt : kitB "list" "tuple" = some false := by decide +kernel
theorem kit_ll : kitB "list" "list" = some true := by decide +kernel
theorem kit_bt : kitB "bool" "tuple" = some false := by decide +kernel
theorem kit_bl : kitB "bool" "list" = some false := by decide +kernel
theorem kit_bb : kitB "bool" "bool" = some true := by decide +kernel
theorem kit_it : kitB "int" "tuple" = some false := by decide +kernel
theorem kit_il : kitB "int" "list" = some false := by decide +kernel
theorem kit_ib : kitB "int" "bool" = some false := by decide +kernel
theorem kit_ii : kitB "int" "int" = some true := by decide +kernel
theorem kit_st : kitB "str" "tuple" = some false := by decide +kernel
theorem kit_sl : kitB "str" "list" = some false := by decide +kernel
theorem kit_sb : kitB "str" "bool" = some false := by decide +kernel
theorem kit_si : kitB "str" "int" = some false := by decide +kernel
theorem kit_ss : kitB "str" "str" = some true := by decide +kernel
theorem kit_nt : kitB "NoneType" "tuple" = some false := by decide +kernel
theorem kit_nl : kitB "NoneType" "list" = some false := by decide +kernel
theorem same_tup {f : FF} {xs : List PV} (h1 : xs.length ≤ 16777216) (h2 : ∀ x ∈ xs, f [x, x] = .ok 0 (.bl true) [x, x]) : fnF [0, 0] 3 (B_same f) [.tup xs, .tup xs] = .ok 0 (.bl true) [.tup xs, .tup xs] := by
  obtain ⟨ρ, e, k, ek⟩ := forL_inv (bf := bName 2) (F := L1_same f) (fun i ρ => ∃ k, ρ = [some (0, .tup xs), some (0, .tup xs), k]) (xs := rngL 0 xs.length 1) (ρ := [some (0, .tup xs), some (0, .tup xs), none]) 0 ⟨none, rfl⟩ (fun i x ρ hx ⟨k, e⟩ => by
    subst e
    obtain ⟨hi, rfl⟩ := rngL_get hx
    have hg : xs[i]? = some xs[i] := List.getElem?_eq_getElem hi
    have ih := h2 xs[i] (List.getElem_mem hi)
    refine ⟨_, [some (0, .tup xs), some (0, .tup xs), some (0, .int (0 + (i : Int) * 1))], rfl, .inl ?_, _, rfl⟩
    unfold L1_same
    simp [atI_nat hi, hg, ih])
  subst ek
  unfold fnF B_same
  simp [argsE, PV.tyName, kit_tt, e, r62_nat (n := xs.length) (by omega)]
theorem same_lst {f : FF} {xs : List PV} (h1 : xs.length ≤ 16777216) (h2 : ∀ x ∈ xs, f [x, x] = .ok 0 (.bl true) [x, x]) : fnF [0, 0] 3 (B_same f) [.lst xs, .lst xs] = .ok 0 (.bl true) [.lst xs, .lst xs] := by
  obtain ⟨ρ, e, k, ek⟩ := forL_inv (bf := bName 2) (F := L2_same f) (fun i ρ => ∃ k, ρ = [some (0, .lst xs), some (0, .lst xs), k]) (xs := rngL 0 xs.length 1) (ρ := [some (0, .lst xs), some (0, .lst xs), none]) 0 ⟨none, rfl⟩ (fun i x ρ hx ⟨k, e⟩ => by
    subst e
    obtain ⟨hi, rfl⟩ := rngL_get hx
    have hg : xs[i]? = some xs[i] := List.getElem?_eq_getElem hi
    have ih := h2 xs[i] (List.getElem_mem hi)
    refine ⟨_, [some (0, .lst xs), some (0, .lst xs), some (0, .int (0 + (i : Int) * 1))], rfl, .inl ?_, _, rfl⟩
    unfold L2_same
    simp [atI_nat hi, hg, ih])
  subst ek
  unfold fnF B_same
  simp [argsE, PV.tyName, kit_lt, kit_ll, e, r62_nat (n := xs.length) (by omega)]
theorem same_non {f : FF} : fnF [0, 0] 3 (B_same f) [.non, .non] = .ok 0 (.bl true) [.non, .non] := by
  unfold fnF B_same
  simp [argsE, PV.tyName, kit_nt, kit_nl]
theorem same_bl {f : FF} {b : Bool} : fnF [0, 0] 3 (B_same f) [.bl b, .bl b] = .ok 0 (.bl true) [.bl b, .bl b] := by
  unfold fnF B_same
  simp [argsE, PV.tyName, kit_bt, kit_bl, kit_bb]
theorem same_int {f : FF} {b : Int} : fnF [0, 0] 3 (B_same f) [.int b, .int b] = .ok 0 (.bl true) [.int b, .int b] := by
  unfold fnF B_same
  simp [argsE, PV.tyName, kit_it, kit_il, kit_ib, kit_ii]
theorem same_str {f : FF} {b : Str} : fnF [0, 0] 3 (B_same f) [.str b, .str b] = .ok 0 (.bl true) [.str b, .str b] := by
  unfold fnF B_same
  simp [argsE, PV.tyName, kit_st, kit_sl, kit_sb, kit_si, kit_ss]
theorem same_ok (n : Nat) : ∀ d : PV, Okd n d → F_same n [d, d] = .ok 0 (.bl true) [d, d] := by
  induction n with
  | zero => exact fun d h => h.elim
  | succ n ih =>
    intro d h
    cases d with
    | non => exact same_non
    | bl b => exact same_bl
    | int b => exact same_int
    | str b => exact same_str
    | tup xs => exact same_tup h.1 fun x hx => ih x (h.2 x hx)
    | lst xs => exact same_lst h.1 fun x hx => ih x (h.2 x hx)
    | ctup xs => exact h.elim
    | dic xs => exact h.elim
    | clst xs => exact h.elim
    | exn a b c d => exact h.elim
end Pv

set_option maxRecDepth 100000
set_option maxHeartbeats 4000000
namespace Pv
open PySem PySem.Spec PyProof.Rows L2 TL
/-! ## texts as lists of signs -/
def mkS (l : List Nat) : Str := ⟨l.toArray⟩
@[simp] theorem tl_mkS {l : List Nat} : tl (mkS l) = l := rfl
@[simp] theorem mkS_toList {l : List Nat} : (mkS l).cps.toList = l := rfl
@[simp] theorem mkS_len {l : List Nat} : (mkS l).length = l.length := by rw [len_tl]; rfl
theorem mkS_tl (x : Str) : mkS (tl x) = x := mk_tl x
theorem mkS_inj {l m : List Nat} : mkS l = mkS m ↔ l = m := ⟨fun h => congrArg tl h, fun h => by rw [h]⟩
theorem mkS_add (l m : List Nat) : mkS l ++ mkS m = mkS (l ++ m) := ext_tl (by rw [tl_append]; rfl)
/-- l cut at each s -/
def sp (s : Nat) : List Nat → List Nat → List (List Nat)
  | acc, [] => [acc]
  | acc, c :: r => if c = s then acc :: sp s [] r else sp s (acc ++ [c]) r
theorem pre_one {s c : Nat} {r : List Nat} : pre [s] (c :: r) = decide (c = s) := by
  unfold pre
  by_cases h : c = s <;> simp [h]
theorem spl_sp (s : Nat) : ∀ (l acc : List Nat), spl [s] 0 acc l = sp s acc l
  | [], acc => spl_nil _ _ _
  | c :: r, acc => by
    unfold sp
    by_cases h : c = s
    · rw [if_pos h, spl_hit (by rw [pre_one]; simp [h])]
      show acc :: spl [s] 0 [] r = _
      rw [spl_sp s r]
    · rw [if_neg h, spl_miss (by rw [pre_one]; simp [h]), spl_sp s r]
theorem split_sp {x y : Str} {s : Nat} (ey : tl y = [s]) (hs : s < 256) : Txt.split x y = (sp s [] (tl x)).map mkS := by
  refine map_tl_inj ?_
  have hk : y.cps.all (· < 256) = true := by
    rw [← Array.all_toList]
    show (tl y).all (· < 256) = true
    rw [ey]
    simp [hs]
  rw [split_spl x y (by rw [ey]; simp) (kind_ok hk), ey, spl_sp, List.map_map]
  exact (List.map_id' (sp s [] (tl x))).symm.trans (List.map_congr_left fun z _ => rfl)
theorem par_tw {s : Nat} : ∀ (l acc : List Nat), ((par [s] acc l).map (·.1)).getD (acc ++ l) = acc ++ l.takeWhile (fun c => !decide (c = s))
  | [], acc => by simp [par]
  | c :: r, acc => by
    by_cases h : c = s
    · rw [par_hit (by rw [pre_one]; simp [h])]
      simp [h]
    · rw [par_miss (by rw [pre_one]; simp [h])]
      have := par_tw (s := s) r (acc ++ [c])
      rw [List.append_assoc] at this
      rw [List.takeWhile_cons_of_pos (by simp [h])]
      simpa using this
theorem part_tw {x y : Str} {s : Nat} (ey : tl y = [s]) : (Txt.partition x y).1 = mkS ((tl x).takeWhile fun c => !decide (c = s)) := by
  refine ext_tl ?_
  have k := par_tw (s := s) (tl x) []
  rw [partition_par x y (by rw [ey]; simp), ey]
  cases e : par [s] [] (tl x) with
  | none => rw [e] at k; simpa using k
  | some p => rw [e] at k; simpa using k
theorem sp_ne {s : Nat} : ∀ (l acc : List Nat), sp s acc l ≠ []
  | [], acc => by simp [sp]
  | c :: r, acc => by
    unfold sp
    split
    · simp
    · exact sp_ne r _
theorem sp_len {s : Nat} : ∀ (l acc : List Nat), (sp s acc l).length = l.count s + 1
  | [], acc => rfl
  | c :: r, acc => by
    unfold sp
    by_cases h : c = s
    · rw [if_pos h, List.length_cons, sp_len r, h, List.count_cons_self]
    · rw [if_neg h, sp_len r, List.count_cons_of_ne h]
/-- every part's signs are signs of the whole -/
theorem sp_mem {s : Nat} : ∀ (l acc : List Nat), ∀ p ∈ sp s acc l, ∀ c ∈ p, c ∈ acc ∨ (c ∈ l ∧ c ≠ s)
  | [], acc, p, hp, c, hc => by
    simp [sp] at hp
    subst hp
    exact .inl hc
  | x :: r, acc, p, hp, c, hc => by
    unfold sp at hp
    by_cases h : x = s
    · rw [if_pos h] at hp
      rcases List.mem_cons.mp hp with e | hp
      · subst e; exact .inl hc
      · rcases sp_mem r [] p hp c hc with z | z
        · cases z
        · exact .inr ⟨List.mem_cons_of_mem _ z.1, z.2⟩
    · rw [if_neg h] at hp
      rcases sp_mem r _ p hp c hc with z | z
      · rcases List.mem_append.mp z with z | z
        · exact .inl z
        · rw [List.mem_singleton.mp z]; exact .inr ⟨List.mem_cons_self, h⟩
      · exact .inr ⟨List.mem_cons_of_mem _ z.1, z.2⟩
theorem sp_part_len {s : Nat} : ∀ (l acc : List Nat), ∀ p ∈ sp s acc l, p.length ≤ acc.length + l.length
  | [], acc, p, hp => by
    simp [sp] at hp
    subst hp
    simp
  | x :: r, acc, p, hp => by
    unfold sp at hp
    by_cases h : x = s
    · rw [if_pos h] at hp
      rcases List.mem_cons.mp hp with e | hp
      · subst e; simp
      · have := sp_part_len r [] p hp
        simp at this ⊢
        omega
    · rw [if_neg h] at hp
      have := sp_part_len r _ p hp
      simp at this ⊢
      omega
/-- a text of one sign within a text -/
@[simp] theorem p_in1 {b : Bool} {m n c : Nat} {w : Str} : inOp b [(m, .str ⟨#[c]⟩), (n, .str w)] = some ⟨true, 0, .bl (b ^^ decide (c ∈ w.cps.toList))⟩ := by
  rw [p_ins, PySem.StrLaws.found_one]
@[simp] theorem at_0 {α : Type} {x : α} {xs : List α} : atI (x :: xs) 0 = some x := by
  have := atI_nat (xs := x :: xs) (i := 0) (by simp)
  simpa using this
@[simp] theorem at_1 {α : Type} {x y : α} {xs : List α} : atI (x :: y :: xs) 1 = some y := by
  have := atI_nat (xs := x :: y :: xs) (i := 1) (by simp)
  simpa using this
@[simp] theorem at_2 {α : Type} {x y z : α} {xs : List α} : atI (x :: y :: z :: xs) 2 = some z := by
  have := atI_nat (xs := x :: y :: z :: xs) (i := 2) (by simp)
  simpa using this
theorem strIt_mk (l : List Nat) : strIt (mkS l) = l.map fun c => .str (mkS [c]) := rfl
/-! ## try -/
theorem try_eq {body : SF} {hds : List Hd} {ρ : Ev} : sTry body hds ρ = (match body ρ with | .exc c fs ρ' => sHs hds c fs ρ' | r => r) := rfl
theorem hs_hit {h : Hd} {t : List Hd} {c : Str} {fs : List (Str × PV)} {ρ : Ev} (e : h.cs.contains c = true) : sHs (h :: t) c fs ρ = hRun h c fs ρ := by
  unfold sHs
  rw [if_pos e]
theorem hs_miss {h : Hd} {t : List Hd} {c : Str} {fs : List (Str × PV)} {ρ : Ev} (e : h.cs.contains c = false) (e2 : h.ncs.contains c = true) : sHs (h :: t) c fs ρ = sHs t c fs ρ := by
  rw [sHs, if_neg (by rw [e]; decide), if_pos e2]
theorem run_named {h : Hd} {c : Str} {fs : List (Str × PV)} {ρ : Ev} {i : Nat} {R : SR} (e : h.sl = some i) (hi : i < ρ.length) (k : ∀ a d, (h.sf a d c (ρ.set i (some (0, .exn a d c fs)))).drop i = R) : hRun h c fs ρ = R := by
  unfold hRun
  rw [e]
  simp only []
  rw [if_pos ⟨hi, fun a d => (k a d).trans (k 0 none).symm⟩]
  exact k 0 none
theorem run_plain {h : Hd} {c : Str} {fs : List (Str × PV)} {ρ : Ev} {R : SR} (e : h.sl = none) (k : ∀ a d, (h.sf a d c ρ).noX = R) : hRun h c fs ρ = R := by
  unfold hRun
  rw [e]
  simp only []
  rw [if_pos fun a d => (k a d).trans (k 0 none).symm]
  exact k 0 none
@[simp] theorem z_xf {a : Addr} {d : Option Addr} {c f : Str} {i : Nat} {ρ : Ev} : eXf a d c f i ρ = (match ρ[i]? with
  | some (some (_, .exn a' d' c' fs)) => if a' = a ∧ d' = d ∧ c' = c then (match fs.lookup f with
    | some x => .ok ⟨true, true, 0, x, ρ⟩
    | none => .bad) else .bad
  | _ => .bad) := Eq.trans rfl rfl
@[simp] theorem z_dr1 {i : Nat} {ρ : Ev} {n : Nat} {x : PV} : SR.drop i (.rt n x ρ) = .rt n x (ρ.set i none) := Eq.trans rfl rfl
@[simp] theorem z_dr2 {i : Nat} {ρ : Ev} : SR.drop i (.nx ρ) = .nx (ρ.set i none) := Eq.trans rfl rfl
end Pv

set_option maxRecDepth 100000
set_option maxHeartbeats 1000000
namespace Pv
open PySem PySem.Spec PyProof.Rows L2

/-! ## dicts: keys -/
def PV.keyS : PV → Option Key
  | .int i => some (.inl i)
  | .str s => some (.inr s)
  | _ => none
def PV.keyOf : PV → Option DK
  | .int i => some (.k (.inl i))
  | .str s => some (.k (.inr s))
  | .tup xs => (xs.mapM PV.keyS).map .t
  | _ => none
def valD {α : Type} (kvs : List (DK × α)) (k : DK) : Option α := (kvs.find? fun p => decide (p.1 = k)).map (·.2)
def putD {α : Type} (kvs : List (DK × α)) (k : DK) (x : α) : List (DK × α) := match kvs with
  | [] => [(k, x)]
  | p :: r => if p.1 = k then (p.1, x) :: r else p :: putD r k x
def dropD {α : Type} (kvs : List (DK × α)) (k : DK) : List (DK × α) := kvs.filter fun p => decide (p.1 ≠ k)
section
variable {K : PySem.W.Frag} {H0 H : Hp}
theorem own_keyS {x : PV} {n : Nat} {v : V} {F : Fp} {k : Key} (h : Own K H0 H x n v F) (e : x.keyS = some k) : v = kV k := by
  cases x with
  | int i => cases e; exact h
  | str s => cases e; exact h
  | _ => cases e
theorem own_keySs : ∀ {xs : List PV} {n : Nat} {vs : List V} {F : Fp} {ks : List Key}, OwnL K H0 H xs n vs F → xs.mapM PV.keyS = some ks → vs = ks.map kV
  | [], _, vs, _, ks, h, e => by
    cases (show some [] = some ks from e)
    exact h
  | x :: xs, n, vs, F, ks, ⟨v, vs', G, e1, h1, h2⟩, e => by
    rw [List.mapM_cons] at e
    cases e2 : x.keyS with
    | none => rw [e2] at e; cases e
    | some k =>
      rw [e2] at e
      cases e3 : xs.mapM PV.keyS with
      | none => rw [e3] at e; cases e
      | some ks' =>
        rw [e3] at e
        cases e
        rw [e1, own_keyS h1 e2, own_keySs h2 e3]
        rfl
/-- a key as a value -/
def KeyV (H : Hp) (v : V) : DK → Prop
  | .k k => v = kV k
  | .t ks => ∃ b, v = .ref b ∧ H b = some (.tup (ks.map kV))
theorem own_key (s : Same H0 H) {x : PV} {n : Nat} {v : V} {F : Fp} {k : DK} (h : Own K H0 H x n v F) (e : x.keyOf = some k) : KeyV H v k := by
  cases x with
  | int i => cases e; exact h
  | str z => cases e; exact h
  | tup xs =>
    obtain ⟨ks, e1, e2⟩ := Option.map_eq_some_iff.mp (show (xs.mapM PV.keyS).map DK.t = some k from e)
    subst e2
    obtain ⟨a, vs, rfl, h1, h2⟩ := own_tup s h
    rw [own_keySs h2 e1] at h1
    exact ⟨a, rfl, h1⟩
  | _ => cases e
/-- the dict at a, to be read; l its items -/
def RdD (H : Hp) (a : Addr) (l : List (DK × V)) : Prop := ∃ u, Rd H a u ∧ IsDic u l
theorem own_dic (s : Same H0 H) {kvs : List (DK × PV)} {n : Nat} {v : V} {F : Fp} (h : Own K H0 H (.dic kvs) n v F) : ∃ a l, ∃ G : Fp, v = .ref a ∧ RdD H a l ∧ OwnD K H0 H kvs (n - 1) l G := by
  cases n with
  | zero =>
    obtain ⟨a, o, u, l, e, h1, h2, h3⟩ := h
    exact ⟨a, l, _, e, ⟨u, .inr ⟨o, s _ _ h1⟩, h2⟩, h3⟩
  | succ n =>
    obtain ⟨a, u, l, e, h1, h2, h3, h4⟩ := h
    exact ⟨a, l, _, e, ⟨u, .inl h1, h2⟩, h4⟩
theorem ownD_len : ∀ {kvs : List (DK × PV)} {n : Nat} {l : List (DK × V)} {F : Fp}, OwnD K H0 H kvs n l F → l.length = kvs.length
  | [], _, _, _, h => by rw [show _ = [] from h]; rfl
  | (k, x) :: r, n, l, _, ⟨v, l', G, e, h1, h2⟩ => by rw [e, List.length_cons, ownD_len h2]; rfl
theorem ownD_get : ∀ {kvs : List (DK × PV)} {n : Nat} {l : List (DK × V)} {F : Fp} {k : DK}, OwnD K H0 H kvs n l F → match valD kvs k with
    | some x => ∃ v, ∃ G : Fp, valD l k = some v ∧ (∀ a, G a → F a) ∧ Own K H0 H x n v G
    | none => valD l k = none
  | [], _, l, _, k, h => by rw [show l = [] from h]; rfl
  | (j, x) :: r, n, l, F, k, ⟨v, l', G, e, h1, h2⟩ => by
    subst e
    have ih := ownD_get (k := k) h2
    by_cases hk : j = k
    · have e1 : valD ((j, x) :: r) k = some x := by simp [valD, hk]
      have e2 : valD ((j, v) :: l') k = some v := by simp [valD, hk]
      rw [e1]
      exact ⟨v, _, e2, fun _ z => z.1, h1⟩
    · have e1 : valD ((j, x) :: r) k = valD r k := by simp [valD, hk]
      have e2 : valD ((j, v) :: l') k = valD l' k := by simp [valD, hk]
      rw [e1, e2]
      cases ev : valD r k with
      | none => rw [ev] at ih; exact ih
      | some y =>
        rw [ev] at ih
        obtain ⟨w, G', i1, i2, i3⟩ := ih
        exact ⟨w, G', i1, fun a z => (i2 a z).1, i3⟩
theorem valD_k (k : Key) : ∀ kv : List (Key × V), valD (kv.map fun p => (DK.k p.1, p.2)) (.k k) = valV kv k
  | [] => rfl
  | (j, v) :: r => by
    have ih := valD_k k r
    by_cases h : j = k
    · simp [valD, valV, h]
    · have h' : ¬ DK.k j = DK.k k := fun z => h (by injection z)
      have e1 : valD (((j, v) :: r).map fun p => (DK.k p.1, p.2)) (.k k) = valD (r.map fun p => (DK.k p.1, p.2)) (.k k) := by simp [valD, h']
      have e2 : valV ((j, v) :: r) k = valV r k := by simp [valV, h]
      rw [e1, e2, ih]
theorem valD_t (k : List Key) : ∀ kv : List (List Key × V), valD (kv.map fun p => (DK.t p.1, p.2)) (.t k) = valV kv k
  | [] => rfl
  | (j, v) :: r => by
    have ih := valD_t k r
    by_cases h : j = k
    · simp [valD, valV, h]
    · have h' : ¬ DK.t j = DK.t k := fun z => h (by injection z)
      have e1 : valD (((j, v) :: r).map fun p => (DK.t p.1, p.2)) (.t k) = valD (r.map fun p => (DK.t p.1, p.2)) (.t k) := by simp [valD, h']
      have e2 : valV ((j, v) :: r) k = valV r k := by simp [valV, h]
      rw [e1, e2, ih]
end
/-! ## reading, by any key; an empty dict has both kinds -/
/-- the dict at a at the key y holds r; where it is empty, y may be of the other kind -/
def DG (H : Hp) (a : Addr) (y : V) (r : Option V) : Prop := DGet H a y r ∨ (r = none ∧ ((Rd H a (.dT []) ∧ ∃ k, y = kV k) ∨ (Rd H a (.dK []) ∧ ∃ b k, y = .ref b ∧ H b = some (.tup (List.map kV k)))))
/-- keys of one kind -/
def kindOk : DK → DK → Prop
  | .k _, .k _ => True
  | .t _, .t _ => True
  | _, _ => False
theorem dg_of {H : Hp} {a : Addr} {l : List (DK × V)} {y : V} {k : DK} (h : RdD H a l) (hk : KeyV H y k) (ok : l = [] ∨ ∃ p ∈ l, kindOk p.1 k) : DG H a y (valD l k) := by
  obtain ⟨u, h1, h2⟩ := h
  cases h2 with
  | k kv =>
    cases k with
    | k k => exact .inl (.inl ⟨kv, k, h1, hk, valD_k k kv⟩)
    | t ks =>
      rcases ok with e | ⟨p, hp, e⟩
      · have e' : kv = [] := by simpa using e
        subst e'
        exact .inr ⟨rfl, .inr ⟨h1, hk.imp fun b z => ⟨ks, z⟩⟩⟩
      · obtain ⟨q, _, rfl⟩ := List.mem_map.mp hp
        exact e.elim
  | t kv =>
    cases k with
    | t ks =>
      obtain ⟨b, e1, e2⟩ := hk
      exact .inl (.inr ⟨kv, ks, b, h1, e1, e2, valD_t ks kv⟩)
    | k k =>
      rcases ok with e | ⟨p, hp, e⟩
      · have e' : kv = [] := by simpa using e
        subst e'
        exact .inr ⟨rfl, .inl ⟨h1, k, hk⟩⟩
      · obtain ⟨q, _, rfl⟩ := List.mem_map.mp hp
        exact e.elim
section
variable {X : Cx} {pins : List (Addr × Obj)} {σ : L2.St} {H : Hp} {s : Shared} {a b : Addr} {y v d : V} {u r : Value} {o : Option V} {A : Around} {E : Value → Shared → Prop}
theorem emptyK (I : Inv X pins σ H s) (e : Rd H a (.dT [])) : (a == sysModules) = false ∧ s.heap.DictOf (mixKind X.prog X.w) a [] := by
  obtain ⟨_, hd, xs, rel, o, es, ep, h1, h2, h3, h4, _, _⟩ := dt_rd I.hok e
  cases rel
  have e0 : es = #[] := by
    obtain ⟨l⟩ := es
    have : l = [] := h4
    rw [this]
  subst e0
  exact ⟨hd, o, #[], ep, h1, h2, h3, fun _ he => by simp at he, .nil, List.nodup_nil⟩
theorem emptyT (I : Inv X pins σ H s) (e : Rd H a (.dK [])) : (a == sysModules) = false ∧ s.heap.DictOfH (tupleKind (mixKind X.prog X.w)) a [] := by
  obtain ⟨_, hd, vs, rel, o, es, ep, h1, h2, h3, h4, h5, _⟩ := dk_rd I.hok e
  cases rel
  have e0 : es.toList = [] := by
    cases q : es.toList with
    | nil => rfl
    | cons c l => rw [q] at h5; cases h5
  exact ⟨hd, o, es, ep, h1, h2, h3, e0, (fun _ h => nomatch h), List.nodup_nil⟩
theorem dg_get1 {Q : Value → Shared → Prop} (hu : A.units + 1 < cLine) (I : Inv X pins σ H s) (g : DG H a y o) (ry : RelV y u) (h : ∀ w' s', Inv X pins σ H s' → RelV (o.getD .non) w' → Q w' s') :
    wpAny (model X.prog X.w) A (call (.builtin "dict.get") [.ref a, u]) Q E s := by
  rcases g with g | ⟨rfl, ⟨e, k, rfl⟩ | ⟨e, b, k, rfl, eb⟩⟩
  · exact d_get1 hu I g ry h
  · obtain ⟨hd, dd⟩ := emptyK I e
    exact call_meetsIn PySem.F.slot_dict_get dd.typeIs PySem.F.entry_dict_get (PySem.F.args_dict_get_2 _ _) (meets_dict_get (mixKind X.prog X.w) a (kV_is ry) hd) ⟨_, dd.mapOf, h _ _ (I.tok _) rfl⟩
  · cases (show u = Value.ref b from ry)
    obtain ⟨hd, dd⟩ := emptyT I e
    exact call_meetsIn PySem.F.slot_dict_get dd.typeIs PySem.F.entry_dict_get (PySem.F.args_dict_get_2 _ _) (meetsH_dict_get (tupleKind (mixKind X.prog X.w)) a b hd) ⟨tupleKind_room_in1 hu, k, [], key_of I.hok eb, dd, h _ _ (I.tok _) rfl⟩
theorem dg_get2 {Q : Value → Shared → Prop} (hu : A.units + 1 < cLine) (I : Inv X pins σ H s) (g : DG H a y o) (ry : RelV y u) (rd : RelV d r) (h : ∀ w' s', Inv X pins σ H s' → RelV (o.getD d) w' → Q w' s') :
    wpAny (model X.prog X.w) A (call (.builtin "dict.get") [.ref a, u, r]) Q E s := by
  rcases g with g | ⟨rfl, ⟨e, k, rfl⟩ | ⟨e, b, k, rfl, eb⟩⟩
  · exact d_get2 hu I g ry rd h
  · obtain ⟨hd, dd⟩ := emptyK I e
    exact call_meetsIn PySem.F.slot_dict_get dd.typeIs PySem.F.entry_dict_get (PySem.F.args_dict_get_3 _ _ _) (meets_dict_get_default (mixKind X.prog X.w) a (kV_is ry) hd r) ⟨_, dd.mapOf, h _ _ (I.tok _) rd⟩
  · cases (show u = Value.ref b from ry)
    obtain ⟨hd, dd⟩ := emptyT I e
    exact call_meetsIn PySem.F.slot_dict_get dd.typeIs PySem.F.entry_dict_get (PySem.F.args_dict_get_3 _ _ _) (meetsH_dict_get_default (tupleKind (mixKind X.prog X.w)) a b hd r) ⟨tupleKind_room_in1 hu, k, [], key_of I.hok eb, dd, h _ _ (I.tok _) rd⟩
theorem dg_in {Q : Value → Shared → Prop} (hu : A.units + 1 < cLine) (I : Inv X pins σ H s) (g : DG H a y o) (ry : RelV y u) (h : ∀ s', Inv X pins σ H s' → Q (.bool o.isSome) s') :
    wpAny (model X.prog X.w) A (compareOp .In u (.ref a)) Q E s := by
  rcases g with g | ⟨rfl, ⟨e, k, rfl⟩ | ⟨e, b, k, rfl, eb⟩⟩
  · exact d_in hu I g ry h
  · obtain ⟨hd, dd⟩ := emptyK I e
    exact wpAny_in_of (kV_is ry) hd dd.mapOf (h _ (I.tok _))
  · cases (show u = Value.ref b from ry)
    obtain ⟨hd, dd⟩ := emptyT I e
    exact wpAny_in_heap (tupleKind_room_in1 hu) (key_of I.hok eb) hd dd (h _ (I.tok _))
theorem dg_notIn {Q : Value → Shared → Prop} (hu : A.units + 1 < cLine) (I : Inv X pins σ H s) (g : DG H a y o) (ry : RelV y u) (h : ∀ s', Inv X pins σ H s' → Q (.bool (!o.isSome)) s') :
    wpAny (model X.prog X.w) A (compareOp .NotIn u (.ref a)) Q E s := by
  rcases g with g | ⟨rfl, ⟨e, k, rfl⟩ | ⟨e, b, k, rfl, eb⟩⟩
  · exact d_notIn hu I g ry h
  · obtain ⟨hd, dd⟩ := emptyK I e
    exact wpAny_notIn_of (kV_is ry) hd dd.mapOf (h _ (I.tok _))
  · cases (show u = Value.ref b from ry)
    obtain ⟨hd, dd⟩ := emptyT I e
    exact wpAny_notIn_heap (tupleKind_room_in1 hu) (key_of I.hok eb) hd dd (h _ (I.tok _))
end
end Pv

set_option maxRecDepth 100000
set_option maxHeartbeats 1000000
namespace Pv
open PySem PySem.Spec PyProof.Rows L2

/-! ## reading dicts: rules -/
theorem PE.or {X : Cx} {e : Expr} {t t' : TE} (h : PE X e t) (h' : PE X e t') : PE X e (fun σ H Q => t σ H Q ∨ t' σ H Q) := ⟨fun pins s σ H Q I q => q.elim (h.run pins s σ H Q I) (h'.run pins s σ H Q I)⟩
/-- the key may be asked of this dict -/
def keyFits (kvs : List (DK × PV)) (k : DK) : Bool := match kvs, k with
  | [], _ => true
  | (.k _, _) :: _, .k _ => true
  | (.t _, _) :: _, .t _ => true
  | _, _ => false
def pIxD : PO
  | [(n, .dic kvs), (_, y)] => match y.keyOf with
    | some k => if keyFits kvs k = true then (match valD kvs k with
      | some x => some ⟨n ≤ 1 || x.imm, if x.imm = true then 0 else n - 1, x⟩
      | none => none) else none
    | none => none
  | ps => pIx ps
def pGetD : PO
  | [(n, .dic kvs), (_, y)] => match y.keyOf with
    | some k => if keyFits kvs k = true then (match valD kvs k with
      | some x => some ⟨n ≤ 1 || x.imm, if x.imm = true then 0 else n - 1, x⟩
      | none => some ⟨true, 0, .non⟩) else none
    | none => none
  | _ => none
def inOpD (neg : Bool) : PO
  | [(_, y), (n, .dic kvs)] => match y.keyOf with
    | some k => if keyFits kvs k = true then sc (.bl (neg ^^ (valD kvs k).isSome)) else none
    | none => none
  | ps => inOp neg ps
def pLenD : PO
  | [(_, .dic kvs)] => sc (.int kvs.length)
  | ps => pLen ps
section
variable {g : Prg} {Γ : Sx} {K : PySem.W.Frag} {H0 H : Hp} {Q : VK}
theorem fits_l {kvs : List (DK × PV)} {n : Nat} {l : List (DK × V)} {F : Fp} {k : DK} (h : OwnD K H0 H kvs n l F) (e : keyFits kvs k = true) : l = [] ∨ ∃ p ∈ l, kindOk p.1 k := by
  match kvs, h with
  | [], h => exact .inl h
  | (j, x) :: r, ⟨v, l', G, e1, _, _⟩ =>
    refine .inr ⟨(j, v), by rw [e1]; exact List.mem_cons_self, ?_⟩
    cases j <;> cases k <;> first | exact True.intro | cases e
theorem dg_own (s : Same H0 H) {kvs : List (DK × PV)} {n m : Nat} {v u : V} {y : PV} {F G : Fp} {k : DK} (h : Own K H0 H (.dic kvs) n v F) (hy : Own K H0 H y m u G) (e : y.keyOf = some k) (ef : keyFits kvs k = true) :
    ∃ a, v = .ref a ∧ match valD kvs k with
      | some x => ∃ w, ∃ J : Fp, DG H a u (some w) ∧ Own K H0 H x (n - 1) w J
      | none => DG H a u none := by
  obtain ⟨a, l, J, rfl, rd, od⟩ := own_dic s h
  have g0 := dg_of rd (own_key s hy e) (fits_l od ef)
  have o := ownD_get (k := k) od
  refine ⟨a, rfl, ?_⟩
  cases ev : valD kvs k with
  | none =>
    rw [ev] at o
    rw [show valD l k = none from o] at g0
    exact g0
  | some x =>
    rw [ev] at o
    obtain ⟨w, J', e1, _, e3⟩ := o
    rw [e1] at g0
    exact ⟨w, J', g0, e3⟩
theorem dg_some {a : Addr} {u w : V} (h : DG H a u (some w)) : DGet H a u (some w) := h.elim id fun z => by cases z.1
theorem gives_at {n : Nat} {x : PV} {w : V} {J : Fp} (s : Same H0 H) (G : Gives K H0 H ⟨n ≤ 1 || x.imm, if x.imm = true then 0 else n - 1, x⟩ Q) (o : Own K H0 H x (n - 1) w J) : Q w H := by
  refine G w H0 H noF (.refl s) ?_
  show if (decide (n ≤ 1) || x.imm) = true then _ else _
  by_cases c : n ≤ 1 ∨ x.imm = true
  · rw [if_pos (by rcases c with c | c <;> simp [c])]
    have c' : n - 1 = 0 ∨ x.imm = true := c.imp (by omega) id
    have z := own_imm (F' := noF) o c' (H' := H) fun _ _ z => z
    rcases c' with c' | c'
    · show Own K H0 H x (if x.imm = true then 0 else n - 1) w noF
      rw [c', ite_self]; exact z
    · show Own K H0 H x (if x.imm = true then 0 else n - 1) w noF
      rw [if_pos c']; exact z
  · rw [if_neg (by simp at c ⊢; exact ⟨by omega, c.2⟩)]
    refine ⟨J, ?_⟩
    show Own K H0 H x (if x.imm = true then 0 else n - 1) w J
    rw [if_neg (fun z => c (.inr z))]
    exact o
theorem rok_ixD : ROk K (fun vs H Q => ∃ x y, vs = [x, y] ∧ (rIx K x y H Q ∨ ∃ a v, x = .ref a ∧ DGet H a y (some v) ∧ Q v H)) pIxD := by
  intro H0 H ps vs o Q s w e G
  have fall : pIx ps = some o → ∃ x y, vs = [x, y] ∧ (rIx K x y H Q ∨ ∃ a v, x = .ref a ∧ DGet H a y (some v) ∧ Q v H) := fun e => by
    obtain ⟨x, y, e1, e2⟩ := rok_ix H0 H ps vs o Q s w e G
    exact ⟨x, y, e1, .inl e2⟩
  unfold pIxD at e
  split at e
  · rename_i n kvs m y
    obtain ⟨v, u, F, F', rfl, h1, h2⟩ := views2 w
    split at e
    · rename_i k ek
      split at e
      · rename_i hf
        obtain ⟨a, rfl, r⟩ := dg_own s h1 h2 ek hf
        split at e
        · rename_i x ex
          rw [ex] at r
          obtain ⟨w', J, g1, g2⟩ := r
          cases e
          exact ⟨_, _, rfl, .inr ⟨a, w', rfl, dg_some g1, gives_at s G g2⟩⟩
        · cases e
      · cases e
    · cases e
  · exact fall e
theorem rok_inD (neg : Bool) : ROk K (fun vs H Q => ∃ x y, vs = [x, y] ∧ (rInAll K neg x y H Q ∨ ∃ a o, y = .ref a ∧ DG H a x o ∧ Q (.bl (neg ^^ o.isSome)) H)) (inOpD neg) := by
  intro H0 H ps vs o Q s w e G
  unfold inOpD at e
  split at e
  · rename_i m y n kvs
    obtain ⟨u, v, F, F', rfl, h2, h1⟩ := views2 w
    split at e
    · rename_i k ek
      split at e
      · rename_i hf
        obtain ⟨a, rfl, r⟩ := dg_own s h1 h2 ek hf
        cases ev : valD kvs k with
        | none =>
          rw [ev] at r e
          exact ⟨_, _, rfl, .inr ⟨a, none, rfl, r, sc_gives e G s rfl⟩⟩
        | some x =>
          rw [ev] at r e
          obtain ⟨w', J, g1, g2⟩ := r
          exact ⟨_, _, rfl, .inr ⟨a, some w', rfl, g1, sc_gives e G s rfl⟩⟩
      · cases e
    · cases e
  · obtain ⟨x, y, e1, e2⟩ := rok_in neg H0 H ps vs o Q s w e G
    exact ⟨x, y, e1, .inl e2⟩
theorem bool_inD (neg : Bool) : BoolPO (inOpD neg) := fun ps o e => by
  unfold inOpD at e
  split at e
  · split at e
    · split at e
      · cases e; exact ⟨_, rfl⟩
      · cases e
    · cases e
  · exact bool_in neg ps o e
variable {a b c e o : Expr} {es : List Expr} {fa fb fc fo : EF} {af : AF} {pos p apos cpos : Pos}
theorem ix_dict {X : Cx} (hu : X.A.units + 1 < cLine) : IxR X (fun x y H Q => ∃ a v, x = .ref a ∧ DGet H a y (some v) ∧ Q v H) := by
  intro value slice pins s σ H x y v u Q I rx ry ⟨a, w, ex, g0, q⟩ hs
  subst ex
  obtain rfl : v = Value.ref a := rx
  have hT := dict_typeIs I g0
  unfold subscriptTail
  refine wpAny_bind ?_
  rw [getitemInPython_of_ne hT.not_modules]
  refine wpAny_bind (wpAny_specialOf hT PySem.F.slot_dict_getitem.lookup ?_)
  have last : wpAny (model X.prog X.w) X.A (subscripted slice false (.ref a) u) (fun r s3 => wpAny (model X.prog X.w) X.A (letTemporaryGo value (.ref a) r >>= fun _ => pure r) (EP X pins σ Q) X.xe s3) X.xe s := by
    rw [hs]
    exact wpAny_operating (wpAny_mono (d_getItem hu I g0 ry fun w' s' I' r' => (⟨w, H, I', r', q⟩ : EP X pins σ Q w' s')) (fun r s3 h3 => wpAny_bind (wpAny_letTemporaryGo (wpAny_pure h3))) fun _ _ z => z)
  first | exact wpAny_pure (wpAny_bind last) | exact wpAny_bind (wpAny_pure (wpAny_bind last)) | exact wpAny_bind last
theorem ev_ixD (hs : noSlice b = true) (ha : EV g Γ a fa) (hb : EV g Γ b fb) : EV g Γ (.Subscript a b pos) (eOp pIxD (aCons fa (aCons fb aNil))) :=
  ev_op2 rok_ixD (fun X W F ta tb ha hb => by rw [← F.K]; exact pe_ix (IxR.or ix_seq (ix_dict F.un1)) ha hb (plain_ix hs)) ha hb
theorem op_inD2 {X : Cx} (hu : X.A.units + 65 < cLine) : OpR X (compareOp .In) (fun x y H Q => rInAll X.K false x y H Q ∨ ∃ a o, y = .ref a ∧ DG H a x o ∧ Q (.bl (false ^^ o.isSome)) H) :=
  OpR.or (op_inAll hu) fun pins s σ H x y v u Q I rx ry ⟨a, o, e, g0, q⟩ => by
    subst e
    cases (show u = Value.ref a from ry)
    rw [Bool.false_xor] at q
    exact dg_in (by omega) I g0 rx fun s' I' => ⟨.bl o.isSome, H, I', rfl, q⟩
theorem op_notInD2 {X : Cx} (hu : X.A.units + 65 < cLine) : OpR X (compareOp .NotIn) (fun x y H Q => rInAll X.K true x y H Q ∨ ∃ a o, y = .ref a ∧ DG H a x o ∧ Q (.bl (true ^^ o.isSome)) H) :=
  OpR.or (op_notInAll hu) fun pins s σ H x y v u Q I rx ry ⟨a, o, e, g0, q⟩ => by
    subst e
    cases (show u = Value.ref a from ry)
    rw [Bool.true_xor] at q
    exact dg_notIn (by omega) I g0 rx fun s' I' => ⟨.bl (!o.isSome), H, I', rfl, q⟩
theorem ev_inD (hs : noSet b = true) (ha : EV g Γ a fa) (hb : EV g Γ b fb) : EV g Γ (.Compare a [.In] [b] pos) (eOp (inOpD false) (aCons fa (aCons fb aNil))) :=
  ev_op2 (rok_inD false) (fun X W F ta tb ha hb => by rw [← F.K]; exact pe_cmpR (op_inD2 F.un65) ha hb (marks_no hs)) ha hb
theorem ev_notInD (hs : noSet b = true) (ha : EV g Γ a fa) (hb : EV g Γ b fb) : EV g Γ (.Compare a [.NotIn] [b] pos) (eOp (inOpD true) (aCons fa (aCons fb aNil))) :=
  ev_op2 (rok_inD true) (fun X W F ta tb ha hb => by rw [← F.K]; exact pe_cmpR (op_notInD2 F.un65) ha hb (marks_no hs)) ha hb
theorem tv_inD (hs : noSet b = true) (ha : EV g Γ a fa) (hb : EV g Γ b fb) : TV g Γ (.Compare a [.In] [b] pos) (tOf (eOp (inOpD false) (aCons fa (aCons fb aNil)))) :=
  tv_cmp (rok_inD false) (bool_inD false) (fun X W F => by rw [← F.K]; exact op_inD2 F.un65) (fun _ => marks_no) hs ha hb
theorem tv_notInD (hs : noSet b = true) (ha : EV g Γ a fa) (hb : EV g Γ b fb) : TV g Γ (.Compare a [.NotIn] [b] pos) (tOf (eOp (inOpD true) (aCons fa (aCons fb aNil)))) :=
  tv_cmp (rok_inD true) (bool_inD true) (fun X W F => by rw [← F.K]; exact op_notInD2 F.un65) (fun _ => marks_no) hs ha hb
/-! ## methods of dicts -/
theorem rd_isD {a : Addr} {l : List (DK × V)} (h : RdD H a l) : IsD H a := by
  obtain ⟨u, h1, h2⟩ := h
  cases h2 with
  | k kv => exact .inl ⟨kv, h1⟩
  | t kv => exact .inr ⟨kv, h1⟩
/-- o.name(e, ..), o a dict -/
theorem pe_dm {X : Cx} {name : Str} {id : String} {r : V → List V → Hp → VK → Prop} {to : TE} {t : TA} (slot : Slot "dict" name id) (hty : typeOf (.builtin id) = pure (.type "method_descriptor")) (hm : MtR X id r) (ho : PE X o to) (ha : PA X (e :: es) t)
    (hbase : attributeBase o name X.env (eval o X.env) = eval o X.env)
    (hfew : ((backTo cpos (starEach (e :: es) X.env)).all (fun x => !x.1) && (backToKw cpos (keywordEach [] X.env)).all (fun x => x.1.isSome) && decide ((e :: es).length + ([] : List Keyword).length + (if ([] : List Keyword).isEmpty then 0 else 1) < 30)) = true)
    (hl : (apos.endLine == cpos.line) = true) (hs : starEach (e :: es) X.env = (false, eval e X.env) :: starEach es X.env) (hp : (backTo cpos (starEach es X.env)).any (·.1) = false) :
    PE X (.Call (.Attribute o name apos) (e :: es) [] cpos) (fun σ H Q => to σ H fun x H1 => ∃ a, x = .ref a ∧ IsD H1 a ∧ t σ H1 fun vs H2 => r x vs H2 Q) := by
  refine ⟨fun pins s σ H Q I h => ?_⟩
  refine wpAny_Call_method hbase hfew hl PySem.F.plainAttrs_dict slot hty (thn (ho.run pins s σ H _ I h) fun u s1 ⟨x, H1, I1, rx, a, ex, d, q1⟩ => ?_)
  subst ex
  obtain rfl : u = Value.ref a := rx
  obtain ⟨t1, t2, _⟩ := isD_at I1 d
  refine ⟨t1, t2, ?_⟩
  have hA := ha.run cpos pins s1 σ H1 _ I1 q1
  rw [hs] at hA ⊢
  refine Calls.callWith_builtin (by show (false || (backTo cpos (starEach es X.env)).any (·.1)) = false; rw [hp]; rfl) (Calls.evalArgs_plain ?_)
  exact thn hA fun us s2 ⟨vs, H2, I2, r2, q2⟩ => hm pins s2 σ H2 (.ref a) vs (.ref a) us Q I2 rfl r2 q2
def PV.isDic : PV → Bool
  | .dic _ => true
  | _ => false
theorem ev_dm {name : Str} {id : String} {op : PO} {r : V → List V → Hp → VK → Prop} (slot : Slot "dict" name id) (hty : typeOf (.builtin id) = pure (.type "method_descriptor")) (hm : ∀ X W, Fits g Γ X W → MtR X id r) (hr : ROk g.K (fun vs H Q => ∃ x xs, vs = x :: xs ∧ r x xs H Q) op)
    (hn : noSup o = true) (hs : noStars (e :: es) = true) (hl : (apos.endLine == cpos.line) = true) (hlen : (e :: es).length < 29) (ho : EV g Γ o fo) (ha : AV g Γ (e :: es) af) :
    EV g Γ (.Call (.Attribute o name apos) (e :: es) [] cpos) (eOp op (aConsT PV.isDic fo af)) := fun X W F => by
  refine PE.imp (pe_dm slot hty (hm X W F) (ho X W F) (ha X W F) (base_ok hn) ?_ hl (star_cons (noStars_all hs _ List.mem_cons_self)) (star_any fun y hy => noStars_all hs _ (List.mem_cons_of_mem _ hy))) fun σ H Q q => ?_
  · rw [star_all hs]
    show (true && true && decide ((e :: es).length + 0 + 0 < 30)) = true
    rw [decide_eq_true (by omega)]
    rfl
  · refine tF.mono (tA_consT (op_run hr q)) fun x H1 ⟨⟨H0, n, y, F', s, w, t⟩, q1⟩ => ?_
    cases y <;> first | cases t | skip
    obtain ⟨a, l, _, e1, rd, _⟩ := own_dic s w
    refine ⟨a, e1, rd_isD rd, tA.mono q1 fun xs H2 ⟨x', xs', e, q2⟩ => ?_⟩
    cases e
    exact q2
theorem mt_dget1 {X : Cx} (hu : X.A.units + 1 < cLine) : MtR X "dict.get" (fun x xs H Q => ∃ a y o, x = .ref a ∧ xs = [y] ∧ DG H a y o ∧ Q (o.getD .non) H) := by
  intro pins s σ H x xs v us Q I rx rs ⟨a, y, o, ex, es, g0, q⟩
  subst ex es
  obtain rfl : v = Value.ref a := rx
  obtain ⟨u, rfl, ru⟩ := Vals.one rs
  exact dg_get1 hu I g0 ru fun w' s' I' r' => ⟨_, H, I', r', q⟩
theorem rok_get1 : ROk K (fun vs H Q => ∃ x xs, vs = x :: xs ∧ ∃ a y o, x = .ref a ∧ xs = [y] ∧ DG H a y o ∧ Q (o.getD .non) H) pGetD := by
  intro H0 H ps vs o Q s w e G
  unfold pGetD at e
  split at e
  · rename_i n kvs m y
    obtain ⟨v, u, F, F', rfl, h1, h2⟩ := views2 w
    split at e
    · rename_i k ek
      split at e
      · rename_i hf
        obtain ⟨a, rfl, r⟩ := dg_own s h1 h2 ek hf
        cases ev : valD kvs k with
        | none =>
          rw [ev] at r e
          cases e
          exact ⟨_, _, rfl, a, u, none, rfl, rfl, r, sc_gives (x := .non) (v := .non) rfl G s rfl⟩
        | some x =>
          rw [ev] at r e
          obtain ⟨w', J, g1, g2⟩ := r
          cases e
          exact ⟨_, _, rfl, a, u, some w', rfl, rfl, g1, gives_at s G g2⟩
      · cases e
    · cases e
  · cases e
theorem ev_get1 (hn : noSup o = true) (hs : noStars [e] = true) (hl : (apos.endLine == cpos.line) = true) (ho : EV g Γ o fo) (ha : AV g Γ [e] af) : EV g Γ (.Call (.Attribute o "get" apos) [e] [] cpos) (eOp pGetD (aConsT PV.isDic fo af)) :=
  ev_dm PySem.F.slot_dict_get PySem.F.type_dict_get (fun X W F => mt_dget1 F.un1) rok_get1 hn hs hl (show 1 < 29 by decide) ho ha
/-! ## len -/
theorem call_lenDD {X : Cx} : CallR X (.builtin "len") (fun xs H Q => ∃ a l, xs = [.ref a] ∧ RdD H a l ∧ Q (.int ((l.length : Nat) : Int)) H) := by
  intro pins s σ H xs us Q I r ⟨a, l, ex, ⟨u, rd, di⟩, q⟩
  subst ex
  obtain ⟨u', rfl, rx⟩ := Vals.one r
  obtain rfl : u' = Value.ref a := rx
  cases di with
  | k kv =>
    rw [List.length_map] at q
    exact d_len I rd fun t s' I' => ⟨.int ((kv.length : Nat) : Int), H, I', ⟨_, rfl⟩, q⟩
  | t kv =>
    rw [List.length_map] at q
    obtain ⟨z, hd, ys, rel, dd⟩ := dt_rd I.hok rd
    have hl : kv.length = ys.length := Paired.length rel
    refine call_len_dictH hd dd (by rw [← hl]; rw [sizeLine_eq] at z; omega) ?_
    rw [← hl]
    exact ⟨.int ((kv.length : Nat) : Int), H, I.tok _, ⟨_, rfl⟩, q⟩
theorem rok_lenD : ROk K (fun vs H Q => ((∃ p ys, vs = [.ref p] ∧ (SqL K H p ys ∨ SqT K H p ys) ∧ Q (.int ys.length) H) ∨ ∃ z, vs = [.str z] ∧ z.length ≤ sizeLine ∧ Q (.int z.length) H) ∨ ∃ a l, vs = [.ref a] ∧ RdD H a l ∧ Q (.int ((l.length : Nat) : Int)) H) pLenD := by
  intro H0 H ps vs o Q s w e G
  unfold pLenD at e
  split at e
  · rename_i n kvs
    obtain ⟨v, F, rfl, h1⟩ := views1 w
    obtain ⟨a, l, J, rfl, rd, od⟩ := own_dic s h1
    refine .inr ⟨a, l, rfl, rd, ?_⟩
    rw [ownD_len od]
    exact sc_gives e G s rfl
  · exact .inl (rok_len H0 H ps vs o Q s w e G)
theorem ev_lenD (hs : noStars (e :: es) = true) (ha : AV g Γ (e :: es) af) (hg : IsGl Γ "len") (hm : g.mg "len" = none) : EV g Γ (.Call (.Name "len" p) (e :: es) [] pos) (eOp pLenD af) :=
  ev_callB rok_lenD (fun X W F => by rw [← F.K]; exact CallR.or (CallR.or call_len_seq call_len_str) call_lenDD) hg hm PySem.boot_len (by decide) hs ha
end
end Pv

set_option maxRecDepth 100000
set_option maxHeartbeats 1000000
namespace Pv
open PySem PySem.Spec PyProof.Rows L2

/-! ## d[k] = v -/
theorem ite_any_false {κ α : Type} [DecidableEq κ] {r : List (κ × α)} {k : κ} (h : ∀ p ∈ r, p.1 ≠ k) : (r.any fun p => decide (p.1 = k)) = false ∧ (r.map fun p => if p.1 = k then (p.1, p.2) else p) = r := by
  constructor
  · rw [List.any_eq_false]
    intro p hp
    simpa using h p hp
  · exact (List.map_congr_left fun p hp => if_neg (h p hp)).trans (List.map_id' r)
theorem putK_rec {κ : Type} [DecidableEq κ] {k j : κ} {y v : V} {r : List (κ × V)} (nd : (((j, y) :: r).map (·.1)).Nodup) : putK ((j, y) :: r) k v = if j = k then (j, v) :: r else (j, y) :: putK r k v := by
  by_cases h : j = k
  · subst h
    rw [if_pos rfl]
    have hn : ∀ p ∈ r, p.1 ≠ j := fun p hp e => (List.nodup_cons.mp nd).1 (by have z := List.mem_map_of_mem (f := fun p : κ × V => p.1) hp; rw [e] at z; exact z)
    unfold putK
    rw [if_pos (by simp)]
    rw [List.map_cons, if_pos rfl]
    congr 1
    exact (List.map_congr_left fun p hp => if_neg (hn p hp)).trans (List.map_id' r)
  · rw [if_neg h]
    unfold putK
    by_cases hm : (r.any fun kv => decide (kv.1 = k)) = true
    · rw [if_pos (by simp [h]; simpa using hm), if_pos hm, List.map_cons, if_neg h]
    · rw [if_neg (by simp [h]; simpa using hm), if_neg hm]
      rfl
theorem putD_k {k : Key} {v : V} : ∀ {kv : List (Key × V)}, (kv.map (·.1)).Nodup → putD (kv.map fun p => (DK.k p.1, p.2)) (.k k) v = (putK kv k v).map fun p => (DK.k p.1, p.2)
  | [], _ => by
    show [(DK.k k, v)] = _
    simp [putK]
  | (j, y) :: r, nd => by
    rw [putK_rec nd]
    show (if DK.k j = DK.k k then _ else _) = _
    by_cases h : j = k
    · rw [if_pos h, if_pos (by rw [h])]
      rfl
    · rw [if_neg h, if_neg fun z => h (by injection z), putD_k (List.nodup_cons.mp nd).2]
      rfl
theorem putD_t {k : List Key} {v : V} : ∀ {kv : List (List Key × V)}, (kv.map (·.1)).Nodup → putD (kv.map fun p => (DK.t p.1, p.2)) (.t k) v = (putK kv k v).map fun p => (DK.t p.1, p.2)
  | [], _ => by
    show [(DK.t k, v)] = _
    simp [putK]
  | (j, y) :: r, nd => by
    rw [putK_rec nd]
    show (if DK.t j = DK.t k then _ else _) = _
    by_cases h : j = k
    · rw [if_pos h, if_pos (by rw [h])]
      rfl
    · rw [if_neg h, if_neg fun z => h (by injection z), putD_t (List.nodup_cons.mp nd).2]
      rfl
section
variable {X : Cx} {pins : List (Addr × Obj)} {σ : L2.St} {H : Hp} {s : Shared} {a b : Addr} {y v d : V} {u r : Value} {o : Option V} {A : Around} {E : Value → Shared → Prop}
theorem nd_k {kv : List (Key × V)} (I : Inv X pins σ H s) (e : Rd H a (.dK kv)) : (kv.map (·.1)).Nodup := by
  obtain ⟨_, _, vs, rel, o, es, ep, _, _, _, _, _, nd⟩ := dk_rd I.hok e
  rw [rel.keys]
  exact nd
theorem nd_t {kv : List (List Key × V)} (I : Inv X pins σ H s) (e : Rd H a (.dT kv)) : (kv.map (·.1)).Nodup := by
  obtain ⟨_, _, xs, rel, o, es, ep, _, _, _, _, _, nd⟩ := dt_rd I.hok e
  have : ∀ {l : List (List Key × V)} {m : List (List Key × Addr × Value)}, KT H l m → l.map (·.1) = m.map (·.1) := by
    intro l m q
    induction q with
    | nil => rfl
    | cons h t ih => rw [List.map_cons, List.map_cons, ih, h.1]
  rw [this rel]
  exact nd
/-- an empty dict, of the other kind -/
theorem toK (I : Inv X pins σ H s) (e : H a = some (.dT [])) : Inv X pins σ (upd H a (.dK [])) s := by
  obtain ⟨hd, dd⟩ := emptyK I (.inl e)
  obtain ⟨ob, es, ep, h1, h2⟩ := dd
  exact I.write (t' := s.toks) (x := a) (e := a) (by rw [e]; exact True.intro) (.inl rfl) (fun b u hb z => z) ⟨ob, h1⟩ ⟨Nat.zero_le _, hd, [], .nil, ob, es, ep, h1, h2⟩
theorem toT (I : Inv X pins σ H s) (e : H a = some (.dK [])) : Inv X pins σ (upd H a (.dT [])) s := by
  obtain ⟨hd, dd⟩ := emptyT I (.inl e)
  obtain ⟨ob, es, ep, h1, h2, h3, h4, h5, h6⟩ := dd
  exact I.write (t' := s.toks) (x := a) (e := a) (by rw [e]; exact True.intro) (.inl rfl) (fun b u hb z => z) ⟨ob, h1⟩ ⟨Nat.zero_le _, hd, [], .nil, ob, es, ep, h1, h2, h3, h4, List.nodup_nil⟩
theorem dx_set {ob : HO} {l : List (DK × V)} {k : DK} {Q : Unit → Shared → Prop} (hu : A.units + 1 < cLine) (I : Inv X pins σ H s) (e : H a = some ob) (di : IsDic ob l) (ok : l = [] ∨ ∃ p ∈ l, kindOk p.1 k) (hk : KeyV H y k) (hl : l.length < sizeLine) (ry : RelV y u) (rv : RelV v r)
    (h : ∀ o' s', IsDic o' (putD l k v) → Inv X pins σ (upd H a o') s' → Q () s') : wpAny (model X.prog X.w) A (setItem (.ref a) u r) Q E s := by
  cases di with
  | k kv =>
    rw [List.length_map] at hl
    cases k with
    | k k =>
      obtain rfl : y = kV k := hk
      exact d_setItem hu I (DPut.k e hl) ry rv fun s' I' => h (.dK (putK kv k v)) s' (by rw [putD_k (nd_k I (.inl e))]; exact .k _) I'
    | t ks =>
      rcases ok with z | ⟨p, hp, z⟩
      · have z' : kv = [] := by simpa using z
        subst z'
        obtain ⟨b, rfl, eb⟩ := hk
        have hb : b ≠ a := fun z => by rw [z, e] at eb; cases eb
        refine d_setItem hu (toT I e) (DPut.t upd_same (by rw [upd_ne hb]; exact eb) hl) ry rv fun s' I' => h (.dT (putK [] ks v)) s' ?_ (by rw [upd_upd] at I'; exact I')
        exact (show putD ([] : List (DK × V)) (.t ks) v = (putK ([] : List (List Key × V)) ks v).map fun p => (DK.t p.1, p.2) by simp [putD, putK]) ▸ IsDic.t _
      · obtain ⟨q, _, rfl⟩ := List.mem_map.mp hp
        exact z.elim
  | t kv =>
    rw [List.length_map] at hl
    cases k with
    | t ks =>
      obtain ⟨b, rfl, eb⟩ := hk
      exact d_setItem hu I (DPut.t e eb hl) ry rv fun s' I' => h (.dT (putK kv ks v)) s' (by rw [putD_t (nd_t I (.inl e))]; exact .t _) I'
    | k k =>
      rcases ok with z | ⟨p, hp, z⟩
      · have z' : kv = [] := by simpa using z
        subst z'
        obtain rfl : y = kV k := hk
        refine d_setItem hu (toK I e) (DPut.k upd_same hl) ry rv fun s' I' => h (.dK (putK [] k v)) s' ?_ (by rw [upd_upd] at I'; exact I')
        exact (show putD ([] : List (DK × V)) (.k k) v = (putK ([] : List (Key × V)) k v).map fun p => (DK.k p.1, p.2) by simp [putD, putK]) ▸ IsDic.k _
      · obtain ⟨q, _, rfl⟩ := List.mem_map.mp hp
        exact z.elim
def sPutX (td ty tv : TE) : TS := fun D σ H => tv σ H fun v H1 => td σ H1 fun x H2 => ty σ H2 fun y H3 => ∃ a ob l k, x = .ref a ∧ H3 a = some ob ∧ IsDic ob l ∧ (l = [] ∨ ∃ p ∈ l, kindOk p.1 k) ∧ KeyV H3 y k ∧ l.length < sizeLine ∧ ∀ o', IsDic o' (putD l k v) → D.nx σ (upd H3 a o')
theorem ps_putX {o i value : Expr} {pos pos' : Pos} {td ty tv : TE} (hu : X.A.units + 1 < cLine) (ho : PE X o td) (hi : PE X i ty) (hv : PE X value tv) (hs : swapsWith value (some (.Subscript o i pos')) pos.line X.env = pure false) :
    PS X (.Assign [.Subscript o i pos'] value pos) (sPutX td ty tv) := by
  refine ⟨fun pins s σ H D I h => ?_⟩
  refine wpAny_Assign_Subscript (thn (hv.run pins s σ H _ I h) fun r s1 ⟨v, H1, I1, rv, q1⟩ => thn (ho.run pins s1 σ H1 _ I1 q1) fun u s2 ⟨x, H2, I2, rx, q2⟩ => thn (hi.run pins s2 σ H2 _ I2 q2) fun iv s3 ⟨y, H3, I3, ry, a, ob, l, k, ex, e, di, ok, hk, hl, q3⟩ => ?_) hs
  subst ex
  obtain rfl : u = Value.ref a := rx
  exact dx_set hu I3 e di ok hk hl ry rv fun o' s4 d4 I4 => ⟨σ, _, I4, q3 o' d4⟩
end
/-! ### over the slots -/
def sDPut (i : Nat) (kf vf : EF) : SF := fun ρ => ofE (vf ρ) fun rv => match rv.ρ[i]? with
  | some (some _) => ofE (kf rv.ρ) fun rk => match rk.ρ[i]? with
    | some (some (n + 1, .dic kvs)) => match rk.x.keyOf with
      | some k => if keyFits kvs k = true ∧ fitL n rv = true ∧ kvs.length < sizeLine then .nx (rk.ρ.set i (some (n + 1, .dic (putD kvs k rv.x)))) else .bad
      | none => .bad
    | _ => .bad
  | _ => .bad
section
variable {g : Prg} {Γ : Sx} {K : PySem.W.Frag} {H0 H : Hp}
theorem ownD_put : ∀ {kvs : List (DK × PV)} {n : Nat} {l : List (DK × V)} {F B : Fp} {k : DK} {x : PV} {v : V}, OwnD K H0 H kvs n l F → Own K H0 H x n v B → (∀ a, B a → ¬ F a) → OwnD K H0 H (putD kvs k x) n (putD l k v) (F.or B)
  | [], n, l, F, B, k, x, v, h, o, hd => by
    rw [show l = [] from h]
    exact ⟨v, [], B, rfl, own_tr (fun _ _ z => z) _ _ _ _ _ o (fun _ _ _ e => e) fun a z => ⟨.inr z, z⟩, rfl⟩
  | (j, y) :: r, n, l, F, B, k, x, v, ⟨w, l', G, e, h1, h2⟩, o, hd => by
    subst e
    show OwnD K H0 H (if j = k then (j, x) :: r else (j, y) :: putD r k x) n (if j = k then (j, v) :: l' else (j, w) :: putD l' k v) (F.or B)
    by_cases hk : j = k
    · rw [if_pos hk, if_pos hk]
      refine ⟨v, l', B, rfl, own_tr (fun _ _ z => z) _ _ _ _ _ o (fun _ _ _ e => e) fun a z => ⟨.inr z, z⟩, ownD_tr (fun _ _ z => z) _ _ _ _ _ h2 (fun _ _ _ e => e) fun a z => ⟨.inl z.1, fun y => hd a y z.1⟩⟩
    · rw [if_neg hk, if_neg hk]
      refine ⟨w, _, fun a => F a ∧ G a, rfl, own_tr (fun _ _ z => z) _ _ _ _ _ h1 (fun _ _ _ e => e) fun a z => ⟨.inl z.1, z⟩, ?_⟩
      refine ownD_tr (fun _ _ z => z) _ _ _ _ _ (ownD_put h2 o fun a z y => hd a z y.1) (fun _ _ _ e => e) fun a z => ?_
      rcases z with z | z
      · exact ⟨.inl z.1, fun y => z.2 y.2⟩
      · exact ⟨.inr z, fun y => hd a z y.1⟩
theorem ownD_mem {kvs : List (DK × PV)} {n : Nat} {l : List (DK × V)} {F : Fp} (h : OwnD K H0 H kvs n l F) : l.length = kvs.length := ownD_len h
theorem sv_dput {i : Nat} {x : Str} {kx value : Expr} {kf vf : EF} {p p' pos : Pos} (hN : Γ.N[i]? = some x) (hv : Vis Γ.sc x) (hd : (x == ("__debug__" : Str)) = false) (hcd : (x == ("__classdict__" : Str)) = false) (hn : noComp value = true) (hk : EV g Γ kx kf) (hval : EV g Γ value vf) :
    SV g Γ (.Assign [.Subscript (.Name x p) kx p'] value pos) (sDPut i kf vf) := fun X W Fi => by
  refine PS.imp (ps_putX Fi.un1 (pe_var (i := i) (by rw [Fi.N]; exact hN) (by rw [Fi.sc]; exact hv) hd hcd) (hk X W Fi) (hval X W Fi) (swaps_no hn)) fun D σ H q => ?_
  refine ofE_run q fun {H0 O ρ rv} S e q v H0' H' O' B k hp S' T w => ?_
  cases er : rv.ρ[i]? with
  | none => rw [er] at q; exact q.elim
  | some o1 =>
    cases o1 with
    | none => rw [er] at q; exact q.elim
    | some m1 =>
      rw [er] at q
      simp only [] at q
      obtain ⟨n0, y0⟩ := m1
      obtain ⟨v0, F0, e1, _⟩ := own_slot S' er
      refine ⟨v0, e1, H0', O', rv.ρ, S', ?_⟩
      cases ek : kf rv.ρ with
      | bad => rw [ek] at q; exact q.elim
      | exc c fs ρ' =>
        rw [ek] at q
        exact fun H02 H2 O2 d k2 S2 x2 => q σ H02 H2 O2 d ((k.trans k2).mono fun a z => .inl z) S2 x2 .refl
      | ok rk =>
        rw [ek] at q
        simp only [ofE] at q
        intro u H02 H2 O2 B2 k2 hp2 S2 T2 w2
        cases er2 : rk.ρ[i]? with
        | none => rw [er2] at q; exact q.elim
        | some o2 =>
          cases o2 with
          | none => rw [er2] at q; exact q.elim
          | some m2 =>
            obtain ⟨n1, y1⟩ := m2
            rw [er2] at q
            cases n1 with
            | zero => exact q.elim
            | succ n =>
              cases y1 <;> first | exact q.elim | skip
              rename_i kvs
              simp only [] at q
              cases eky : rk.x.keyOf with
              | none => rw [eky] at q; exact q.elim
              | some ky =>
                rw [eky] at q
                simp only [] at q
                by_cases hc : keyFits kvs ky = true ∧ fitL n rv = true ∧ kvs.length < sizeLine
                case neg => rw [if_neg hc] at q; exact q.elim
                rw [if_pos hc] at q
                obtain ⟨v', F, e2, o2, hF, S3, T3⟩ := S2.take er2
                rw [e1] at e2
                cases e2
                obtain ⟨a, ob, l, rfl, ha, di, hFa, ol⟩ := o2
                have k2' : Grow H0' H' O' H02 H2 O2 := k2.mono fun a z => .inl z
                have oy : Own g.K H02 H2 rv.x n v B := by
                  have z := fit_own hc.2.1 w
                  exact T.own k2' z
                have Tv : Tmp H02 H2 O2 B := T.step k2'
                have wk : ∃ G, Own g.K H02 H2 rk.x rk.lv u G := by
                  split at w2
                  · exact ⟨_, w2⟩
                  · exact w2
                obtain ⟨G, wk⟩ := wk
                refine ⟨a, ob, l, ky, rfl, ha, di, fits_l ol hc.1, own_key S2.sub wk eky, by rw [ownD_len ol]; exact hc.2.2, fun o' d' => ?_⟩
                have hBF : ∀ b, B b → ¬ F b := fun b z y => Tv.off b z (hF b y)
                have ol2 : OwnD g.K H02 (upd H2 a o') (putD kvs ky rv.x) n (putD l ky v) (fun b => (F.or B) b ∧ b ≠ a) := by
                  refine ownD_tr (H := H2) (fun _ _ z => z) _ _ _ _ _ (ownD_put ol oy fun b z y => hBF b z y.1) (fun b o z e => ?_) fun b z => ?_
                  · rw [upd_ne fun y => by
                      rcases z with z | z
                      · exact z.2 y
                      · exact hBF b z (by rw [y]; exact hFa)]
                    exact e
                  · rcases z with z | z
                    · exact ⟨.inl z.1, z.2⟩
                    · exact ⟨.inr z, fun y => hBF b z (by rw [y]; exact hFa)⟩
                obtain ⟨S4, k4⟩ := mut_slot (n' := n + 1) (x' := .dic (putD kvs ky rv.x)) (v := .ref a) (o' := o') S3 T3 hF Tv e1 hFa ⟨a, o', _, rfl, upd_same, d', .inl hFa, ol2⟩ (mut_dic d')
                refine q σ H02 _ (O2.or B) ?_ S4 .refl
                have k5 : Grow H02 H2 (O2.or B) H02 (upd H2 a o') (O2.or B) := ⟨k4.sh, fun b o e n => k4.keep b o e fun z => n (.inl z), k4.dom, fun b z => .inl z, fun b z => .inl z⟩
                exact (k.trans k2').trans0 k5
end
end Pv

set_option maxRecDepth 100000
set_option maxHeartbeats 1000000
namespace Pv
open PySem PySem.Spec PyProof.Rows L2

/-! ## for k in d -/
def keyP : Key → PV
  | .inl i => .int i
  | .inr s => .str s
def dkP : DK → PV
  | .k k => keyP k
  | .t ks => .tup (ks.map keyP)
section
variable {g : Prg} {Γ : Sx} {K : PySem.W.Frag} {H0 H : Hp}
variable {tg a b c e : Expr} {fa fb fc : EF} {es : List Expr} {af : AF} {p pos : Pos}
theorem own_keyP (k : Key) {n : Nat} {F : Fp} : Own K H0 H (keyP k) n (kV k) F := by
  cases k <;> exact rfl
theorem ownL_keyP : ∀ (ks : List Key) {n : Nat} {F : Fp}, OwnL K H0 H (ks.map keyP) n (ks.map kV) F
  | [], _, _ => rfl
  | k :: ks, _, _ => ⟨kV k, ks.map kV, noF, rfl, own_keyP k, ownL_keyP ks⟩
theorem src_dk {d : Addr} {o : Obj} {kv : List (Key × V)} : Src K ((kv.map fun p => (DK.k p.1, p.2)).map fun p => dkP p.1) (Itk d o kv) (fun H0 _ => H0 d = some (.frz o (.dK kv))) noF where
  go := fun {H0 H i} s r hi => ⟨s _ _ r, by simpa using hi⟩
  stop := fun {H0 H i} s r hi => ⟨s _ _ r, by simpa using hi⟩
  yld := fun {H0 H i x H'} s r hy y hx => by
    obtain ⟨rfl, k, v, e1, e2⟩ := hy
    subst e2
    rw [List.map_map, List.getElem?_map, e1] at hx
    cases hx
    exact ⟨H0, .refl s, own_keyP k⟩
  keep := fun r s _ => s _ _ r
theorem src_dt {d : Addr} {o : Obj} {kv : List (List Key × V)} : Src K ((kv.map fun p => (DK.t p.1, p.2)).map fun p => dkP p.1) (Itkt d o kv) (fun H0 _ => H0 d = some (.frz o (.dT kv))) noF where
  go := fun {H0 H i} s r hi => ⟨s _ _ r, by simpa using hi⟩
  stop := fun {H0 H i} s r hi => ⟨s _ _ r, by simpa using hi⟩
  yld := fun {H0 H i x H'} s r hy y hx => by
    obtain ⟨rfl, k, v, q, e1, e2, e3⟩ := hy
    subst e2
    rw [List.map_map, List.getElem?_map, e1] at hx
    cases hx
    have sm : Same H0 (upd H0 q (.tup (k.map kV))) := fun b u z => by
      by_cases hb : b = q
      · subst hb
        have := s _ _ z
        rw [e3] at this
        rw [upd_same]
        exact this
      · rw [upd_ne hb]; exact z
    refine ⟨upd H0 q (.tup (k.map kV)), ⟨sm, fun _ _ z => z, fun b u z => ?_, fun b z => ?_, fun _ z => z.elim⟩, q, _, rfl, upd_same, ownL_keyP k⟩
    · by_cases hb : b = q
      · subst hb; rw [upd_same] at z; rw [e3]; exact z
      · rw [upd_ne hb] at z; exact s _ _ z
    · by_cases hb : b = q
      · subst hb; exact .inr (.inr ⟨_, e3⟩)
      · rw [upd_ne hb] at z; exact .inl z
  keep := fun r s _ => s _ _ r
def iKeysF (f : EF) : IF' := fun ρ => (f ρ).bind fun r => match r.x with
  | .dic kvs => if r.lv = 0 then .ok ⟨r.pu, kvs.map fun p => dkP p.1, r.ρ⟩ else .bad
  | _ => .bad
theorem ownD_keys : ∀ {kvs : List (DK × PV)} {n : Nat} {l : List (DK × V)} {F : Fp}, OwnD K H0 H kvs n l F → (kvs.map fun p => dkP p.1) = l.map fun p => dkP p.1
  | [], _, _, _, h => by rw [show _ = [] from h]; rfl
  | (k, x) :: r, n, l, _, ⟨v, l', G, e, h1, h2⟩ => by rw [e, List.map_cons, List.map_cons, ownD_keys h2]
theorem keys_iter {W : WX} {σ : L2.St} {R : It → Hp → Prop} (q : tI g W (iKeysF fa) σ H R) : iKeys (tF g W fa) σ H R := by
  obtain ⟨H0, O, ρ, S, q⟩ := q
  refine ⟨H0, O, ρ, S, ?_⟩
  unfold iKeysF at q
  cases ee : fa ρ with
  | bad => rw [ee] at q; exact q
  | exc c fs ρ' => rw [ee] at q; exact q
  | ok r =>
    rw [ee] at q
    simp only [Res.bind] at q
    intro v H0' H' O' B kk hp S' T w
    have z : ∃ F, Own g.K H0' H' r.x r.lv v F := by
      split at w
      · exact ⟨_, w⟩
      · exact w
    obtain ⟨F, z⟩ := z
    cases hx : r.x <;> rw [hx] at q <;> first | exact q.elim | skip
    rename_i kvs
    simp only [] at q
    by_cases hl : r.lv = 0
    case neg => rw [if_neg hl] at q; exact q.elim
    rw [if_pos hl] at q
    rw [hx, hl] at z
    obtain ⟨d, o, u, l, rfl, h1, h2, h3⟩ := z
    have kk' : Grow H0 H O H0' H' (O'.or noF) := kk.mono fun a z => .inl (z.elim id False.elim)
    have ek := ownD_keys h3
    cases h2 with
    | k kv => exact ⟨d, o, rfl, .inl ⟨kv, S'.sub _ _ h1, q (Itk d o kv) _ H0' H' O' noF kk' hp S' .no (by rw [ek]; exact src_dk) h1⟩⟩
    | t kv => exact ⟨d, o, rfl, .inr ⟨kv, S'.sub _ _ h1, q (Itkt d o kv) _ H0' H' O' noF kk' hp S' .no (by rw [ek]; exact src_dt) h1⟩⟩
/-- a list, a tuple, a text, a dict -/
def iAnyD (f : EF) : IF' := fun ρ => (f ρ).bind fun r => match r.x with
  | .dic kvs => if r.lv = 0 then .ok ⟨r.pu, kvs.map fun p => dkP p.1, r.ρ⟩ else .bad
  | _ => iAny (fun _ => .ok r) ρ
theorem iv_anyD (ha : EV g Γ a fa) : IV g Γ tg a (iAnyD fa) := fun X W F => by
  refine PI.imp (PI.or (iv_any ha X W F) (pi_keys (ha X W F))) fun σ H R q => ?_
  have q0 := q
  obtain ⟨H0, O, ρ, S, q⟩ := q
  unfold iAnyD at q
  cases ee : fa ρ with
  | bad => rw [ee] at q; exact q.elim
  | exc c fs ρ' =>
    rw [ee] at q
    exact .inl ⟨H0, O, ρ, S, by unfold iAny; rw [ee]; exact q⟩
  | ok r =>
    rw [ee] at q
    simp only [Res.bind] at q
    cases hx : r.x with
    | dic kvs =>
      rw [hx] at q
      refine .inr (keys_iter ⟨H0, O, ρ, S, ?_⟩)
      unfold iKeysF
      rw [ee]
      simp only [Res.bind, hx]
      exact q
    | _ =>
      refine .inl ⟨H0, O, ρ, S, ?_⟩
      unfold iAny
      rw [ee]
      rw [hx] at q
      simp only [Res.bind] at q ⊢
      exact q
/-! ## {} -/
def eDNew : EF := fun ρ => .ok ⟨true, true, 1, .dic [], ρ⟩
theorem ev_dnew : EV g Γ (.Dict [] [] pos) eDNew := fun X W F => by
  refine PE.imp pe_dnewK fun σ H Q ⟨H0, O, ρ, S, q⟩ => fun p hp => ?_
  have A := alloc_own (o := .dK []) S.sub hp
  exact q (.ref p) H0 _ O (fun a => a = p) A.grow (fun _ => A.sm) (A.st S) (A.tmp S.dom) ⟨p, .dK [], [], rfl, upd_same, .k [], rfl, rfl⟩
end
end Pv

set_option maxRecDepth 100000
set_option maxHeartbeats 2000000
namespace Pv
open PySem PySem.Spec PyProof.Rows L2

/-! ## {k: v for .. in ..}, keys of either kind -/
theorem dx_comp {X : Cx} {pins : List (Addr × Obj)} {σ : L2.St} {H : Hp} {s : Shared} {E : Value → Shared → Prop} {a : Addr} {y v : V} {u r : Value} {ob : HO} {l : List (DK × V)} {k : DK} {Q : Unit → Shared → Prop} (hu : X.A.units + 1 < cLine)
    (I : Inv X pins σ H s) (e : H a = some ob) (di : IsDic ob l) (ok : l = [] ∨ ∃ p ∈ l, kindOk p.1 k) (hk : KeyV H y k) (hl : l.length < sizeLine) (ry : RelV y u) (rv : RelV v r)
    (h : ∀ o' s', IsDic o' (putD l k v) → Inv X pins σ (upd H a o') s' → Q () s') : wpAny (model X.prog X.w) X.A (dictSet a u r) Q E s := by
  have tup : ∀ {H1 : Hp} {kv : List (List Key × V)} {ks : List Key} {b : Addr}, Inv X pins σ H1 s → H1 a = some (.dT kv) → y = .ref b → H1 b = some (.tup (ks.map kV)) → kv.length < sizeLine → (∀ s', Inv X pins σ (upd H1 a (.dT (putK kv ks v))) s' → Q () s') → wpAny (model X.prog X.w) X.A (dictSet a u r) Q E s := by
    intro H1 kv ks b I1 ea ey eb hl1 fin
    subst ey
    cases (show u = Value.ref b from ry)
    obtain ⟨z, hd, xs, rel, dd⟩ := dt_of I1.hok ea
    have hxs : xs.length ≤ sizeLine := (Paired.length rel) ▸ z
    have hput : (putK kv ks v).length ≤ sizeLine := Nat.le_trans (length_putK kv ks v) hl1
    refine wpAny_dictSet_heap (hsz := hxs) (show X.A.units < cLine by omega) (key_of I1.hok eb) dd fun h' ⟨q, es, ep, hq, w2, w3, w4, _, w5⟩ sb => fin _ ?_
    exact d_write I1 (by rw [ea]; exact True.intro) sb ⟨q, hq⟩ ⟨hput, hd, _, (rel.put ks eb rv).keeps fun c ys ec => (by rw [upd_ne (ne_of ec ea fun z => nomatch z)]; exact ec), q, es, ep, hq, w2, w3, w4, w5⟩
  cases di with
  | k kv =>
    rw [List.length_map] at hl
    cases k with
    | k k =>
      obtain rfl : y = kV k := hk
      exact d_dictSet I e hl ry rv fun s' I' => h (.dK (putK kv k v)) s' (by rw [putD_k (nd_k I (.inl e))]; exact .k _) I'
    | t ks =>
      rcases ok with z | ⟨p, hp, z⟩
      · have z' : kv = [] := by simpa using z
        subst z'
        obtain ⟨b, ey, eb⟩ := hk
        have hb : b ≠ a := fun z => by rw [z, e] at eb; cases eb
        refine tup (toT I e) upd_same ey (by rw [upd_ne hb]; exact eb) hl fun s' I' => h (.dT (putK [] ks v)) s' ?_ (by rw [upd_upd] at I'; exact I')
        exact (show putD ([] : List (DK × V)) (.t ks) v = (putK ([] : List (List Key × V)) ks v).map fun p => (DK.t p.1, p.2) by simp [putD, putK]) ▸ IsDic.t _
      · obtain ⟨q, _, rfl⟩ := List.mem_map.mp hp
        exact z.elim
  | t kv =>
    rw [List.length_map] at hl
    cases k with
    | t ks =>
      obtain ⟨b, ey, eb⟩ := hk
      exact tup I e ey eb hl fun s' I' => h (.dT (putK kv ks v)) s' (by rw [putD_t (nd_t I (.inl e))]; exact .t _) I'
    | k k =>
      rcases ok with z | ⟨p, hp, z⟩
      · have z' : kv = [] := by simpa using z
        subst z'
        obtain rfl : y = kV k := hk
        refine d_dictSet (toK I e) upd_same hl ry rv fun s' I' => h (.dK (putK [] k v)) s' ?_ (by rw [upd_upd] at I'; exact I')
        exact (show putD ([] : List (DK × V)) (.k k) v = (putK ([] : List (Key × V)) k v).map fun p => (DK.k p.1, p.2) by simp [putD, putK]) ▸ IsDic.k _
      · obtain ⟨q, _, rfl⟩ := List.mem_map.mp hp
        exact z.elim
section
variable {X : Cx} {kx vx tg iter : Expr} {ifs : List Expr} {scope : Scope} {own : List (Str × Nat)} {pos : Pos} {wi : TI} {g : TG} {tt : TT} {tk tv : TE}
/-- the reading: D the new dict; at each turn a pair is put -/
def tDcX (wi : TI) (g : TG) (tt : TT) (tk tv : TE) (vs : List Nat) : TE := fun σ H Q => wi σ H fun J H1 => ∀ D, H1 D = none → ∃ W : Nat → Nat → Hp → Prop, (∃ m, W 0 m (upd H1 D (.dK []))) ∧ ∀ i m H, W i m H → (J.stop i H ∧ Q (.ref D) H) ∨
  (J.go i H ∧ ∃ Nx : Hp → Prop, (∀ H', Nx H' → ∃ m', m' < m ∧ W (i + 1) m' H') ∧ ∀ x H', J.yld i H x H' → g x (L2.wipe σ vs) H' fun σ2 H2 => L2.wipe σ2 vs = L2.wipe σ vs ∧ tt σ2 H2 fun b H3 => if b = true then
    tk σ2 H3 fun y H4 => tv σ2 H4 fun z H5 => ∃ ob l k, H5 D = some ob ∧ IsDic ob l ∧ (l = [] ∨ ∃ p ∈ l, kindOk p.1 k) ∧ KeyV H5 y k ∧ l.length < sizeLine ∧ ∀ o', IsDic o' (putD l k z) → Nx (upd H5 D o')
  else Nx H3)
abbrev InBlk (X : Cx) (scope : Scope) (P : Cx → Prop) : Prop := ∀ (s : Shared) (H : Hp) (C : Addr) (cl : List (Str × Addr)) (fp : List Addr), P (X.blk s H scope (compEnvC scope cl C X.env) fp)
theorem pe_dcX (hc : X.calm = true) (hu : X.A.units + 100 < cLine) (hN : X.N.Nodup) (hi : PI X tg iter wi) (ok : BlkOk X.N X.env.scope scope own) (hg : InBlk X scope fun Y => PG Y tg g) (ht : InBlk X scope fun Y => PTs Y ifs tt) (hk : InBlk X scope fun Y => PE Y kx tk) (hv : InBlk X scope fun Y => PE Y vx tv)
    (hs : ∀ x, foldedSetIterable iter X.env x = pure x) : PE X (.DictComp kx vx [⟨tg, iter, ifs, 0⟩] scope pos) (tDcX wi g tt tk tv (own.map (·.2))) := by
  refine ⟨fun pins s σ H Q I h => ?_⟩
  rw [arm_eval_DictComp]
  have free : ∀ y ∈ scope.names, y.2 = .free → ∃ c, X.env.cells.lookup y.1 = some c := fun y hy e => I.ok.has _ (ok.free y hy e)
  refine wpAny_comprehension_free (use := none) rfl hs (closure_ok free) ok.kind (fun y hy e => by rw [ok.uniq y hy, e]) (thn (hi.run pins s σ H _ I h) fun xv z1 hx => thn hx fun itv z2 ⟨it, fp, tn, J, G, e, IG, T, stG, fG, q⟩ => ?_)
  subst e
  refine wpAny_newObj_type (newEnv_comp ?_)
  generalize eD : z2.heap.objs.size = D
  have nD : G D = none := IG.hok.fresh (Nat.le_of_eq eD)
  obtain ⟨W, ⟨m0, w0⟩, turn⟩ := q D nD
  generalize ez : ({ z2 with heap := z2.heap.push { cls := .type "dict", data := .dict #[] } } : Shared) = z3
  have hz : z3.heap = z2.heap.push { cls := .type "dict", data := .dict #[] } := by rw [← ez]
  have JD : Inv X pins σ (upd G D (.dK [])) z3 := by
    rw [← ez]
    exact IG.laid (t' := z2.toks) (fun b o e => Heap.get?_push_of_some _ e) (Nat.le_of_eq eD) (by rw [← eD]; exact dk_empty z2.heap IG.big)
  have low : ∀ b ∈ fp, b < z2.heap.objs.size := fun b hb => let ⟨o, e, _⟩ := T.obj _ _ stG b hb; Heap.lt_size e
  have fD : ∀ b ∈ fp, FpOk X pins (upd G D (.dK [])) b ∧ b < z3.heap.objs.size := fun b hb =>
    ⟨⟨by rw [upd_ne (by rw [← eD]; exact Nat.ne_of_lt (low b hb))]; exact (fG b hb).1, (fG b hb).2⟩, by rw [hz, Heap.size_push]; exact Nat.lt_succ_of_lt (low b hb)⟩
  have stD : tn 0 z3.heap := T.keep _ _ _ stG fun b _ o e => (by rw [hz]; exact Heap.get?_push_of_some _ e)
  have JB := block_start JD ok hN fD
  have bg := hg z3 (upd G D (.dK [])) z3.heap.objs.size (cellsFrom (z3.heap.objs.size + 1) scope.names (cloFrom X.env.cells scope.names [])) fp
  have bt := ht z3 (upd G D (.dK [])) z3.heap.objs.size (cellsFrom (z3.heap.objs.size + 1) scope.names (cloFrom X.env.cells scope.names [])) fp
  have bk := hk z3 (upd G D (.dK [])) z3.heap.objs.size (cellsFrom (z3.heap.objs.size + 1) scope.names (cloFrom X.env.cells scope.names [])) fp
  have bv := hv z3 (upd G D (.dK [])) z3.heap.objs.size (cellsFrom (z3.heap.objs.size + 1) scope.names (cloFrom X.env.cells scope.names [])) fp
  generalize eE : compEnvC scope (cellsFrom (z3.heap.objs.size + 1) scope.names (cloFrom X.env.cells scope.names [])) z3.heap.objs.size X.env = cE at JB bg bt bk bv
  have cL : cE.locals = z3.heap.objs.size := by subst eE; rfl
  show codeAny _ _ (.compStart (.DictComp kx vx [⟨tg, iter, ifs, 0⟩] scope pos) 0 (.ref it) (.ref D) (compEnvC scope (cellsFrom (z3.heap.objs.size + 1) scope.names (cloFrom X.env.cells scope.names [])) z3.heap.objs.size X.env)) (compPost (model X.prog X.w) X.A X.xe none (EP X pins σ Q) (.ref D) z3.heap.objs.size) { z3 with heap := pushCells (z3.heap.push { cls := .type "dict", data := .dict #[] }) scope.names }
  rw [eE]
  have nul : ∀ b ∈ fp, (upd G D (.dK [])) b = none := fun b hb => (fD b hb).1.1
  generalize eG : upd G D (.dK []) = GD at JD JB bg bt bk bv w0 nul fD
  generalize e4 : ({ z3 with heap := pushCells (z3.heap.push { cls := .type "dict", data := .dict #[] }) scope.names } : Shared) = z4 at JB ⊢
  have st4 : tn 0 z4.heap := T.keep _ _ _ stD fun b _ o e => (by rw [← e4]; exact pushCells_keeps _ _ _ _ (Heap.get?_push_of_some _ e))
  have stand : ∀ {σ' : L2.St} {H' : Hp} {s' : Shared}, Inv (X.blk z3 GD scope cE fp) [] σ' H' s' → (∀ b ∈ fp, H' b = none) → ∀ b ∈ fp, FpOk (X.blk z3 GD scope cE fp) [] H' b := fun {σ' H' s'} I' hn b hb =>
    ⟨hn b hb, (I'.ok.exf b hb).1, I'.ok.exfs b hb, .inl hb, fun x c e => (I'.ok.exf b hb).2 x c e, fun p hp => absurd (show p ∈ ([] : List (Addr × Obj)) ++ [] from hp) (by simp)⟩
  have loop : codeAny (model X.prog X.w) X.A (.compLoop (.DictComp kx vx [⟨tg, iter, ifs, 0⟩] scope pos) 0 (.ref it) (.ref D) cE) (compPost (model X.prog X.w) X.A X.xe none (EP X pins σ Q) (.ref D) z3.heap.objs.size) z4 := by
    refine compLoop_anyD (fun n z => ∃ i K, Inv (X.blk z3 GD scope cE fp) [] (L2.wipe σ (own.map (·.2))) K z ∧ tn i z.heap ∧ (∀ b ∈ fp, K b = none) ∧ W i n K) ?_ m0 ⟨0, GD, JB, st4, nul, w0⟩
    rintro n z5 ⟨i, K5, J5, t5, n5, w5⟩
    rcases turn i n K5 w5 with ⟨stop, fin⟩ | ⟨go, Nx, hNx, step⟩
    · refine thnF (T.done (X.blk z3 GD scope cE fp) rfl rfl rfl hc i [] z5 _ K5 (fun _ _ => False) J5 (stand J5 n5) t5 stop) fun r z6 ⟨hr, J6⟩ => ?_
      subst hr
      have J7 : Inv X pins σ K5 z6 := JD.call' (ch := fp) J6.os J6.base J6.hok J6.bare fun b hb => ⟨(fD b hb).1.2.2.2.1, (fD b hb).1.2.1, (fD b hb).1.2.2.2.2.1, (fD b hb).1.2.2.2.2.2⟩
      have nC : K5 z3.heap.objs.size = none := cL ▸ J6.free
      obtain ⟨m, hn, _⟩ := J6.loc
      have hn' : z6.heap.Ns z3.heap.objs.size m := cL ▸ (show z6.heap.Ns cE.locals m from hn)
      obtain ⟨p0, p1, p2, p3, p4, p5⟩ := JD.fpOk (H := GD) (Nat.le_refl _) (show _ from by
        exact JD.hok.fresh (Nat.le_refl _))
      exact ⟨m, hn', fun h2 sb => ⟨.ref D, K5, J7.turned (t' := z6.toks) (fun b o hb e => (sb.2 b hb).trans e) nC p1 p3 p4 p5, rfl, fin⟩⟩
    · refine thnF (T.item (X.blk z3 GD scope cE fp) rfl rfl rfl hc i [] z5 _ K5 (fun _ _ => False) J5 (stand J5 n5) t5 go) fun r z6 ⟨u, hr, h6⟩ => ?_
      subst hr
      refine thnF h6 fun _ z7 ⟨x, K7, J7, r7, y7, t7, n7⟩ => ?_
      refine thnF (bg.run _ z7 _ K7 x u _ (J7.pinned (stand J7 n7) (T.obj _ _ t7)) r7 (step x K7 y7)) fun _ z8 ⟨σ8, K8, J8, hw8, q8⟩ => thnF (bt.run _ z8 σ8 K8 _ J8 q8) fun b z9 ⟨K9, J9, q9⟩ => ?_
      have back : ∀ {z : Shared} {K' : Hp}, Inv (X.blk z3 GD scope cE fp) ([] ++ pinsAt fp z7.heap) σ8 K' z → Nx K' → ∃ m, m < n ∧ ∃ i K, Inv (X.blk z3 GD scope cE fp) [] (L2.wipe σ (own.map (·.2))) K z ∧ tn i z.heap ∧ (∀ b ∈ fp, K b = none) ∧ W i m K := fun {z K'} J' nx => by
        obtain ⟨m', hm, w'⟩ := hNx K' nx
        have at' : ∀ b ∈ fp, ∀ o, z7.heap.get? b = some o → z.heap.get? b = some o ∧ K' b = none := fun b hb o e => let q := J'.pin (b, o) (List.mem_append_right _ (List.mem_append_right _ (mem_pinsAt hb e))); ⟨q.1, q.2.1⟩
        exact ⟨m', hm, i + 1, K', (J'.unpinned (pins := [])).weak (by rw [← hw8, wipe_length]) (fun j v e => (wipe_some (by rw [hw8]; exact e)).1), T.keep _ _ _ t7 fun b hb o e => (at' b hb o e).1, fun b hb => let ⟨o, e, _⟩ := T.obj _ _ t7 b hb; (at' b hb o e).2, w'⟩
      cases b with
      | false => exact back J9 q9
      | true =>
        refine thnF (bk.run _ z9 σ8 K9 _ J9 q9) fun _ z10 ⟨yk, K10, J10, r10, q10⟩ => thnF (bv.run _ z10 σ8 K10 _ J10 q10) fun _ z11 ⟨yv, K11, J11, r11, ob, l, k, hD, di, okk, hk', hl, nx⟩ => ?_
        exact dx_comp (X := X.blk z3 GD scope cE fp) (by show X.A.units + 1 < cLine; omega) J11 hD di okk hk' hl r10 r11 fun o' z12 d' J12 => back J12 (nx o' d')
  exact codeAny_compStart_dict loop (T.self X.A 0 _ _ _ st4 loop)
end
end Pv

set_option maxRecDepth 100000
set_option maxHeartbeats 2000000
namespace Pv
open PySem PySem.Spec PyProof.Rows L2

/-! ## dict comprehensions over pure values -/
def dcLoop (own : List Nat) (bf : BF) (t : TFn) (kf vf : EF) : List PV → List (DK × PV) → Ev → Option (List (DK × PV) × Ev × Bool)
  | [], acc, ρ => some (acc, ρ, true)
  | x :: xs, acc, ρ => match bf x ρ with
    | none => none
    | some ρ1 => match t ρ1 with
      | .ok r => if r.b = true then match kf r.ρ with
          | .ok rk => match vf rk.ρ with
            | .ok q => match rk.x.keyOf with
              | some k => if shOk (q.lv, q.x) = true ∧ keyFits acc k = true ∧ acc.length < sizeLine then (dcLoop own bf t kf vf xs (putD acc k q.x) (wipeE q.ρ own)).map fun z => (z.1, z.2.1, r.pu && rk.pu && q.pu && z.2.2) else none
              | none => none
            | _ => none
          | _ => none
        else (dcLoop own bf t kf vf xs acc (wipeE r.ρ own)).map fun z => (z.1, z.2.1, r.pu && z.2.2)
      | _ => none
def eDc (own : List Nat) (s : IF') (bf : BF) (t : TFn) (kf vf : EF) : EF := fun ρ => match s ρ with
  | .ok r => if (own.all fun v => freeS r.ρ v) = true then match dcLoop own bf t kf vf r.xs [] (wipeE r.ρ own) with
      | some (ys, ρ3, pu) => .ok ⟨r.pu && pu, true, 1, .dic ys, backE r.ρ ρ3 own⟩
      | none => .bad
    else .bad
  | .exc c fs ρ' => .exc c fs ρ'
  | .bad => .bad
theorem keyOf_imm {x : PV} {k : DK} (e : x.keyOf = some k) : x.imm = true := by
  cases x <;> first | rfl | cases e
section
variable {g : Prg} {Γ : Sx} {K : PySem.W.Frag} {H0 H : Hp} {O : Fp} {σ : L2.St}
variable {tg iter kx vx : Expr} {kf vf : EF} {t : TFn} {pos p : Pos} {s : IF'} {bf : BF}
theorem dc_run {own : List (Str × Nat)} {sl : List Nat} {W : WX} {Q : VK} (hsl : ∀ j ∈ sl, j ∈ own.map (·.2)) (q : tF g W (eDc (own.map (·.2)) s bf t kf vf) σ H Q) :
    tDcX (tI g W s) (gF g sl bf) (tT g (fun _ _ _ _ => False) t) (tF g (fun _ _ _ _ => False) kf) (tF g (fun _ _ _ _ => False) vf) (own.map (·.2)) σ H Q := by
  obtain ⟨H0, O, ρ, S, q⟩ := q
  refine ⟨H0, O, ρ, S, ?_⟩
  generalize own.map (·.2) = vs at hsl q ⊢
  unfold eDc at q
  cases e : s ρ with
  | bad => rw [e] at q; exact q
  | exc c fs ρ' => rw [e] at q; exact q
  | ok r =>
    rw [e] at q
    simp only [] at q
    intro J RR Ha Hb Oa B ka hpa Sa Ta src r0 D hD
    by_cases hfr : (vs.all fun v => freeS r.ρ v) = true
    case neg => rw [if_neg hfr] at q; exact q.elim
    rw [if_pos hfr] at q
    cases el : dcLoop vs bf t kf vf r.xs [] (wipeE r.ρ vs) with
    | none => rw [el] at q; exact q.elim
    | some z =>
      obtain ⟨ys, ρ3, pu⟩ := z
      rw [el] at q
      simp only [] at q
      have ka0 : Grow H0 H O Ha Hb Oa := ka.mono fun a z => .inl z
      refine ⟨fun i m H1 => ∃ H01 O1 ρ1 acc u l pu1 pu2, m = r.xs.length - i ∧ Grow Ha Hb Oa H01 H1 O1 ∧ (pu1 = true → Same Hb H1) ∧ St0 g.K H01 H1 O1 (L2.wipe σ vs) ρ1 ∧ H1 D = some u ∧ IsDic u l ∧ OwnD g.K H01 H1 acc 0 l noF ∧ ¬ O1 D ∧ H01 D = none ∧ RR H01 H1 ∧
        dcLoop vs bf t kf vf (r.xs.drop i) acc ρ1 = some (ys, ρ3, pu2) ∧ (pu1 && pu2) = pu, ⟨r.xs.length, Ha, Oa, wipeE r.ρ vs, [], .dK [], [], true, pu, rfl, ?_, fun _ => same_new hD, (Sa.wipe vs).other (fun z => mut_ne (Sa.dom D z) hD) (Sa.sub.free hD), upd_same, .k [], rfl, fun z => mut_ne (Sa.dom D z) hD, Sa.sub.free hD, ?_, el, rfl⟩, ?_⟩
      · exact (alloc_own Sa.sub hD).grow.mono fun a z => .inl z
      · exact src.keep r0 (fun _ _ z => z) fun a o hb e => by rw [upd_ne fun z => mut_ne (Ta.dom a hb) (by rw [z]; exact hD)]; exact e
      rintro i m H1 ⟨H01, O1, ρ1, acc, u, l, pu1, pu2, em, k1, hp1, S1, hD1, di, od1, nO1, n01, rr, el1, ep⟩
      have mD : ∀ {H' : Hp}, H' D = some u → Mut (H' D) := fun e => by rw [e]; exact mut_dic di
      by_cases hi : i < r.xs.length
      · refine .inr ⟨src.go S1.sub rr hi, ?_⟩
        rw [drop_cons hi] at el1
        unfold dcLoop at el1
        cases eb : bf r.xs[i] ρ1 with
        | none => rw [eb] at el1; cases el1
        | some ρ2 =>
          rw [eb] at el1
          simp only [] at el1
          cases et : t ρ2 with
          | bad => rw [et] at el1; cases el1
          | exc c fs ρ' => rw [et] at el1; cases el1
          | ok rt =>
            rw [et] at el1
            simp only [] at el1
            let Nx : Hp → Prop := fun H3 => ∃ H03 O3 ρ4 acc' u' l' pu1' pu2', Grow Ha Hb Oa H03 H3 O3 ∧ (pu1' = true → Same Hb H3) ∧ St0 g.K H03 H3 O3 (L2.wipe σ vs) ρ4 ∧ H3 D = some u' ∧ IsDic u' l' ∧ OwnD g.K H03 H3 acc' 0 l' noF ∧ ¬ O3 D ∧ H03 D = none ∧ RR H03 H3 ∧
              dcLoop vs bf t kf vf (r.xs.drop (i + 1)) acc' ρ4 = some (ys, ρ3, pu2') ∧ (pu1' && pu2') = pu
            refine ⟨Nx, fun H3 ⟨H03, O3, ρ4, acc', u', l', pu1', pu2', h1, h2, h3, h4, h5, h6, h7, h8, h9, h10, h11⟩ => ⟨r.xs.length - (i + 1), by omega, H03, O3, ρ4, acc', u', l', pu1', pu2', rfl, h1, h2, h3, h4, h5, h6, h7, h8, h9, h10, h11⟩, fun x H2 hy => ?_⟩
            obtain ⟨H02, A, ow⟩ := src.yld S1.sub rr hy _ (List.getElem?_eq_getElem hi)
            refine ⟨H02, O1, ρ1, _, ρ2, A.st S1, ow, eb, fun σ2 O' ho S' hj hl2 => ?_⟩
            have hw2 : L2.wipe σ2 vs = L2.wipe σ vs := wipe_same (by rw [hl2, wipe_length]) hsl hj
            have k2 : Grow Ha Hb Oa H02 H2 O' := (k1.trans0 A.grow).mono fun a z => .inl (ho a z)
            have nsD : ∀ {P0 P P0' P' : Hp} {OP OP' : Fp}, Grow P0 P OP P0' P' OP' → P D = some u → ¬ OP D → P0 D = none → P' D = some u ∧ ¬ OP' D ∧ P0' D = none := fun {P0 P P0' P' OP OP'} kk h1 h2 h3 => by
              refine ⟨kk.keep _ _ h1 h2, fun z => ?_, ?_⟩
              · rcases kk.own D z with y | y
                · exact h2 y
                · rw [h1] at y; cases y
              · cases q0 : P0' D with
                | none => rfl
                | some o =>
                  rcases kk.nsh D (by rw [q0]; exact Option.some_ne_none _) with z | z | z
                  · exact absurd h3 z
                  · exact absurd z h2
                  · exact (mut_not (mD h1) z).elim
            have hA : Grow H01 H1 O1 H02 H2 O' := (A.grow (O := O1)).mono fun a z => .inl (ho a z)
            obtain ⟨hD2, nO2, n02⟩ := nsD hA hD1 nO1 n01
            have rr2 : RR H02 H2 := src.keep rr A.sh fun a o _ e => A.sm _ _ e
            refine ⟨hw2, H02, O', ρ2, S', ?_⟩
            rw [et]
            intro H03 H3 O3 k3 hp3 S3
            have k13 : Grow Ha Hb Oa H03 H3 O3 := k2.trans0 k3
            obtain ⟨hD3, nO3, n03⟩ := nsD k3 hD2 nO2 n02
            have T2 : Tmp H02 H2 O' B := Ta.step k2
            have rr3 : RR H03 H3 := src.keep rr2 k3.sh fun a o hb e => k3.keep a o e (T2.off a hb)
            have T3 : Tmp H03 H3 O3 B := T2.step k3
            have nDB : ¬ B D := fun z => mut_ne (Ta.dom D z) hD
            by_cases hb : rt.b = true
            · rw [if_pos hb] at el1 ⊢
              cases ek : kf rt.ρ with
              | bad => rw [ek] at el1; cases el1
              | exc c fs ρ' => rw [ek] at el1; cases el1
              | ok rk =>
                rw [ek] at el1
                simp only [] at el1
                cases ef : vf rk.ρ with
                | bad => rw [ef] at el1; cases el1
                | exc c fs ρ' => rw [ef] at el1; cases el1
                | ok rq =>
                  rw [ef] at el1
                  simp only [] at el1
                  cases eky : rk.x.keyOf with
                  | none => rw [eky] at el1; cases el1
                  | some ky =>
                    rw [eky] at el1
                    simp only [] at el1
                    by_cases hok : shOk (rq.lv, rq.x) = true ∧ keyFits acc ky = true ∧ acc.length < sizeLine
                    case neg => rw [if_neg hok] at el1; cases el1
                    rw [if_pos hok] at el1
                    obtain ⟨⟨ys', ρ3', pu3⟩, el2, e3⟩ := Option.map_eq_some_iff.mp el1
                    simp only [Prod.mk.injEq] at e3
                    obtain ⟨e3a, e3b, e3c⟩ := e3
                    subst e3a e3b
                    refine ⟨H03, O3, rt.ρ, S3, ?_⟩
                    rw [ek]
                    intro y H04 H4 O4 B4 k4 hp4 S4 T4 w4
                    have k4' : Grow H03 H3 O3 H04 H4 O4 := k4.mono fun a z => .inl z
                    obtain ⟨hD4, nO4, n04⟩ := nsD k4' hD3 nO3 n03
                    have ky4 : Own g.K H04 H4 rk.x 0 y noF := by
                      have z : ∃ F, Own g.K H04 H4 rk.x rk.lv y F := by
                        split at w4
                        · exact ⟨_, w4⟩
                        · exact w4
                      obtain ⟨F, z⟩ := z
                      exact own_imm z (.inr (keyOf_imm eky)) fun _ _ z => z
                    have T3' : Tmp H04 H4 O4 B := T3.step k4'
                    refine ⟨H04, O4, rk.ρ, S4, ?_⟩
                    rw [ef]
                    intro v H05 H5 O5 B5 k5 hp5 S5 T5 w5
                    have k5' : Grow H04 H4 O4 H05 H5 O5 := k5.mono fun a z => .inl z
                    obtain ⟨hD5, nO5, n05⟩ := nsD k5' hD4 nO4 n04
                    have hv : Own g.K H05 H5 rq.x 0 v noF := by
                      have z : ∃ F, Own g.K H05 H5 rq.x rq.lv v F := by
                        split at w5
                        · exact ⟨_, w5⟩
                        · exact w5
                      obtain ⟨F, z⟩ := z
                      have c : rq.lv = 0 ∨ rq.x.imm = true := by
                        have := hok.1
                        unfold shOk at this
                        simpa using this
                      exact own_imm z c fun _ _ z => z
                    have shall : Same H01 H05 := A.sh.trans (k3.sh.trans (k4.sh.trans k5.sh))
                    have od5 : OwnD g.K H05 H5 acc 0 l noF := ownD0 shall _ _ _ _ od1
                    have ky5 : Own g.K H05 H5 rk.x 0 y noF := own0 k5.sh _ _ _ _ ky4
                    refine ⟨u, l, ky, hD5, di, fits_l od5 hok.2.1, own_key S5.sub ky5 eky, by rw [ownD_len od5]; exact hok.2.2, fun o' d' => ?_⟩
                    have od6 : OwnD g.K H05 (upd H5 D o') (putD acc ky rq.x) 0 (putD l ky v) noF := ownD0 (fun _ _ z => z) _ _ _ _ (ownD_put od5 hv fun _ z => z.elim)
                    refine ⟨H05, O5, wipeE rq.ρ vs, putD acc ky rq.x, o', putD l ky v, pu1 && (rt.pu && rk.pu && rq.pu), pu3, ?_, fun z => ?_, ?_, upd_same, d', od6, nO5, n05, ?_, el2, ?_⟩
                    · have k15 : Grow Ha Hb Oa H05 H5 O5 := (k13.trans0 k4').trans0 k5'
                      exact ⟨k15.sh, fun a o e n => by rw [upd_ne fun z => by rw [z, hD] at e; cases e]; exact k15.keep a o e n, fun a z => by
                        by_cases ha : a = D
                        · rw [ha, upd_same]; exact Option.some_ne_none _
                        · rw [upd_ne ha]; exact k15.dom a z, k15.own, k15.nsh⟩
                    · simp only [Bool.and_eq_true] at z
                      intro a o e
                      rw [upd_ne fun z => by rw [z, hD] at e; cases e]
                      exact hp5 z.2.2 _ _ (hp4 z.2.1.2 _ _ (hp3 z.2.1.1 _ _ (A.sm _ _ (hp1 z.1 _ _ e))))
                    · have z := S5.wipe vs
                      rw [hw2] at z
                      exact z.other nO5 n05
                    · refine src.keep (src.keep rr3 k4.sh fun a o hb e => k4.keep a o e (T3.off a hb)) k5.sh fun a o hb e => ?_
                      rw [upd_ne fun z => nDB (by rw [← z]; exact hb)]
                      exact k5.keep a o e (T3'.off a hb)
                    · rw [← ep, ← e3c]
                      simp only [Bool.and_assoc]
            · rw [if_neg hb] at el1 ⊢
              obtain ⟨⟨ys', ρ3', pu3⟩, el2, e3⟩ := Option.map_eq_some_iff.mp el1
              simp only [Prod.mk.injEq] at e3
              obtain ⟨e3a, e3b, e3c⟩ := e3
              subst e3a e3b
              refine ⟨H03, O3, wipeE rt.ρ vs, acc, u, l, pu1 && rt.pu, pu3, k13, fun z => ?_, ?_, hD3, di, ownD0 (A.sh.trans k3.sh) _ _ _ _ od1, nO3, n03, rr3, el2, ?_⟩
              · simp only [Bool.and_eq_true] at z
                exact fun a o e => hp3 z.2 _ _ (A.sm _ _ (hp1 z.1 _ _ e))
              · have z := S3.wipe vs
                rw [hw2] at z
                exact z
              · rw [← ep, ← e3c]
                simp only [Bool.and_assoc]
      · refine .inl ⟨src.stop S1.sub rr (by omega), ?_⟩
        rw [List.drop_eq_nil_of_le (by omega)] at el1
        cases el1
        have k0 : Grow H0 H O H01 H1 O1 := ka0.trans0 k1
        refine q (.ref D) H01 H1 O1 (fun a => a = D) ⟨k0.sh, k0.keep, k0.dom, fun a z => ?_, k0.nsh⟩ (fun z => ?_) (Sa.back k1.sh hfr S1) ⟨fun a z y => nO1 (by rw [← z]; exact y), fun a z => by rw [z]; exact mD hD1, fun a z => by rw [z]; exact n01⟩ ?_
        · rcases z with z | z
          · exact k0.own a z
          · rw [z]
            refine .inr ?_
            cases q0 : H D with
            | none => rfl
            | some o => exact absurd hD (ka0.dom D (by rw [q0]; exact Option.some_ne_none _))
        · simp only [Bool.and_eq_true] at z
          have z1 : pu1 = true := by
            have : (pu1 && true) = pu := ep
            rw [Bool.and_true] at this
            rw [this]
            exact z.2
          exact L2.Same.trans (hpa z.1) (hp1 z1)
        · show if true = true then Own g.K H01 H1 (.dic ys) 1 (.ref D) (fun a => a = D) else _
          rw [if_pos rfl]
          exact ⟨D, u, l, rfl, hD1, di, rfl, ownD0 (fun _ _ z => z) _ _ _ _ od1⟩
theorem ev_dc {own : List (Str × Nat)} {sl : List Nat} {scope : Scope} {ifs : List Expr} (hh : Γ.hot = false) (hns : noSet iter = true) (hok : blkC Γ.N Γ.sc scope own = true) (hsl : ∀ j ∈ sl, j ∈ own.map (·.2)) (hi : IV g Γ tg iter s) (hg : GV g (Γblk Γ scope) tg sl bf) (ht : TsV g (Γblk Γ scope) ifs t) (hk : EV g (Γblk Γ scope) kx kf) (hv : EV g (Γblk Γ scope) vx vf) :
    EV g Γ (.DictComp kx vx [⟨tg, iter, ifs, 0⟩] scope pos) (eDc (own.map (·.2)) s bf t kf vf) := fun X W F =>
  PE.imp (pe_dcX (own := own) (F.calm hh) F.un F.nd (hi X W F) (by rw [F.N, F.sc]; exact blkOk_by hok) (fun s H C cl fp => hg _ _ (fits_blk F hh s H scope cl C fp)) (fun s H C cl fp => tsv_pts (fits_blk F hh s H scope cl C fp) ht) (fun s H C cl fp => hk _ _ (fits_blk F hh s H scope cl C fp)) (fun s H C cl fp => hv _ _ (fits_blk F hh s H scope cl C fp)) (fold_no hns _)) fun σ H Q q => dc_run hsl q
end
end Pv

set_option maxRecDepth 100000
set_option maxHeartbeats 1000000
namespace Pv
open PySem PySem.Spec PyProof.Rows L2

/-! ## gcd, sum, max, min of lists -/
def PV.intOf : PV → Option Int
  | .int i => some i
  | _ => none
def pGcd : PO
  | [(_, .int a), (_, .int b)] => sc (.int ((Nat.gcd a.natAbs b.natAbs : Nat) : Int))
  | _ => none
def pSum : PO
  | [(n, x)] => if x.isLst = true then (x.items n).bind fun q => (q.2.mapM PV.intOf).bind fun ns => sc (.int ns.sum) else none
  | _ => none
def pMaxL : PO
  | [(n, x)] => if x.isLst = true then (x.items n).bind fun q => (q.2.mapM PV.intOf).bind fun ns => ns.max?.bind fun m => sc (.int m) else none
  | _ => none
def pMinL : PO
  | [(n, x)] => if x.isLst = true then (x.items n).bind fun q => (q.2.mapM PV.intOf).bind fun ns => ns.min?.bind fun m => sc (.int m) else none
  | _ => none
section
variable {g : Prg} {Γ : Sx} {K : PySem.W.Frag} {H0 H : Hp}
theorem own_ints : ∀ {xs : List PV} {n : Nat} {vs : List V} {ns : List Int} {F : Fp}, OwnL K H0 H xs n vs F → xs.mapM PV.intOf = some ns → vs = ns.map V.int
  | [], _, _, _, _, h, e => by
    rw [show _ = ([] : List V) from h]
    cases (show some [] = some _ from e)
    rfl
  | x :: xs, n, vs, ns, F, ⟨v, vs', G, e1, h1, h2⟩, e => by
    rw [List.mapM_cons] at e
    cases x <;> first | cases e | skip
    rename_i z
    cases e3 : xs.mapM PV.intOf with
    | none => rw [e3] at e; cases e
    | some us =>
      rw [e3] at e
      cases e
      rw [e1, own_ints h2 e3, show v = V.int z from h1]
      rfl
theorem lst_items (s : Same H0 H) {x : PV} {n m : Nat} {xs : List PV} {v : V} {F : Fp} {ns : List Int} (h : Own K H0 H x n v F) (l : x.isLst = true) (e : x.items n = some (m, xs)) (e2 : xs.mapM PV.intOf = some ns) : ∃ a, v = .ref a ∧ SqL K H a (ns.map V.int) := by
  cases x with
  | lst ys =>
    cases e
    obtain ⟨a, vs, G, rfl, h1, h2⟩ := own_lst s h
    rw [own_ints h2 e2] at h1
    exact ⟨a, rfl, .inl (.inl h1)⟩
  | clst ys =>
    cases e
    obtain ⟨a, vs, rfl, h1, h2⟩ := h
    rw [own_ints h2 e2] at h1
    exact ⟨a, rfl, s.seq h1⟩
  | _ => cases l
theorem rok_gcd : ROk K rGcd pGcd := by
  intro H0 H ps vs o Q s w e G
  unfold pGcd at e
  split at e
  · obtain ⟨v, u, F, F', rfl, h1, h2⟩ := views2 w
    cases (show v = _ from h1); cases (show u = _ from h2)
    exact ⟨_, _, rfl, sc_gives e G s rfl⟩
  · cases e
theorem rok_sum : ROk K (rSum K) pSum := by
  intro H0 H ps vs o Q s w e G
  unfold pSum at e
  split at e
  · obtain ⟨v, F, rfl, h1⟩ := views1 w
    split at e
    · rename_i hl
      obtain ⟨⟨m, xs⟩, e1, e2⟩ := Option.bind_eq_some_iff.mp e
      obtain ⟨ns, e3, e4⟩ := Option.bind_eq_some_iff.mp e2
      obtain ⟨a, rfl, q⟩ := lst_items s h1 hl e1 e3
      exact ⟨a, ns, rfl, q, sc_gives e4 G s rfl⟩
    · cases e
  · cases e
theorem rok_maxL : ROk K (rMax K) pMaxL := by
  intro H0 H ps vs o Q s w e G
  unfold pMaxL at e
  split at e
  · obtain ⟨v, F, rfl, h1⟩ := views1 w
    split at e
    · rename_i hl
      obtain ⟨⟨m, xs⟩, e1, e2⟩ := Option.bind_eq_some_iff.mp e
      obtain ⟨ns, e3, e4⟩ := Option.bind_eq_some_iff.mp e2
      obtain ⟨k, e5, e6⟩ := Option.bind_eq_some_iff.mp e4
      obtain ⟨a, rfl, q⟩ := lst_items s h1 hl e1 e3
      have mk := List.max?_eq_some_iff.mp e5
      refine ⟨a, ns, rfl, q, List.length_pos_of_mem mk.1, fun j hj hm => ?_⟩
      have : j = k := Int.le_antisymm (mk.2 j hj) (hm k mk.1)
      subst this
      exact sc_gives e6 G s rfl
    · cases e
  · cases e
theorem rok_minL : ROk K (rMin K) pMinL := by
  intro H0 H ps vs o Q s w e G
  unfold pMinL at e
  split at e
  · obtain ⟨v, F, rfl, h1⟩ := views1 w
    split at e
    · rename_i hl
      obtain ⟨⟨m, xs⟩, e1, e2⟩ := Option.bind_eq_some_iff.mp e
      obtain ⟨ns, e3, e4⟩ := Option.bind_eq_some_iff.mp e2
      obtain ⟨k, e5, e6⟩ := Option.bind_eq_some_iff.mp e4
      obtain ⟨a, rfl, q⟩ := lst_items s h1 hl e1 e3
      have mk := List.min?_eq_some_iff.mp e5
      refine ⟨a, ns, rfl, q, List.length_pos_of_mem mk.1, fun j hj hm => ?_⟩
      have : j = k := Int.le_antisymm (hm k mk.1) (mk.2 j hj)
      subst this
      exact sc_gives e6 G s rfl
    · cases e
  · cases e
variable {e : Expr} {es : List Expr} {af : AF} {x : Str} {p pos : Pos}
/-- a module's name for a built-in function -/
theorem ev_callM {id : String} {op : PO} {r : List V → Hp → VK → Prop} (hr : ROk g.K r op) (hc : ∀ X W, Fits g Γ X W → CallR X (.builtin id) r) (hg : IsGl Γ x) (hm : g.mg x = some (.builtin id)) (hs : noStars (e :: es) = true) (ha : AV g Γ (e :: es) af) :
    EV g Γ (.Call (.Name x p) (e :: es) [] pos) (eOp op af) :=
  ev_opn hr (fun X W F t ht => pe_callBfun (hc X W F) (IsGl.of F hg) (by rw [F.mg]; exact hm) ht hg.db (star_cons (noStars_all hs _ List.mem_cons_self)) (star_any fun y hy => noStars_all hs _ (List.mem_cons_of_mem _ hy))) ha
theorem ev_gcd (hs : noStars (e :: es) = true) (ha : AV g Γ (e :: es) af) (hg : IsGl Γ "gcd") (hm : g.mg "gcd" = some (.builtin "math.gcd")) : EV g Γ (.Call (.Name "gcd" p) (e :: es) [] pos) (eOp pGcd af) :=
  ev_callM rok_gcd (fun _ _ _ => cr_gcd) hg hm hs ha
theorem ev_sum (hs : noStars (e :: es) = true) (ha : AV g Γ (e :: es) af) (hh : Γ.hot = false) (hg : IsGl Γ "sum") (hm : g.mg "sum" = none) : EV g Γ (.Call (.Name "sum" p) (e :: es) [] pos) (eOp pSum af) :=
  ev_callB rok_sum (fun X W F => by rw [← F.K]; exact cr_sum (F.calm hh)) hg hm (by decide +kernel) (by decide) hs ha
theorem ev_maxL (hs : noStars (e :: es) = true) (ha : AV g Γ (e :: es) af) (hh : Γ.hot = false) (hg : IsGl Γ "max") (hm : g.mg "max" = none) : EV g Γ (.Call (.Name "max" p) (e :: es) [] pos) (eOp pMaxL af) :=
  ev_callB rok_maxL (fun X W F => by rw [← F.K]; exact cr_max (F.calm hh)) hg hm (by decide +kernel) (by decide) hs ha
theorem ev_minL (hs : noStars (e :: es) = true) (ha : AV g Γ (e :: es) af) (hh : Γ.hot = false) (hg : IsGl Γ "min") (hm : g.mg "min" = none) : EV g Γ (.Call (.Name "min" p) (e :: es) [] pos) (eOp pMinL af) :=
  ev_callB rok_minL (fun X W F => by rw [← F.K]; exact cr_min (F.calm hh)) hg hm (by decide +kernel) (by decide) hs ha
end
end Pv

set_option maxRecDepth 100000
set_option maxHeartbeats 1000000
namespace Pv
open PySem PySem.Spec PyProof.Rows L2

/-! ## xs[i] = v: a slot's list or dict -/
theorem PS.or {X : Cx} {st : Stmt} {t u : TS} (h1 : PS X st t) (h2 : PS X st u) : PS X st (fun D σ H => t D σ H ∨ u D σ H) := ⟨fun pins s σ H D I h => h.elim (h1.run pins s σ H D I) (h2.run pins s σ H D I)⟩
def sLPut (i : Nat) (kf vf : EF) : SF := fun ρ => ofE (vf ρ) fun rv => match rv.ρ[i]? with
  | some (some _) => ofE (kf rv.ρ) fun rk => match rk.ρ[i]? with
    | some (some (n + 1, .lst xs)) => match rk.x with
      | .int k => match ixN xs.length k with
        | some j => if fitL n rv = true then .nx (rk.ρ.set i (some (n + 1, .lst (xs.set j rv.x)))) else .bad
        | none => .bad
      | _ => .bad
    | _ => .bad
  | _ => .bad
/-- a list or a dict -/
def sPut (i : Nat) (kf vf : EF) : SF := fun ρ => ofE (vf ρ) fun rv => match rv.ρ[i]? with
  | some (some _) => ofE (kf rv.ρ) fun rk => match rk.ρ[i]? with
    | some (some (n + 1, .lst xs)) => match rk.x with
      | .int k => match ixN xs.length k with
        | some j => if fitL n rv = true then .nx (rk.ρ.set i (some (n + 1, .lst (xs.set j rv.x)))) else .bad
        | none => .bad
      | _ => .bad
    | some (some (n + 1, .dic kvs)) => match rk.x.keyOf with
      | some k => if keyFits kvs k = true ∧ fitL n rv = true ∧ kvs.length < sizeLine then .nx (rk.ρ.set i (some (n + 1, .dic (putD kvs k rv.x)))) else .bad
      | none => .bad
    | _ => .bad
  | _ => .bad
theorem sPut_or (i : Nat) (kf vf : EF) (ρ : Ev) : sPut i kf vf ρ = sDPut i kf vf ρ ∨ sPut i kf vf ρ = sLPut i kf vf ρ := by
  unfold sPut sDPut sLPut
  cases vf ρ with
  | bad => exact .inl rfl
  | exc c fs r => exact .inl rfl
  | ok rv =>
    show (match rv.ρ[i]? with | some (some _) => _ | _ => _) = (match rv.ρ[i]? with | some (some _) => _ | _ => _) ∨ (match rv.ρ[i]? with | some (some _) => _ | _ => _) = (match rv.ρ[i]? with | some (some _) => _ | _ => _)
    cases rv.ρ[i]? with
    | none => exact .inl rfl
    | some o =>
      cases o with
      | none => exact .inl rfl
      | some m =>
        show ofE (kf rv.ρ) _ = ofE (kf rv.ρ) _ ∨ ofE (kf rv.ρ) _ = ofE (kf rv.ρ) _
        cases kf rv.ρ with
        | bad => exact .inl rfl
        | exc c fs r => exact .inl rfl
        | ok rk =>
          simp only [ofE]
          cases rk.ρ[i]? with
          | none => exact .inl rfl
          | some o =>
            cases o with
            | none => exact .inl rfl
            | some m =>
              obtain ⟨n, y⟩ := m
              cases n with
              | zero => exact .inl rfl
              | succ n =>
                cases y with
                | lst xs => exact .inr rfl
                | _ => exact .inl rfl
section
variable {g : Prg} {Γ : Sx} {K : PySem.W.Frag} {H0 H : Hp}
theorem ownL_set : ∀ {xs : List PV} {n : Nat} {vs : List V} {F B : Fp} {j : Nat} {x : PV} {v : V}, OwnL K H0 H xs n vs F → Own K H0 H x n v B → (∀ a, B a → ¬ F a) → OwnL K H0 H (xs.set j x) n (vs.set j v) (F.or B)
  | [], n, vs, F, B, j, x, v, h, o, hd => by
    rw [show vs = [] from h]
    exact rfl
  | y :: r, n, _, F, B, 0, x, v, ⟨w, l', G, e, h1, h2⟩, o, hd => by
    subst e
    exact ⟨v, l', B, rfl, own_tr (fun _ _ z => z) _ _ _ _ _ o (fun _ _ _ e => e) fun a z => ⟨.inr z, z⟩, ownL_tr (fun _ _ z => z) _ _ _ _ _ h2 (fun _ _ _ e => e) fun a z => ⟨.inl z.1, fun y => hd a y z.1⟩⟩
  | y :: r, n, _, F, B, j + 1, x, v, ⟨w, l', G, e, h1, h2⟩, o, hd => by
    subst e
    refine ⟨w, _, fun a => F a ∧ G a, rfl, own_tr (fun _ _ z => z) _ _ _ _ _ h1 (fun _ _ _ e => e) fun a z => ⟨.inl z.1, z⟩, ?_⟩
    refine ownL_tr (fun _ _ z => z) _ _ _ _ _ (ownL_set (j := j) h2 o fun a z y => hd a z y.1) (fun _ _ _ e => e) fun a z => ?_
    rcases z with z | z
    · exact ⟨.inl z.1, fun y => z.2 y.2⟩
    · exact ⟨.inr z, fun y => hd a z y.1⟩
theorem sv_lput {i : Nat} {x : Str} {kx value : Expr} {kf vf : EF} {p p' pos : Pos} (hN : Γ.N[i]? = some x) (hv : Vis Γ.sc x) (hd : (x == ("__debug__" : Str)) = false) (hcd : (x == ("__classdict__" : Str)) = false) (hn : noComp value = true) (hw : ∀ env, swapsWithSole [.Subscript (.Name x p) kx p'] value pos.line env = pure false) (hw2 : ∀ env, swappedStores [.Subscript (.Name x p) kx p'] value env = pure none)
    (ha : ∀ env v, assign (.Subscript (.Name x p) kx p') env v = (do
      let ov ← holding [v] (eval (.Name x p) env)
      let iv ← holding [v, ov] (eval kx env)
      standAt p'
      holding [v, ov, iv] (setItem ov iv v)
      release [v, ov, iv] []))
    (hk : EV g Γ kx kf) (hval : EV g Γ value vf) :
    SV g Γ (.Assign [.Subscript (.Name x p) kx p'] value pos) (sLPut i kf vf) := fun X W Fi => by
  refine PS.imp (ps_asg (hval X W Fi) (pg_sub (pe_var (i := i) (by rw [Fi.N]; exact hN) (by rw [Fi.sc]; exact hv) hd hcd) (hk X W Fi) set_list (ha _)) (hw _) (hw2 _)) fun D σ H q => ?_
  refine ofE_run q fun {H0 O ρ rv} S e q v H0' H' O' B k hp S' T w => ?_
  cases er : rv.ρ[i]? with
  | none => rw [er] at q; exact q.elim
  | some o1 =>
    cases o1 with
    | none => rw [er] at q; exact q.elim
    | some m1 =>
      rw [er] at q
      simp only [] at q
      obtain ⟨n0, y0⟩ := m1
      obtain ⟨v0, F0, e1, _⟩ := own_slot S' er
      refine ⟨v0, e1, H0', O', rv.ρ, S', ?_⟩
      cases ek : kf rv.ρ with
      | bad => rw [ek] at q; exact q.elim
      | exc c fs ρ' =>
        rw [ek] at q
        exact fun H02 H2 O2 d k2 S2 x2 => q σ H02 H2 O2 d ((k.trans k2).mono fun a z => .inl z) S2 x2 .refl
      | ok rk =>
        rw [ek] at q
        simp only [ofE] at q
        intro u H02 H2 O2 B2 k2 hp2 S2 T2 w2
        cases er2 : rk.ρ[i]? with
        | none => rw [er2] at q; exact q.elim
        | some o2 =>
          cases o2 with
          | none => rw [er2] at q; exact q.elim
          | some m2 =>
            obtain ⟨n1, y1⟩ := m2
            rw [er2] at q
            cases n1 with
            | zero => exact q.elim
            | succ n =>
              cases y1 <;> first | exact q.elim | skip
              rename_i xs
              simp only [] at q
              cases eky : rk.x <;> rw [eky] at q <;> first | exact q.elim | skip
              rename_i ky
              simp only [] at q
              cases ej : ixN xs.length ky with
              | none => rw [ej] at q; exact q.elim
              | some j =>
                rw [ej] at q
                simp only [] at q
                by_cases hc : fitL n rv = true
                case neg => rw [if_neg hc] at q; exact q.elim
                rw [if_pos hc] at q
                obtain ⟨v', F, e2, o2, hF, S3, T3⟩ := S2.take er2
                rw [e1] at e2
                cases e2
                obtain ⟨a, vs, rfl, ha, hFa, ol⟩ := o2
                have k2' : Grow H0' H' O' H02 H2 O2 := k2.mono fun a z => .inl z
                have oy : Own g.K H02 H2 rv.x n v B := T.own k2' (fit_own hc w)
                have Tv : Tmp H02 H2 O2 B := T.step k2'
                have wk : ∃ G, Own g.K H02 H2 rk.x rk.lv u G := by
                  split at w2
                  · exact ⟨_, w2⟩
                  · exact w2
                obtain ⟨G, wk⟩ := wk
                rw [eky] at wk
                have eu : u = .int ky := wk
                refine ⟨a, vs, ky, j, rfl, eu, ha, by rw [ownL_len ol]; exact ej, ?_⟩
                have hBF : ∀ b, B b → ¬ F b := fun b z y => Tv.off b z (hF b y)
                have ol2 : OwnL g.K H02 (upd H2 a (.lst (vs.set j v))) (xs.set j rv.x) n (vs.set j v) (fun b => (F.or B) b ∧ b ≠ a) := by
                  refine ownL_tr (H := H2) (fun _ _ z => z) _ _ _ _ _ (ownL_set ol oy fun b z y => hBF b z y.1) (fun b o z e => ?_) fun b z => ?_
                  · rw [upd_ne fun y => by
                      rcases z with z | z
                      · exact z.2 y
                      · exact hBF b z (by rw [y]; exact hFa)]
                    exact e
                  · rcases z with z | z
                    · exact ⟨.inl z.1, z.2⟩
                    · exact ⟨.inr z, fun y => hBF b z (by rw [y]; exact hFa)⟩
                obtain ⟨S4, k4⟩ := mut_slot (n' := n + 1) (x' := .lst (xs.set j rv.x)) (v := .ref a) (o' := .lst (vs.set j v)) S3 T3 hF Tv e1 hFa ⟨a, _, rfl, upd_same, .inl hFa, ol2⟩
                refine q σ H02 _ (O2.or B) ?_ S4 .refl
                have k5 : Grow H02 H2 (O2.or B) H02 (upd H2 a (.lst (vs.set j v))) (O2.or B) := ⟨k4.sh, fun b o e n => k4.keep b o e fun z => n (.inl z), k4.dom, fun b z => .inl z, fun b z => .inl z⟩
                exact (k.trans k2').trans0 k5
theorem sv_put {i : Nat} {x : Str} {kx value : Expr} {kf vf : EF} {p p' pos : Pos} (hN : Γ.N[i]? = some x) (hv : Vis Γ.sc x) (hd : (x == ("__debug__" : Str)) = false) (hcd : (x == ("__classdict__" : Str)) = false) (hn : noComp value = true) (hw : ∀ env, swapsWithSole [.Subscript (.Name x p) kx p'] value pos.line env = pure false) (hw2 : ∀ env, swappedStores [.Subscript (.Name x p) kx p'] value env = pure none)
    (ha : ∀ env v, assign (.Subscript (.Name x p) kx p') env v = (do
      let ov ← holding [v] (eval (.Name x p) env)
      let iv ← holding [v, ov] (eval kx env)
      standAt p'
      holding [v, ov, iv] (setItem ov iv v)
      release [v, ov, iv] []))
    (hk : EV g Γ kx kf) (hval : EV g Γ value vf) :
    SV g Γ (.Assign [.Subscript (.Name x p) kx p'] value pos) (sPut i kf vf) := fun X W Fi => by
  refine PS.imp (PS.or (sv_dput hN hv hd hcd hn hk hval X W Fi) (sv_lput hN hv hd hcd hn hw hw2 ha hk hval X W Fi)) fun D σ H ⟨H0, O, ρ, S, q⟩ => ?_
  rcases sPut_or i kf vf ρ with e | e
  · exact .inl ⟨H0, O, ρ, S, by rw [← e]; exact q⟩
  · exact .inr ⟨H0, O, ρ, S, by rw [← e]; exact q⟩
end
end Pv

set_option maxRecDepth 100000
set_option maxHeartbeats 1000000
namespace Pv
open PySem PySem.Spec PyProof.Rows L2
section
variable {g : Prg} {Γ : Sx} {st : Stmt} {F : SF} {i : Nat}
/-! ## a slot frozen behind a statement -/
def sFz (i : Nat) (F : SF) : SF := fun ρ => match F ρ with
  | .nx ρ' => match ρ'[i]? with
    | some (some (_, x)) => .nx (ρ'.set i (some (0, x)))
    | _ => .bad
  | r => r
theorem sv_fz (hp : i ∉ Γ.pn) (h : SV g Γ st F) : SV g Γ st (sFz i F) := fun X W Fi => by
  refine ⟨fun pins s σ H D I ⟨H0, O, ρ, S, q⟩ => ?_⟩
  have R := (h X W Fi).run pins s σ H { D with nx := fun σ' H' => ∀ pins s, Inv X pins σ' H' s → ∃ σ2 H2, Inv X pins σ2 H2 s ∧ D.nx σ2 H2 } I ⟨H0, O, ρ, S, ?_⟩
  · refine thn R fun f s' z => ?_
    cases f with
    | next =>
      obtain ⟨σ', H', I', d⟩ := z
      exact d _ _ I'
    | brk => exact z
    | cont => exact z
    | ret u => exact z
  · unfold sFz at q
    cases e : F ρ with
    | nx ρ' =>
      rw [e] at q
      simp only [] at q
      intro σ' H0' H' O' k S' P pins s I'
      cases e1 : ρ'[i]? with
      | none => rw [e1] at q; exact q.elim
      | some o =>
        cases o with
        | none => rw [e1] at q; exact q.elim
        | some p =>
          obtain ⟨n, y⟩ := p
          rw [e1] at q
          obtain ⟨v, F', e2, o, hF, S2, T⟩ := S'.take e1
          by_cases hn : n = 0
          · subst hn
            refine ⟨σ', H', I', q σ' H0' H' (fun a => (O' a ∧ ¬ F' a) ∨ noF a) (k.mono fun a z => z.elim (fun z => z.1) False.elim) (S2.put .no (own0 (fun _ _ z => z) _ _ _ _ o) e2) P⟩
          · obtain ⟨H2, ⟨H02, fz, o2⟩, I2⟩ := frz_own (X := X) (σ := σ') y n v F' H0' H' o (fun a z => S'.sep a (hF a z)) S'.sub pins s I'
            have S3 := fz.st S2 fun a z => z.2
            exact ⟨σ', H2, I2, q σ' H02 H2 (fun a => (O' a ∧ ¬ F' a) ∨ noF a) (k.trans0 (Grow.frozen fz hF fun a z => z.elim (fun y => y.1) False.elim)) (S3.put .no o2 e2) P⟩
    | bk ρ' => rw [e] at q; exact q
    | ct ρ' => rw [e] at q; exact q
    | rt lv x ρ' => rw [e] at q; exact q
    | exc c fs ρ' => rw [e] at q; exact q
    | bad => rw [e] at q; exact q
end
end Pv

set_option maxRecDepth 100000
set_option maxHeartbeats 1000000
namespace Pv
open PySem PySem.Spec PyProof.Rows L2
/-! ## sorted -/
def sortI (ns : List Int) : List Int := ns.mergeSort fun a b => decide (a ≤ b)
def leS (a b : Str) : Bool := !decide (b.cps.toList < a.cps.toList)
def sortS (ns : List Str) : List Str := ns.mergeSort leS
theorem sortI_perm (ns : List Int) : (sortI ns).Perm ns := List.mergeSort_perm _ _
theorem sortI_sorted (ns : List Int) : (sortI ns).Pairwise (· ≤ ·) := by
  have := List.pairwise_mergeSort (le := fun a b : Int => decide (a ≤ b)) (fun a b c h k => by simp at *; omega) (fun a b => by simp; omega) ns
  exact this.imp fun h => by simpa using h
theorem sortI_eq {ns ms : List Int} (p : ms.Perm ns) (h : ms.Pairwise (· ≤ ·)) : ms = sortI ns :=
  (p.trans (sortI_perm ns).symm).eq_of_pairwise (fun a b _ _ h k => Int.le_antisymm h k) h (sortI_sorted ns)
theorem cps_total (a b : Str) : leS a b = true ∨ leS b a = true := by
  unfold leS
  by_cases h : b.cps.toList < a.cps.toList
  · right
    have : ¬ a.cps.toList < b.cps.toList := List.lt_asymm h
    simp [this]
  · left; simp [h]
theorem leS_trans (a b c : Str) (h : leS a b = true) (k : leS b c = true) : leS a c = true := by
  unfold leS at *
  simp only [Bool.not_eq_true', decide_eq_false_iff_not, List.not_lt] at *
  exact List.le_trans h k
theorem leS_antisymm {a b : Str} (h : leS a b = true) (k : leS b a = true) : a = b := by
  unfold leS at *
  simp only [Bool.not_eq_true', decide_eq_false_iff_not, List.not_lt] at *
  have := List.le_antisymm h k
  obtain ⟨a⟩ := a
  obtain ⟨b⟩ := b
  congr
  exact Array.toList_inj.mp this
theorem sortS_perm (ns : List Str) : (sortS ns).Perm ns := List.mergeSort_perm _ _
theorem sortS_sorted (ns : List Str) : (sortS ns).Pairwise (fun a b => leS a b = true) := List.pairwise_mergeSort (le := leS) leS_trans (fun a b => by rcases cps_total a b with h | h <;> simp [h]) ns
theorem sortS_eq {ns ms : List Str} (p : ms.Perm ns) (h : ms.Pairwise (fun a b => leS a b = true)) : ms = sortS ns :=
  (p.trans (sortS_perm ns).symm).eq_of_pairwise (fun a b _ _ h k => leS_antisymm h k) h (sortS_sorted ns)
theorem rising_pair : ∀ (xs : List Str) (p : Str), risingS p xs = true → (p :: xs).Pairwise (fun a b => leS a b = true)
  | [], p, _ => List.pairwise_singleton _ _
  | x :: r, p, h => by
    unfold risingS at h
    rw [Bool.and_eq_true] at h
    have ih := rising_pair r x h.2
    have hp : leS p x = true := by unfold leS; rw [← PyProof.Rows.ltCps_eq]; exact h.1
    refine List.pairwise_cons.mpr ⟨fun y hy => ?_, ih⟩
    rcases List.mem_cons.mp hy with e | hy
    · rw [e]; exact hp
    · exact leS_trans _ _ _ hp ((List.pairwise_cons.mp ih).1 y hy)
theorem sortedS_pair {xs : List Str} (h : PyProof.Rows.sortedS xs = true) : xs.Pairwise (fun a b => leS a b = true) := by
  cases xs with
  | nil => exact List.Pairwise.nil
  | cons x r => exact rising_pair r x h
section
variable {g : Prg} {Γ : Sx} {K : PySem.W.Frag} {H0 H : Hp}
variable {tg a b c e o : Expr} {fa fb fc fo : EF} {es : List Expr} {af : AF} {p pos apos cpos : Pos} {x : Str} {i : Nat}
def pSort : PO
  | [(n, x)] => if x.isLst = true then (x.items n).bind fun q => match q.2.mapM PV.intOf with
    | some ns => some ⟨true, 1, .lst ((sortI ns).map .int)⟩
    | none => (q.2.mapM PV.strOf).bind fun ss => if ss.length < 64 then some ⟨true, 1, .lst ((sortS ss).map .str)⟩ else none else none
  | _ => none
theorem ownL_ints : ∀ (ns : List Int) {n : Nat} {F : Fp}, OwnL K H0 H (ns.map PV.int) n (ns.map V.int) F
  | [], _, _ => rfl
  | i :: r, _, _ => ⟨.int i, r.map V.int, noF, rfl, rfl, ownL_ints r⟩
theorem ownL_strs : ∀ (ns : List Str) {n : Nat} {F : Fp}, OwnL K H0 H (ns.map PV.str) n (ns.map V.str) F
  | [], _, _ => rfl
  | i :: r, _, _ => ⟨.str i, r.map V.str, noF, rfl, rfl, ownL_strs r⟩
theorem lst_strs (s : Same H0 H) {x : PV} {n m : Nat} {xs : List PV} {v : V} {F : Fp} {ns : List Str} (h : Own K H0 H x n v F) (l : x.isLst = true) (e : x.items n = some (m, xs)) (e2 : xs.mapM PV.strOf = some ns) : ∃ a, v = .ref a ∧ SqL K H a (ns.map V.str) := by
  cases x with
  | lst ys =>
    cases e
    obtain ⟨a, vs, G, rfl, h1, h2⟩ := own_lst s h
    rw [own_strs h2 e2] at h1
    exact ⟨a, rfl, .inl (.inl h1)⟩
  | clst ys =>
    cases e
    obtain ⟨a, vs, rfl, h1, h2⟩ := h
    rw [own_strs h2 e2] at h1
    exact ⟨a, rfl, L2.Same.seq s h1⟩
  | _ => cases l
theorem rok_sort : ROk K (fun vs H Q => rSortedI K vs H Q ∨ rSortedS K vs H Q) pSort := by
  intro H0 H ps vs o Q s w e G
  unfold pSort at e
  split at e
  · obtain ⟨v, F, rfl, h1⟩ := views1 w
    split at e
    · rename_i hl
      obtain ⟨⟨m, xs⟩, e1, e2⟩ := Option.bind_eq_some_iff.mp e
      simp only [] at e2
      split at e2
      · rename_i ns e3
        obtain ⟨a, rfl, q⟩ := lst_items s h1 hl e1 e3
        refine .inl ⟨a, ns, rfl, q, fun ns' p hp hs hn => ?_⟩
        rw [sortI_eq hp hs]
        cases e2
        exact gives_lst (F := noF) G s (ownL_ints _) p hn
      · obtain ⟨ss, e4, e5⟩ := Option.bind_eq_some_iff.mp e2
        obtain ⟨a, rfl, q⟩ := lst_strs s h1 hl e1 e4
        split at e5
        · rename_i h64
          refine .inr ⟨a, ss, rfl, q, h64, fun ys p hp hs hn => ?_⟩
          rw [sortS_eq hp (sortedS_pair hs)]
          cases e5
          exact gives_lst (F := noF) G s (ownL_strs _) p hn
        · cases e5
    · cases e
  · cases e
theorem ev_sort (hs : noStars (e :: es) = true) (ha : AV g Γ (e :: es) af) (hh : Γ.hot = false) (hg : IsGl Γ "sorted") (hm : g.mg "sorted" = none) : EV g Γ (.Call (.Name "sorted" p) (e :: es) [] pos) (eOp pSort af) :=
  ev_callB rok_sort (fun X W F => by rw [← F.K]; exact CallR.or cr_sortedI cr_sortedS) hg hm (by decide +kernel) (by decide) hs ha
/-! ## get with a value for what is not there -/
def pGetD2 : PO
  | [(n, .dic kvs), (_, y), d] => match y.keyOf with
    | some k => if keyFits kvs k = true ∧ n ≤ 1 ∧ shOk d = true then (match valD kvs k with
      | some x => some ⟨n ≤ 1 || x.imm, if x.imm = true then 0 else n - 1, x⟩
      | none => some ⟨true, 0, d.2⟩) else none
    | none => none
  | _ => none
theorem rok_get2 : ROk K (fun vs H Q => ∃ x xs, vs = x :: xs ∧ ∃ a y d o, x = .ref a ∧ xs = [y, d] ∧ DG H a y o ∧ Q (o.getD d) H) pGetD2 := by
  intro H0 H ps vs o Q s w e G
  unfold pGetD2 at e
  split at e
  · rename_i n kvs m y d
    obtain ⟨v, u, t, F, F', F2, rfl, h1, h2, h3⟩ := views3 w
    split at e
    · rename_i k ek
      split at e
      · rename_i hf
        obtain ⟨a, rfl, r⟩ := dg_own s h1 h2 ek hf.1
        cases ev : valD kvs k with
        | none =>
          rw [ev] at r e
          cases e
          refine ⟨_, _, rfl, a, u, t, none, rfl, rfl, r, ?_⟩
          obtain ⟨dn, dx⟩ := d
          have hd := hf.2.2
          have c : dn = 0 ∨ dx.imm = true := by simpa [shOk] using hd
          exact sc_gives (x := dx) rfl G s (own_imm h3 c fun _ _ z => z)
        | some x =>
          rw [ev] at r e
          obtain ⟨w', J, g1, g2⟩ := r
          cases e
          exact ⟨_, _, rfl, a, u, t, some w', rfl, rfl, g1, gives_at s G g2⟩
      · cases e
    · cases e
  · cases e
theorem mt_dget2 {X : Cx} (hu : X.A.units + 1 < cLine) : MtR X "dict.get" (fun x xs H Q => ∃ a y d o, x = .ref a ∧ xs = [y, d] ∧ DG H a y o ∧ Q (o.getD d) H) := by
  intro pins s σ H x xs v us Q I rx rs ⟨a, y, d, o, ex, es, g0, q⟩
  subst ex es
  obtain rfl : v = Value.ref a := rx
  obtain ⟨u1, u2, rfl, r1, r2⟩ := Vals.two rs
  exact dg_get2 hu I g0 r1 r2 fun w' s' I' r' => ⟨_, H, I', r', q⟩
theorem ev_get2 {e2 : Expr} (hn : noSup o = true) (hs : noStars [e, e2] = true) (hl : (apos.endLine == cpos.line) = true) (ho : EV g Γ o fo) (ha : AV g Γ [e, e2] af) : EV g Γ (.Call (.Attribute o "get" apos) [e, e2] [] cpos) (eOp pGetD2 (aConsT PV.isDic fo af)) :=
  ev_dm PySem.F.slot_dict_get PySem.F.type_dict_get (fun X W F => mt_dget2 F.un1) rok_get2 hn hs hl (show 2 < 29 by decide) ho ha
/-! ## pop -/
def ePop0 (i : Nat) : EF := fun ρ => match ρ[i]? with
  | some (some (1, .lst (y :: ys))) => .ok ⟨false, true, 0, y, ρ.set i (some (1, .lst ys))⟩
  | _ => .bad
def ePop (i : Nat) : EF := fun ρ => match ρ[i]? with
  | some (some (1, .lst xs)) => match xs.getLast? with
    | some y => .ok ⟨false, true, 0, y, ρ.set i (some (1, .lst xs.dropLast))⟩
    | none => .bad
  | _ => .bad
theorem seqIndex0 {n : Nat} (h : 0 < n) : seqIndex? 0 n = some 0 := by
  have := (ixN_seq (n := n) (i := 0) (j := 0) (by unfold ixN; rw [if_pos (by omega), if_pos (by omega)]; rfl)).1
  exact this
theorem ownL_sub : ∀ {xs : List PV} {vs : List V} {F : Fp}, OwnL K H0 H xs 0 vs F → OwnL K H0 H xs.dropLast 0 vs.dropLast noF
  | [], vs, F, h => by rw [show vs = [] from h]; exact rfl
  | [x], _, F, ⟨v, vs', G, e, h1, h2⟩ => by rw [e, show vs' = [] from h2]; exact rfl
  | x :: y :: r, _, F, ⟨v, vs', G, e, h1, ⟨v2, vs2, G2, e2, h3, h4⟩⟩ => by
    rw [e, e2]
    have ih := ownL_sub (xs := y :: r) (vs := v2 :: vs2) (F := fun b => F b ∧ ¬ G b) ⟨v2, vs2, G2, rfl, h3, h4⟩
    exact ⟨v, (v2 :: vs2).dropLast, noF, rfl, own0 (fun _ _ z => z) _ _ _ _ h1, ownL0 (fun _ _ z => z) _ _ _ _ ih⟩
theorem pop_run {H0 H H0' H' : Hp} {O O' B : Fp} {σ : L2.St} {ρ : Ev} {i : Nat} {xs ys : List PV} {y : PV} {Q : VK} {v : V} (k : Grow H0 H O H0' H' (O'.or B)) (S : St0 g.K H0' H' O' σ ρ) (T : Tmp H0' H' O' B) (e0 : ρ[i]? = some (some (1, .lst xs))) (e1 : σ[i]? = some (some v))
    (q : PostR g.K H0 H O σ ⟨false, true, 0, y, ρ.set i (some (1, .lst ys))⟩ Q) : ∃ a vs, v = .ref a ∧ H' a = some (.lst vs) ∧ OwnL g.K H0' H' xs 0 vs noF ∧ ∀ ws w, OwnL g.K H0' H' ys 0 ws noF → Own g.K H0' H' y 0 w noF → Q w (upd H' a (.lst ws)) := by
  obtain ⟨v', F, e2, o2, hF, S2, T2⟩ := S.take e0
  rw [e1] at e2
  cases e2
  obtain ⟨a, vs, rfl, ha, hFa, ol⟩ := o2
  refine ⟨a, vs, rfl, ha, ownL0 (fun _ _ z => z) _ _ _ _ ol, fun ws w ol' ow => ?_⟩
  have ol2 : OwnL g.K H0' (upd H' a (.lst ws)) ys 0 ws (fun b => (F.or B) b ∧ b ≠ a) := ownL0 (H := H') (fun _ _ z => z) _ _ _ _ ol'
  obtain ⟨S3, k3⟩ := mut_slot (n' := 1) (x' := .lst ys) (v := .ref a) (o' := .lst ws) S2 T2 hF T e1 hFa ⟨a, _, rfl, upd_same, .inl hFa, ol2⟩
  refine q w H0' _ (O'.or B) noF ?_ (fun z => by cases z) S3 .no (own0 (H := H') (fun _ _ z => z) _ _ _ _ ow)
  have k4 : Grow H0' H' (O'.or B) H0' (upd H' a (.lst ws)) (O'.or B) := ⟨k3.sh, fun b o e n => k3.keep b o e fun z => n (.inl z), k3.dom, fun b z => .inl z, fun b z => .inl z⟩
  exact (k.trans0 k4).mono fun b z => z.elim id False.elim
theorem ev_pop0 {k p2 : _} (hN : Γ.N[i]? = some x) (hv : Vis Γ.sc x) (hd : (x == ("__debug__" : Str)) = false) (hcd : (x == ("__classdict__" : Str)) = false) (hl : (apos.endLine == cpos.line) = true) :
    EV g Γ (.Call (.Attribute (.Name x p) "pop" apos) [.Constant (.int 0) k p2] [] cpos) (ePop0 i) := fun X W Fi => by
  have hc : EV g Γ (.Constant (.int 0) k p2) (eC (.int 0)) := ev_int
  refine PE.imp (pe_bm (t := tCons (tF g W (eC (.int 0))) tNil) PySem.F.plainAttrs_list PySem.F.slot_list_pop PySem.F.type_list_pop mt_popAt (pe_var (i := i) (by rw [Fi.N]; exact hN) (by rw [Fi.sc]; exact hv) hd hcd) (pa_cons (hc X W Fi) pa_nil (star_cons rfl)) (base_ok rfl) ?_ hl (star_cons rfl) rfl) fun σ H Q ⟨H0, O, ρ, S, q⟩ => ?_
  · rw [star_all rfl]
    rfl
  · unfold ePop0 at q
    cases e0 : ρ[i]? with
    | none => rw [e0] at q; exact q.elim
    | some o =>
      cases o with
      | none => rw [e0] at q; exact q.elim
      | some p0 =>
        obtain ⟨n0, y0⟩ := p0
        rw [e0] at q
        cases n0 with
        | zero => exact q.elim
        | succ n0 =>
          cases n0 with
          | succ n0 => exact q.elim
          | zero =>
            cases y0 <;> first | exact q.elim | skip
            rename_i xs0
            cases xs0 with
            | nil => exact q.elim
            | cons y ys =>
              obtain ⟨v, F0, e1, o1⟩ := own_slot S e0
              refine ⟨v, e1, by rw [Fi.K]; exact ty_lst S.sub o1 rfl, H0, O, ρ, S, ?_⟩
              intro w H0' H' O' B k hp S' T ow
              cases (show w = .int 0 from ow)
              obtain ⟨a, vs, rfl, ha, ol, fin⟩ := pop_run k S' T e0 e1 q
              obtain ⟨w2, vs', G, rfl, h1, h2⟩ := ol
              refine ⟨a, w2 :: vs', 0, 0, w2, rfl, rfl, ha, by decide, by decide, seqIndex0 (by simp), rfl, ?_⟩
              exact fin vs' w2 (ownL0 (fun _ _ z => z) _ _ _ _ h2) (own0 (fun _ _ z => z) _ _ _ _ h1)
theorem last_own : ∀ {xs : List PV} {vs : List V} {F : Fp} {y : PV}, OwnL K H0 H xs 0 vs F → xs.getLast? = some y → ∃ w, vs[vs.length - 1]? = some w ∧ Own K H0 H y 0 w noF
  | [], _, _, _, _, e => nomatch e
  | [x], _, F, y, ⟨v, vs', G, e, h1, h2⟩, e2 => by
    rw [e, show vs' = [] from h2]
    cases e2
    exact ⟨v, rfl, own0 (fun _ _ z => z) _ _ _ _ h1⟩
  | x :: x2 :: r, _, F, y, ⟨v, vs', G, e, h1, h2⟩, e2 => by
    obtain ⟨w, k1, k2⟩ := last_own h2 (by rw [← e2, List.getLast?_cons_cons])
    have hl := ownL_len h2
    refine ⟨w, ?_, k2⟩
    rw [e]
    rw [List.length_cons] at hl
    rw [List.length_cons, show vs'.length + 1 - 1 = (vs'.length - 1) + 1 by omega, List.getElem?_cons_succ]
    exact k1
theorem ev_pop (hN : Γ.N[i]? = some x) (hv : Vis Γ.sc x) (hd : (x == ("__debug__" : Str)) = false) (hcd : (x == ("__classdict__" : Str)) = false) (hl : (apos.endLine == cpos.line) = true) :
    EV g Γ (.Call (.Attribute (.Name x p) "pop" apos) [] [] cpos) (ePop i) := fun X W Fi => by
  refine PE.imp (pe_bm0 PySem.F.plainAttrs_list PySem.F.slot_list_pop PySem.F.type_list_pop mt_pop (pe_var (i := i) (by rw [Fi.N]; exact hN) (by rw [Fi.sc]; exact hv) hd hcd) (base_ok rfl) hl) fun σ H Q ⟨H0, O, ρ, S, q⟩ => ?_
  unfold ePop at q
  cases e0 : ρ[i]? with
  | none => rw [e0] at q; exact q.elim
  | some o =>
    cases o with
    | none => rw [e0] at q; exact q.elim
    | some p0 =>
      obtain ⟨n0, y0⟩ := p0
      rw [e0] at q
      cases n0 with
      | zero => exact q.elim
      | succ n0 =>
        cases n0 with
        | succ n0 => exact q.elim
        | zero =>
          cases y0 <;> first | exact q.elim | skip
          rename_i xs0
          simp only [] at q
          cases el : xs0.getLast? with
          | none => rw [el] at q; exact q.elim
          | some y =>
            rw [el] at q
            obtain ⟨v, F0, e1, o1⟩ := own_slot S e0
            refine ⟨v, e1, by rw [Fi.K]; exact ty_lst S.sub o1 rfl, ?_⟩
            obtain ⟨a, vs, rfl, ha, ol, fin⟩ := pop_run (B := noF) (Grow.refl.mono fun a z => z.elim id False.elim) S .no e0 e1 q
            obtain ⟨w2, k1, k2⟩ := last_own ol el
            exact ⟨a, vs, w2, rfl, rfl, ha, k1, fin _ _ (ownL_sub ol) k2⟩
/-! ## list(d) -/
def pListD : PO
  | [(0, .dic kvs)] => some ⟨true, 1, .lst (kvs.map fun p => dkP p.1)⟩
  | _ => none
def addT (H0 H : Hp) (bs : List Addr) : Hp := fun a => if a ∈ bs then H a else H0 a
theorem alloc_add {bs : List Addr} (s : Same H0 H) (ht : ∀ b ∈ bs, ∃ vs, H b = some (.tup vs)) : Alloc H0 H (addT H0 H bs) H noF := by
  have sm : Same H0 (addT H0 H bs) := fun b u z => by
    unfold addT
    by_cases hb : b ∈ bs
    · rw [if_pos hb]; exact s _ _ z
    · rw [if_neg hb]; exact z
  refine ⟨sm, fun _ _ z => z, fun b u z => ?_, fun b z => ?_, fun _ z => z.elim⟩
  · unfold addT at z
    by_cases hb : b ∈ bs
    · rw [if_pos hb] at z; exact z
    · rw [if_neg hb] at z; exact s _ _ z
  · by_cases hb : b ∈ bs
    · exact .inr (.inr (ht b hb))
    · unfold addT at z
      rw [if_neg hb] at z
      exact .inl z
theorem ownL_keysK : ∀ (kv : List (Key × V)) {F : Fp}, OwnL K H0 H ((kv.map fun p => (DK.k p.1, p.2)).map fun p => dkP p.1) 0 (kv.map fun p => kV p.1) F
  | [], _ => rfl
  | p :: r, _ => ⟨kV p.1, r.map fun p => kV p.1, noF, rfl, own_keyP p.1, ownL_keysK r⟩
theorem ownL_keysT : ∀ {kv : List (List Key × V)} {bs : List Addr} {cs : List Addr} {F : Fp}, IsKeys H kv bs → (∀ b ∈ bs, b ∈ cs) → OwnL K (addT H0 H cs) H ((kv.map fun p => (DK.t p.1, p.2)).map fun p => dkP p.1) 0 (bs.map V.ref) F
  | [], _, cs, F, .nil, _ => rfl
  | p :: r, b :: bs, cs, F, .cons h t, hc => by
    refine ⟨.ref b, bs.map V.ref, noF, rfl, ⟨b, p.1.map kV, rfl, ?_, ownL_keyP p.1⟩, ownL_keysT t fun c z => hc c (List.mem_cons_of_mem _ z)⟩
    unfold addT
    rw [if_pos (hc b List.mem_cons_self)]
    exact h
theorem keys_tup : ∀ {kv : List (List Key × V)} {bs : List Addr}, IsKeys H kv bs → ∀ b ∈ bs, ∃ vs, H b = some (.tup vs)
  | [], _, .nil, b, hb => nomatch hb
  | _ :: _, _, .cons h t, b, hb => by
    rcases List.mem_cons.mp hb with rfl | hb
    · exact ⟨_, h⟩
    · exact keys_tup t b hb
theorem rok_listD : ROk K (fun xs H Q => (∃ (a : Addr) (kvs : List (Key × V)), xs = [.ref a] ∧ Rd H a (.dK kvs) ∧ ∀ p, H p = none → Q (.ref p) (upd H p (.lst (kvs.map fun kv => kV kv.1)))) ∨
    (∃ d kvs, xs = [V.ref d] ∧ Rd H d (.dT kvs) ∧ ∀ p bs, H p = none → IsKeys H kvs bs → Q (.ref p) (upd H p (.lst (bs.map V.ref))))) pListD := by
  intro H0 H ps vs o Q s w e G
  unfold pListD at e
  split at e
  · rename_i kvs
    obtain ⟨v, F, rfl, h1⟩ := views1 w
    obtain ⟨d, o1, u, l, rfl, g1, g2, g3⟩ := h1
    have ek := ownD_keys g3
    rw [ek] at e
    cases e
    cases g2 with
    | k kv => exact .inl ⟨d, kv, rfl, .inr ⟨o1, s _ _ g1⟩, fun p hp => gives_lst (F := noF) G s (ownL_keysK kv) p hp⟩
    | t kv =>
      refine .inr ⟨d, kv, rfl, .inr ⟨o1, s _ _ g1⟩, fun p bs hp hk => ?_⟩
      have A1 := alloc_add s (keys_tup hk)
      have A2 := alloc_own (o := .lst (bs.map V.ref)) A1.sub hp
      refine G (.ref p) _ _ (fun a => a = p) ⟨L2.Same.trans A1.sh A2.sh, A2.sm, A2.sub, fun a z => ?_, fun a z => ?_⟩ ?_
      · rcases A2.nsh a z with z | z
        · exact A1.nsh a z
        · exact .inr z
      · exact A2.bf a z
      · show Own K _ _ (.lst _) 1 _ _
        refine ⟨p, _, rfl, upd_same, rfl, ?_⟩
        exact ownL0 A2.sh _ _ _ _ (ownL_keysT (F := noF) (cs := bs) hk fun b z => z)
  · cases e
theorem ev_listD (hs : noStars (e :: es) = true) (ha : AV g Γ (e :: es) af) (hh : Γ.hot = false) (hg : IsGl Γ "list") (hm : g.mg "list" = none) : EV g Γ (.Call (.Name "list" p) (e :: es) [] pos) (eOp pListD af) :=
  ev_callTy rok_listD (fun X W F => CallR.or (call_listD (F.calm hh)) (call_list_dT (F.calm hh))) hg hm (by decide +kernel) (by decide) hs ha
end
end Pv

set_option maxRecDepth 100000
set_option maxHeartbeats 1000000
namespace Pv
open PySem PySem.Spec PyProof.Rows L2
/-! ## calls within an except suite, whatever the handled exception's context is -/
structure FnQ (P : Program) (w : World) (K : PySem.W.Frag) (mg : Str → Option Value) (base : Heap) (CX : CXT) (k : Nat) (f : Addr) (fd : FuncData) (ps : List Str) (sp : Sp) : Prop where
  len : ∀ vs H Q E, sp vs H Q E → vs.length = ps.length
  run : ∀ (A : Around) (outer : List Env) (s : Shared) (H : Hp) (args : Args) (us : List Value) (vs : List V) (Q : VK) (E : XK) (p : Addr × Obj), L2H.RoomH k A → L2H.PinOk outer H s p → Env0 P w K mg base A outer s H → BindsTo s fd args (ps.zip us) → Vals vs us → sp vs H Q E →
    codeAny (model P w) A (.call (.ref f) args) (CR CX outer P w H s Q E) s
theorem fn_ofQ {CX : CXT} {P : Program} {w : World} {K : PySem.W.Frag} {mg : Str → Option Value} {base : Heap} {k : Nat} {f : Addr} {name qual : Str} {params : Arguments} {body : List Stmt} {scope : Scope} {dV kV doc pm cdv ct oc : Value} {an od : Option Addr}
    {osl : Array (Option Value)} {N ps : List Str} {sp : Sp} (lk : K.lookup f = some ⟨oc, od, .func (PySem.W.fnOf name qual params body scope dV kV doc pm an cdv ct), osl⟩) (hcd : PySem.W.codeIn K cdv qual = true) (S : FnScope N ps scope)
    (len : ∀ vs H Q E, sp vs H Q E → vs.length = ps.length)
    (hbody : ∀ (A : Around) (outer : List Env) (s : Shared) (H : Hp) (vs : List V) (Q : VK) (E : XK) (p : Addr × Obj), L2H.RoomH k (A.deeper (envOfC qual scope s.heap.objs.size f cdv)) → sp vs H Q E →
      ∃ t, PSs (L2H.cxH CX P w K mg base N qual scope f cdv A outer s H E p) body t ∧ t { nx := fun _ H' => Q .non H', rt := Q } (L2.start N vs) H) :
    FnQ P w K mg base CX (k + 1) f (PySem.W.fnOf name qual params body scope dV kV doc pm an cdv ct) ps sp := by
  refine ⟨len, fun A outer s H args us vs Q E p hr hpin e0 hb r hsp => ?_⟩
  have hl := len _ _ _ _ hsp
  have KX : K.In s.heap := e0.mod.kin.keeps fun b o e => (e0.bs b o e).1
  have lim : s.heap.NoLimit := e0.mod.nolimit.keeps fun b o e => (e0.bs b o e).1
  have hkind : ∀ y ∈ ps.zip us, scope.names.lookup y.1 = some .local ∨ (scope.names.lookup y.1 = some .cell ∧ ((cellsFrom (s.heap.objs.size + 1) scope.names []).lookup y.1).isSome = true) := fun ⟨n, v⟩ hy => by
    rcases S.par n (List.of_mem_zip hy).1 with q | q
    · exact .inl q
    · exact .inr ⟨q, PySem.W.cellsFrom_some _ _ _ (.inl q)⟩
  refine codeAny_call_function hr.depth (KX _ _ lk) rfl S.co S.gen rfl (PySem.W.codeRec_of KX hcd) (hb _ _ _ _ ?_)
  refine wpAny_newFunctionEnv_cells S.kind hkind fun env he s1 x => ?_
  subst he
  refine ⟨lim.keeps x.toInCall.keep, codeAny_func ?_⟩
  obtain ⟨t, ht, hq⟩ := hbody A outer s H vs Q E p (hr.deeper _) hsp
  have I : Inv (L2H.cxH CX P w K mg base N qual scope f cdv A outer s H E p) [] (L2.start N vs) H s1 := L2H.inv_startH S hpin e0 hl r x
  refine wpAny_mono (ht.run [] s1 (L2.start N vs) H _ I hq) (fun fl s' hs => ?_) fun e s' hs => hs
  have fin : ∀ {σ' : L2.St} {H' : Hp} {v : V} {u : Value}, Inv (L2H.cxH CX P w K mg base N qual scope f cdv A outer s H E p) [] σ' H' s' → RelV v u → Q v H' → CE outer P w H s Q u s' :=
    fun {σ' H' v u} J rv q => ⟨v, H', J.os, J.bare, J.base, J.hok, rv, q⟩
  cases fl with
  | ret u =>
    obtain ⟨v, σ', H', J, rv, q⟩ := hs
    exact fin J rv q
  | next =>
    obtain ⟨σ', H', J, q⟩ := hs
    exact fin (v := V.non) (u := Value.none) J rfl q
  | brk =>
    obtain ⟨_, _, _, q⟩ := hs
    exact False.elim q
  | cont =>
    obtain ⟨_, _, _, q⟩ := hs
    exact False.elim q
section
variable {X : Cx} {CX : CXT} {k : Nat} {f C : Addr} {fd : FuncData} {ps : List Str} {sp : Sp} {E : L2.St → XK} {x m : Str} {q pos apos : Pos} {e o : Expr} {es : List Expr} {ta : TE} {t : TA}
theorem run_fnQ {pins : List (Addr × Obj)} {σ : L2.St} {H : Hp} {s : Shared} {Q : VK} {us : List Value} {vs : List V} (F : FnQ X.prog X.w X.K X.mg X.base CX k f fd ps sp) (hr : L2H.RoomH k X.A) (hc : ∃ p, p ∈ X.pn) (hb : Binds X.K fd ps []) (hx : PassesAt CX X σ (E σ))
    (I : Inv X pins σ H s) (r : Vals vs us) (h : sp vs H Q (E σ)) : wpAny (model X.prog X.w) X.A (call (.ref f) us) (EP X pins σ Q) X.xe s := by
  obtain ⟨p, hp⟩ := hc
  have hl : us.length = ps.length := by rw [← r.length]; exact F.len _ _ _ _ h
  have b := hb s us I.kIn (by rw [List.append_nil]; exact hl)
  rw [List.append_nil] at b
  have P1 := I.pin p (List.mem_append_left _ hp)
  have hpin : L2H.PinOk X.stack H s p := ⟨P1.1, P1.2.1, fun hm => (List.mem_cons.mp (I.stkSub p.1 hm)).elim P1.2.2.1 P1.2.2.2.1, P1.2.2.2.2⟩
  refine wpAny_call (codeAny_mono (F.run X.A X.stack s H ⟨us, []⟩ us vs Q (E σ) p hr hpin I.env0 b r h) fun r s' hq => ?_)
  cases r with
  | error e => exact hx pins H s e s' I hq
  | ok fl =>
    cases fl with
    | ret u => exact I.after hq
    | next => exact False.elim hq
    | brk => exact False.elim hq
    | cont => exact False.elim hq
theorem pe_callQ (F : FnQ X.prog X.w X.K X.mg X.base CX k f fd ps sp) (hr : L2H.RoomH k X.A) (hc : ∃ p, p ∈ X.pn) (hg : Gl X x) (hm : X.mg x = some (.ref f)) (hk : PySem.W.keepIn X.K (.ref f) = true) (hb : Binds X.K fd ps []) (hx : ∀ σ, PassesAt CX X σ (E σ))
    (ha : PA X (e :: es) t) (hdb : (x == ("__debug__" : Str)) = false) (he : starEach (e :: es) X.env = (false, eval e X.env) :: starEach es X.env) (hpl : (backTo pos (starEach es X.env)).any (·.1) = false) :
    PE X (.Call (.Name x q) (e :: es) [] pos) (tCallS sp E t) := by
  refine ⟨fun pins s σ H Q I h => ?_⟩
  refine wpAny_Call_Name_kw (ld_glob I hg hm ?_ hdb)
  refine PySem.W.callWith_K (h₀ := X.base) I.ok.mod.kin hk (thn (ha.run pos pins s σ H _ I h) fun us s1 ⟨vs, H1, I1, r, q⟩ => ⟨I1.kIn, ?_⟩) he hpl
  exact run_fnQ F hr hc hb (hx σ) I1 r q
end
/-! ## the def's rule -/
section
variable {g : Prg} {Γ : Sx} {K : PySem.W.Frag} {H0 H : Hp} {O : Fp} {σ : L2.St} {X : Cx}
theorem fits_defQ {qual : Str} {N : List Str} {sc : Scope} {f : Addr} {cdv : Value} {A : Around} {outer : List Env} {s : Shared} {E : XK} {k : Nat} {ms : List Nat} {p : Addr × Obj} (hr : L2H.RoomH k (A.deeper (envOfC qual sc s.heap.objs.size f cdv))) (nd : N.Nodup) :
    Fits g ⟨N, sc, k, pnOf ms, true, false, none⟩ (L2H.cxH (L2.CX g.P g.w) g.P g.w g.K g.mg g.base N qual sc f cdv A outer s H E p) (fun cls d _ H => E cls d H) where
  xc := fun _ _ _ z => by cases z
  prog := rfl
  w := rfl
  K := rfl
  mg := rfl
  base := rfl
  N := rfl
  sc := rfl
  takes := takes_of rfl rfl rfl rfl
  un := by have := hr.un; show (A.deeper _).units + 100 < cLine; omega
  room := fun z => by cases z
  calm := fun z => by cases z
  hotc := fun _ => ⟨⟨p, List.mem_cons_self⟩, hr.dp, hr.un⟩
  nd := nd
  pas := passes_of rfl
  fn := fun _ _ => rfl
  stk := fun _ => ⟨rfl, rfl, rfl⟩
/-- THE RULE for a def -/
theorem fn_okQ {x qual : Str} {params : Arguments} {bd : List Stmt} {scope : Scope} {dvs : List V} {kws : List (Str × V)} {f : Addr} {fd : FuncData} {N ps : List Str} {k : Nat} {ms : List Nat} {body : SF} (Fn : FunD g.K x qual params bd scope dvs kws f fd) (S : FnScope N ps scope) (hm : ms.length = ps.length)
    (hb : SVs g ⟨N, scope, k, pnOf ms, true, false, none⟩ bd body) : FnQ g.P g.w g.K g.mg g.base (L2.CX g.P g.w) (k + 1) f fd ps (spF g ms (fnF ms N.length body)) := by
  obtain ⟨oc, od, dV, kV, doc, pm, an, cdv, ct, osl, rfl, lk, hcd, _, _⟩ := Fn.ex
  refine fn_ofQ lk hcd S (fun vs H Q E ⟨H0, O, pvs, h1, h2, _⟩ => by rw [h1, hm]) fun A outer s H vs Q E p hr ⟨H0, O, pvs, hv, hp, S0, q⟩ => ?_
  refine ⟨_, hb _ _ (fits_defQ (E := E) hr S.nd), H0, O, _, S0.begin hv hp, ?_⟩
  unfold fnF at q
  rw [if_pos hp] at q
  cases e : body (argsE ms pvs ++ List.replicate (N.length - ms.length) none) with
  | nx ρ' =>
    rw [e] at q
    simp only [] at q
    intro σ' H0' H' O' k2 S2 P2
    cases eo : outsOf ms pvs ρ' with
    | none => rw [eo] at q; exact q.elim
    | some outs =>
      rw [eo] at q
      exact q.2 .non H0' H' O' noF (k2.mono fun a z => z.elim id False.elim) (S0.fin hv hp k2.sh S2 P2 eo) .no rfl
  | rt lv y ρ' =>
    rw [e] at q
    simp only [] at q
    intro v σ' H0' H' O' B k2 S2 T2 w P2
    cases eo : outsOf ms pvs ρ' with
    | none => rw [eo] at q; exact q.elim
    | some outs =>
      rw [eo] at q
      exact q.2 v H0' H' O' B k2 (S0.fin hv hp k2.sh S2 P2 eo) T2 w
  | exc c fs ρ' =>
    rw [e] at q
    simp only [] at q
    intro σ' H0' H' O' d k2 S2 ex P2
    cases eo : outsOf ms pvs ρ' with
    | none => rw [eo] at q; exact q.elim
    | some outs =>
      rw [eo] at q
      exact q.2 H0' H' O' d k2 (S0.fin hv hp k2.sh S2 P2 eo) ex
  | bk ρ' => rw [e] at q; exact q.elim
  | ct ρ' => rw [e] at q; exact q.elim
  | bad => rw [e] at q; exact q.elim

structure CalleeQ (g : Prg) (x : Str) (ms : List Nat) (f : FF) (k : Nat) : Prop where
  db : (x == ("__debug__" : Str)) = false
  ex : ∃ (a : Addr) (fd : FuncData) (ps : List Str), g.mg x = some (.ref a) ∧ PySem.W.keepIn g.K (.ref a) = true ∧ Binds g.K fd ps [] ∧ FnQ g.P g.w g.K g.mg g.base (L2.CX g.P g.w) k a fd ps (spF g ms f)
theorem ev_callQ {x : Str} {p pos : Pos} {e : Expr} {es : List Expr} {ms : List Nat} {sl : List (Option Nat)} {f : FF} {af : AF} {k : Nat} (C : CalleeQ g x ms f k) (hg : IsGl Γ x) (hk : k ≤ Γ.lv) (hh : Γ.hot = true) (ha : AM g Γ (e :: es) sl af) (hs : noStars (e :: es) = true) :
    EV g Γ (.Call (.Name x p) (e :: es) [] pos) (eCall ms sl f af) := fun X W F => by
  obtain ⟨a, fd, ps, hm, kp, b, fn⟩ := C.ex
  have fn' : FnQ X.prog X.w X.K X.mg X.base (L2.CX X.prog X.w) k a fd ps (spF g ms f) := by
    rw [F.prog, F.w, F.K, F.mg, F.base]; exact fn
  obtain ⟨hp, h1, h2⟩ := F.hotc hh
  refine PE.imp (pe_callQ (E := WE W) fn' ⟨by omega, by omega⟩ hp (IsGl.of F hg) (by rw [F.mg]; exact hm) (by rw [F.K]; exact kp) (by rw [F.K]; exact b) (fun σ => passAt F.takes σ) (ha X W F) C.db (star_cons (noStars_all hs _ List.mem_cons_self)) (star_any fun y hy => noStars_all hs _ (List.mem_cons_of_mem _ hy))) fun σ H Q q => ?_
  exact call_run q
end
end Pv

set_option maxRecDepth 100000
set_option maxHeartbeats 1000000
namespace Pv
open PySem PySem.Spec PyProof.Rows L2
def sBad : SF := fun _ => .bad
theorem sv_bad {g : Prg} {Γ : Sx} {l : List Stmt} : SVs g Γ l sBad := fun X W F => ⟨fun pins s σ H D I h => by
  obtain ⟨H0, O, ρ, S, q⟩ := h
  exact q.elim⟩
noncomputable def B_sameQ : SF := (sSeq (sIf (tOf (eIsi "tuple" (eVar 1))) sBad sNil) (sSeq (sIf (tOf (eIsi "list" (eVar 1))) sBad sNil) (sSeq (sIf (tOf (eOp (pIsN false) (aCons (eVar 1) (aCons (eC .non) aNil)))) (sRet (eOp (pIsN false) (aCons (eVar 0) (aCons (eC .non) aNil)))) sNil) (sSeq (sIf (tOf (eIsi "bool" (eVar 1))) (sRet (eSeqF true (eIsi "bool" (eVar 0)) (eOp pEq (aCons (eVar 0) (aCons (eVar 1) aNil))))) sNil) (sSeq (sIf (tOf (eIsi "int" (eVar 1))) (sRet (eSeqF true (eIsi "int" (eVar 0)) (eSeqF true (eNotF (tOf (eIsi "bool" (eVar 0)))) (eOp pEq (aCons (eVar 0) (aCons (eVar 1) aNil)))))) sNil) (sRet (eSeqF true (eIsi "str" (eVar 0)) (eOp pEq (aCons (eVar 0) (aCons (eVar 1) aNil))))))))))
noncomputable def F_sameQ : FF := fnF [0, 0] 3 B_sameQ
def OkdQ : PV → Prop
  | .non => True
  | .bl _ => True
  | .int _ => True
  | .str _ => True
  | _ => False
theorem sameQ_ok (d : PV) (h : OkdQ d) : F_sameQ [d, d] = .ok 0 (.bl true) [d, d] := by
  cases d with
  | non => unfold F_sameQ fnF B_sameQ; simp [argsE, PV.tyName, kit_nt, kit_nl]
  | bl b => unfold F_sameQ fnF B_sameQ; simp [argsE, PV.tyName, kit_bt, kit_bl, kit_bb]
  | int b => unfold F_sameQ fnF B_sameQ; simp [argsE, PV.tyName, kit_it, kit_il, kit_ib, kit_ii]
  | str b => unfold F_sameQ fnF B_sameQ; simp [argsE, PV.tyName, kit_st, kit_sl, kit_sb, kit_si, kit_ss]
  | _ => exact h.elim
end Pv

set_option maxRecDepth 100000
set_option maxHeartbeats 1000000
namespace Pv
open PySem PySem.Spec PyProof.Rows L2
def CombOk (a b : Int) : Prop := 0 ≤ a ∧ 0 ≤ b ∧ a ≤ 18000
instance (a b : Int) : Decidable (CombOk a b) := by unfold CombOk; infer_instance
def icomb (a b : Int) : Int := PySem.W.mcComb a b
noncomputable def pComb : PO
  | [(_, .int a), (_, .int b)] => if CombOk a b then sc (.int (icomb a b)) else none
  | _ => none
def rComb : List V → Hp → VK → Prop := fun vs H Q => ∃ a b : Int, vs = [.int a, .int b] ∧ CombOk a b ∧ Q (.int (icomb a b)) H
theorem cr_comb {X : Cx} : CallR X (.builtin "math.comb") rComb := by
  intro pins s σ H vs us Q I r h
  obtain ⟨a, b, rfl, ok, q⟩ := h
  obtain ⟨t, u, rfl⟩ := Vals.int2 r
  exact PySem.W.mc_comb_v ok.1 ok.2.1 (by have := ok.2.2; omega) (.inr ok.2.2) rfl ⟨.int _, H, I.tok _, ⟨_, rfl⟩, q⟩
section
variable {g : Prg} {Γ : Sx} {K : PySem.W.Frag} {e : Expr} {es : List Expr} {af : AF} {x : Str} {p pos : Pos}
theorem rok_comb : ROk K rComb pComb := by
  intro H0 H ps vs o Q s w e G
  unfold pComb at e
  split at e
  · obtain ⟨v, u, F, F', rfl, h1, h2⟩ := views2 w
    cases (show v = _ from h1); cases (show u = _ from h2)
    split at e
    · rename_i ok
      exact ⟨_, _, rfl, ok, sc_gives e G s rfl⟩
    · cases e
  · cases e
theorem ev_comb (hs : noStars (e :: es) = true) (ha : AV g Γ (e :: es) af) (hg : IsGl Γ "comb") (hm : g.mg "comb" = some (.builtin "math.comb")) : EV g Γ (.Call (.Name "comb" p) (e :: es) [] pos) (eOp pComb af) :=
  ev_callM rok_comb (fun _ _ _ => cr_comb) hg hm hs ha
end
end Pv

set_option maxRecDepth 100000
set_option maxHeartbeats 1000000
namespace Pv
open PySem PySem.Spec PyProof.Rows L2
section
variable {g : Prg} {Γ : Sx} {K : PySem.W.Frag} {af : AF} {pos : Pos}
def visB (sc : Scope) (x : Str) : Bool := match sc.names.lookup x with
  | some .local => true
  | some .cell => true
  | some .free => true
  | _ => false
theorem vis_of {sc : Scope} {x : Str} (h : visB sc x = true) : Vis sc x := by
  unfold visB at h
  unfold Vis
  split at h
  · exact .inl ‹_›
  · exact .inr (.inl ‹_›)
  · exact .inr (.inr ‹_›)
  · cases h
theorem sv_par {i j : Nat} {x y : Str} {a b : Expr} {kt k2} {px py pt pt2 : Pos} (hh : Γ.hot = false) (hi : Γ.N[i]? = some x) (hj : Γ.N[j]? = some y) (hij : i ≠ j) (hx : Γ.sc.names.lookup x = some .local) (hy : Γ.sc.names.lookup y = some .local) (hpi : i ∉ Γ.pn) (hpj : j ∉ Γ.pn)
    (hn : noComp (.Tuple [a, b] k2 pt2) = true) (hw : ∀ env : Env, env.scope = Γ.sc → swappedStores [.Tuple [.Name x px, .Name y py] kt pt] (.Tuple [a, b] k2 pt2) env = pure (some [x, y])) (ha : AV g Γ [a, b] af) :
    SV g Γ (.Assign [.Tuple [.Name x px, .Name y py] kt pt] (.Tuple [a, b] k2 pt2) pos) (sTgt (bTup [i, j]) (eOp pTup af)) := fun X W F => by
  refine ⟨fun pins s σ H D I ⟨H0, O, ρ, S, q⟩ => (ps_par (F.calm hh) F.nd (by rw [F.N]; exact hi) (by rw [F.N]; exact hj) hij (by rw [F.sc]; exact hx) (by rw [F.sc]; exact hy) (ha X W F) (hw _ F.sc) (by unfold swapsWithSole; exact swaps_no hn)).run pins s σ H D I ⟨H0, O, ρ, S, ?_⟩⟩
  have li : i < σ.length := len_of I (by rw [F.N]; exact hi)
  have lj : j < σ.length := len_of I (by rw [F.N]; exact hj)
  unfold sTgt eOp at q
  cases e : af ρ with
  | bad => rw [e] at q; exact q.elim
  | exc c fs ρ' => rw [e] at q; exact sx_of q
  | ok a =>
    rw [e] at q
    simp only [Res.bind] at q
    intro vs H0' H' O' k hp S' vw
    unfold pTup at q
    by_cases hc : a.vs.all shOk = true ∧ a.vs.length ≤ sizeLine
    case neg => rw [if_neg hc] at q; exact q.elim
    rw [if_pos hc] at q
    simp only [sc, ofE, true_or, ↓reduceIte] at q
    obtain ⟨pu, avs, aρ⟩ := a
    match avs, vw, hc, q with
    | [p1, p2], vw, hc, q =>
      obtain ⟨v, w, G1, G2, rfl, o1, o2⟩ := views2 vw
      have h1 : shOk p1 = true ∧ shOk p2 = true := by simpa using hc.1
      have o1' : Own g.K H0' H' p1.2 0 v noF := own_imm o1 (by have := h1.1; unfold shOk at this; simpa using this) fun _ _ z => z
      have o2' : Own g.K H0' H' p2.2 0 w noF := own_imm o2 (by have := h1.2; unfold shOk at this; simpa using this) fun _ _ z => z
      refine ⟨v, w, rfl, ?_⟩
      have S1 := S'.set0 o1' li
      have S2 := S1.set0 o2' (by rw [List.length_set]; exact lj)
      exact q _ H0' H' O' k S2 (pin_set2 hpj (pin_set2 hpi .refl))
    | [], vw, hc, q => exact q.elim
    | [p1], vw, hc, q => exact q.elim
    | p1 :: p2 :: p3 :: ps, vw, hc, q => exact q.elim
def bltB (x : Str) (id : String) (K : PySem.W.Frag) : Bool := He.eqO (PySem.W.nsIn K mainGlobals x) (some (some (.builtin id)))
end
end Pv

set_option maxRecDepth 100000
set_option maxHeartbeats 1000000
namespace Pv
open PySem PySem.Calls PyProof.Rows PyProof.V PySem.Spec L2
/-! ## dict == dict where the keys are objects -/
section
variable {prog : Program} {w : World} {K : Type} [DecidableEq K] {knd : HeapKind prog w K} {A : Around} {E : Value → Shared → Prop} {s : Shared}
inductive HitsH {K : Type} (A : Around) (s : Shared) (xb : List (K × Addr × Value)) : List (K × Addr × Value) → Bool → Prop
  | nil : HitsH A s xb [] true
  | miss {k : K} {p : Addr × Value} {r : List (K × Addr × Value)} : (∀ (j : Nat) (q : Addr × Value), xb[j]? ≠ some (k, q)) → HitsH A s xb ((k, p) :: r) false
  | hit {k : K} {p q : Addr × Value} {r : List (K × Addr × Value)} {e b : Bool} : (∃ j : Nat, xb[j]? = some (k, q)) → SeqAt.EqAt A s p.2 q.2 e → HitsH A s xb r b → HitsH A s xb ((k, p) :: r) (e && b)
theorem HitsH.inv {xb : List (K × Addr × Value)} {k : K} {p : Addr × Value} {r : List (K × Addr × Value)} {b : Bool} (h : HitsH A s xb ((k, p) :: r) b) :
    ((∀ (j : Nat) (q : Addr × Value), xb[j]? ≠ some (k, q)) ∧ b = false) ∨ ∃ q e b', (∃ j : Nat, xb[j]? = some (k, q)) ∧ SeqAt.EqAt A s p.2 q.2 e ∧ HitsH A s xb r b' ∧ b = (e && b') := by
  cases h with
  | miss hn => exact .inl ⟨hn, rfl⟩
  | hit hy he hr => exact .inr ⟨_, _, _, hy, he, hr, rfl⟩
theorem key_one {xs : List (K × Addr × Value)} (nd : (xs.map (·.1)).Nodup) {i j : Nat} {k : K} {p q : Addr × Value} (h1 : xs[i]? = some (k, p)) (h2 : xs[j]? = some (k, q)) : i = j := by
  have e1 : (xs.map (·.1))[i]? = some k := by rw [List.getElem?_map, h1]; rfl
  have e2 : (xs.map (·.1))[j]? = some k := by rw [List.getElem?_map, h2]; rfl
  exact (List.getElem?_inj (List.getElem?_eq_some_iff.mp e1).1 nd).mp (e1.trans e2.symm)
theorem keqH_samePairs {nm : String} {a b : Addr} {xa xb : List (K × Addr × Value)} {r : Bool} {Q : Bool → Shared → Prop} (hu : knd.room A) (ha : (a == sysModules) = false) (hb : (b == sysModules) = false)
    (da : s.heap.DictOfH knd a xa) (db : s.heap.DictOfH knd b xb) (hits : xa.length = xb.length → HitsH A s xb xa r) (h : Q (xa.length == xb.length && r) s) :
    wpAny (model prog w) A (Builtin.Dict.samePairs nm a b) Q E s := by
  obtain ⟨oa, es, ep, hoa, _, hda, hea, hia, hna⟩ := da
  obtain ⟨ob, es', ep', hob, _, hdb, heb, hib, hnb⟩ := db
  have hla : xa.length = es.size := (size_of_entries hea).symm
  have hlb : xb.length = es'.size := (size_of_entries heb).symm
  rw [hla, hlb] at h
  unfold Builtin.Dict.samePairs Builtin.Dict.showsAll
  rw [if_neg (show ¬ (a == sysModules) = true by rw [ha]; exact Bool.false_ne_true), if_neg (show ¬ (b == sysModules) = true by rw [hb]; exact Bool.false_ne_true)]
  refine wpAny_bind (wpAny_pure (wpAny_bind (wpAny_pure ?_)))
  refine wpAny_bind (wpAny_dictEntries hoa hda ?_)
  dsimp only
  refine wpAny_bind (wpAny_dictEntries hob hdb ?_)
  by_cases hsz : es.size = es'.size
  case neg =>
    rw [if_pos (by simpa using hsz)]
    have hbf : (es.size == es'.size) = false := by simpa using hsz
    rw [hbf, Bool.false_and] at h
    exact wpAny_bind (wpAny_rule (wpAny_pure h))
  case pos =>
    have h' : Q r s := by simpa [hsz] using h
    have hits' := hits (by rw [hla, hlb]; exact hsz)
    rw [if_neg (by rw [hsz]; simp)]
    refine wpAny_bind (wpAny_dictEpoch hoa hda ?_)
    refine wpAny_bind ?_
    rw [Std.Legacy.Range.forIn_eq_forIn_range']
    simp only [Std.Legacy.Range.size, Nat.sub_zero, Nat.add_sub_cancel, Nat.div_one]
    refine wpAny_forIn_list _
      (fun rest q s' => s' = s ∧ q = (none, ()) ∧ ∃ i, rest = List.range' i (es.size - i) ∧ i ≤ es.size ∧ HitsH A s xb (xa.drop i) r)
      _ ?_ ?_ _ _ ⟨rfl, rfl, 0, by simp, Nat.zero_le _, hits'⟩
    · rintro x rest q s' ⟨rfl, rfl, i, hr, hi, hpre⟩
      have hlt : i < es.size := by
        rcases Nat.lt_or_ge i es.size with h | h
        · exact h
        · rw [Nat.sub_eq_zero_of_le h] at hr; simp at hr
      obtain ⟨rfl, hrest⟩ : x = i ∧ rest = List.range' (i + 1) (es.size - (i + 1)) := by
        have e : es.size - i = (es.size - (i + 1)) + 1 := by omega
        rw [e, List.range'_succ] at hr
        injection hr with h1 h2
        exact ⟨h1, h2⟩
      refine wpAny_bind (wpAny_dictEntries hoa hda ?_)
      rw [Array.getElem?_eq_getElem hlt]
      have hlt' : x < xa.length := by rw [hla]; exact hlt
      obtain ⟨k, p, hkv⟩ : ∃ k p, xa[x] = (k, p) := ⟨_, _, rfl⟩
      have hdrop : xa.drop x = (k, p) :: xa.drop (x + 1) := by rw [← hkv]; exact List.drop_eq_getElem_cons hlt'
      have ee : es[x] = entryOfKey knd (k, p) := by
        have := entry_at hea x
        rw [Array.getElem?_eq_getElem hlt, List.getElem?_eq_getElem hlt', hkv] at this
        exact Option.some.inj this
      rw [hdrop] at hpre
      rw [ee]
      have hk : knd.is s'.heap k p.1 := hia (k, p) (by rw [← hkv]; exact List.getElem_mem hlt')
      show wpAny _ _ (holding [Value.ref p.1, p.2] _ >>= _) _ _ _
      refine wpAny_bind (wpAny_holding (wpAny_bind (wpAny_dictFind_heap (knd := knd) hu hk hob hdb heb hib hnb (fun hn => ?_) fun j q hj => ?_)))
      · rcases hpre.inv with ⟨_, er⟩ | ⟨q, _, _, ⟨j, hq⟩, _⟩
        · rw [er] at h'
          refine wpAny_pure ?_
          show wpAny _ _ (if (!false) = true then _ else _) _ _ _
          rw [if_pos (by decide)]
          exact wpAny_pure (wpAny_pure h')
        · exact absurd hq (hn j q)
      · refine wpAny_bind (wpAny_dictEntries hob hdb ?_)
        rw [entry_at heb j, hj]
        rcases hpre.inv with ⟨hn, _⟩ | ⟨q', e, b', ⟨j', hq'⟩, he, hrr, er⟩
        · exact absurd hj (hn j q)
        · have ej := key_one hnb hj hq'
          subst ej
          rw [hj] at hq'
          cases hq'
          refine wpAny_holding (he prog w _ _ ?_)
          cases e with
          | false =>
            rw [er, Bool.false_and] at h'
            show wpAny _ _ (if (!false) = true then _ else _) _ _ _
            rw [if_pos (by decide)]
            exact wpAny_pure (wpAny_pure h')
          | true =>
            rw [Bool.true_and] at er
            rw [← er] at hrr
            show wpAny _ _ (if (!true) = true then _ else _) _ _ _
            rw [if_neg (by decide)]
            refine wpAny_bind (wpAny_dictEpoch hoa hda ?_)
            rw [if_neg (by simp)]
            exact wpAny_pure ⟨rfl, rfl, x + 1, hrest, hlt, hrr⟩
    · rintro q s' ⟨rfl, rfl, i, hr, hi, hpre⟩
      have hin : i = es.size := by
        rcases Nat.lt_or_ge i es.size with h | h
        · have e : es.size - i = (es.size - (i + 1)) + 1 := by omega
          rw [e, List.range'_succ] at hr; exact nomatch hr
        · exact Nat.le_antisymm hi h
      refine wpAny_pure ?_
      rw [hin, ← hla, List.drop_length] at hpre
      cases hpre
      exact h'
theorem keqH_eq {a b : Addr} {xa xb : List (K × Addr × Value)} {r : Bool} {Q : Value → Shared → Prop} (hr : knd.room A.in1) (ha : (a == sysModules) = false) (hb : (b == sysModules) = false)
    (da : s.heap.DictOfH knd a xa) (db : s.heap.DictOfH knd b xb) (hu : A.units < cLine) (hits : xa.length = xb.length → HitsH A.in1 s xb xa r) (h : Q (.bool (xa.length == xb.length && r)) s) :
    wpAny (model prog w) A (compareOp .Eq (.ref a) (.ref b)) Q E s := by
  refine wpAny_richCompare_same_room (op := .Eq) da.typeIs db.typeIs PySem.F.slot_dict_eq (wpAny_call_entry PySem.F.slot_dict_eq da.typeIs PySem.F.entry_dict_eq ?_ (PySem.F.args_dict_eq_2 _ _)) hu
  show wpAny _ _ (Builtin.Dict.dictSlotArgs "__eq__" ⟨[.ref a, .ref b], []⟩ >>= _) _ _ s
  refine wpAny_bind ?_
  unfold Builtin.Dict.dictSlotArgs
  refine wpAny_bind (wpAny_notOrdered_dict da.typeIs ?_)
  show wpAny _ _ (pure (Value.ref a, Value.ref b)) _ _ s
  refine wpAny_pure ?_
  refine wpAny_bind (wpAny_isInstance (T := "dict") db.typeIs PySem.F.sub_dict_dict ?_)
  simp only [Bool.not_true, Bool.false_eq_true, if_false]
  refine wpAny_bind (wpAny_pure (wpAny_bind (wpAny_pure ?_)))
  refine wpAny_bind (keqH_samePairs hr ha hb da db hits ?_)
  refine wpAny_pure ⟨_, rfl, ?_, ?_⟩
  · exact fun x => nomatch x
  · simpa using h
theorem keqH_ne {a b : Addr} {xa xb : List (K × Addr × Value)} {r : Bool} {Q : Value → Shared → Prop} (hr : knd.room A.in1) (ha : (a == sysModules) = false) (hb : (b == sysModules) = false)
    (da : s.heap.DictOfH knd a xa) (db : s.heap.DictOfH knd b xb) (hu : A.units < cLine) (hits : xa.length = xb.length → HitsH A.in1 s xb xa r) (h : Q (.bool (!(xa.length == xb.length && r))) s) :
    wpAny (model prog w) A (compareOp .NotEq (.ref a) (.ref b)) Q E s := by
  refine wpAny_richCompare_same_room (op := .NotEq) da.typeIs db.typeIs PySem.F.slot_dict_ne (wpAny_call_entry PySem.F.slot_dict_ne da.typeIs PySem.F.entry_dict_ne ?_ (PySem.F.args_dict_ne_2 _ _)) hu
  show wpAny _ _ (Builtin.Dict.dictSlotArgs "__ne__" ⟨[.ref a, .ref b], []⟩ >>= _) _ _ s
  refine wpAny_bind ?_
  unfold Builtin.Dict.dictSlotArgs
  refine wpAny_bind (wpAny_notOrdered_dict da.typeIs ?_)
  show wpAny _ _ (pure (Value.ref a, Value.ref b)) _ _ s
  refine wpAny_pure ?_
  refine wpAny_bind (wpAny_isInstance (T := "dict") db.typeIs PySem.F.sub_dict_dict ?_)
  simp only [Bool.not_true, Bool.false_eq_true, if_false]
  refine wpAny_bind (wpAny_pure (wpAny_bind (wpAny_pure ?_)))
  refine wpAny_bind (keqH_samePairs hr ha hb da db hits ?_)
  refine wpAny_pure ⟨_, rfl, ?_, ?_⟩
  · exact fun x => nomatch x
  · simpa using h
end
end Pv

set_option maxRecDepth 100000
set_option maxHeartbeats 1000000
namespace Pv
open PySem PySem.Calls PyProof.Rows PySem.Spec L2
def DsT (K : PySem.W.Frag) (H : Hp) : List (List Key × V) → List (List Key × PyData) → Prop
  | [], [] => True
  | (k, v) :: r, (k', d) :: r' => k = k' ∧ Dp K H v d ∧ SeqAt.shaped d = true ∧ DsT K H r r'
  | _, _ => False
def lkD (k : List Key) : List (List Key × PyData) → Option PyData
  | [] => none
  | (k', d) :: r => if k = k' then some d else lkD k r
def eqIn (db : List (List Key × PyData)) : List (List Key × PyData) → Bool
  | [] => true
  | (k, d) :: r => match lkD k db with
    | some e => PyData.eqv d e && eqIn db r
    | none => false
section
variable {X : Cx} {pins : List (Addr × Obj)} {σ : L2.St} {H : Hp} {s : Shared}
theorem look_none : ∀ {kb : List (List Key × V)} {db : List (List Key × PyData)} {xb : List (List Key × Addr × Value)}, DsT X.K H kb db → KT H kb xb → ∀ {k : List Key}, lkD k db = none → ∀ (j : Nat) (q : Addr × Value), xb[j]? ≠ some (k, q)
  | [], [], xb, _, r, k, _, j, q, h => by
    cases r
    simp at h
  | (k1, v) :: kb, (k2, d) :: db, xb, ⟨e, _, _, h3⟩, r, k, hl, j, q, h => by
    cases r with
    | @cons _ x _ xb h1 r =>
      unfold lkD at hl
      by_cases hk : k = k2
      · rw [if_pos hk] at hl; cases hl
      · rw [if_neg hk] at hl
        cases j with
        | zero =>
          have e0 : x = (k, q) := Option.some.inj h
          have e2 := h1.1
          rw [e0] at e2
          have e3 : k1 = k := e2
          exact hk (by rw [← e3, e])
        | succ j => exact look_none h3 r hl j q h
theorem look_some : ∀ {kb : List (List Key × V)} {db : List (List Key × PyData)} {xb : List (List Key × Addr × Value)}, DsT X.K H kb db → KT H kb xb → ∀ {k : List Key} {e : PyData}, lkD k db = some e → ∃ (j : Nat) (q : Addr × Value) (v : V), xb[j]? = some (k, q) ∧ Dp X.K H v e ∧ RelV v q.2 ∧ SeqAt.shaped e = true
  | [], [], xb, _, r, k, e, h => by cases h
  | (k1, v) :: kb, (k2, d) :: db, xb, ⟨e1, h1, h2, h3⟩, r, k, e, hl => by
    cases r with
    | @cons _ x _ xb g r =>
      unfold lkD at hl
      by_cases hk : k = k2
      · rw [if_pos hk] at hl
        cases hl
        obtain ⟨xk, xp⟩ := x
        have : xk = k := by
          have := g.1
          rw [hk, ← e1]
          exact this.symm
        subst this
        exact ⟨0, xp, v, rfl, h1, g.2.2, h2⟩
      · rw [if_neg hk] at hl
        obtain ⟨j, q, u, f1, f2⟩ := look_some h3 r hl
        exact ⟨j + 1, q, u, f1, f2⟩
theorem hits_of (I : Inv X pins σ H s) (hu : X.A.in1.units + 64 < cLine) {kb : List (List Key × V)} {db : List (List Key × PyData)} {xb : List (List Key × Addr × Value)} (hb : DsT X.K H kb db) (rb : KT H kb xb) : ∀ {ka : List (List Key × V)} {da : List (List Key × PyData)} {xa : List (List Key × Addr × Value)}, DsT X.K H ka da → KT H ka xa → HitsH X.A.in1 s xb xa (eqIn db da)
  | [], [], xa, _, r => by
    cases r
    exact .nil
  | (k1, v) :: ka, (k2, d) :: da, xa, ⟨e1, h1, h2, h3⟩, r => by
    cases r with
    | @cons _ x _ xa g r =>
      obtain ⟨xk, xp⟩ := x
      have ek : k2 = xk := by rw [← e1]; exact g.1
      subst ek
      show HitsH X.A.in1 s xb _ (match lkD k2 db with | some e => PyData.eqv d e && eqIn db da | none => false)
      cases hl : lkD k2 db with
      | none => exact .miss (look_none (kb := kb) (db := db) (xb := xb) hb rb hl)
      | some e =>
        obtain ⟨j, q, u, f1, f2, f3, f4⟩ := look_some hb rb hl
        obtain ⟨as, r1⟩ := Dp.reads I d v xp.2 h1 g.2.2
        obtain ⟨bs, r2⟩ := Dp.reads I e u q.2 f2 f3
        exact .hit ⟨j, f1⟩ (PySem.W.keq_at r1 r2 h2 f4 hu) (hits_of I hu hb rb h3 r)
def RdT (H : Hp) (a : Addr) (ka : List (List Key × V)) : Prop := Rd H a (.dT ka) ∨ (ka = [] ∧ Rd H a (.dK []))
theorem rdT_at {a : Addr} {ka : List (List Key × V)} (I : Inv X pins σ H s) (h : RdT H a ka) : (a == sysModules) = false ∧ ∃ xs, KT H ka xs ∧ s.heap.DictOfH (tupleKind (mixKind X.prog X.w)) a xs := by
  rcases h with h | ⟨rfl, h⟩
  · exact (dt_rd I.hok h).2
  · have := emptyT I h
    exact ⟨this.1, [], .nil, this.2⟩
def rEqT (K : PySem.W.Frag) (neg : Bool) : R2 := fun x y H Q => ∃ a b ka kb da db, x = .ref a ∧ y = .ref b ∧ RdT H a ka ∧ RdT H b kb ∧ DsT K H ka da ∧ DsT K H kb db ∧ Q (.bl (neg ^^ (ka.length == kb.length && eqIn db da))) H
theorem KT.len {ka : List (List Key × V)} {xa : List (List Key × Addr × Value)} (r : KT H ka xa) : xa.length = ka.length := (Paired.length r).symm
theorem op_eqT (hu : X.A.in1.units + 64 < cLine) (hu0 : X.A.units < cLine) : OpR X (compareOp .Eq) (rEqT X.K false) := by
  intro pins s σ H x y v u Q I rx ry h
  obtain ⟨a, b, ka, kb, da, db, rfl, rfl, ea, eb, ha, hb, q⟩ := h
  obtain rfl : v = Value.ref a := rx
  obtain rfl : u = Value.ref b := ry
  obtain ⟨ya, xa, ra, dda⟩ := rdT_at I ea
  obtain ⟨yb, xb, rb, ddb⟩ := rdT_at I eb
  refine keqH_eq (knd := tupleKind (mixKind X.prog X.w)) (r := eqIn db da) (show X.A.in1.units < cLine by omega) ya yb dda ddb hu0 (fun _ => hits_of I hu hb rb ha ra) ?_
  rw [KT.len ra, KT.len rb]
  rw [Bool.false_xor] at q
  exact ⟨.bl _, H, I, rfl, q⟩
theorem op_neT (hu : X.A.in1.units + 64 < cLine) (hu0 : X.A.units < cLine) : OpR X (compareOp .NotEq) (rEqT X.K true) := by
  intro pins s σ H x y v u Q I rx ry h
  obtain ⟨a, b, ka, kb, da, db, rfl, rfl, ea, eb, ha, hb, q⟩ := h
  obtain rfl : v = Value.ref a := rx
  obtain rfl : u = Value.ref b := ry
  obtain ⟨ya, xa, ra, dda⟩ := rdT_at I ea
  obtain ⟨yb, xb, rb, ddb⟩ := rdT_at I eb
  refine keqH_ne (knd := tupleKind (mixKind X.prog X.w)) (r := eqIn db da) (show X.A.in1.units < cLine by omega) ya yb dda ddb hu0 (fun _ => hits_of I hu hb rb ha ra) ?_
  rw [KT.len ra, KT.len rb]
  rw [Bool.true_xor] at q
  exact ⟨.bl _, H, I, rfl, q⟩
end
end Pv

set_option maxRecDepth 100000
set_option maxHeartbeats 1000000
namespace Pv
open PySem PySem.Calls PyProof.Rows PySem.Spec L2
def tDt (x : DK × PV) : Option (List Key × PyData) := match x.1 with
  | .t ks => x.2.toD.bind fun d => if SeqAt.shaped d = true then some (ks, d) else none
  | .k _ => none
def eqDR (b : Bool) : PO
  | [(_, .dic kvs), (_, .dic lvs)] => (kvs.mapM tDt).bind fun da => (lvs.mapM tDt).bind fun db => sc (.bl (b ^^ (kvs.length == lvs.length && eqIn db da)))
  | _ => none
section
variable {g : Prg} {Γ : Sx} {K : PySem.W.Frag} {H0 H : Hp}
theorem own_dst (s : Same H0 H) : ∀ {kv : List (List Key × V)} {kvs : List (DK × PV)} {n : Nat} {F : Fp} {da : List (List Key × PyData)}, OwnD K H0 H kvs n (kv.map fun p => (DK.t p.1, p.2)) F → kvs.mapM tDt = some da → DsT K H kv da
  | [], [], _, _, da, _, e => by
    cases (show some [] = some da from e)
    trivial
  | _ :: _, [], _, _, _, h, _ => by cases (show _ = [] from h)
  | [], _ :: _, _, _, _, ⟨v, l', G, e, _⟩, _ => by cases e
  | (ks, w) :: kv, (k, x) :: r, n, F, da, ⟨v, l', G, e1, h1, h2⟩, e => by
    cases e1
    rw [List.mapM_cons] at e
    cases ed : x.toD with
    | none =>
      have : tDt (DK.t ks, x) = none := by unfold tDt; rw [ed]; rfl
      rw [this] at e; cases e
    | some d =>
      by_cases hs : SeqAt.shaped d = true
      · have et : tDt (DK.t ks, x) = some (ks, d) := by unfold tDt; rw [ed]; show (if SeqAt.shaped d = true then some (ks, d) else none) = _; rw [if_pos hs]
        rw [et] at e
        cases er : r.mapM tDt with
        | none => rw [er] at e; cases e
        | some ds =>
          rw [er] at e
          cases (show some ((ks, d) :: ds) = some da from e)
          exact ⟨rfl, own_dp s x n w _ d h1 ed, hs, own_dst s h2 er⟩
      · have et : tDt (DK.t ks, x) = none := by unfold tDt; rw [ed]; show (if SeqAt.shaped d = true then some (ks, d) else none) = _; rw [if_neg hs]
        rw [et] at e; cases e
theorem own_rdT (s : Same H0 H) {kvs : List (DK × PV)} {n : Nat} {v : V} {F : Fp} {da : List (List Key × PyData)} (h : Own K H0 H (.dic kvs) n v F) (e : kvs.mapM tDt = some da) : ∃ a ka, v = .ref a ∧ RdT H a ka ∧ DsT K H ka da ∧ ka.length = kvs.length := by
  obtain ⟨a, l, G, rfl, ⟨u, r, i⟩, o⟩ := own_dic s h
  have hl := ownD_len o
  cases i with
  | k kv =>
    cases kvs with
    | nil =>
      cases (show some [] = some da from e)
      cases kv with
      | nil => exact ⟨a, [], rfl, .inr ⟨rfl, r⟩, trivial, rfl⟩
      | cons p q => cases (show _ = [] from o)
    | cons p q =>
      obtain ⟨k, x⟩ := p
      obtain ⟨v, l', G', e1, h1, h2⟩ := o
      cases kv with
      | nil => cases e1
      | cons p' q' =>
        cases e1
        rw [List.mapM_cons] at e
        cases e
  | t kv => exact ⟨a, kv, rfl, .inl r, own_dst s o e, by rw [← hl, List.length_map]⟩
theorem rok_eqD (b : Bool) : ROk K (fun vs H Q => ∃ x y, vs = [x, y] ∧ rEqT K b x y H Q) (eqDR b) := by
  intro H0 H ps vs o Q s w e G
  unfold eqDR at e
  split at e
  · obtain ⟨v, u, F, F', rfl, h1, h2⟩ := views2 w
    obtain ⟨da, e1, e⟩ := Option.bind_eq_some_iff.mp e
    obtain ⟨db, e2, e⟩ := Option.bind_eq_some_iff.mp e
    obtain ⟨a, ka, rfl, ra, d1, l1⟩ := own_rdT s h1 e1
    obtain ⟨a', kb, rfl, rb, d2, l2⟩ := own_rdT s h2 e2
    refine ⟨_, _, rfl, a, a', ka, kb, da, db, rfl, rfl, ra, rb, d1, d2, ?_⟩
    rw [l1, l2]
    exact sc_gives e G s rfl
  · cases e
variable {a b : Expr} {fa fb : EF} {pos : Pos}
theorem Fits.un65' {X : Cx} {W : WX} (F : Fits g Γ X W) : X.A.in1.units + 64 < cLine := by
  have := F.un
  show X.A.units + 1 + 64 < cLine
  omega
/-- d == e, d and e dicts whose keys are tuples -/
theorem ev_eqDic (ha : EV g Γ a fa) (hb : EV g Γ b fb) : EV g Γ (.Compare a [.Eq] [b] pos) (eOp (eqDR false) (aCons fa (aCons fb aNil))) :=
  ev_op2 (r := rEqT g.K false) (rok_eqD false) (fun X W F ta tb ha hb => by rw [← F.K]; exact pe_cmpR (op_eqT F.un65' (by have := F.un; omega)) ha hb (nomark _)) ha hb
theorem ev_neDic (ha : EV g Γ a fa) (hb : EV g Γ b fb) : EV g Γ (.Compare a [.NotEq] [b] pos) (eOp (eqDR true) (aCons fa (aCons fb aNil))) :=
  ev_op2 (r := rEqT g.K true) (rok_eqD true) (fun X W F ta tb ha hb => by rw [← F.K]; exact pe_cmpR (op_neT F.un65' (by have := F.un; omega)) ha hb (nomark _)) ha hb
theorem bool_eqD (c : Bool) : BoolPO (eqDR c) := fun ps o e => by
  unfold eqDR at e
  split at e
  · obtain ⟨da, e1, e⟩ := Option.bind_eq_some_iff.mp e
    obtain ⟨db, e2, e⟩ := Option.bind_eq_some_iff.mp e
    cases e
    exact ⟨_, rfl⟩
  · cases e
theorem tv_eqDic (hs : noSet b = true) (ha : EV g Γ a fa) (hb : EV g Γ b fb) : TV g Γ (.Compare a [.Eq] [b] pos) (tOf (eOp (eqDR false) (aCons fa (aCons fb aNil)))) :=
  tv_cmp (r := rEqT g.K false) (rok_eqD false) (bool_eqD _) (fun X W F => by rw [← F.K]; exact op_eqT F.un65' (by have := F.un; omega)) (fun _ => marks_no) hs ha hb
theorem tv_neDic (hs : noSet b = true) (ha : EV g Γ a fa) (hb : EV g Γ b fb) : TV g Γ (.Compare a [.NotEq] [b] pos) (tOf (eOp (eqDR true) (aCons fa (aCons fb aNil)))) :=
  tv_cmp (r := rEqT g.K true) (rok_eqD true) (bool_eqD _) (fun X W F => by rw [← F.K]; exact op_neT F.un65' (by have := F.un; omega)) (fun _ => marks_no) hs ha hb
end
end Pv

set_option maxRecDepth 100000
set_option maxHeartbeats 1000000
namespace Pv
open PySem PySem.Spec PyProof.Rows L2
section
variable {g : Prg} {Γ : Sx} {K : PySem.W.Frag} {σ : L2.St}
variable {tg iter elt : Expr} {f : EF} {t : TFn} {pos p : Pos} {bf : BF}
/-- the loop of a comprehension over a source that has been read, what stands of the source told at the end -/
theorem lc_part {J : It} {RR : Hp → Hp → Prop} {Ha Hb H : Hp} {Oa B : Fp} {ρa ρ3 : Ev} {xs ys : List PV} {vs sl : List Nat} {pu : Bool} {Q : VK} (hsl : ∀ j ∈ sl, j ∈ vs) (Sa : St0 g.K Ha Hb Oa σ ρa) (Ta : Tmp Ha Hb Oa B) (src : Src g.K xs J RR B) (r0 : RR Ha Hb)
    (hfr : (vs.all fun v => freeS ρa v) = true) (el : lcLoop vs bf t f xs (wipeE ρa vs) = some (ys, ρ3, pu)) (hys : ys.length ≤ sizeLine)
    (q : ∀ D, Hb D = none → ∀ H01 H1 O1, Grow Ha Hb Oa H01 H1 O1 → (pu = true → Same Hb H1) → St0 g.K H01 H1 O1 σ (backE ρa ρ3 vs) → RR H01 H1 → ¬ O1 D → H01 D = none → Own g.K H01 H1 (.lst ys) 1 (.ref D) (fun a => a = D) → Mut (H1 D) → Q (.ref D) H1) :
    tLc (fun _ _ R => R J Hb) (gF g sl bf) (tT g (fun _ _ _ _ => False) t) (tF g (fun _ _ _ _ => False) f) vs σ H Q := by
  intro D hD
  refine ⟨fun i m H1 => ∃ H01 O1 ρ1 acc vacc rest pu1 pu2, m = xs.length - i ∧ Grow Ha Hb Oa H01 H1 O1 ∧ (pu1 = true → Same Hb H1) ∧ St0 g.K H01 H1 O1 (L2.wipe σ vs) ρ1 ∧ H1 D = some (.lst vacc) ∧ Sh g.K H01 H1 acc vacc ∧ ¬ O1 D ∧ H01 D = none ∧ RR H01 H1 ∧
    lcLoop vs bf t f (xs.drop i) ρ1 = some (rest, ρ3, pu2) ∧ acc ++ rest = ys ∧ (pu1 && pu2) = pu, ⟨xs.length, Ha, Oa, wipeE ρa vs, [], [], ys, true, pu, rfl, ?_, fun _ => same_new hD, (Sa.wipe vs).other (fun z => mut_ne (Sa.dom D z) hD) (Sa.sub.free hD), upd_same, .nil, fun z => mut_ne (Sa.dom D z) hD, Sa.sub.free hD, ?_, el, rfl, rfl⟩, ?_⟩
  · exact (alloc_own Sa.sub hD).grow.mono fun a z => .inl z
  · exact src.keep r0 (fun _ _ z => z) fun a o hb e => by rw [upd_ne fun z => mut_ne (Ta.dom a hb) (by rw [z]; exact hD)]; exact e
  rintro i m H1 ⟨H01, O1, ρ1, acc, vacc, rest, pu1, pu2, em, k1, hp1, S1, hD1, sh1, nO1, n01, rr, el1, ey, ep⟩
  by_cases hi : i < xs.length
  · refine .inr ⟨src.go S1.sub rr hi, ?_⟩
    rw [drop_cons hi] at el1
    unfold lcLoop at el1
    cases eb : bf xs[i] ρ1 with
    | none => rw [eb] at el1; cases el1
    | some ρ2 =>
      rw [eb] at el1
      simp only [] at el1
      cases et : t ρ2 with
      | bad => rw [et] at el1; cases el1
      | exc c fs ρ' => rw [et] at el1; cases el1
      | ok rt =>
        rw [et] at el1
        simp only [] at el1
        let Nx : Hp → Prop := fun H3 => ∃ H03 O3 ρ4 acc' vacc' rest' pu1' pu2', Grow Ha Hb Oa H03 H3 O3 ∧ (pu1' = true → Same Hb H3) ∧ St0 g.K H03 H3 O3 (L2.wipe σ vs) ρ4 ∧ H3 D = some (.lst vacc') ∧ Sh g.K H03 H3 acc' vacc' ∧ ¬ O3 D ∧ H03 D = none ∧ RR H03 H3 ∧
          lcLoop vs bf t f (xs.drop (i + 1)) ρ4 = some (rest', ρ3, pu2') ∧ acc' ++ rest' = ys ∧ (pu1' && pu2') = pu
        refine ⟨Nx, fun H3 ⟨H03, O3, ρ4, acc', vacc', rest', pu1', pu2', h1, h2, h3, h4, h5, h6, h7, h8, h9, h10, h11⟩ => ⟨xs.length - (i + 1), by omega, H03, O3, ρ4, acc', vacc', rest', pu1', pu2', rfl, h1, h2, h3, h4, h5, h6, h7, h8, h9, h10, h11⟩, fun x H2 hy => ?_⟩
        obtain ⟨H02, A, ow⟩ := src.yld S1.sub rr hy _ (List.getElem?_eq_getElem hi)
        refine ⟨H02, O1, ρ1, _, ρ2, A.st S1, ow, eb, fun σ2 O' ho S' hj hl2 => ?_⟩
        have hw2 : L2.wipe σ2 vs = L2.wipe σ vs := wipe_same (by rw [hl2, wipe_length]) hsl hj
        have k2 : Grow Ha Hb Oa H02 H2 O' := (k1.trans0 A.grow).mono fun a z => .inl (ho a z)
        have hD2 : H2 D = some (.lst vacc) := A.sm _ _ hD1
        have n02 : H02 D = none := by
          cases q0 : H02 D with
          | none => rfl
          | some o =>
            rcases A.nsh D (by rw [q0]; exact Option.some_ne_none _) with z | z
            · exact absurd n01 z
            · exact (mut_not (by rw [hD1]; exact True.intro) z).elim
        have nO2 : ¬ O' D := fun z => nO1 (ho D z)
        have rr2 : RR H02 H2 := src.keep rr A.sh fun a o _ e => A.sm _ _ e
        refine ⟨hw2, H02, O', ρ2, S', ?_⟩
        rw [et]
        intro H03 H3 O3 k3 hp3 S3
        have k13 : Grow Ha Hb Oa H03 H3 O3 := k2.trans0 k3
        have hD3 : H3 D = some (.lst vacc) := k3.keep _ _ hD2 nO2
        have n03 : H03 D = none := by
          cases q0 : H03 D with
          | none => rfl
          | some o =>
            rcases k3.nsh D (by rw [q0]; exact Option.some_ne_none _) with z | z | z
            · exact absurd n02 z
            · exact absurd z nO2
            · exact (mut_not (by rw [hD2]; exact True.intro) z).elim
        have nO3 : ¬ O3 D := fun z => by
          rcases k3.own D z with y | y
          · exact nO2 y
          · rw [hD2] at y; cases y
        have T2 : Tmp H02 H2 O' B := by
          have z := (Ta.step k1)
          exact ⟨fun a b y => z.off a b (ho a y), fun a b => (Ta.step (k1.trans0 (A.grow.mono fun a z => .inl z))).dom a b, fun a b => (Ta.step (k1.trans0 (A.grow.mono fun a z => .inl z))).sep a b⟩
        have rr3 : RR H03 H3 := src.keep rr2 k3.sh fun a o hb e => k3.keep a o e (T2.off a hb)
        have nDB : ¬ B D := fun z => mut_ne (Ta.dom D z) hD
        by_cases hb : rt.b = true
        · rw [if_pos hb] at el1 ⊢
          cases ef : f rt.ρ with
          | bad => rw [ef] at el1; cases el1
          | exc c fs ρ' => rw [ef] at el1; cases el1
          | ok rq =>
            rw [ef] at el1
            simp only [] at el1
            by_cases hok : shOk (rq.lv, rq.x) = true
            case neg => rw [if_neg hok] at el1; cases el1
            rw [if_pos hok] at el1
            obtain ⟨⟨rest', ρ3', pu3⟩, el2, e3⟩ := Option.map_eq_some_iff.mp el1
            simp only [Prod.mk.injEq] at e3
            obtain ⟨e3a, e3b, e3c⟩ := e3
            subst e3a e3b
            refine ⟨H03, O3, rt.ρ, S3, ?_⟩
            rw [ef]
            intro y H04 H4 O4 B4 k4 hp4 S4 T4 w4
            have k4' : Grow H03 H3 O3 H04 H4 O4 := k4.mono fun a z => .inl z
            have hD4 : H4 D = some (.lst vacc) := k4.keep _ _ hD3 nO3
            have n04 : H04 D = none := by
              cases q0 : H04 D with
              | none => rfl
              | some o =>
                rcases k4.nsh D (by rw [q0]; exact Option.some_ne_none _) with z | z | z
                · exact absurd n03 z
                · exact absurd z nO3
                · exact (mut_not (by rw [hD3]; exact True.intro) z).elim
            have nO4 : ¬ O4 D := fun z => by
              rcases k4'.own D z with y | y
              · exact nO3 y
              · rw [hD3] at y; cases y
            have T3 : Tmp H03 H3 O3 B := T2.step k3
            have hv : Own g.K H04 H4 rq.x 0 y noF := by
              have z : ∃ F, Own g.K H04 H4 rq.x rq.lv y F := by
                split at w4
                · exact ⟨_, w4⟩
                · exact w4
              obtain ⟨F, z⟩ := z
              have c : rq.lv = 0 ∨ rq.x.imm = true := by
                unfold shOk at hok
                simpa using hok
              exact own_imm z c fun _ _ z => z
            have sh4 : Sh g.K H04 (upd H4 D (.lst (vacc ++ [y]))) (acc ++ [rq.x]) (vacc ++ [y]) := Paired.app (sh_tr (A.sh.trans (k3.sh.trans k4.sh)) sh1) (.cons (own0 (fun _ _ z => z) _ _ _ _ hv) .nil)
            have lv : vacc.length < sizeLine := by
              have h1 : acc.length < ys.length := by
                rw [← ey, List.length_append, List.length_cons]
                omega
              rw [← Paired.length sh1]
              omega
            refine ⟨vacc, hD4, lv, H04, O4, wipeE rq.ρ vs, acc ++ [rq.x], vacc ++ [y], rest', pu1 && (rt.pu && rq.pu), pu3, ?_, fun z => ?_, ?_, upd_same, sh4, nO4, n04, ?_, el2, by rw [← ey, List.append_assoc]; rfl, ?_⟩
            · have k14 : Grow Ha Hb Oa H04 H4 O4 := k13.trans0 k4'
              exact ⟨k14.sh, fun a o e n => by rw [upd_ne fun z => by rw [z, hD] at e; cases e]; exact k14.keep a o e n, fun a z => by
                by_cases ha : a = D
                · rw [ha, upd_same]; exact Option.some_ne_none _
                · rw [upd_ne ha]; exact k14.dom a z, k14.own, k14.nsh⟩
            · simp only [Bool.and_eq_true] at z
              intro a o e
              rw [upd_ne fun z => by rw [z, hD] at e; cases e]
              exact hp4 z.2.2 _ _ (hp3 z.2.1 _ _ (A.sm _ _ (hp1 z.1 _ _ e)))
            · have z := S4.wipe vs
              rw [hw2] at z
              exact z.other nO4 n04
            · refine src.keep rr3 k4.sh fun a o hb e => ?_
              rw [upd_ne fun z => nDB (by rw [← z]; exact hb)]
              exact k4.keep a o e (T3.off a hb)
            · rw [← ep, ← e3c]
              simp only [Bool.and_assoc]
        · rw [if_neg hb] at el1 ⊢
          obtain ⟨⟨rest', ρ3', pu3⟩, el2, e3⟩ := Option.map_eq_some_iff.mp el1
          simp only [Prod.mk.injEq] at e3
          obtain ⟨e3a, e3b, e3c⟩ := e3
          subst e3a e3b
          refine ⟨H03, O3, wipeE rt.ρ vs, acc, vacc, rest', pu1 && rt.pu, pu3, k13, fun z => ?_, ?_, hD3, sh_tr (A.sh.trans k3.sh) sh1, nO3, n03, rr3, el2, ey, ?_⟩
          · simp only [Bool.and_eq_true] at z
            exact fun a o e => hp3 z.2 _ _ (A.sm _ _ (hp1 z.1 _ _ e))
          · have z := S3.wipe vs
            rw [hw2] at z
            exact z
          · rw [← ep, ← e3c]
            simp only [Bool.and_assoc]
  · refine .inl ⟨src.stop S1.sub rr (by omega), ?_⟩
    rw [List.drop_eq_nil_of_le (by omega)] at el1
    cases el1
    rw [List.append_nil] at ey
    subst ey
    have z1 : pu1 = pu := by
      have : (pu1 && true) = pu := ep
      rw [Bool.and_true] at this
      exact this
    exact q D hD H01 H1 O1 k1 (fun z => hp1 (z1.trans z)) (Sa.back k1.sh hfr S1) rr nO1 n01 ⟨D, vacc, rfl, hD1, rfl, pair_own sh1⟩ (by rw [hD1]; exact True.intro)
/-- a comprehension over the list of a slot that is owned: taken out for the while, put back behind -/
def eLcB (own : List Nat) (i : Nat) (bf : BF) (t : TFn) (f : EF) : EF := fun ρ => match ρ[i]? with
  | some (some (1, .lst xs)) => if (own.all fun v => freeS (ρ.set i none) v) = true then match lcLoop own bf t f xs (wipeE (ρ.set i none) own) with
      | some (ys, ρ3, pu) => if ys.length ≤ sizeLine then .ok ⟨pu, true, 1, .lst ys, (backE (ρ.set i none) ρ3 own).set i (some (1, .lst xs))⟩ else .bad
      | none => .bad
    else .bad
  | _ => .bad
def wiB (K : PySem.W.Frag) (i : Nat) : TI := fun σ H R => ∃ v, σ[i]? = some (some v) ∧ ∃ a, v = .ref a ∧ (∃ xs, SqL K H a xs) ∧ R (Itl K a) H
theorem lc_runB {i : Nat} {vs sl : List Nat} {W : WX} {H : Hp} {Q : VK} (hsl : ∀ j ∈ sl, j ∈ vs) (q : tF g W (eLcB vs i bf t f) σ H Q) :
    tLc (wiB g.K i) (gF g sl bf) (tT g (fun _ _ _ _ => False) t) (tF g (fun _ _ _ _ => False) f) vs σ H Q := by
  obtain ⟨H0, O, ρ, S, q⟩ := q
  by_cases hx : ∃ xs, ρ[i]? = some (some (1, .lst xs))
  · obtain ⟨xs, er⟩ := hx
    have eq : eLcB vs i bf t f ρ = (if (vs.all fun v => freeS (ρ.set i none) v) = true then match lcLoop vs bf t f xs (wipeE (ρ.set i none) vs) with
      | some (ys, ρ3, pu) => if ys.length ≤ sizeLine then .ok ⟨pu, true, 1, .lst ys, (backE (ρ.set i none) ρ3 vs).set i (some (1, .lst xs))⟩ else .bad
      | none => .bad
      else .bad) := by
      unfold eLcB
      simp only [er]
    rw [eq] at q
    by_cases hfr : (vs.all fun v => freeS (ρ.set i none) v) = true
    case neg => rw [if_neg hfr] at q; exact q.elim
    rw [if_pos hfr] at q
    cases el : lcLoop vs bf t f xs (wipeE (ρ.set i none) vs) with
    | none => rw [el] at q; exact q.elim
    | some z =>
      obtain ⟨ys, ρ3, pu⟩ := z
      rw [el] at q
      simp only [] at q
      by_cases hys : ys.length ≤ sizeLine
      case neg => rw [if_neg hys] at q; exact q.elim
      rw [if_pos hys] at q
      obtain ⟨v, F, e1, ow, hF, S', T⟩ := S.take er
      have ow' := ow
      obtain ⟨a, us, ev, h1, h2, h3⟩ := ow
      subst ev
      have src : Src g.K xs (Itl g.K a) (fun H01 H1 => RSeq g.K a xs F true H01 H1 ∧ Own g.K H01 H1 (.lst xs) 1 (.ref a) F) F :=
        ⟨fun s r hi => src_list.go s r.1 hi, fun s r hi => src_list.stop s r.1 hi, fun s r hy y hx => src_list.yld s r.1 hy y hx, fun r s k => ⟨src_list.keep r.1 s k, own_tr s _ _ _ _ _ r.2 k fun _ z => z⟩⟩
      refine ⟨.ref a, e1, a, rfl, ⟨us, .inl (.inl h1)⟩, ?_⟩
      refine lc_part (H := H) hsl S' T src ⟨⟨us, .inr ⟨rfl, h2, h1⟩, own_pair h3⟩, ow'⟩ hfr el hys fun D hD H01 H1 O1 k hp S3 rr nO1 n01 oD mD => ?_
      have hi : i < σ.length := (List.getElem?_eq_some_iff.mp e1).1
      have T2 : Tmp H01 H1 O1 F := T.step k
      have S4 := S3.set T2 rr.2 hi
      have hs : σ.set i (some (.ref a)) = σ := List.ext_getElem? fun j => by
        by_cases hj : i = j
        · subst hj
          rw [List.getElem?_set_self hi, e1]
        · rw [List.getElem?_set_ne hj]
      rw [hs] at S4
      refine q (.ref D) H01 H1 (O1.or F) (fun b => b = D) ⟨k.sh, fun b o e n => k.keep b o e fun z => n z.1, k.dom, fun b z => ?_, fun b z => (k.nsh b z).imp id fun y => y.imp (fun y => y.1) id⟩ hp S4 ⟨fun b z y => ?_, fun b z => by rw [z]; exact mD, fun b z => by rw [z]; exact n01⟩ ?_
      · rcases z with (z | z) | z
        · exact (k.own b z).imp (fun y => y.1) id
        · exact .inl (hF b z)
        · exact .inr (by rw [z]; exact hD)
      · rw [z] at y
        rcases y with y | y
        · exact nO1 y
        · exact mut_ne (T.dom D y) hD
      · rw [if_pos rfl]
        exact oD
  · have eq : eLcB vs i bf t f ρ = .bad := by
      unfold eLcB
      split
      · exact absurd ⟨_, ‹_›⟩ hx
      · rfl
    rw [eq] at q
    exact q.elim
theorem ev_lcB {own : List (Str × Nat)} {sl : List Nat} {scope : Scope} {ifs : List Expr} {i : Nat} {x : Str} {px : Pos} (hh : Γ.hot = false) (hN : Γ.N[i]? = some x) (hv : Vis Γ.sc x) (hd : (x == ("__debug__" : Str)) = false) (hcd : (x == ("__classdict__" : Str)) = false) (hok : blkC Γ.N Γ.sc scope own = true) (hsl : ∀ j ∈ sl, j ∈ own.map (·.2))
    (hg : GV g (Γblk Γ scope) tg sl bf) (ht : TsV g (Γblk Γ scope) ifs t) (he : EV g (Γblk Γ scope) elt f) :
    EV g Γ (.ListComp elt [⟨tg, .Name x px, ifs, 0⟩] scope pos) (eLcB (own.map (·.2)) i bf t f) := fun X W F =>
  PE.imp (pe_lc (own := own) (wi := wiB g.K i) (F.calm hh) F.nd (by rw [← F.K]; exact pi_list (pe_var (i := i) (by rw [F.N]; exact hN) (by rw [F.sc]; exact hv) hd hcd)) (by rw [F.N, F.sc]; exact blkOk_by hok) (fun s H C cl fp => hg _ _ (fits_blk F hh s H scope cl C fp)) (fun s H C cl fp => tsv_pts (fits_blk F hh s H scope cl C fp) ht) (fun s H C cl fp => he _ _ (fits_blk F hh s H scope cl C fp)) (fold_no rfl _)) fun σ H Q q => lc_runB hsl q
end
end Pv

set_option maxRecDepth 100000
set_option maxHeartbeats 1000000
namespace Pv
open PySem PySem.Spec PyProof.Rows L2
/-! # exceptions with three fields; a comprehension stored in a captured name -/
section
variable {P : Program} {w : World} {K : PySem.W.Frag} {mg : Str → Option Value} {base : Heap} {params : Arguments} {scope : Scope} {dvs : List V} {kws : List (Str × V)} {fI : Addr} {fd : FuncData} {qual : Str}
def spI3 (K : PySem.W.Frag) (f f2 f3 : Str) : Sp := fun vs H Q E => ∃ (a : Addr) (v v2 v3 : V) (C : Addr), vs = [.ref a, v, v2, v3] ∧ OexC K C ∧ PySem.W.findIn K (.ref C) f = some none ∧ PySem.W.findIn K (.ref C) f2 = some none ∧ PySem.W.findIn K (.ref C) f3 = some none ∧ H a = some (exo a C none) ∧
  ∀ dx, H dx = none → dx ≠ a → Q .non (upd (upd (upd (upd H dx (exd dx [(f, v)])) a (exo a C (some dx))) dx (exd dx [(f2, v2), (f, v)])) dx (exd dx [(f3, v3), (f2, v2), (f, v)]))
theorem init3_ok {n1 n2 n3 f f2 f3 : Str} {p1 p2 p3 p4 q1 q2 q3 q4 r1 r2 r3 r4 : Pos} (F : FunD K "__init__" qual params [.Assign [.Attribute (.Name "self" p1) f p2] (.Name n1 p3) p4, .Assign [.Attribute (.Name "self" q1) f2 q2] (.Name n2 q3) q4, .Assign [.Attribute (.Name "self" r1) f3 r2] (.Name n3 r3) r4] scope dvs kws fI fd)
    (S : FnScope ["self", n1, n2, n3] ["self", n1, n2, n3] scope) (d1 : (n1 == ("__debug__" : Str)) = false) (d2 : (n1 == ("__classdict__" : Str)) = false) (d3 : (n2 == ("__debug__" : Str)) = false) (d4 : (n2 == ("__classdict__" : Str)) = false) (d5 : (n3 == ("__debug__" : Str)) = false) (d6 : (n3 == ("__classdict__" : Str)) = false) :
    FnOk P w K mg base (L2.CX P w) 1 fI fd ["self", n1, n2, n3] (spI3 K f f2 f3) := by
  refine F.ok S (fun vs H Q E ⟨_, _, _, _, _, h, _⟩ => by rw [h]; rfl) fun cdv A outer s H vs Q E hr ⟨a, v, v', v'', C, ev, T, no, no2, no3, ea, q⟩ => ?_
  have v1 : Vis scope "self" := (S.par _ List.mem_cons_self).imp id .inl
  have v2 : Vis scope n1 := (S.par _ (List.mem_cons_of_mem _ List.mem_cons_self)).imp id .inl
  have v3 : Vis scope n2 := (S.par _ (List.mem_cons_of_mem _ (List.mem_cons_of_mem _ List.mem_cons_self))).imp id .inl
  have v4 : Vis scope n3 := (S.par _ (List.mem_cons_of_mem _ (List.mem_cons_of_mem _ (List.mem_cons_of_mem _ List.mem_cons_self)))).imp id .inl
  refine ⟨_, pss_cons (ps_ost (pe_var (i := 0) rfl v1) (pe_var (i := 1) rfl v2 d1 d2)) (pss_cons (ps_ost (pe_var (i := 0) rfl v1) (pe_var (i := 2) rfl v3 d3 d4)) (pss_one (ps_ost (pe_var (i := 0) rfl v1) (pe_var (i := 3) rfl v4 d5 d6)))), ?_⟩
  subst ev
  refine ⟨v, rfl, .ref a, rfl, a, C, rfl, T, no, .inl ⟨ea, fun dx h1 h2 => ?_⟩⟩
  refine ⟨v', rfl, .ref a, rfl, a, C, rfl, T, no2, .inr ⟨dx, [(f, v)], upd_same, ?_, by simp, ?_⟩⟩
  · rw [upd_ne h2, upd_same]
  refine ⟨v'', rfl, .ref a, rfl, a, C, rfl, T, no3, .inr ⟨dx, [(f2, v'), (f, v)], ?_, upd_same, by simp, q dx h1 h2⟩⟩
  rw [upd_ne (Ne.symm h2), upd_same]
end
section
variable {g : Prg} {x c qual : Str} {params : Arguments} {scope : Scope} {kws : List (Str × V)} {fI : Addr} {fd : FuncData}
theorem heap_end3 {H : Hp} {a d : Addr} {o o2 o3 o4 o5 : HO} {u : HO} (ha : H a = none) (hne : d ≠ a) : upd (del (upd (upd (upd (upd (upd H a o) d o2) a o3) d o4) d o5) a) d u = upd H d u := by
  funext b
  by_cases hb : b = d
  · rw [hb, upd_same, upd_same]
  · rw [upd_ne hb, upd_ne hb]
    by_cases h2 : b = a
    · rw [h2, del_same, ha]
    · rw [del_ne h2, upd_ne hb, upd_ne hb, upd_ne h2, upd_ne hb, upd_ne h2]
theorem exk3 {n1 n2 n3 f f2 f3 : Str} {p1 p2 p3 p4 q1 q2 q3 q4 r1 r2 r3 r4 : Pos} (E : ExF g x c) (F : FunD g.K "__init__" qual params [.Assign [.Attribute (.Name "self" p1) f p2] (.Name n1 p3) p4, .Assign [.Attribute (.Name "self" q1) f2 q2] (.Name n2 q3) q4, .Assign [.Attribute (.Name "self" r1) f3 r2] (.Name n3 r3) r4] scope [] kws fI fd)
    (S : FnScope ["self", n1, n2, n3] ["self", n1, n2, n3] scope) (d1 : (n1 == ("__debug__" : Str)) = false) (d2 : (n1 == ("__classdict__" : Str)) = false) (d3 : (n2 == ("__debug__" : Str)) = false) (d4 : (n2 == ("__classdict__" : Str)) = false) (d5 : (n3 == ("__debug__" : Str)) = false) (d6 : (n3 == ("__classdict__" : Str)) = false) (hb : Binds g.K fd ["self", n1, n2, n3] [])
    (iC : PySem.W.findIn g.K (.ref (g.ea c)) "__init__" = some (some (.ref fI))) (tI : PySem.W.typeIn g.K (.ref fI) = some (.type "function")) (no : PySem.W.findIn g.K (.ref (g.ea c)) f = some none) (no2 : PySem.W.findIn g.K (.ref (g.ea c)) f2 = some none) (no3 : PySem.W.findIn g.K (.ref (g.ea c)) f3 = some none) : ExK g x c [f, f2, f3] := by
  refine ⟨fun {Γ X W} Fi hh hl hg e es af p pos hs ha => ?_⟩
  have F1 : FnOk X.prog X.w X.K X.mg X.base (L2.CX X.prog X.w) 1 fI fd ["self", n1, n2, n3] (spI3 X.K f f2 f3) := by
    rw [Fi.prog, Fi.w, Fi.K, Fi.mg, Fi.base]; exact init3_ok F S d1 d2 d3 d4 d5 d6
  have M := pmk_oex (p := p) (pos := pos) (C := g.ea c) (ds := []) (dvs := []) (by rw [Fi.K]; exact E.T) (by rw [Fi.K]; exact iC) (by rw [Fi.K]; exact tI) F1 ((Fi.room hh).mono hl) (by rw [Fi.K]; exact hb) .nil passL hg (by rw [Fi.mg]; exact E.gl) (ha X W Fi) E.db (star_cons (hs _ List.mem_cons_self)) (star_any fun y hy => hs _ (List.mem_cons_of_mem _ hy))
  intro pins s σ H Q I h
  refine M pins s σ H Q I (tA_mono h fun vs H1 ⟨hn, q⟩ => ?_)
  match vs, hn with
  | [v, v2, v3], _ =>
    refine ⟨by simp, fun a ha => ⟨a, v, v2, v3, g.ea c, rfl, by rw [Fi.K]; exact E.T, by rw [Fi.K]; exact no, by rw [Fi.K]; exact no2, by rw [Fi.K]; exact no3, upd_same, fun dx h1 h2 => ⟨rfl, dx, [(f3, v3), (f2, v2), (f, v)], ?_, upd_same, ?_, ?_⟩⟩⟩
    · rw [upd_ne (Ne.symm h2), upd_ne (Ne.symm h2), upd_same]
    · rw [upd_ne h2] at h1; exact h1
    · rw [heap_end3 ha h2]
      exact q dx (by rw [upd_ne h2] at h1; exact h1)
end
section
variable {g : Prg} {Γ : Sx} {a : Expr} {fa : EF} {p pos : Pos}
theorem sv_setC {i : Nat} {x : Str} (hi : Γ.N[i]? = some x) (hl : locOk Γ x = true) (hpn : i ∉ Γ.pn) (hw : ∀ env : Env, env.scope = Γ.sc → swapsWith a (some (.Name x p)) pos.line env = pure false) (ha : EV g Γ a fa) : SV g Γ (.Assign [.Name x p] a pos) (sSet i fa) := fun X W F => by
  refine ⟨fun pins s σ H D I q => (ps_set F.nd (by rw [F.N]; exact hi) ?_ (ha X W F) (hw _ F.sc) ?_).run pins s σ H D I ?_⟩
  · unfold locOk at hl
    unfold L2.Loc
    rw [F.sc]
    split at hl
    · exact .inl ‹_›
    · exact .inr ‹_›
    · cases hl
  · unfold locOk at hl
    rw [F.sc]
    split at hl
    · exact .inr ‹_›
    · exact .inl (F.fn (by cases h : Γ.blk with | false => rfl | true => rw [h] at hl; cases hl) x)
    · cases hl
  · have hls : i < σ.length := len_of I (by rw [F.N]; exact hi)
    exact ofE_run q fun {H0 O ρ r} S e q v H0' H' O' B k hp S' T w => set_end hls hpn q k S' T w
end
end Pv

set_option maxRecDepth 100000
set_option maxHeartbeats 1000000
namespace T
open PySem PySem.Spec PyProof.Rows L2 Pv
/-! # typed models of mirrors -/
inductive M (α : Type) where
  | ok (a : α) | exc (c : Str) (fs : List (Str × PV)) | bad
variable {α β γ δ o τ : Type} {s : Type}
def M.bind (m : M α) (k : α → M β) : M β := match m with
  | .ok a => k a
  | .exc c fs => .exc c fs
  | .bad => .bad
@[simp] theorem M.bind_ok {a : α} {k : α → M β} : (M.ok a).bind k = k a := rfl
@[simp] theorem M.bind_exc {c : Str} {fs : List (Str × PV)} {k : α → M β} : (M.exc c fs).bind k = .exc c fs := rfl
@[simp] theorem M.bind_bad {k : α → M β} : (M.bad).bind k = .bad := rfl
@[simp] theorem M.bind_assoc {m : M α} {k : α → M β} {h : β → M γ} : (m.bind k).bind h = m.bind fun a => (k a).bind h := by cases m <;> rfl
@[simp] theorem M.bind_pure {m : M α} : m.bind .ok = m := by cases m <;> rfl
theorem M.ite_bind {c : Prop} [Decidable c] {m n : M α} {k : α → M β} : (if c then m else n).bind k = if c then m.bind k else n.bind k := by split <;> rfl
@[irreducible] def lt (a : α) (k : α → M β) : M β := k a
@[simp] theorem lt_eq {a : α} {k : α → M β} : lt a k = k a := by unfold lt; rfl
noncomputable def grd (c : Prop) (m : M α) : M α := @ite _ c (Classical.propDecidable c) m .bad
theorem grd_pos {c : Prop} {m : M α} (h : c) : grd c m = m := by unfold grd; rw [if_pos h]
theorem grd_neg {c : Prop} {m : M α} (h : ¬ c) : grd c m = .bad := by unfold grd; rw [if_neg h]
@[simp] theorem grd_true {m : M α} : grd True m = m := grd_pos trivial
@[simp] theorem grd_and {c d : Prop} {m : M α} : grd (c ∧ d) m = grd c (grd d m) := by
  by_cases h : c <;> by_cases k : d <;> simp [grd, h, k]
noncomputable def grds : List Prop → M α → M α
  | [], m => m
  | c :: cs, m => grd c (grds cs m)
def Al : List Prop → Prop
  | [] => True
  | c :: cs => c ∧ Al cs
theorem Al.app : ∀ {c d : List Prop}, Al (c ++ d) → Al c ∧ Al d
  | [], _, h => ⟨trivial, h⟩
  | _ :: _, _, ⟨h, k⟩ => ⟨⟨h, (Al.app k).1⟩, (Al.app k).2⟩
theorem Al.one {c : Prop} (h : Al [c]) : c := h.1
theorem grds_ok : ∀ {c : List Prop} {m : M α}, grds c m = m ∨ grds c m = .bad
  | [], _ => .inl rfl
  | c :: cs, m => by
    by_cases h : c
    · rw [show grds (c :: cs) m = grd c (grds cs m) from rfl, grd_pos h]; exact grds_ok
    · exact .inr (grd_neg h)
theorem grds_al : ∀ {c : List Prop} {m : M α}, grds c m = .bad ∨ (Al c ∧ grds c m = m)
  | [], _ => .inr ⟨trivial, rfl⟩
  | c :: cs, m => by
    by_cases h : c
    · rw [show grds (c :: cs) m = grd c (grds cs m) from rfl, grd_pos h]
      rcases grds_al (c := cs) (m := m) with k | ⟨k, e⟩
      · exact .inl k
      · exact .inr ⟨⟨h, k⟩, e⟩
    · exact .inl (grd_neg h)
/-- where an inner block ends: out of the outer one, or on -/
inductive Fl (o s : Type) where
  | rt (a : o) | go (x : s)
def Fl.cont (k : s → M o) : Fl o s → M o
  | .rt a => .ok a
  | .go x => k x
@[simp] theorem Fl.cont_rt {k : s → M o} {a : o} : Fl.cont k (.rt a) = .ok a := rfl
@[simp] theorem Fl.cont_go {k : s → M o} {x : s} : Fl.cont k (.go x) = k x := rfl
inductive Lp (s o : Type) where
  | nx (x : s) | bk (x : s) | rt (a : o)
def M.loop (f : s → α → M (Lp s o)) : List α → s → M (Fl o s)
  | [], x => .ok (.go x)
  | y :: ys, x => (f x y).bind fun r => match r with
    | .nx x => M.loop f ys x
    | .bk x => .ok (.go x)
    | .rt a => .ok (.rt a)
def M.fold (f : s → α → M s) : List α → s → M s
  | [], x => .ok x
  | y :: ys, x => (f x y).bind fun x => M.fold f ys x

class Enc (α : Type) where
  enc : α → PV
open Enc (enc)
instance : Enc Int := ⟨.int⟩
instance : Enc Bool := ⟨.bl⟩
instance : Enc Str := ⟨.str⟩
instance : Enc Unit := ⟨fun _ => .non⟩
instance : Enc PV := ⟨id⟩
instance [Enc α] : Enc (Option α) := ⟨fun a => match a with | none => .non | some a => enc a⟩
instance [Enc α] : Enc (List α) := ⟨fun l => .lst (l.map enc)⟩
instance [Enc α] [Enc β] : Enc (α × β) := ⟨fun a => .tup [enc a.1, enc a.2]⟩
structure T1 (α : Type) where
  a : α
  deriving DecidableEq, Inhabited
structure T3 (α β γ : Type) where
  a : α
  b : β
  c : γ
  deriving DecidableEq, Inhabited
structure T4 (α β γ δ : Type) where
  a : α
  b : β
  c : γ
  d : δ
  deriving DecidableEq, Inhabited
structure T5 (α β γ δ ε : Type) where
  a : α
  b : β
  c : γ
  d : δ
  e : ε
  deriving DecidableEq, Inhabited
structure T6 (α β γ δ ε ζ : Type) where
  a : α
  b : β
  c : γ
  d : δ
  e : ε
  f : ζ
  deriving DecidableEq, Inhabited
structure T7 (α β γ δ ε ζ η : Type) where
  a : α
  b : β
  c : γ
  d : δ
  e : ε
  f : ζ
  g : η
  deriving DecidableEq, Inhabited
/-- a tuple of any length -/
structure Tup (α : Type) where
  l : List α
  deriving DecidableEq, Inhabited
/-- a tuple among the program's constants -/
structure CTup (α : Type) where
  l : List α
  deriving DecidableEq, Inhabited
/-- the script -/
structure CLst (α : Type) where
  l : List α
  deriving DecidableEq, Inhabited
instance [Enc α] : Enc (T1 α) := ⟨fun t => .tup [enc t.a]⟩
instance [Enc α] [Enc β] [Enc γ] : Enc (T3 α β γ) := ⟨fun t => .tup [enc t.a, enc t.b, enc t.c]⟩
instance [Enc α] [Enc β] [Enc γ] [Enc δ] : Enc (T4 α β γ δ) := ⟨fun t => .tup [enc t.a, enc t.b, enc t.c, enc t.d]⟩
instance {ε : Type} [Enc α] [Enc β] [Enc γ] [Enc δ] [Enc ε] : Enc (T5 α β γ δ ε) := ⟨fun t => .tup [enc t.a, enc t.b, enc t.c, enc t.d, enc t.e]⟩
instance {ε ζ : Type} [Enc α] [Enc β] [Enc γ] [Enc δ] [Enc ε] [Enc ζ] : Enc (T6 α β γ δ ε ζ) := ⟨fun t => .tup [enc t.a, enc t.b, enc t.c, enc t.d, enc t.e, enc t.f]⟩
instance {ε ζ η : Type} [Enc α] [Enc β] [Enc γ] [Enc δ] [Enc ε] [Enc ζ] [Enc η] : Enc (T7 α β γ δ ε ζ η) := ⟨fun t => .tup [enc t.a, enc t.b, enc t.c, enc t.d, enc t.e, enc t.f, enc t.g]⟩
instance [Enc α] : Enc (Tup α) := ⟨fun t => .tup (t.l.map enc)⟩
instance [Enc α] : Enc (CTup α) := ⟨fun t => .ctup (t.l.map enc)⟩
instance [Enc α] : Enc (CLst α) := ⟨fun t => .clst (t.l.map enc)⟩

/-! ## slots -/
abbrev SP := Option (Nat × PV) → Prop
def ex (o : Option (Nat × PV)) : SP := fun o' => o' = o
abbrev sv (l : Nat) (x : PV) : SP := ex (some (l, x))
/-- free: nothing owned in it -/
def fr : SP := fun o => ∀ n x, o = some (n, x) → n = 0 ∨ x.imm = true
def wd : SP := fun _ => True
def Mt : List SP → Ev → Prop
  | [], [] => True
  | p :: ps, o :: ρ => p o ∧ Mt ps ρ
  | _, _ => False
theorem Mt.get : ∀ {Γ : List SP} {ρ : Ev} {i : Nat} {p : SP}, Mt Γ ρ → Γ[i]? = some p → ∃ o, ρ[i]? = some o ∧ p o
  | [], _, i, _, _, e => by cases i <;> cases e
  | p :: ps, o :: ρ, 0, q, h, e => by cases e; exact ⟨o, rfl, h.1⟩
  | p :: ps, o :: ρ, i + 1, q, h, e => Mt.get (Γ := ps) (i := i) h.2 (by simpa using e)
theorem Mt.set : ∀ {Γ : List SP} {ρ : Ev} (i : Nat) {p : SP} {x : Option (Nat × PV)}, Mt Γ ρ → p x → Mt (Γ.set i p) (ρ.set i x)
  | [], [], _, _, _, h, _ => h
  | [], _ :: _, _, _, _, h, _ => h.elim
  | _ :: _, [], _, _, _, h, _ => h.elim
  | q :: ps, o :: ρ, 0, p, x, h, k => ⟨k, h.2⟩
  | q :: ps, o :: ρ, i + 1, p, x, h, k => ⟨h.1, Mt.set i h.2 k⟩
theorem Mt.len : ∀ {Γ : List SP} {ρ : Ev}, Mt Γ ρ → ρ.length = Γ.length
  | [], [], _ => rfl
  | [], _ :: _, h => h.elim
  | _ :: _, [], h => h.elim
  | _ :: ps, _ :: ρ, h => congrArg (· + 1) (Mt.len h.2)
def Imp (Γ Γ' : List SP) : Prop := ∀ ρ, Mt Γ ρ → Mt Γ' ρ
theorem imp_n : Imp [] [] := fun _ h => h
theorem imp_c {p q : SP} {Γ Γ' : List SP} (h : ∀ o, p o → q o) (t : Imp Γ Γ') : Imp (p :: Γ) (q :: Γ')
  | [], z => z.elim
  | _ :: ρ, z => ⟨h _ z.1, t ρ z.2⟩
theorem imp_r {Γ : List SP} : Imp Γ Γ := fun _ h => h
theorem i_id {p : SP} : ∀ o, p o → p o := fun _ h => h
theorem i_wd {p : SP} : ∀ o, p o → wd o := fun _ _ => trivial
theorem i_fr {x : PV} : ∀ o, sv 0 x o → fr o := fun _ e n y z => by rw [show _ = some (0, x) from e] at z; cases z; exact .inl rfl
theorem i_no : ∀ o, ex none o → fr o := fun _ e n y z => by rw [show _ = none from e] at z; cases z
theorem hlen {Γ : List SP} {n : Nat} (h : Γ.length = n) : ∀ ρ, Mt Γ ρ → ρ.length = n := fun _ z => z.len.trans h
end T

set_option maxRecDepth 100000
set_option maxHeartbeats 1000000
namespace T
open PySem PySem.Spec PyProof.Rows L2 Pv
open Enc (enc)
variable {α β γ δ o τ s : Type}
variable {Γ Γ1 Γ2 Γ3 : List SP} {f h : EF} {af : AF} {t u : TFn} {op : PO} {i l l1 l2 : Nat} {w w1 w2 p p1 p2 ow : Bool} {c c1 c2 c3 : List Prop} {x y z : PV} {vs : List (Nat × PV)}
/-! # what reads as a plain term
level l, a temporary (w), nothing changed (p), under the guards c the value x, then the slots Γ' -/
def EG (Γ : List SP) (f : EF) (l : Nat) (w p : Bool) (c : List Prop) (x : PV) (Γ' : List SP) : Prop :=
  Al c → ∀ ρ, Mt Γ ρ → ∃ pu ow ρ', f ρ = .ok ⟨pu, ow, l, x, ρ'⟩ ∧ (w = true → ow = true) ∧ (p = true → pu = true ∧ ρ' = ρ) ∧ Mt Γ' ρ'
def AG (Γ : List SP) (f : AF) (p : Bool) (c : List Prop) (vs : List (Nat × PV)) (Γ' : List SP) : Prop :=
  Al c → ∀ ρ, Mt Γ ρ → ∃ pu ρ', f ρ = .ok ⟨pu, vs, ρ'⟩ ∧ (p = true → pu = true ∧ ρ' = ρ) ∧ Mt Γ' ρ'
def TG (Γ : List SP) (f : TFn) (p : Bool) (c : List Prop) (b : Bool) (Γ' : List SP) : Prop :=
  Al c → ∀ ρ, Mt Γ ρ → ∃ pu ρ', f ρ = .ok ⟨pu, b, ρ'⟩ ∧ (p = true → pu = true ∧ ρ' = ρ) ∧ Mt Γ' ρ'
def IG (Γ : List SP) (f : IF') (c : List Prop) (xs : List PV) (Γ' : List SP) : Prop :=
  Al c → ∀ ρ, Mt Γ ρ → ∃ pu ρ', f ρ = .ok ⟨pu, xs, ρ'⟩ ∧ Mt Γ' ρ'
theorem eg_var (e : Γ[i]? = some (sv l x)) : EG Γ (eVar i) l false true [] x Γ := fun _ ρ h => by
  obtain ⟨q, e1, e2⟩ := h.get e
  have e2 : q = some (l, x) := e2
  subst e2
  exact ⟨true, false, ρ, by simp [e1], fun z => (nomatch z), fun _ => ⟨rfl, rfl⟩, h⟩
theorem eg_c : EG Γ (eC x) 0 true true [] x Γ := fun _ ρ h => ⟨true, true, ρ, rfl, fun _ => rfl, fun _ => ⟨rfl, rfl⟩, h⟩
theorem eg_frzv (e : Γ[i]? = some (sv l x)) : EG Γ (eFrzV i) 0 true false [] x (Γ.set i (sv 0 x)) := fun _ ρ h => by
  obtain ⟨q, e1, e2⟩ := h.get e
  have e2 : q = some (l, x) := e2
  subst e2
  exact ⟨l == 0, true, ρ.set i (some (0, x)), by simp [e1], fun _ => rfl, fun z => (nomatch z), h.set i rfl⟩
theorem set_self : ∀ {ρ : Ev} {i : Nat} {q : Option (Nat × PV)}, ρ[i]? = some q → ρ.set i q = ρ
  | o :: ρ, 0, q, e => by cases e; rfl
  | o :: ρ, i + 1, q, e => by rw [List.set_cons_succ, set_self (ρ := ρ) (by simpa using e)]
theorem eg_frzv0 (e : Γ[i]? = some (sv 0 x)) : EG Γ (eFrzV i) 0 true true [] x Γ := fun _ ρ h => by
  obtain ⟨q, e1, e2⟩ := h.get e
  have e2 : q = some (0, x) := e2
  subst e2
  exact ⟨true, true, ρ, by simp [e1, set_self e1], fun _ => rfl, fun _ => ⟨rfl, rfl⟩, h⟩
theorem eg_move (e : Γ[i]? = some (sv l x)) : EG Γ (eMove i) l true false [] x (Γ.set i (ex none)) := fun _ ρ h => by
  obtain ⟨q, e1, e2⟩ := h.get e
  have e2 : q = some (l, x) := e2
  subst e2
  exact ⟨true, true, ρ.set i none, by simp [e1], fun _ => rfl, fun z => (nomatch z), h.set i rfl⟩
theorem eg_frz (he : EG Γ f l w p c x Γ1) (hw : l = 0 ∨ w = true) : EG Γ (eFrz f) 0 w (p && l == 0) c x Γ1 := fun hc ρ h => by
  obtain ⟨pu, ow, ρ', e, e1, e2, e3⟩ := he hc ρ h
  by_cases ho : ow = true
  · subst ho
    refine ⟨pu && l == 0, true, ρ', by simp [e], fun _ => rfl, fun z => ?_, e3⟩
    rw [Bool.and_eq_true] at z
    exact ⟨by rw [(e2 z.1).1, z.2]; rfl, (e2 z.1).2⟩
  · rcases hw with rfl | hw
    · exact ⟨pu, ow, ρ', by simp [e, ho], e1, fun z => e2 (by simpa using z), e3⟩
    · exact absurd (e1 hw) ho
/-- the same value told otherwise -/
theorem eg_as (he : EG Γ f l w p c x Γ1) (hx : x = y) : EG Γ f l w p c y Γ1 := hx ▸ he
theorem eg_asg (he : EG Γ f l w p c x Γ1) (c' : List Prop) (hx : Al c' → x = y) : EG Γ f l w p (c ++ c') y Γ1 := fun hc => by
  obtain ⟨h1, h2⟩ := hc.app
  rw [← hx h2]
  exact he h1
theorem ag_nil : AG Γ aNil true [] [] Γ := fun _ ρ h => ⟨true, ρ, rfl, fun _ => ⟨rfl, rfl⟩, h⟩
theorem ag_cons (hf : EG Γ f l w p c x Γ1) (ha : AG Γ1 af p1 c1 vs Γ2) (hs : l = 0 ∨ w = true ∨ p1 = true) : AG Γ (aCons f af) (p && p1) (c ++ c1) ((l, x) :: vs) Γ2 := fun hc ρ h => by
  obtain ⟨h1, h2⟩ := hc.app
  obtain ⟨pu, ow, ρ', e, e1, e2, e3⟩ := hf h1 ρ h
  obtain ⟨pu', ρ2, q, q2, q3⟩ := ha h2 ρ' e3
  have st : ow = true ∨ l = 0 ∨ pu' = true := by
    rcases hs with z | z | z
    · exact .inr (.inl z)
    · exact .inl (e1 z)
    · exact .inr (.inr (q2 z).1)
  refine ⟨pu && pu', ρ2, ?_, fun z => ?_, q3⟩
  · simp only [z_acons, e, z_rb1, q, z_stays]
    rw [if_pos]
    rcases st with z | z | z <;> simp [z]
  · rw [Bool.and_eq_true] at z
    exact ⟨by rw [(e2 z.1).1, (q2 z.2).1]; rfl, by rw [(q2 z.2).2, (e2 z.1).2]⟩
theorem ag_consT {ty : PV → Bool} (hf : EG Γ f l w p c x Γ1) (hy : ty x = true) (ha : AG Γ1 af p1 c1 vs Γ2) (hs : l = 0 ∨ w = true ∨ p1 = true) : AG Γ (aConsT ty f af) (p && p1) (c ++ c1) ((l, x) :: vs) Γ2 := fun hc ρ h => by
  obtain ⟨h1, h2⟩ := hc.app
  obtain ⟨pu, ow, ρ', e, e1, e2, e3⟩ := hf h1 ρ h
  obtain ⟨pu', ρ2, q, q2, q3⟩ := ha h2 ρ' e3
  have st : ow = true ∨ l = 0 ∨ pu' = true := by
    rcases hs with z | z | z
    · exact .inr (.inl z)
    · exact .inl (e1 z)
    · exact .inr (.inr (q2 z).1)
  refine ⟨pu && pu', ρ2, ?_, fun z => ?_, q3⟩
  · simp only [z_aconsT, e, z_rb1, q, z_stays, hy, if_true]
    rw [if_pos]
    rcases st with z | z | z <;> simp [z]
  · rw [Bool.and_eq_true] at z
    exact ⟨by rw [(e2 z.1).1, (q2 z.2).1]; rfl, by rw [(q2 z.2).2, (e2 z.1).2]⟩
/-- a mutable argument: its slot is there -/
theorem ag_mut (e : Γ[i]? = some (sv l x)) (ha : AG Γ af p c vs Γ1) : AG Γ (aMut i af) p c ((0, .non) :: vs) Γ1 := fun hc ρ h => by
  obtain ⟨q, e1, e2⟩ := h.get e
  have e2 : q = some (l, x) := e2
  subst e2
  obtain ⟨pu, ρ', e3, e4, e5⟩ := ha hc ρ h
  exact ⟨pu, ρ', by unfold aMut; simp [e1, e3], e4, e5⟩
theorem eg_op (ha : AG Γ af p c vs Γ1) (ho : op vs = some ⟨ow, l, x⟩) : EG Γ (eOp op af) l ow p c x Γ1 := fun hc ρ h => by
  obtain ⟨pu, ρ', e, e2, e3⟩ := ha hc ρ h
  exact ⟨pu, ow, ρ', by simp [e, ho], fun z => z, e2, e3⟩
theorem eg_opg (ha : AG Γ af p c vs Γ1) (c' : List Prop) (ho : Al c' → op vs = some ⟨ow, l, x⟩) : EG Γ (eOp op af) l ow p (c ++ c') x Γ1 := fun hc ρ h => by
  obtain ⟨h1, h2⟩ := hc.app
  exact eg_op ha (ho h2) h1 ρ h
theorem eg_isi {T : String} {b : Bool} (he : EG Γ f l w p c x Γ1) (hb : ((x.tyName).bind fun t => kitB t T) = some b) : EG Γ (eIsi T f) 0 true p c (.bl b) Γ1 := fun hc ρ h => by
  obtain ⟨pu, ow, ρ', e, e1, e2, e3⟩ := he hc ρ h
  exact ⟨pu, true, ρ', by simp [e, hb], fun _ => rfl, e2, e3⟩
theorem eg_dnew : EG Γ eDNew 1 true false [] (.dic []) Γ := fun _ ρ h => ⟨true, true, ρ, rfl, fun _ => rfl, fun z => (nomatch z), h⟩
theorem eg_not {b : Bool} (ht : TG Γ t p c b Γ1) : EG Γ (eNotF t) 0 true p c (.bl (!b)) Γ1 := fun hc ρ h => by
  obtain ⟨pu, ρ', e, e2, e3⟩ := ht hc ρ h
  exact ⟨pu, true, ρ', by simp [e], fun _ => rfl, e2, e3⟩
theorem eg_and {a b : Bool} (hf : EG Γ f 0 w p c (.bl a) Γ1) (hh : EG Γ1 h 0 w1 p1 c1 (.bl b) Γ1) : EG Γ (eSeqF true f h) 0 (w && w1) (p && p1) (c ++ [a = true → Al c1]) (.bl (a && b)) Γ1 := fun hc ρ z => by
  obtain ⟨h1, h2⟩ := hc.app
  obtain ⟨pu, ow, ρ', e, e1, e2, e3⟩ := hf h1 ρ z
  cases a with
  | false => exact ⟨pu, ow, ρ', by simp [e], fun z => e1 (Bool.and_eq_true _ _ ▸ z).1, fun z => e2 (Bool.and_eq_true _ _ ▸ z).1, e3⟩
  | true =>
    obtain ⟨pu', ow', ρ2, q, q1, q2, q3⟩ := hh (h2.1 rfl) ρ' e3
    refine ⟨pu && pu', ow', ρ2, by simp [e, q], fun z => q1 (Bool.and_eq_true _ _ ▸ z).2, fun z => ?_, q3⟩
    rw [Bool.and_eq_true] at z
    exact ⟨by rw [(e2 z.1).1, (q2 z.2).1]; rfl, by rw [(q2 z.2).2, (e2 z.1).2]⟩
theorem eg_or {a b : Bool} (hf : EG Γ f 0 w p c (.bl a) Γ1) (hh : EG Γ1 h 0 w1 p1 c1 (.bl b) Γ1) : EG Γ (eSeqF false f h) 0 (w && w1) (p && p1) (c ++ [a = false → Al c1]) (.bl (a || b)) Γ1 := fun hc ρ z => by
  obtain ⟨h1, h2⟩ := hc.app
  obtain ⟨pu, ow, ρ', e, e1, e2, e3⟩ := hf h1 ρ z
  cases a with
  | true => exact ⟨pu, ow, ρ', by simp [e], fun z => e1 (Bool.and_eq_true _ _ ▸ z).1, fun z => e2 (Bool.and_eq_true _ _ ▸ z).1, e3⟩
  | false =>
    obtain ⟨pu', ow', ρ2, q, q1, q2, q3⟩ := hh (h2.1 rfl) ρ' e3
    refine ⟨pu && pu', ow', ρ2, by simp [e, q], fun z => q1 (Bool.and_eq_true _ _ ▸ z).2, fun z => ?_, q3⟩
    rw [Bool.and_eq_true] at z
    exact ⟨by rw [(e2 z.1).1, (q2 z.2).1]; rfl, by rw [(q2 z.2).2, (e2 z.1).2]⟩
theorem al_nil {q : Prop} : Al [q → Al []] := ⟨fun _ => trivial, trivial⟩
theorem eg_drop (he : EG Γ f l w p (c ++ c1) x Γ1) (h1 : Al c1) : EG Γ f l w p c x Γ1 := fun hc => he (by
  clear he
  induction c with
  | nil => exact h1
  | cons a r ih => exact ⟨hc.1, ih hc.2⟩)
theorem eg_and0 {a b : Bool} (hf : EG Γ f 0 w p c (.bl a) Γ1) (hh : EG Γ1 h 0 w1 p1 [] (.bl b) Γ1) : EG Γ (eSeqF true f h) 0 (w && w1) (p && p1) c (.bl (a && b)) Γ1 := eg_drop (eg_and hf hh) al_nil
theorem eg_or0 {a b : Bool} (hf : EG Γ f 0 w p c (.bl a) Γ1) (hh : EG Γ1 h 0 w1 p1 [] (.bl b) Γ1) : EG Γ (eSeqF false f h) 0 (w && w1) (p && p1) c (.bl (a || b)) Γ1 := eg_drop (eg_or hf hh) al_nil
theorem eg_if {b : Bool} (ht : TG Γ t p c b Γ1) (hf : EG Γ1 f l w p1 c1 x Γ2) (hh : EG Γ1 h l w1 p2 c2 y Γ2) : EG Γ (eIf t f h) l (w && w1) (p && (p1 && p2)) (c ++ [b = true → Al c1, b = false → Al c2]) (if b = true then x else y) Γ2 := fun hc ρ z => by
  obtain ⟨h1, h2, h3, _⟩ := hc.app
  obtain ⟨pu, ρ', e, e2, e3⟩ := ht h1 ρ z
  have key : ∀ {f : EF} {w p1 : Bool} {c : List Prop} {x : PV} (hf : EG Γ1 f l w p1 c x Γ2) (hc : Al c), ∃ pu' ow' ρ2, (f ρ').bind (fun r' => Res.ok (⟨pu && r'.pu, r'.ow, r'.lv, r'.x, r'.ρ⟩ : Rr)) = Res.ok (⟨pu && pu', ow', l, x, ρ2⟩ : Rr) ∧ (w = true → ow' = true) ∧ (p = true ∧ p1 = true → (pu && pu') = true ∧ ρ2 = ρ) ∧ Mt Γ2 ρ2 := fun hf hc => by
    obtain ⟨pu', ow', ρ2, q, q1, q2, q3⟩ := hf hc ρ' e3
    exact ⟨pu', ow', ρ2, by simp [q], q1, fun z => ⟨by rw [(e2 z.1).1, (q2 z.2).1]; rfl, by rw [(q2 z.2).2, (e2 z.1).2]⟩, q3⟩
  cases b with
  | true =>
    obtain ⟨pu', ow', ρ2, q, q1, q2, q3⟩ := key hf (h2 rfl)
    refine ⟨pu && pu', ow', ρ2, by unfold eIf; simp only [e, z_rb1, if_true]; exact q, fun z => q1 (Bool.and_eq_true _ _ ▸ z).1, fun z => ?_, q3⟩
    simp only [Bool.and_eq_true] at z
    exact q2 ⟨z.1, z.2.1⟩
  | false =>
    obtain ⟨pu', ow', ρ2, q, q1, q2, q3⟩ := key hh (h3 rfl)
    refine ⟨pu && pu', ow', ρ2, by unfold eIf; simp only [e, z_rb1]; rw [if_neg (by decide)]; exact q, fun z => q1 (Bool.and_eq_true _ _ ▸ z).2, fun z => ?_, q3⟩
    simp only [Bool.and_eq_true] at z
    exact q2 ⟨z.1, z.2.2⟩
theorem enc_ite [Enc α] {b : Bool} {a a' : α} : (if b = true then enc a else enc a') = enc (if b = true then a else a') := by cases b <;> rfl
theorem eg_ift [Enc α] {a a' : α} {b : Bool} (ht : TG Γ t p c b Γ1) (hf : EG Γ1 f l w p1 c1 (enc a) Γ2) (hh : EG Γ1 h l w1 p2 c2 (enc a') Γ2) : EG Γ (eIf t f h) l (w && w1) (p && (p1 && p2)) (c ++ [b = true → Al c1, b = false → Al c2]) (enc (if b = true then a else a')) Γ2 := eg_as (eg_if ht hf hh) enc_ite
theorem eg_ift0 [Enc α] {a a' : α} {b : Bool} (ht : TG Γ t p c b Γ1) (hf : EG Γ1 f l w p1 [] (enc a) Γ2) (hh : EG Γ1 h l w1 p2 [] (enc a') Γ2) : EG Γ (eIf t f h) l (w && w1) (p && (p1 && p2)) c (enc (if b = true then a else a')) Γ2 := eg_drop (eg_ift ht hf hh) ⟨fun _ => trivial, fun _ => trivial, trivial⟩
/-! chains a < b <= c -/
theorem eg_chain {po po' : PO} {g : EF} {b d : Bool} (ha : AG Γ (aCons f (aCons h aNil)) p c [(0, x), (0, y)] Γ1) (ho : po [(0, x), (0, y)] = some ⟨ow, l, .bl b⟩) (hg : EG Γ1 g 0 w p1 c1 z Γ1) (ho' : po' [(0, y), (0, z)] = some ⟨true, 0, .bl d⟩) :
    EG Γ (eChain po po' f h g) 0 true (p && p1) (c ++ [b = true → Al c1]) (.bl (b && d)) Γ1 := fun hc ρ q => by
  obtain ⟨h1, h2⟩ := hc.app
  obtain ⟨pu, ρ', e, e2, e3⟩ := ha h1 ρ q
  cases b with
  | false => exact ⟨pu, true, ρ', by unfold eChain; simp only [e, z_rb1, ho, if_neg (show ¬ (false = true) by decide)]; rfl, fun _ => rfl, fun z => e2 (Bool.and_eq_true _ _ ▸ z).1, e3⟩
  | true =>
    obtain ⟨pu', ow', ρ2, q, q1, q2, q3⟩ := hg (h2.1 rfl) ρ' e3
    refine ⟨pu && pu', true, ρ2, by unfold eChain; simp only [e, z_rb1, ho, if_true, z_sho, q, ho']; rfl, fun _ => rfl, fun z => ?_, q3⟩
    rw [Bool.and_eq_true] at z
    exact ⟨by rw [(e2 z.1).1, (q2 z.2).1]; rfl, by rw [(q2 z.2).2, (e2 z.1).2]⟩
theorem eg_chain0 {po po' : PO} {g : EF} {b d : Bool} (ha : AG Γ (aCons f (aCons h aNil)) p c [(0, x), (0, y)] Γ1) (ho : po [(0, x), (0, y)] = some ⟨ow, l, .bl b⟩) (hg : EG Γ1 g 0 w p1 [] z Γ1) (ho' : po' [(0, y), (0, z)] = some ⟨true, 0, .bl d⟩) :
    EG Γ (eChain po po' f h g) 0 true (p && p1) c (.bl (b && d)) Γ1 := eg_drop (eg_chain ha ho hg ho') al_nil
/-! tests -/
theorem tg_of {b : Bool} (he : EG Γ f l w p c x Γ1) (hb : x.tru = some b) : TG Γ (tOf f) p c b Γ1 := fun hc ρ h => by
  obtain ⟨pu, ow, ρ', e, e1, e2, e3⟩ := he hc ρ h
  exact ⟨pu, ρ', by simp [e, hb], e2, e3⟩
theorem tg_ofg {b : Bool} (he : EG Γ f l w p c x Γ1) (c' : List Prop) (hb : Al c' → x.tru = some b) : TG Γ (tOf f) p (c ++ c') b Γ1 := fun hc ρ h => by
  obtain ⟨h1, h2⟩ := hc.app
  exact tg_of he (hb h2) h1 ρ h
theorem tg_not {b : Bool} (ht : TG Γ t p c b Γ1) : TG Γ (tNotF t) p c (!b) Γ1 := fun hc ρ h => by
  obtain ⟨pu, ρ', e, e2, e3⟩ := ht hc ρ h
  exact ⟨pu, ρ', by simp [e], e2, e3⟩
theorem tg_true : TG Γ tsTrue true [] true Γ := fun _ ρ h => ⟨true, ρ, rfl, fun _ => ⟨rfl, rfl⟩, h⟩
theorem tg_drop {b : Bool} (he : TG Γ t p (c ++ c1) b Γ1) (h1 : Al c1) : TG Γ t p c b Γ1 := fun hc => he (by
  clear he
  induction c with
  | nil => exact h1
  | cons a r ih => exact ⟨hc.1, ih hc.2⟩)
theorem tg_and {a b : Bool} (hf : TG Γ t p c a Γ1) (hh : TG Γ1 u p1 c1 b Γ1) : TG Γ (tSeqF true t u) (p && p1) (c ++ [a = true → Al c1]) (a && b) Γ1 := fun hc ρ z => by
  obtain ⟨h1, h2⟩ := hc.app
  obtain ⟨pu, ρ', e, e2, e3⟩ := hf h1 ρ z
  cases a with
  | false => exact ⟨pu, ρ', by simp [e], fun z => e2 (Bool.and_eq_true _ _ ▸ z).1, e3⟩
  | true =>
    obtain ⟨pu', ρ2, q, q2, q3⟩ := hh (h2.1 rfl) ρ' e3
    refine ⟨pu && pu', ρ2, by simp [e, q], fun z => ?_, q3⟩
    rw [Bool.and_eq_true] at z
    exact ⟨by rw [(e2 z.1).1, (q2 z.2).1]; rfl, by rw [(q2 z.2).2, (e2 z.1).2]⟩
theorem tg_or {a b : Bool} (hf : TG Γ t p c a Γ1) (hh : TG Γ1 u p1 c1 b Γ1) : TG Γ (tSeqF false t u) (p && p1) (c ++ [a = false → Al c1]) (a || b) Γ1 := fun hc ρ z => by
  obtain ⟨h1, h2⟩ := hc.app
  obtain ⟨pu, ρ', e, e2, e3⟩ := hf h1 ρ z
  cases a with
  | true => exact ⟨pu, ρ', by simp [e], fun z => e2 (Bool.and_eq_true _ _ ▸ z).1, e3⟩
  | false =>
    obtain ⟨pu', ρ2, q, q2, q3⟩ := hh (h2.1 rfl) ρ' e3
    refine ⟨pu && pu', ρ2, by simp [e, q], fun z => ?_, q3⟩
    rw [Bool.and_eq_true] at z
    exact ⟨by rw [(e2 z.1).1, (q2 z.2).1]; rfl, by rw [(q2 z.2).2, (e2 z.1).2]⟩
theorem tg_and0 {a b : Bool} (hf : TG Γ t p c a Γ1) (hh : TG Γ1 u p1 [] b Γ1) : TG Γ (tSeqF true t u) (p && p1) c (a && b) Γ1 := tg_drop (tg_and hf hh) al_nil
theorem tg_or0 {a b : Bool} (hf : TG Γ t p c a Γ1) (hh : TG Γ1 u p1 [] b Γ1) : TG Γ (tSeqF false t u) (p && p1) c (a || b) Γ1 := tg_drop (tg_or hf hh) al_nil
/-! sources -/
theorem ig_any {xs : List PV} (he : EG Γ f l w p c x Γ1) (hx : x = .tup xs ∨ x = .ctup xs ∨ x = .clst xs ∨ (x = .lst xs ∧ (l = 0 ∨ (l = 1 ∧ w = true)))) : IG Γ (iAny f) c xs Γ1 := fun hc ρ h => by
  obtain ⟨pu, ow, ρ', e, e1, e2, e3⟩ := he hc ρ h
  refine ⟨pu, ρ', ?_, e3⟩
  rcases hx with rfl | rfl | rfl | ⟨rfl, hx⟩
  · simp [e]
  · simp [e]
  · simp [e]
  · simp only [z_any, e, z_rb1]
    rw [if_pos]
    rcases hx with z | ⟨z, z2⟩
    · exact .inl z
    · exact .inr ⟨e1 z2, z⟩
theorem ig_anyD {xs : List PV} (he : EG Γ f l w p c x Γ1) (hx : x = .tup xs ∨ x = .ctup xs ∨ x = .clst xs ∨ (x = .lst xs ∧ (l = 0 ∨ (l = 1 ∧ w = true)))) : IG Γ (iAnyD f) c xs Γ1 := fun hc ρ h => by
  obtain ⟨pu, ow, ρ', e, e1, e2, e3⟩ := he hc ρ h
  refine ⟨pu, ρ', ?_, e3⟩
  unfold iAnyD
  rcases hx with rfl | rfl | rfl | ⟨rfl, hx⟩
  · simp [e]
  · simp [e]
  · simp [e]
  · simp only [z_any, e, z_rb1]
    rw [if_pos]
    rcases hx with z | ⟨z, z2⟩
    · exact .inl z
    · exact .inr ⟨e1 z2, z⟩
theorem ig_str {z : Str} (he : EG Γ f l w p c (.str z) Γ1) : IG Γ (iAny f) c (strIt z) Γ1 := fun hc ρ h => by
  obtain ⟨pu, ow, ρ', e, e1, e2, e3⟩ := he hc ρ h
  exact ⟨pu, ρ', by simp [e], e3⟩
theorem ig_strD {z : Str} (he : EG Γ f l w p c (.str z) Γ1) : IG Γ (iAnyD f) c (strIt z) Γ1 := fun hc ρ h => by
  obtain ⟨pu, ow, ρ', e, e1, e2, e3⟩ := he hc ρ h
  exact ⟨pu, ρ', by unfold iAnyD; simp [e], e3⟩
theorem ig_dic {kvs : List (DK × PV)} (he : EG Γ f 0 w p c (.dic kvs) Γ1) : IG Γ (iAnyD f) c (kvs.map fun p => dkP p.1) Γ1 := fun hc ρ h => by
  obtain ⟨pu, ow, ρ', e, e1, e2, e3⟩ := he hc ρ h
  exact ⟨pu, ρ', by unfold iAnyD; simp [e], e3⟩
theorem ig_range {g : List (Nat × PV) → Option (List PV)} {xs : List PV} (ha : AG Γ af p c vs Γ1) (c' : List Prop) (hg : Al c' → g vs = some xs) : IG Γ (iRange g af) (c ++ c') xs Γ1 := fun hc ρ h => by
  obtain ⟨h1, h2⟩ := hc.app
  obtain ⟨pu, ρ', e, e2, e3⟩ := ha h1 ρ h
  exact ⟨pu, ρ', by simp [e, hg h2], e3⟩
theorem ig_range0 {g : List (Nat × PV) → Option (List PV)} {xs : List PV} (ha : AG Γ af p c vs Γ1) (hg : g vs = some xs) : IG Γ (iRange g af) c xs Γ1 := fun hc ρ h => by
  obtain ⟨pu, ρ', e, e2, e3⟩ := ha hc ρ h
  exact ⟨pu, ρ', by simp [e, hg], e3⟩
/-- the ints from lo below hi -/
def rng (lo hi : Int) : List Int := (List.range (hi - lo).toNat).map fun (k : Nat) => lo + (k : Int)
theorem rngL_rng {lo hi : Int} : rngL lo (hi - lo).toNat 1 = (rng lo hi).map enc := by
  unfold rngL rng
  rw [List.map_map]
  refine List.map_congr_left fun k _ => ?_
  show PV.int (lo + (k : Int) * 1) = PV.int (lo + (k : Int))
  rw [Int.mul_one]
def rngD (lo hi : Int) : List Int := (List.range (lo - hi).toNat).map fun (k : Nat) => lo - (k : Int)
theorem rngL_rngD {lo hi : Int} : rngL lo (lo - hi).toNat (-1) = (rngD lo hi).map enc := by
  unfold rngL rngD
  rw [List.map_map]
  refine List.map_congr_left fun k _ => ?_
  show PV.int (lo + (k : Int) * (-1)) = PV.int (lo - (k : Int))
  congr 1
  omega
/-- a small int -/
def Sm (k : Int) : Prop := -2000000000 ≤ k ∧ k ≤ 2000000000
theorem g_rng1 {k : Int} (h : Sm k) : rngA1 [(l, .int k)] = some ((rng 0 k).map enc) := by
  rw [z_rng1, if_pos (r62_ok h.1 h.2), ← rngL_rng]
  simp
theorem g_rng2 {j k : Int} (hj : Sm j) (h : Sm k) : rngA2 [(l, .int j), (l1, .int k)] = some ((rng j k).map enc) := by
  rw [z_rng2, if_pos ⟨r62_ok hj.1 hj.2, r62_ok h.1 h.2⟩, ← rngL_rng]
theorem g_rng3 {j k : Int} (hj : Sm j) (h : Sm k) : rngA3 [(l, .int j), (l1, .int k), (l2, .int (-1))] = some ((rngD j k).map enc) := by
  rw [← rngL_rngD]
  show (if r62 j = true ∧ r62 k = true then some (rngL j (j - k).toNat (-1)) else none) = _
  rw [if_pos ⟨r62_ok hj.1 hj.2, r62_ok h.1 h.2⟩]
/-! targets -/
def BG (Γ : List SP) (bf : BF) (x : PV) (Γ' : List SP) : Prop := ∀ ρ, Mt Γ ρ → ∃ ρ', bf x ρ = some ρ' ∧ Mt Γ' ρ'
theorem bg_name : BG Γ (bName i) x (Γ.set i (sv 0 x)) := fun ρ h => ⟨_, rfl, h.set i rfl⟩
def setsP : List Nat → List PV → List SP → List SP
  | i :: is, x :: xs, Γ => setsP is xs (Γ.set i (sv 0 x))
  | _, _, Γ => Γ
theorem bg_names : ∀ {is : List Nat} {xs : List PV} {Γ : List SP} {ρ : Ev}, is.length = xs.length → Mt Γ ρ → ∃ ρ', bNames is xs ρ = some ρ' ∧ Mt (setsP is xs Γ) ρ'
  | [], [], Γ, ρ, _, h => ⟨ρ, rfl, h⟩
  | i :: is, x :: xs, Γ, ρ, e, h => bg_names (is := is) (xs := xs) (by simpa using e) (h.set i (p := sv 0 x) rfl)
  | [], _ :: _, _, _, e, _ => nomatch e
  | _ :: _, [], _, _, e, _ => nomatch e
theorem bg_tup {is : List Nat} {xs : List PV} (e : is.length = xs.length) : BG Γ (bTup is) (.tup xs) (setsP is xs Γ) := fun ρ h => by
  obtain ⟨ρ', e, h'⟩ := bg_names e h
  exact ⟨ρ', e, h'⟩
theorem bg_ctup {is : List Nat} {xs : List PV} (e : is.length = xs.length) : BG Γ (bTup is) (.ctup xs) (setsP is xs Γ) := fun ρ h => by
  obtain ⟨ρ', e, h'⟩ := bg_names e h
  exact ⟨ρ', e, h'⟩
end T

set_option maxRecDepth 100000
set_option maxHeartbeats 1000000
namespace T
open PySem PySem.Spec PyProof.Rows L2 Pv
open Enc (enc)
variable {α β γ δ o o' τ s : Type}
variable {Γ Γ1 Γ2 Γ3 : List SP} {f h : EF} {af : AF} {t u : TFn} {op : PO} {i l l1 l2 n : Nat} {w w1 w2 p p1 p2 ow pu b d : Bool} {c c1 c2 c3 : List Prop} {x y z : PV} {vs : List (Nat × PV)}
variable {F G A B : SF} {m m' m1 m2 : M o} {Q : o → SR → Prop} {E : Ev → Prop} {K : Rr → SR}
/-! # statements -/
def Sim (S : SR) (m : M o) (Q : o → SR → Prop) (E : Ev → Prop) : Prop := match m with
  | .ok a => Q a S
  | .exc c fs => ∃ ρ, S = .exc c fs ρ ∧ E ρ
  | .bad => True
def SJ (Γ : List SP) (F : SF) (m : M o) (Q : o → SR → Prop) (E : Ev → Prop) : Prop := ∀ ρ, Mt Γ ρ → Sim (F ρ) m Q E
theorem Sim.grds {S : SR} (hm : m = grds c m') (h : Al c → Sim S m' Q E) : Sim S m Q E := by
  subst hm
  rcases grds_al (c := c) (m := m') with e | ⟨k, e⟩
  · rw [e]; trivial
  · rw [e]; exact h k
def ofA (r : Res Ar) (k : Ar → SR) : SR := match r with
  | .ok r => k r
  | .exc c fs ρ => .exc c fs ρ
  | .bad => .bad
def CE (Γ : List SP) (f : EF) (K : Rr → SR) (m : M o) (Q : o → SR → Prop) (E : Ev → Prop) : Prop := ∀ ρ, Mt Γ ρ → Sim (ofE (f ρ) K) m Q E
def CA (Γ : List SP) (f : AF) (K : Ar → SR) (m : M o) (Q : o → SR → Prop) (E : Ev → Prop) : Prop := ∀ ρ, Mt Γ ρ → Sim (ofA (f ρ) K) m Q E
def CT (Γ : List SP) (f : TFn) (K : Tr → SR) (m : M o) (Q : o → SR → Prop) (E : Ev → Prop) : Prop := ∀ ρ, Mt Γ ρ → Sim (ofT (f ρ) K) m Q E
def CI (Γ : List SP) (f : IF') (K : Ir → SR) (m : M o) (Q : o → SR → Prop) (E : Ev → Prop) : Prop := ∀ ρ, Mt Γ ρ → Sim (ofI (f ρ) K) m Q E
def KE (K : Rr → SR) (l : Nat) (w : Bool) (x : PV) (Γ : List SP) (m : M o) (Q : o → SR → Prop) (E : Ev → Prop) : Prop := ∀ pu ow ρ, (w = true → ow = true) → Mt Γ ρ → Sim (K ⟨pu, ow, l, x, ρ⟩) m Q E
def KA (K : Ar → SR) (vs : List (Nat × PV)) (Γ : List SP) (m : M o) (Q : o → SR → Prop) (E : Ev → Prop) : Prop := ∀ pu ρ, Mt Γ ρ → Sim (K ⟨pu, vs, ρ⟩) m Q E
def KT (K : Tr → SR) (b : Bool) (Γ : List SP) (m : M o) (Q : o → SR → Prop) (E : Ev → Prop) : Prop := ∀ pu ρ, Mt Γ ρ → Sim (K ⟨pu, b, ρ⟩) m Q E
def KI (K : Ir → SR) (xs : List PV) (Γ : List SP) (m : M o) (Q : o → SR → Prop) (E : Ev → Prop) : Prop := ∀ pu ρ, Mt Γ ρ → Sim (K ⟨pu, xs, ρ⟩) m Q E
theorem ce_g (he : EG Γ f l w p c x Γ1) (hm : m = grds c m') (hk : KE K l w x Γ1 m' Q E) : CE Γ f K m Q E := fun ρ h => .grds hm fun hc => by
  obtain ⟨pu, ow, ρ', e, e1, e2, e3⟩ := he hc ρ h
  rw [e]
  exact hk pu ow ρ' e1 e3
theorem ce_g0 (he : EG Γ f l w p [] x Γ1) (hk : KE K l w x Γ1 m Q E) : CE Γ f K m Q E := ce_g he rfl hk
theorem ca_g {K : Ar → SR} (he : AG Γ af p c vs Γ1) (hm : m = grds c m') (hk : KA K vs Γ1 m' Q E) : CA Γ af K m Q E := fun ρ h => .grds hm fun hc => by
  obtain ⟨pu, ρ', e, e2, e3⟩ := he hc ρ h
  rw [e]
  exact hk pu ρ' e3
theorem ca_g0 {K : Ar → SR} (he : AG Γ af p [] vs Γ1) (hk : KA K vs Γ1 m Q E) : CA Γ af K m Q E := ca_g he rfl hk
theorem ct_g {K : Tr → SR} (he : TG Γ t p c b Γ1) (hm : m = grds c m') (hk : KT K b Γ1 m' Q E) : CT Γ t K m Q E := fun ρ h => .grds hm fun hc => by
  obtain ⟨pu, ρ', e, e2, e3⟩ := he hc ρ h
  rw [e]
  exact hk pu ρ' e3
theorem ct_g0 {K : Tr → SR} (he : TG Γ t p [] b Γ1) (hk : KT K b Γ1 m Q E) : CT Γ t K m Q E := ct_g he rfl hk
theorem ci_g {K : Ir → SR} {sr : IF'} {xs : List PV} (he : IG Γ sr c xs Γ1) (hm : m = grds c m') (hk : KI K xs Γ1 m' Q E) : CI Γ sr K m Q E := fun ρ h => .grds hm fun hc => by
  obtain ⟨pu, ρ', e, e3⟩ := he hc ρ h
  rw [e]
  exact hk pu ρ' e3
theorem ci_g0 {K : Ir → SR} {sr : IF'} {xs : List PV} (he : IG Γ sr [] xs Γ1) (hk : KI K xs Γ1 m Q E) : CI Γ sr K m Q E := ci_g he rfl hk
/-! operators over readings that call -/
def kOp (op : PO) (K : Rr → SR) : Ar → SR := fun a => match op a.vs with
  | some q => K ⟨a.pu, q.ow, q.lv, q.x, a.ρ⟩
  | none => .bad
theorem ce_op (ha : CA Γ af (kOp op K) m Q E) : CE Γ (eOp op af) K m Q E := fun ρ h => by
  have := ha ρ h
  rw [show ofE (eOp op af ρ) K = ofA (af ρ) (kOp op K) by
    unfold eOp
    cases af ρ with
    | ok a =>
      show ofE (match op a.vs with | some q => Res.ok ⟨a.pu, q.ow, q.lv, q.x, a.ρ⟩ | none => .bad) K = kOp op K a
      unfold kOp
      cases op a.vs <;> rfl
    | exc => rfl
    | bad => rfl]
  exact this
theorem ka_op (ho : op vs = some ⟨ow, l, x⟩) (hk : KE K l ow x Γ m Q E) : KA (kOp op K) vs Γ m Q E := fun pu ρ h => by
  unfold kOp
  simp only [ho]
  exact hk pu ow ρ (fun z => z) h
theorem ka_opg (c : List Prop) (ho : Al c → op vs = some ⟨ow, l, x⟩) (hm : m = grds c m') (hk : KE K l ow x Γ m' Q E) : KA (kOp op K) vs Γ m Q E := fun pu ρ h => .grds hm fun hc => ka_op (ho hc) hk pu ρ h
def kCons (af : AF) (K : Ar → SR) : Rr → SR := fun r => ofA (af r.ρ) fun a => if stays r a.pu = true then K ⟨r.pu && a.pu, (r.lv, r.x) :: a.vs, a.ρ⟩ else .bad
def kAdd (pu : Bool) (l : Nat) (x : PV) (K : Ar → SR) : Ar → SR := fun a => K ⟨pu && a.pu, (l, x) :: a.vs, a.ρ⟩
theorem ca_cons {K : Ar → SR} (hf : CE Γ f (kCons af K) m Q E) : CA Γ (aCons f af) K m Q E := fun ρ h => by
  have := hf ρ h
  rw [show ofA (aCons f af ρ) K = ofE (f ρ) (kCons af K) by
    unfold aCons
    cases f ρ with
    | ok r =>
      show ofA ((af r.ρ).bind _) K = ofA (af r.ρ) _
      cases af r.ρ with
      | ok a =>
        show ofA (if stays r a.pu = true then _ else _) K = if stays r a.pu = true then _ else _
        split <;> rfl
      | exc => rfl
      | bad => rfl
    | exc => rfl
    | bad => rfl]
  exact this
theorem ke_cons {K : Ar → SR} (hs : l = 0 ∨ w = true) (ha : ∀ pu, CA Γ af (kAdd pu l x K) m Q E) : KE (kCons af K) l w x Γ m Q E := fun pu ow ρ ho h => by
  have := ha pu ρ h
  rw [show kCons af K ⟨pu, ow, l, x, ρ⟩ = ofA (af ρ) (kAdd pu l x K) by
    unfold kCons
    cases af ρ with
    | ok a =>
      show (if stays _ a.pu = true then _ else _) = _
      rw [if_pos]
      · rfl
      · rcases hs with z | z
        · simp [z]
        · simp [ho z]
    | exc => rfl
    | bad => rfl]
  exact this
theorem ka_add {K : Ar → SR} (hk : KA K ((l, x) :: vs) Γ m Q E) : KA (kAdd pu l x K) vs Γ m Q E := fun pu' ρ h => hk _ ρ h
theorem ca_nil {K : Ar → SR} (hk : KA K [] Γ m Q E) : CA Γ aNil K m Q E := fun ρ h => hk true ρ h
def kConsT (ty : PV → Bool) (af : AF) (K : Ar → SR) : Rr → SR := fun r => if ty r.x = true then kCons af K r else .bad
theorem ca_consT {ty : PV → Bool} {K : Ar → SR} (hf : CE Γ f (kConsT ty af K) m Q E) : CA Γ (aConsT ty f af) K m Q E := fun ρ h => by
  have := hf ρ h
  rw [show ofA (aConsT ty f af ρ) K = ofE (f ρ) (kConsT ty af K) by
    unfold aConsT
    cases f ρ with
    | ok r =>
      show ofA (if ty r.x = true then (af r.ρ).bind _ else _) K = if ty r.x = true then ofA (af r.ρ) _ else _
      split
      · cases af r.ρ with
        | ok a =>
          show ofA (if stays r a.pu = true then _ else _) K = if stays r a.pu = true then _ else _
          split <;> rfl
        | exc => rfl
        | bad => rfl
      · rfl
    | exc => rfl
    | bad => rfl]
  exact this
theorem ke_consT {ty : PV → Bool} {K : Ar → SR} (hy : ty x = true) (hs : l = 0 ∨ w = true) (ha : ∀ pu, CA Γ af (kAdd pu l x K) m Q E) : KE (kConsT ty af K) l w x Γ m Q E := fun pu ow ρ ho h => by
  unfold kConsT
  rw [if_pos hy]
  exact ke_cons hs ha pu ow ρ ho h
theorem ca_mut {K : Ar → SR} (e : Γ[i]? = some (sv l x)) (ha : CA Γ af (kAdd true 0 .non K) m Q E) : CA Γ (aMut i af) K m Q E := fun ρ h => by
  obtain ⟨q, e1, e2⟩ := h.get e
  have e2 : q = some (l, x) := e2
  subst e2
  have := ha ρ h
  rw [show ofA (aMut i af ρ) K = ofA (af ρ) (kAdd true 0 .non K) by
    unfold aMut
    simp only [e1]
    cases af ρ <;> simp [ofA, kAdd]]
  exact this
def kFrz (K : Rr → SR) : Rr → SR := fun r => if r.ow = true then K ⟨r.pu && r.lv == 0, true, 0, r.x, r.ρ⟩ else K r
theorem ce_frz (hf : CE Γ f (kFrz K) m Q E) : CE Γ (eFrz f) K m Q E := fun ρ h => by
  have := hf ρ h
  rw [show ofE (eFrz f ρ) K = ofE (f ρ) (kFrz K) by
    unfold eFrz
    cases f ρ with
    | ok r =>
      show ofE (if r.ow = true then _ else _) K = if r.ow = true then _ else _
      split <;> rfl
    | exc => rfl
    | bad => rfl]
  exact this
theorem ke_frz (hs : l = 0 ∨ w = true) (hk : KE K 0 w x Γ m Q E) : KE (kFrz K) l w x Γ m Q E := fun pu ow ρ ho h => by
  unfold kFrz
  by_cases z : ow = true
  · rw [if_pos z]
    exact hk _ true ρ (fun _ => rfl) h
  · rw [if_neg z]
    rcases hs with q | q
    · subst q; exact hk pu ow ρ ho h
    · exact absurd (ho q) z
/-! tests that call -/
def kOf (K : Tr → SR) : Rr → SR := fun r => match r.x.tru with
  | some b => K ⟨r.pu, b, r.ρ⟩
  | none => .bad
theorem ct_of {K : Tr → SR} (hf : CE Γ f (kOf K) m Q E) : CT Γ (tOf f) K m Q E := fun ρ h => by
  have := hf ρ h
  rw [show ofT (tOf f ρ) K = ofE (f ρ) (kOf K) by
    unfold tOf
    cases f ρ with
    | ok r =>
      show ofT (match r.x.tru with | some b => Res.ok ⟨r.pu, b, r.ρ⟩ | none => .bad) K = kOf K r
      unfold kOf
      cases r.x.tru <;> rfl
    | exc => rfl
    | bad => rfl]
  exact this
theorem ke_of {K : Tr → SR} (hb : x.tru = some b) (hk : KT K b Γ m Q E) : KE (kOf K) l w x Γ m Q E := fun pu ow ρ ho h => by
  unfold kOf
  simp only [hb]
  exact hk pu ρ h
theorem ke_ofg {K : Tr → SR} (c : List Prop) (hb : Al c → x.tru = some b) (hm : m = grds c m') (hk : KT K b Γ m' Q E) : KE (kOf K) l w x Γ m Q E := fun pu ow ρ ho h => .grds hm fun hc => ke_of (l := l) (w := w) (hb hc) hk pu ow ρ ho h
def kNot (K : Tr → SR) : Tr → SR := fun r => K ⟨r.pu, !r.b, r.ρ⟩
theorem ct_not {K : Tr → SR} (hf : CT Γ t (kNot K) m Q E) : CT Γ (tNotF t) K m Q E := fun ρ h => by
  have := hf ρ h
  rw [show ofT (tNotF t ρ) K = ofT (t ρ) (kNot K) by
    unfold tNotF
    cases t ρ <;> rfl]
  exact this
theorem kt_not {K : Tr → SR} (hk : KT K (!b) Γ m Q E) : KT (kNot K) b Γ m Q E := fun pu ρ h => hk pu ρ h
def kSeq (c : Bool) (u : TFn) (K : Tr → SR) : Tr → SR := fun r => if r.b = c then ofT (u r.ρ) (fun r' => K ⟨r.pu && r'.pu, r'.b, r'.ρ⟩) else K r
def kPu (pu : Bool) (K : Tr → SR) : Tr → SR := fun r => K ⟨pu && r.pu, r.b, r.ρ⟩
theorem kt_pu {K : Tr → SR} (hk : KT K b Γ m Q E) : KT (kPu pu K) b Γ m Q E := fun pu' ρ h => hk _ ρ h
theorem ct_seq {K : Tr → SR} (hf : CT Γ t (kSeq d u K) m Q E) : CT Γ (tSeqF d t u) K m Q E := fun ρ h => by
  have := hf ρ h
  rw [show ofT (tSeqF d t u ρ) K = ofT (t ρ) (kSeq d u K) by
    unfold tSeqF
    cases t ρ with
    | ok r =>
      show ofT (if r.b = d then (u r.ρ).bind _ else .ok r) K = if r.b = d then ofT (u r.ρ) _ else K r
      split
      · cases u r.ρ <;> rfl
      · rfl
    | exc => rfl
    | bad => rfl]
  exact this
theorem kt_and {K : Tr → SR} (hm : m = if b = true then m1 else m2) (hu : ∀ pu, CT Γ u (kPu pu K) m1 Q E) (h0 : KT K false Γ m2 Q E) : KT (kSeq true u K) b Γ m Q E := fun pu ρ h => by
  subst hm
  unfold kSeq
  cases b with
  | true => exact hu pu ρ h
  | false => exact h0 pu ρ h
theorem kt_or {K : Tr → SR} (hm : m = if b = true then m1 else m2) (hu : ∀ pu, CT Γ u (kPu pu K) m2 Q E) (h0 : KT K true Γ m1 Q E) : KT (kSeq false u K) b Γ m Q E := fun pu ρ h => by
  subst hm
  unfold kSeq
  cases b with
  | false => exact hu pu ρ h
  | true => exact h0 pu ρ h
/-! values of inner parts -/
def kVal : Rr → SR := fun r => .rt r.lv r.x r.ρ
def kValT : Tr → SR := fun r => .rt 0 (.bl r.b) r.ρ
def QV (l : Nat) (x : β → PV) (Γ : β → List SP) : β → SR → Prop := fun b S => ∃ ρ, S = .rt l (x b) ρ ∧ Mt (Γ b) ρ
theorem ke_val {a : β} {m : M β} {xf : β → PV} {Γf : β → List SP} (hm : m = .ok a) (hx : x = xf a) (hi : Imp Γ (Γf a)) : KE kVal l w x Γ m (QV l xf Γf) E := fun pu ow ρ ho h => by
  subst hm hx
  exact ⟨ρ, rfl, hi ρ h⟩
theorem kt_val {a : β} {m : M β} {xf : β → PV} {Γf : β → List SP} (hm : m = .ok a) (hx : .bl b = xf a) (hi : Imp Γ (Γf a)) : KT kValT b Γ m (QV 0 xf Γf) E := fun pu ρ h => by
  subst hm
  exact ⟨ρ, by rw [← hx]; rfl, hi ρ h⟩
theorem ce_join {mj : M β} {k : β → M o} {xf : β → PV} {Γf : β → List SP} (hj : CE Γ f kVal mj (QV l xf Γf) E) (hm : m = mj.bind k) (hk : ∀ a, KE K l false (xf a) (Γf a) (k a) Q E) : CE Γ f K m Q E := fun ρ h => by
  subst hm
  have hj := hj ρ h
  cases mj with
  | bad => trivial
  | ok a =>
    obtain ⟨ρ', e, h'⟩ := hj
    cases ef : f ρ with
    | ok r =>
      rw [ef] at e
      obtain ⟨rpu, row, rlv, rx, rρ⟩ := r
      have e : SR.rt rlv rx rρ = .rt l (xf a) ρ' := e
      cases e
      exact hk a rpu row _ (fun z => nomatch z) h'
    | exc => rw [ef] at e; cases e
    | bad => rw [ef] at e; cases e
  | exc cc fs =>
    obtain ⟨ρ', e, h'⟩ := hj
    cases ef : f ρ with
    | ok r => rw [ef] at e; cases e
    | exc => rw [ef] at e; cases e; exact ⟨_, rfl, h'⟩
    | bad => rw [ef] at e; cases e
theorem ct_join {K : Tr → SR} {mj : M β} {k : β → M o} {bf : β → Bool} {Γf : β → List SP} (hj : CT Γ t kValT mj (QV 0 (fun a => .bl (bf a)) Γf) E) (hm : m = mj.bind k) (hk : ∀ a, KT K (bf a) (Γf a) (k a) Q E) : CT Γ t K m Q E := fun ρ h => by
  subst hm
  have hj := hj ρ h
  cases mj with
  | bad => trivial
  | ok a =>
    obtain ⟨ρ', e, h'⟩ := hj
    cases ef : t ρ with
    | ok r =>
      rw [ef] at e
      obtain ⟨rpu, rb, rρ⟩ := r
      have e : SR.rt 0 (.bl rb) rρ = .rt 0 (.bl (bf a)) ρ' := e
      cases e
      exact hk a rpu _ h'
    | exc => rw [ef] at e; cases e
    | bad => rw [ef] at e; cases e
  | exc cc fs =>
    obtain ⟨ρ', e, h'⟩ := hj
    cases ef : t ρ with
    | ok r => rw [ef] at e; cases e
    | exc => rw [ef] at e; cases e; exact ⟨_, rfl, h'⟩
    | bad => rw [ef] at e; cases e
def kIf (g h : EF) (K : Rr → SR) : Tr → SR := fun r => ofE (if r.b = true then g r.ρ else h r.ρ) fun r' => K ⟨r.pu && r'.pu, r'.ow, r'.lv, r'.x, r'.ρ⟩
def kPuE (pu : Bool) (K : Rr → SR) : Rr → SR := fun r => K ⟨pu && r.pu, r.ow, r.lv, r.x, r.ρ⟩
theorem ke_pu (hk : KE K l w x Γ m Q E) : KE (kPuE pu K) l w x Γ m Q E := fun pu' ow ρ ho h => hk _ ow ρ ho h
theorem ce_if {g : EF} (ht : CT Γ t (kIf g h K) m Q E) : CE Γ (eIf t g h) K m Q E := fun ρ z => by
  have := ht ρ z
  rw [show ofE (eIf t g h ρ) K = ofT (t ρ) (kIf g h K) by
    unfold eIf
    cases t ρ with
    | ok r =>
      show ofE ((if r.b = true then g r.ρ else h r.ρ).bind _) K = kIf g h K r
      unfold kIf
      cases (if r.b = true then g r.ρ else h r.ρ) <;> rfl
    | exc => rfl
    | bad => rfl]
  exact this
theorem kt_if {g : EF} (hm : m = if b = true then m1 else m2) (hg : ∀ pu, CE Γ g (kPuE pu K) m1 Q E) (hh : ∀ pu, CE Γ h (kPuE pu K) m2 Q E) : KT (kIf g h K) b Γ m Q E := fun pu ρ z => by
  subst hm
  unfold kIf
  cases b with
  | true => exact hg pu ρ z
  | false => exact hh pu ρ z
def kNotE (K : Rr → SR) : Tr → SR := fun r => K ⟨r.pu, true, 0, .bl (!r.b), r.ρ⟩
theorem ce_not (ht : CT Γ t (kNotE K) m Q E) : CE Γ (eNotF t) K m Q E := fun ρ z => by
  have := ht ρ z
  rw [show ofE (eNotF t ρ) K = ofT (t ρ) (kNotE K) by
    unfold eNotF
    cases t ρ <;> rfl]
  exact this
theorem kt_notE (hk : KE K 0 true (.bl (!b)) Γ m Q E) : KT (kNotE K) b Γ m Q E := fun pu ρ z => hk pu true ρ (fun _ => rfl) z
def kSeqE (d : Bool) (h : EF) (K : Rr → SR) : Rr → SR := fun r => match r.x.tru with
  | none => .bad
  | some b => if b = d then ofE (h r.ρ) (fun r' => K ⟨r.pu && r'.pu, r'.ow, r'.lv, r'.x, r'.ρ⟩) else K r
theorem ce_seq (hf : CE Γ f (kSeqE d h K) m Q E) : CE Γ (eSeqF d f h) K m Q E := fun ρ z => by
  have := hf ρ z
  rw [show ofE (eSeqF d f h ρ) K = ofE (f ρ) (kSeqE d h K) by
    unfold eSeqF
    cases f ρ with
    | ok r =>
      show ofE (match r.x.tru with | none => .bad | some b => if b = d then (h r.ρ).bind _ else .ok r) K = kSeqE d h K r
      unfold kSeqE
      cases r.x.tru with
      | none => rfl
      | some b =>
        show ofE (if b = d then _ else _) K = if b = d then _ else _
        split
        · cases h r.ρ <;> rfl
        · rfl
    | exc => rfl
    | bad => rfl]
  exact this
theorem ke_and (hm : m = if b = true then m1 else m2) (hh : ∀ pu, CE Γ h (kPuE pu K) m1 Q E) (h0 : KE K l w (.bl false) Γ m2 Q E) : KE (kSeqE true h K) l w (.bl b) Γ m Q E := fun pu ow ρ ho z => by
  subst hm
  unfold kSeqE
  cases b with
  | true => exact hh pu ρ z
  | false => exact h0 pu ow ρ ho z
theorem ke_or (hm : m = if b = true then m1 else m2) (hh : ∀ pu, CE Γ h (kPuE pu K) m2 Q E) (h0 : KE K l w (.bl true) Γ m1 Q E) : KE (kSeqE false h K) l w (.bl b) Γ m Q E := fun pu ow ρ ho z => by
  subst hm
  unfold kSeqE
  cases b with
  | true => exact h0 pu ow ρ ho z
  | false => exact hh pu ρ z
/-! calls -/
def FJ (F : FF) (pvs : List PV) (l : Nat) (m : M β) (x : β → PV) : Prop := match m with
  | .ok a => F pvs = .ok l (x a) pvs
  | .exc c fs => F pvs = .exc c fs pvs
  | .bad => True
/-- with a mutable argument -/
def FJ1 (F : FF) (pvs : List PV) (l : Nat) (m : M β) (x : β → PV) (os : β → List PV) : Prop := ∀ a, m = .ok a → F pvs = .ok l (x a) (os a)
def M.noexc (m : M β) : M β := match m with
  | .ok a => .ok a
  | _ => .bad
@[simp] theorem noexc_ok {a : β} : (M.ok a).noexc = .ok a := rfl
def kCall (ms : List Nat) (sl : List (Option Nat)) (F : FF) (K : Rr → SR) : Ar → SR := fun a => match callIn ms sl a.vs a.ρ with
  | none => .bad
  | some (pvs, ρ') => match F pvs with
    | .ok lv x outs => if outs.length = ms.length then K ⟨a.pu && ms.all (· == 0), true, lv, x, callOut ms sl outs ρ'⟩ else .bad
    | .exc c fs outs => if outs.length = ms.length then .exc c fs (callOut ms sl outs ρ') else .bad
    | .bad => .bad
theorem ce_call {ms : List Nat} {sl : List (Option Nat)} {g : FF} (ha : CA Γ af (kCall ms sl g K) m Q E) : CE Γ (eCall ms sl g af) K m Q E := fun ρ z => by
  have := ha ρ z
  rw [show ofE (eCall ms sl g af ρ) K = ofA (af ρ) (kCall ms sl g K) by
    unfold eCall
    cases af ρ with
    | ok a =>
      show ofE (match callIn ms sl a.vs a.ρ with | none => Res.bad | some (pvs, ρ') => _) K = kCall ms sl g K a
      unfold kCall
      cases callIn ms sl a.vs a.ρ with
      | none => rfl
      | some q =>
        obtain ⟨pvs, ρ'⟩ := q
        simp only []
        cases g pvs with
        | ok lv x outs =>
          simp only []
          split <;> rfl
        | exc c fs outs =>
          simp only []
          split <;> rfl
        | bad => rfl
    | exc => rfl
    | bad => rfl]
  exact this
theorem ka_call {ms : List Nat} {sl : List (Option Nat)} {g : FF} {pvs : List PV} {mf : M β} {xf : β → PV} {k : β → M o} (hF : FJ g pvs l mf xf) (hin : ∀ ρ, callIn ms sl vs ρ = some (pvs, ρ)) (hl : pvs.length = ms.length) (hout : ∀ ρ, callOut ms sl pvs ρ = ρ) (hm : m = mf.bind k) (hE : ∀ ρ, Mt Γ ρ → E ρ) (hk : ∀ a, KE K l true (xf a) Γ (k a) Q E) : KA (kCall ms sl g K) vs Γ m Q E := fun pu ρ z => by
  subst hm
  cases mf with
  | bad => trivial
  | ok a =>
    have hF : g pvs = .ok l (xf a) pvs := hF
    unfold kCall
    simp only [hin, hF, hl, if_true, hout]
    exact hk a _ true ρ (fun _ => rfl) z
  | exc cc fs =>
    have hF : g pvs = .exc cc fs pvs := hF
    refine ⟨ρ, ?_, hE ρ z⟩
    unfold kCall
    simp only [hin, hF, hl, if_true, hout]
theorem ka_call1 {ms : List Nat} {sl : List (Option Nat)} {g : FF} {pvs : List PV} {mf : M β} {xf : β → PV} {os : β → List PV} {zf : β → PV} {k : β → M o} (hi : Γ[i]? = some (sv 1 y)) (hF : FJ1 g pvs l mf xf os) (hin : ∀ ρ, ρ[i]? = some (some (1, y)) → callIn ms sl vs ρ = some (pvs, ρ.set i none)) (hl : ∀ a, (os a).length = ms.length) (hout : ∀ a ρ, callOut ms sl (os a) ρ = ρ.set i (some (1, zf a))) (hm : m = mf.noexc.bind k) (hk : ∀ a, KE K l true (xf a) (Γ.set i (sv 1 (zf a))) (k a) Q E) : KA (kCall ms sl g K) vs Γ m Q E := fun pu ρ z => by
  subst hm
  cases mf with
  | bad => trivial
  | exc => trivial
  | ok a =>
    obtain ⟨q, e1, e2⟩ := z.get hi
    have e2 : q = some (1, y) := e2
    subst e2
    have hF : g pvs = .ok l (xf a) (os a) := hF a rfl
    unfold kCall
    simp only [hin ρ e1, hF, hl, if_true, hout]
    refine hk a _ true _ (fun _ => rfl) ?_
    rw [List.set_set]
    exact z.set i rfl
/-! ## statements -/
theorem ofE_bind {r : Res Rr} {k : Rr → SR} : (ofE r k).bind G = ofE r fun q => (k q).bind G := by cases r <;> rfl
theorem ofT_bind {r : Res Tr} {k : Tr → SR} : (ofT r k).bind G = ofT r fun q => (k q).bind G := by cases r <;> rfl
theorem ofI_bind {r : Res Ir} {k : Ir → SR} : (ofI r k).bind G = ofI r fun q => (k q).bind G := by cases r <;> rfl
theorem SR.bind_nil {r : SR} : r.bind sNil = r := by cases r <;> rfl
/-- the last statement of a block -/
theorem sj_last (h : SJ Γ (sSeq F sNil) m Q E) : SJ Γ F m Q E := fun ρ z => by
  have := h ρ z
  rw [show sSeq F sNil ρ = F ρ from SR.bind_nil] at this
  exact this
def kSet (i : Nat) (G : SF) : Rr → SR := fun r => match matL r with
  | some n => G (r.ρ.set i (some (n, r.x)))
  | none => .bad
theorem sj_setC (h : CE Γ f (kSet i G) m Q E) : SJ Γ (sSeq (sSet i f) G) m Q E := fun ρ z => by
  have := h ρ z
  rw [show sSeq (sSet i f) G ρ = ofE (f ρ) (kSet i G) by
    show (ofE (f ρ) _).bind G = _
    rw [ofE_bind]
    congr
    funext r
    unfold kSet
    cases matL r <;> rfl]
  exact this
theorem ke_set [Enc α] {k : α → M o} (a : α) (hl : l = 0 ∨ w = true) (hm : m = lt a k) (hk : ∀ y : α, SJ (Γ.set i (sv l (enc y))) G (k y) Q E) : KE (kSet i G) l w (enc a) Γ m Q E := fun pu ow ρ ho h => by
  subst hm
  rw [lt_eq]
  unfold kSet
  have e : matL ⟨pu, ow, l, enc a, ρ⟩ = some l := by
    simp only [z_mat]
    by_cases z : ow = true
    · rw [if_pos z]
    · rw [if_neg z]
      rcases hl with q | q
      · subst q; simp
      · exact absurd (ho q) z
  rw [e]
  exact hk a _ (h.set i rfl)
theorem sj_set [Enc α] {k : α → M o} (a : α) (he : EG Γ f l w p c (enc a) Γ1) (hl : l = 0 ∨ w = true) (hm : m = grds c (lt a k)) (hk : ∀ y : α, SJ (Γ1.set i (sv l (enc y))) G (k y) Q E) : SJ Γ (sSeq (sSet i f) G) m Q E := sj_setC (ce_g he hm (ke_set a hl rfl hk))
def kExpr (G : SF) : Rr → SR := fun r => G r.ρ
theorem sj_exprC (h : CE Γ f (kExpr G) m Q E) : SJ Γ (sSeq (sExpr f) G) m Q E := fun ρ z => by
  have := h ρ z
  rw [show sSeq (sExpr f) G ρ = ofE (f ρ) (kExpr G) by
    show (ofE (f ρ) _).bind G = _
    rw [ofE_bind]
    rfl]
  exact this
theorem ke_expr (hk : SJ Γ G m Q E) : KE (kExpr G) l w x Γ m Q E := fun pu ow ρ ho h => hk ρ h
theorem sj_expr (he : EG Γ f l w p c x Γ1) (hm : m = grds c m') (hk : SJ Γ1 G m' Q E) : SJ Γ (sSeq (sExpr f) G) m Q E := sj_exprC (ce_g he hm (ke_expr hk))
/-- an end of a block -/
def Ok1 (Q : o → SR → Prop) (a : o) (Γ : List SP) (C : Ev → SR) : Prop := ∀ ρ, Mt Γ ρ → Q a (C ρ)
def kRet : Rr → SR := fun r => match matL r with
  | some n => .rt n r.x r.ρ
  | none => .bad
theorem sj_retC (h : CE Γ f kRet m Q E) : SJ Γ (sRet f) m Q E := h
theorem ke_ret {a : o} (hl : l = 0 ∨ w = true) (hm : m = .ok a) (hq : Ok1 Q a Γ (.rt l x)) : KE kRet l w x Γ m Q E := fun pu ow ρ ho h => by
  subst hm
  unfold kRet
  have e : matL ⟨pu, ow, l, x, ρ⟩ = some l := by
    simp only [z_mat]
    by_cases z : ow = true
    · rw [if_pos z]
    · rw [if_neg z]
      rcases hl with q | q
      · subst q; simp
      · exact absurd (ho q) z
  rw [e]
  exact hq ρ h
theorem sj_ret {a : o} (he : EG Γ f l w p c x Γ1) (hl : l = 0 ∨ w = true) (hm : m = grds c (.ok a)) (hq : Ok1 Q a Γ1 (.rt l x)) : SJ Γ (sRet f) m Q E := sj_retC (ce_g he hm (ke_ret hl rfl hq))
theorem sj_retN {a : o} (hm : m = .ok a) (hq : Ok1 Q a Γ (.rt 0 .non)) : SJ Γ sRetN m Q E := fun ρ h => by
  subst hm
  exact hq ρ h
theorem sj_nil {a : o} (hm : m = .ok a) (hq : Ok1 Q a Γ .nx) : SJ Γ sNil m Q E := fun ρ h => by
  subst hm
  exact hq ρ h
theorem sj_bk {a : o} (hm : m = .ok a) (hq : Ok1 Q a Γ .bk) : SJ Γ sBk m Q E := fun ρ h => by
  subst hm
  exact hq ρ h
theorem sj_ct {a : o} (hm : m = .ok a) (hq : Ok1 Q a Γ .ct) : SJ Γ sCt m Q E := fun ρ h => by
  subst hm
  exact hq ρ h
theorem sj_pass (h : SJ Γ G m Q E) : SJ Γ (sSeq sNil G) m Q E := h
def kRaise (cn : Str) (fs : List Str) : Ar → SR := fun a => if a.vs.length = fs.length ∧ a.vs.all shOk = true then .exc cn (fs.zip (a.vs.map (·.2))) a.ρ else .bad
theorem sj_raiseC {cn : Str} {fs : List Str} (h : CA Γ af (kRaise cn fs) m Q E) : SJ Γ (sRaise cn fs af) m Q E := fun ρ z => by
  have := h ρ z
  rw [show sRaise cn fs af ρ = ofA (af ρ) (kRaise cn fs) by
    unfold sRaise
    cases af ρ <;> rfl]
  exact this
theorem ka_raise {cn : Str} {fs : List Str} {ps : List (Str × PV)} (hl : vs.length = fs.length ∧ vs.all shOk = true) (hp : fs.zip (vs.map (·.2)) = ps) (hm : m = .exc cn ps) (hE : ∀ ρ, Mt Γ ρ → E ρ) : KA (kRaise cn fs) vs Γ m Q E := fun pu ρ h => by
  subst hm hp
  exact ⟨ρ, by unfold kRaise; rw [if_pos hl], hE ρ h⟩
theorem sj_raise {cn : Str} {fs : List Str} {ps : List (Str × PV)} (ha : AG Γ af p c vs Γ1) (hl : vs.length = fs.length ∧ vs.all shOk = true) (hp : fs.zip (vs.map (·.2)) = ps) (hm : m = grds c (.exc cn ps)) (hE : ∀ ρ, Mt Γ1 ρ → E ρ) : SJ Γ (sRaise cn fs af) m Q E := sj_raiseC (ca_g ha hm (ka_raise hl hp rfl hE))
/-! branches -/
def kBr (A B G : SF) : Tr → SR := fun r => (if r.b = true then A r.ρ else B r.ρ).bind G
theorem sj_ifC (h : CT Γ t (kBr A B G) m Q E) : SJ Γ (sSeq (sIf t A B) G) m Q E := fun ρ z => by
  have := h ρ z
  rw [show sSeq (sIf t A B) G ρ = ofT (t ρ) (kBr A B G) by
    show (ofT (t ρ) _).bind G = _
    rw [ofT_bind]
    rfl]
  exact this
/-- a block that does not go on -/
def Qc (Q : o → SR → Prop) : o → SR → Prop := fun a S => Q a S ∧ ∀ G : SF, S.bind G = S
theorem Sim.esc {S : SR} (h : Sim S m (Qc Q) E) : Sim (S.bind G) m Q E := by
  cases m with
  | ok a => rw [h.2 G]; exact h.1
  | exc c fs =>
    obtain ⟨ρ, e, k⟩ := h
    rw [e]
    exact ⟨ρ, rfl, k⟩
  | bad => trivial
/-- then: out; else: on -/
theorem kt_esc1 (hm : m = if b = true then m1 else m2) (hA : SJ Γ A m1 (Qc Q) E) (hG : SJ Γ (sSeq B G) m2 Q E) : KT (kBr A B G) b Γ m Q E := fun pu ρ h => by
  subst hm
  unfold kBr
  cases b with
  | true => exact (hA ρ h).esc
  | false => exact hG ρ h
/-- then: on; else: out -/
theorem kt_esc2 (hm : m = if b = true then m1 else m2) (hG : SJ Γ (sSeq A G) m1 Q E) (hB : SJ Γ B m2 (Qc Q) E) : KT (kBr A B G) b Γ m Q E := fun pu ρ h => by
  subst hm
  unfold kBr
  cases b with
  | true => exact hG ρ h
  | false => exact (hB ρ h).esc
/-- both are ends of the block -/
theorem kt_tail (hm : m = if b = true then m1 else m2) (hA : SJ Γ A m1 Q E) (hB : SJ Γ B m2 Q E) : KT (kBr A B sNil) b Γ m Q E := fun pu ρ h => by
  subst hm
  unfold kBr
  rw [SR.bind_nil]
  cases b with
  | true => exact hA ρ h
  | false => exact hB ρ h
def QN (Γ : s → List SP) : s → SR → Prop := fun x S => ∃ ρ, S = .nx ρ ∧ Mt (Γ x) ρ
theorem Sim.join {S : SR} {mj : M s} {k : s → M o} {Γf : s → List SP} (h : Sim S mj (QN Γf) E) (hk : ∀ a, SJ (Γf a) G (k a) Q E) : Sim (S.bind G) (mj.bind k) Q E := by
  cases mj with
  | ok a =>
    obtain ⟨ρ, e, z⟩ := h
    rw [e]
    exact hk a ρ z
  | exc c fs =>
    obtain ⟨ρ, e, z⟩ := h
    rw [e]
    exact ⟨ρ, rfl, z⟩
  | bad => trivial
/-- both go on -/
theorem kt_join {m1 m2 : M s} {k : s → M o} {Γf : s → List SP} (hm : m = (if b = true then m1 else m2).bind k) (hA : SJ Γ A m1 (QN Γf) E) (hB : SJ Γ B m2 (QN Γf) E) (hk : ∀ a, SJ (Γf a) G (k a) Q E) : KT (kBr A B G) b Γ m Q E := fun pu ρ h => by
  subst hm
  unfold kBr
  cases b with
  | true => exact (hA ρ h).join hk
  | false => exact (hB ρ h).join hk
def QM (Q : o → SR → Prop) (Γ : s → List SP) : Fl o s → SR → Prop := fun r S => match r with
  | .rt a => Qc Q a S
  | .go x => ∃ ρ, S = .nx ρ ∧ Mt (Γ x) ρ
theorem Sim.mix {S : SR} {mj : M (Fl o s)} {k : s → M o} {Γf : s → List SP} (h : Sim S mj (QM Q Γf) E) (hk : ∀ a, SJ (Γf a) G (k a) Q E) : Sim (S.bind G) (mj.bind (Fl.cont k)) Q E := by
  cases mj with
  | ok r =>
    cases r with
    | rt a =>
      have h : Qc Q a S := h
      rw [h.2 G]
      exact h.1
    | go x =>
      obtain ⟨ρ, e, z⟩ := h
      rw [e]
      exact hk x ρ z
  | exc c fs =>
    obtain ⟨ρ, e, z⟩ := h
    rw [e]
    exact ⟨ρ, rfl, z⟩
  | bad => trivial
/-- some ways go on, some go out -/
theorem kt_mix {m1 m2 : M (Fl o s)} {k : s → M o} {Γf : s → List SP} (hm : m = (if b = true then m1 else m2).bind (Fl.cont k)) (hA : SJ Γ A m1 (QM Q Γf) E) (hB : SJ Γ B m2 (QM Q Γf) E) (hk : ∀ a, SJ (Γf a) G (k a) Q E) : KT (kBr A B G) b Γ m Q E := fun pu ρ h => by
  subst hm
  unfold kBr
  cases b with
  | true => exact (hA ρ h).mix hk
  | false => exact (hB ρ h).mix hk
theorem sj_imp (hi : Imp Γ Γ1) (h : SJ Γ1 F m Q E) : SJ Γ F m Q E := fun ρ z => h ρ (hi ρ z)
/-! ends -/
def Shut (C : Ev → SR) : Prop := ∀ ρ (G : SF), (C ρ).bind G = C ρ
theorem shut_rt {x : PV} : Shut (.rt l x) := fun _ _ => rfl
theorem shut_bk : Shut .bk := fun _ _ => rfl
theorem shut_ct : Shut .ct := fun _ _ => rfl
theorem ok_c {a : o} {C : Ev → SR} (hs : Shut C) (h : Ok1 Q a Γ C) : Ok1 (Qc Q) a Γ C := fun ρ z => ⟨h ρ z, hs ρ⟩
theorem ok_n {a : s} {Γf : s → List SP} (hi : Imp Γ (Γf a)) : Ok1 (QN Γf) a Γ .nx := fun ρ z => ⟨ρ, rfl, hi ρ z⟩
theorem ok_go {a : s} {Γf : s → List SP} (hi : Imp Γ (Γf a)) : Ok1 (QM Q Γf) (.go a) Γ .nx := fun ρ z => ⟨ρ, rfl, hi ρ z⟩
theorem ok_rt {a : o} {Γf : s → List SP} {C : Ev → SR} (hs : Shut C) (h : Ok1 Q a Γ C) : Ok1 (QM Q Γf) (.rt a) Γ C := fun ρ z => ⟨h ρ z, hs ρ⟩
/-! loops -/
def QL (Q : o → SR → Prop) (Γ : s → List SP) : Lp s o → SR → Prop := fun r S => match r with
  | .nx x => ∃ ρ, (S = .nx ρ ∨ S = .ct ρ) ∧ Mt (Γ x) ρ
  | .bk x => ∃ ρ, S = .bk ρ ∧ Mt (Γ x) ρ
  | .rt a => Q a S ∧ ∃ lv y ρ, S = .rt lv y ρ
def QS (Γ : s → List SP) : s → SR → Prop := fun x S => ∃ ρ, (S = .nx ρ ∨ S = .ct ρ) ∧ Mt (Γ x) ρ
theorem ok_lnx {a : s} {Γf : s → List SP} (hi : Imp Γ (Γf a)) : Ok1 (QL Q Γf) (.nx a) Γ .nx := fun ρ z => ⟨ρ, .inl rfl, hi ρ z⟩
theorem ok_lct {a : s} {Γf : s → List SP} (hi : Imp Γ (Γf a)) : Ok1 (QL Q Γf) (.nx a) Γ .ct := fun ρ z => ⟨ρ, .inr rfl, hi ρ z⟩
theorem ok_lbk {a : s} {Γf : s → List SP} (hi : Imp Γ (Γf a)) : Ok1 (QL Q Γf) (.bk a) Γ .bk := fun ρ z => ⟨ρ, rfl, hi ρ z⟩
theorem ok_lrt {a : o} {Γf : s → List SP} (h : Ok1 Q a Γ (.rt l x)) : Ok1 (QL Q Γf) (.rt a) Γ (.rt l x) := fun ρ z => ⟨h ρ z, l, x, ρ, rfl⟩
theorem ok_snx {a : s} {Γf : s → List SP} (hi : Imp Γ (Γf a)) : Ok1 (QS Γf) a Γ .nx := fun ρ z => ⟨ρ, .inl rfl, hi ρ z⟩
theorem ok_sct {a : s} {Γf : s → List SP} (hi : Imp Γ (Γf a)) : Ok1 (QS Γf) a Γ .ct := fun ρ z => ⟨ρ, .inr rfl, hi ρ z⟩
def kFor (bf : BF) (F G : SF) : Ir → SR := fun r => (forL bf F r.xs r.ρ).bind G
theorem sj_forC {sr : IF'} {bf : BF} (h : CI Γ sr (kFor bf F G) m Q E) : SJ Γ (sSeq (sFor sr bf F) G) m Q E := fun ρ z => by
  have := h ρ z
  rw [show sSeq (sFor sr bf F) G ρ = ofI (sr ρ) (kFor bf F G) by
    show (ofI (sr ρ) _).bind G = _
    rw [ofI_bind]
    rfl]
  exact this
theorem loop_sim {bf : BF} {e : α → PV} {f : s → α → M (Lp s o)} {Γl : s → List SP} (hb : ∀ st a, ∃ Γ2, BG (Γl st) bf (e a) Γ2 ∧ SJ Γ2 F (f st a) (QL Q Γl) E) : ∀ (xs : List α) (st : s), SJ (Γl st) (forL bf F (xs.map e)) (M.loop f xs st) (fun r S => match r with | .rt a => Q a S ∧ ∃ lv y ρ, S = .rt lv y ρ | .go x => ∃ ρ, S = .nx ρ ∧ Mt (Γl x) ρ) E
  | [], st, ρ, h => ⟨ρ, rfl, h⟩
  | a :: xs, st, ρ, h => by
    obtain ⟨Γ2, hB, hJ⟩ := hb st a
    obtain ⟨ρ1, e1, h1⟩ := hB ρ h
    have hj := hJ ρ1 h1
    unfold M.loop
    rw [List.map_cons]
    unfold forL
    simp only [e1]
    cases ef : f st a with
    | bad => trivial
    | exc cc fs =>
      rw [ef] at hj
      obtain ⟨ρ2, e2, h2⟩ := hj
      rw [e2]
      exact ⟨ρ2, rfl, h2⟩
    | ok r =>
      rw [ef] at hj
      cases r with
      | nx x =>
        obtain ⟨ρ2, e2, h2⟩ := hj
        rcases e2 with e2 | e2
        · rw [e2]; exact loop_sim hb xs x ρ2 h2
        · rw [e2]; exact loop_sim hb xs x ρ2 h2
      | bk x =>
        obtain ⟨ρ2, e2, h2⟩ := hj
        rw [e2]
        exact ⟨ρ2, rfl, h2⟩
      | rt a =>
        obtain ⟨q, lv, y, ρ2, e2⟩ := hj
        rw [e2] at q ⊢
        exact ⟨q, lv, y, ρ2, rfl⟩
theorem fold_sim {bf : BF} {e : α → PV} {f : s → α → M s} {Γl : s → List SP} (hb : ∀ st a, ∃ Γ2, BG (Γl st) bf (e a) Γ2 ∧ SJ Γ2 F (f st a) (QS Γl) E) : ∀ (xs : List α) (st : s), SJ (Γl st) (forL bf F (xs.map e)) (M.fold f xs st) (QN Γl) E
  | [], st, ρ, h => ⟨ρ, rfl, h⟩
  | a :: xs, st, ρ, h => by
    obtain ⟨Γ2, hB, hJ⟩ := hb st a
    obtain ⟨ρ1, e1, h1⟩ := hB ρ h
    have hj := hJ ρ1 h1
    unfold M.fold
    rw [List.map_cons]
    unfold forL
    simp only [e1]
    cases ef : f st a with
    | bad => trivial
    | exc cc fs =>
      rw [ef] at hj
      obtain ⟨ρ2, e2, h2⟩ := hj
      rw [e2]
      exact ⟨ρ2, rfl, h2⟩
    | ok x =>
      rw [ef] at hj
      obtain ⟨ρ2, e2, h2⟩ := hj
      rcases e2 with e2 | e2
      · rw [e2]; exact fold_sim hb xs x ρ2 h2
      · rw [e2]; exact fold_sim hb xs x ρ2 h2
theorem ki_loop {bf : BF} {e : α → PV} {f : s → α → M (Lp s o)} {Γl : s → List SP} {xs : List α} {k : s → M o} (st : s) (hi : Imp Γ (Γl st)) (hm : m = (M.loop f xs st).bind (Fl.cont k)) (hb : ∀ st a, ∃ Γ2, BG (Γl st) bf (e a) Γ2 ∧ SJ Γ2 F (f st a) (QL Q Γl) E) (hk : ∀ st, SJ (Γl st) G (k st) Q E) : KI (kFor bf F G) (xs.map e) Γ m Q E := fun pu ρ z => by
  subst hm
  have := loop_sim hb xs st ρ (hi ρ z)
  refine Sim.mix (Γf := Γl) ?_ hk
  cases em : M.loop f xs st with
  | bad => trivial
  | exc => rw [em] at this; exact this
  | ok r =>
    rw [em] at this
    cases r with
    | go x => exact this
    | rt a =>
      obtain ⟨q, lv, y, ρ2, e2⟩ := this
      refine ⟨q, fun G => ?_⟩
      have e2 : forL bf F (xs.map e) ρ = .rt lv y ρ2 := e2
      rw [e2]
      rfl
theorem ki_fold {bf : BF} {e : α → PV} {f : s → α → M s} {Γl : s → List SP} {xs : List α} {k : s → M o} (st : s) (hi : Imp Γ (Γl st)) (hm : m = (M.fold f xs st).bind k) (hb : ∀ st a, ∃ Γ2, BG (Γl st) bf (e a) Γ2 ∧ SJ Γ2 F (f st a) (QS Γl) E) (hk : ∀ st, SJ (Γl st) G (k st) Q E) : KI (kFor bf F G) (xs.map e) Γ m Q E := fun pu ρ z => by
  subst hm
  exact Sim.join (fold_sim hb xs st ρ (hi ρ z)) hk
/-! unpacking -/
def kTgt (bf : BF) (G : SF) : Rr → SR := fun r => if r.lv = 0 ∨ r.x.imm = true then match bf r.x r.ρ with
  | some ρ' => G ρ'
  | none => .bad else .bad
theorem sj_tgtC {bf : BF} (h : CE Γ f (kTgt bf G) m Q E) : SJ Γ (sSeq (sTgt bf f) G) m Q E := fun ρ z => by
  have := h ρ z
  rw [show sSeq (sTgt bf f) G ρ = ofE (f ρ) (kTgt bf G) by
    show (ofE (f ρ) _).bind G = _
    rw [ofE_bind]
    congr
    funext r
    unfold kTgt
    split
    · cases bf r.x r.ρ <;> rfl
    · rfl]
  exact this
theorem ke_tgt [Enc α] {bf : BF} {k : α → M o} (a : α) {Γf : α → List SP} (hm : m = lt a k) (hB : ∀ a, BG Γ bf (enc a) (Γf a)) (hk : ∀ y, SJ (Γf y) G (k y) Q E) : KE (kTgt bf G) 0 w (enc a) Γ m Q E := fun pu ow ρ ho h => by
  subst hm
  rw [lt_eq]
  obtain ⟨ρ', e, h'⟩ := hB a ρ h
  unfold kTgt
  rw [if_pos (.inl rfl)]
  simp only [e]
  exact hk a ρ' h'
/-! defs -/
def QR (l : Nat) (x : β → PV) (P : β → List SP) : β → SR → Prop := fun a S => ∃ ρ, (S = .rt l (x a) ρ ∨ (S = .nx ρ ∧ l = 0 ∧ x a = .non)) ∧ Mt (P a) ρ
theorem ok_ret {a : β} {xf : β → PV} {P : β → List SP} (hx : x = xf a) (hi : Imp Γ (P a)) : Ok1 (QR l xf P) a Γ (.rt l x) := fun ρ z => ⟨ρ, .inl (by rw [hx]), hi ρ z⟩
theorem ok_end {a : β} {xf : β → PV} {P : β → List SP} (hx : xf a = .non) (hi : Imp Γ (P a)) : Ok1 (QR 0 xf P) a Γ .nx := fun ρ z => ⟨ρ, .inr ⟨rfl, rfl, hx⟩, hi ρ z⟩
theorem mt_wds : ∀ {ρ : Ev}, Mt (List.replicate ρ.length wd) ρ
  | [] => trivial
  | _ :: _ => ⟨trivial, mt_wds⟩
theorem imp_wds (h : Γ.length = n) : Imp Γ (List.replicate n wd) := fun ρ z => by
  rw [← h, ← z.len]
  exact mt_wds
theorem outs0 : ∀ {pvs : List PV} {ρ : Ev}, pvs.length ≤ ρ.length → outsOf (List.replicate pvs.length 0) pvs ρ = some pvs
  | [], ρ, _ => by cases ρ <;> rfl
  | x :: xs, [], h => by simp at h
  | x :: xs, q :: ρ, h => by
    show (outsOf (List.replicate xs.length 0) xs ρ).map (x :: ·) = _
    rw [outs0 (by simpa using h)]
    rfl
theorem fj_of {pvs : List PV} {ms : List Nat} {m : M β} {xf : β → PV} {B : SF} (hms : ms = List.replicate pvs.length 0) (hn : pvs.length ≤ n) (h0 : Mt Γ (argsE ms pvs ++ List.replicate (n - ms.length) none)) (hj : SJ Γ B m (QR l xf fun _ => List.replicate n wd) (fun ρ => ρ.length = n)) : FJ (fnF ms n B) pvs l m xf := by
  have := hj _ h0
  have hl : pvs.length = ms.length := by rw [hms, List.length_replicate]
  cases m with
  | bad => trivial
  | ok a =>
    obtain ⟨ρ, e, h⟩ := this
    have ho : outsOf ms pvs ρ = some pvs := by
      rw [hms]
      refine outs0 ?_
      have := h.len
      rw [List.length_replicate] at this
      omega
    show fnF ms n B pvs = _
    unfold fnF
    rw [if_pos hl]
    rcases e with e | ⟨e, e2, e3⟩
    · simp only [e, ho]
    · subst e2
      simp only [e, ho, e3]
  | exc cc fs =>
    obtain ⟨ρ, e, h⟩ := this
    have ho : outsOf ms pvs ρ = some pvs := by
      rw [hms]
      exact outs0 (by omega)
    show fnF ms n B pvs = _
    unfold fnF
    rw [if_pos hl]
    simp only [e, ho]
theorem fj1_of {pvs : List PV} {ms : List Nat} {m : M β} {xf : β → PV} {P : β → List SP} {os : β → List PV} {B : SF} (hl : pvs.length = ms.length) (h0 : Mt Γ (argsE ms pvs ++ List.replicate (n - ms.length) none)) (ho : ∀ a ρ, Mt (P a) ρ → outsOf ms pvs ρ = some (os a)) (hj : SJ Γ B m (QR l xf P) (fun _ => True)) : FJ1 (fnF ms n B) pvs l m xf os := fun a em => by
  have := hj _ h0
  rw [em] at this
  obtain ⟨ρ, e, h⟩ := this
  unfold fnF
  rw [if_pos hl]
  rcases e with e | ⟨e, e2, e3⟩
  · simp only [e, ho a ρ h]
  · subst e2
    simp only [e, ho a ρ h, e3]
end T

set_option maxRecDepth 100000
set_option maxHeartbeats 1000000
namespace T
open PySem PySem.Spec PyProof.Rows L2 Pv
open Enc (enc)
variable {α β γ δ ε ζ o τ s : Type}
variable {Γ Γ1 Γ2 Γ3 : List SP} {f h : EF} {af : AF} {t u : TFn} {op : PO} {i l l1 l2 n m : Nat} {w w1 w2 p p1 p2 ow pu b d : Bool} {c c1 c2 c3 : List Prop} {x y z : PV} {vs : List (Nat × PV)}
/-! # operators, typed -/
section
variable {a a' : Int}
theorem o_add : pAdd [(m, enc a), (n, enc a')] = some ⟨true, 0, enc (a + a')⟩ := rfl
theorem o_sub : pSub [(m, enc a), (n, enc a')] = some ⟨true, 0, enc (a - a')⟩ := rfl
theorem o_mul (h : Al [a.natAbs.log2 + a'.natAbs.log2 < 1000000]) : pMul [(m, enc a), (n, enc a')] = some ⟨true, 0, enc (a * a')⟩ := if_pos h.1
theorem o_mod (h : Al [0 < a']) : pMod [(m, enc a), (n, enc a')] = some ⟨true, 0, enc (a % a')⟩ := p_mod.trans (if_pos h.1)
theorem o_fdiv (h : Al [0 < a' ∧ a'.natAbs.log2 < 9000]) : pFdiv [(m, enc a), (n, enc a')] = some ⟨true, 0, enc (a / a')⟩ := p_fdiv.trans (if_pos h.1)
theorem o_pow (h : Al [0 ≤ a' ∧ a' ≤ 1000000 ∧ a.natAbs < 2 ^ 64]) : pPow [(m, enc a), (n, enc a')] = some ⟨true, 0, enc (a ^ a'.toNat)⟩ := p_pow.trans (if_pos h.1)
theorem o_neg : pNeg [(m, enc a)] = some ⟨true, 0, enc (-a)⟩ := rfl
theorem o_abs : pAbs [(m, enc a)] = some ⟨true, 0, enc (iabs a)⟩ := rfl
theorem o_int : pInt [(m, enc a)] = some ⟨true, 0, enc a⟩ := rfl
theorem o_lt : pLt [(m, enc a), (n, enc a')] = some ⟨true, 0, enc (decide (a < a'))⟩ := rfl
theorem o_le : pLe [(m, enc a), (n, enc a')] = some ⟨true, 0, enc (decide (a ≤ a'))⟩ := rfl
theorem o_gt : pGt [(m, enc a), (n, enc a')] = some ⟨true, 0, enc (decide (a' < a))⟩ := rfl
theorem o_ge : pGe [(m, enc a), (n, enc a')] = some ⟨true, 0, enc (decide (a' ≤ a))⟩ := rfl
def imax (a b : Int) : Int := if b > a then b else a
def imin (a b : Int) : Int := if b < a then b else a
theorem imax_eq : imax a a' = max a a' := by unfold imax; omega
theorem imin_eq : imin a a' = min a a' := by unfold imin; omega
theorem o_max2 : pMax2 [(m, enc a), (n, enc a')] = some ⟨true, 0, enc (imax a a')⟩ := rfl
theorem o_min2 : pMin2 [(m, enc a), (n, enc a')] = some ⟨true, 0, enc (imin a a')⟩ := rfl
def igcd (a b : Int) : Int := ((Nat.gcd a.natAbs b.natAbs : Nat) : Int)
theorem o_gcd : pGcd [(m, enc a), (n, enc a')] = some ⟨true, 0, enc (igcd a a')⟩ := rfl
def istr (a : Int) : Str := Str.ofString (toString a)
theorem o_str (h : Al [a.natAbs.log2 < 1920]) : pStr [(m, enc a)] = some ⟨true, 0, enc (istr a)⟩ := if_pos h.1
end
section
variable {a a' : Str}
theorem sz_eq : sizeLine = 16777216 := sizeLine_eq
theorem o_adds (h : Al [a.length + a'.length ≤ 16777216]) : pAdd [(m, enc a), (n, enc a')] = some ⟨true, 0, enc (a ++ a')⟩ := by
  show pAdd [(m, .str a), (n, .str a')] = _
  rw [p_adds, sz_eq, if_pos h.1]
  rfl
theorem o_muls {k : Int} (h : Al [0 ≤ k ∧ k ≤ 1000000 ∧ a.length * k.toNat ≤ 1000000]) : pMul [(m, enc a), (n, enc k)] = some ⟨true, 0, enc (Txt.mul a k)⟩ := if_pos h.1
theorem o_lts : pLt [(m, enc a), (n, enc a')] = some ⟨true, 0, enc (decide (a.cps.toList < a'.cps.toList))⟩ := rfl
theorem o_lens (h : Al [a.length ≤ 16777216]) : pLen [(m, enc a)] = some ⟨true, 0, enc (a.length : Int)⟩ := by
  show pLen [(m, .str a)] = _
  rw [p_lens, sz_eq, if_pos h.1]
  rfl
/-- the sign at a place -/
def chrAt [Inhabited Nat] (a : Str) (k : Int) : Str := ⟨#[(atI a.cps.toList k).getD 0]⟩
def ixOk (xs : List α) (k : Int) : Prop := (atI xs k).isSome = true
theorem o_ixs {k : Int} (h : Al [a.length ≤ 16777216, ixOk a.cps.toList k]) : pIx [(m, enc a), (n, enc k)] = some ⟨true, 0, enc (chrAt a k)⟩ := by
  show pIx [(m, .str a), (n, .int k)] = _
  rw [p_ixs, sz_eq, if_pos h.1]
  obtain ⟨q, e⟩ := Option.isSome_iff_exists.mp h.2.1
  unfold chrAt
  rw [e]
  rfl
end
/-! lists -/
theorem atI_map {g : α → β} {xs : List α} {k : Int} : atI (xs.map g) k = (atI xs k).map g := by
  unfold atI
  rw [List.length_map]
  cases ixN xs.length k with
  | none => rfl
  | some j => simp
def geti [Inhabited α] (xs : List α) (k : Int) : α := (atI xs k).getD default
theorem atI_ok [Inhabited α] {xs : List α} {k : Int} (h : ixOk xs k) : atI xs k = some (geti xs k) := by
  obtain ⟨q, e⟩ := Option.isSome_iff_exists.mp h
  unfold geti
  rw [e]
  rfl
theorem ixOk_nat {xs : List α} {k : Nat} (h : k < xs.length) : ixOk xs (k : Int) := by
  unfold ixOk
  rw [atI_nat h, List.getElem?_eq_getElem h]
  rfl
theorem ixOk_of {xs : List α} {k : Int} (h0 : 0 ≤ k) (h : k < xs.length) : ixOk xs k := by
  obtain ⟨j, rfl⟩ := Int.eq_ofNat_of_zero_le h0
  exact ixOk_nat (by omega)
theorem geti_nat [Inhabited α] {xs : List α} {k : Nat} (h : k < xs.length) : geti xs (k : Int) = xs[k] := by
  unfold geti
  rw [atI_nat h, List.getElem?_eq_getElem h]
  rfl
theorem geti_of [Inhabited α] {xs : List α} {k : Int} (h0 : 0 ≤ k) (h : k.toNat < xs.length) : geti xs k = xs[k.toNat] := by
  obtain ⟨j, rfl⟩ := Int.eq_ofNat_of_zero_le h0
  exact geti_nat (by simpa using h)
theorem ix_gen {q : Nat} {xs : List PV} {k : Int} (hx : x.items m = some (q, xs)) (hq : q = 0) (hs : ∀ z, x ≠ .str z) (ha : atI xs k = some y) : pIx [(m, x), (n, .int k)] = some ⟨true, 0, y⟩ := by
  subst hq
  unfold pIx
  cases x with
  | str z => exact absurd rfl (hs z)
  | non => cases hx
  | bl => cases hx
  | int => cases hx
  | dic => cases hx
  | exn => cases hx
  | tup ys => simp only [hx, Option.bind_some, ha]; simp
  | ctup ys => simp only [hx, Option.bind_some, ha]; simp
  | lst ys => simp only [hx, Option.bind_some, ha]; simp
  | clst ys => simp only [hx, Option.bind_some, ha]; simp
theorem o_ixl [Enc α] [Inhabited α] {xs : List α} {k : Int} (hm : m ≤ 1) (h : Al [ixOk xs k]) : pIx [(m, enc xs), (n, enc k)] = some ⟨true, 0, enc (geti xs k)⟩ :=
  ix_gen (q := m - 1) (xs := xs.map enc) rfl (by omega) (fun z e => nomatch e) (by rw [atI_map, atI_ok h.1]; rfl)
theorem o_ixtup [Enc α] [Inhabited α] {t : Tup α} {k : Int} (h : Al [ixOk t.l k]) : pIx [(m, enc t), (n, enc k)] = some ⟨true, 0, enc (geti t.l k)⟩ :=
  ix_gen (q := 0) (xs := t.l.map enc) rfl rfl (fun z e => nomatch e) (by rw [atI_map, atI_ok h.1]; rfl)
theorem o_ixctup [Enc α] [Inhabited α] {t : CTup α} {k : Int} (h : Al [ixOk t.l k]) : pIx [(m, enc t), (n, enc k)] = some ⟨true, 0, enc (geti t.l k)⟩ :=
  ix_gen (q := 0) (xs := t.l.map enc) rfl rfl (fun z e => nomatch e) (by rw [atI_map, atI_ok h.1]; rfl)
/-- a place of a tuple of known length -/
theorem o_ixt {xs : List PV} {k : Int} (ha : atI xs k = some y) : pIx [(m, .tup xs), (n, .int k)] = some ⟨true, 0, y⟩ := ix_gen (q := 0) rfl rfl (fun z e => nomatch e) ha
theorem ixD_eq {x y : PV} (h : ∀ kvs, x ≠ .dic kvs) : pIxD [(m, x), (n, y)] = pIx [(m, x), (n, y)] := by
  cases x with
  | dic kvs => exact absurd rfl (h kvs)
  | _ => rfl
theorem o_lenl [Enc α] {xs : List α} : pLen [(m, enc xs)] = some ⟨true, 0, enc (xs.length : Int)⟩ := by
  show pLen [(m, .lst (xs.map enc))] = _
  rw [p_lenl, List.length_map]
  rfl
theorem o_lentup [Enc α] {t : Tup α} : pLen [(m, enc t)] = some ⟨true, 0, enc (t.l.length : Int)⟩ := by
  show pLen [(m, .tup (t.l.map enc))] = _
  rw [p_lent, List.length_map]
  rfl
theorem o_lenctup [Enc α] {t : CTup α} : pLen [(m, enc t)] = some ⟨true, 0, enc (t.l.length : Int)⟩ := by
  show pLen [(m, .ctup (t.l.map enc))] = _
  rw [p_lenk, List.length_map]
  rfl
theorem o_lenT {xs : List PV} {k : Int} (h : (xs.length : Int) = k) : pLen [(m, .tup xs)] = some ⟨true, 0, enc k⟩ := by
  rw [p_lent, h]
  rfl
theorem o_addl [Enc α] {xs ys : List α} (hm : m ≤ 1) (hn : n ≤ 1) (h : Al [xs.length + ys.length ≤ 16777216]) : pAdd [(m, enc xs), (n, enc ys)] = some ⟨true, 1, enc (xs ++ ys)⟩ := by
  show pAdd [(m, .lst (xs.map enc)), (n, .lst (ys.map enc))] = _
  rw [p_addl, sz_eq, if_pos ⟨hm, hn, by simpa using h.1⟩, ← List.map_append]
  rfl
theorem o_addtup [Enc α] {xs ys : Tup α} (h : Al [xs.l.length + ys.l.length ≤ 16777216]) : pAdd [(m, enc xs), (n, enc ys)] = some ⟨true, 0, enc (Tup.mk (xs.l ++ ys.l))⟩ := by
  show pAdd [(m, .tup (xs.l.map enc)), (n, .tup (ys.l.map enc))] = _
  rw [p_addt, sz_eq, if_pos (by simpa using h.1), ← List.map_append]
  rfl
theorem all_sh (ps : List PV) : (ps.map fun x => ((0 : Nat), x)).all shOk = true := by
  induction ps with
  | nil => rfl
  | cons x r ih => rw [List.map_cons, List.all_cons, ih]; rfl
theorem o_tup {ps : List PV} (h : ps.length ≤ 16777216) : pTup (ps.map fun x => ((0 : Nat), x)) = some ⟨true, 0, .tup ps⟩ := by
  rw [p_tup, sz_eq, if_pos ⟨all_sh ps, by rw [List.length_map]; exact h⟩, List.map_map]
  simp [Function.comp_def]
theorem o_lst {ps : List PV} (h : ps.length ≤ 16777216) : pLst (ps.map fun x => ((0 : Nat), x)) = some ⟨true, 1, .lst ps⟩ := by
  rw [p_lst, sz_eq, if_pos ⟨all_sh ps, by rw [List.length_map]; exact h⟩, List.map_map]
  simp [Function.comp_def]
theorem o_tuple [Enc α] {xs : List α} (hm : m ≤ 1) : pTuple [(m, enc xs)] = some ⟨true, 0, enc (Tup.mk xs)⟩ := by
  show pTuple [(m, .lst (xs.map enc))] = _
  rw [p_tuple, if_pos hm]
  rfl
theorem o_tuplet {xs : List PV} : pTuple [(m, .tup xs)] = some ⟨true, 0, .tup xs⟩ := rfl
theorem o_list [Enc α] {xs : List α} (hm : m ≤ 1) : pList [(m, enc xs)] = some ⟨true, 1, enc xs⟩ := by
  show (if m - 1 = 0 ∨ (xs.map enc).all PV.imm = true then some (⟨true, 1, .lst (xs.map enc)⟩ : Po) else none) = _
  exact if_pos (Or.inl (by omega))
theorem o_listtup [Enc α] {t : Tup α} : pList [(m, enc t)] = some ⟨true, 1, enc t.l⟩ := by
  show (if (0 : Nat) = 0 ∨ (t.l.map enc).all PV.imm = true then some (⟨true, 1, .lst (t.l.map enc)⟩ : Po) else none) = _
  exact if_pos (Or.inl rfl)
theorem o_isN : pIsN b [(m, x), (n, .non)] = some ⟨true, 0, enc (b ^^ x.isNon)⟩ := rfl
/-- not None -/
class NN (α : Type) [Enc α] : Prop where
  nn : ∀ a : α, (enc a).isNon = false
theorem isNon_opt [Enc α] [NN α] {a : Option α} : (enc a).isNon = a.isNone := by
  cases a with
  | none => rfl
  | some a => exact NN.nn a
theorem o_isNo [Enc α] [NN α] {a : Option α} : pIsN false [(m, enc a), (n, .non)] = some ⟨true, 0, enc a.isNone⟩ := by rw [o_isN, isNon_opt, Bool.false_xor]
theorem o_notNo [Enc α] [NN α] {a : Option α} : pIsN true [(m, enc a), (n, .non)] = some ⟨true, 0, enc a.isSome⟩ := by rw [o_isN, isNon_opt]; cases a <;> rfl
instance : NN Int := ⟨fun _ => rfl⟩
instance : NN Bool := ⟨fun _ => rfl⟩
instance : NN Str := ⟨fun _ => rfl⟩
instance [Enc α] : NN (List α) := ⟨fun _ => rfl⟩
instance [Enc α] : NN (Tup α) := ⟨fun _ => rfl⟩
instance [Enc α] : NN (T1 α) := ⟨fun _ => rfl⟩
instance [Enc α] [Enc β] : NN (α × β) := ⟨fun _ => rfl⟩
instance [Enc α] [Enc β] [Enc γ] : NN (T3 α β γ) := ⟨fun _ => rfl⟩
instance [Enc α] [Enc β] [Enc γ] [Enc δ] : NN (T4 α β γ δ) := ⟨fun _ => rfl⟩
instance [Enc α] [Enc β] [Enc γ] [Enc δ] [Enc ε] : NN (T5 α β γ δ ε) := ⟨fun _ => rfl⟩
instance [Enc α] [Enc β] [Enc γ] [Enc δ] [Enc ε] [Enc ζ] : NN (T6 α β γ δ ε ζ) := ⟨fun _ => rfl⟩
/-- an optional value that is there -/
theorem opt_some [Enc α] [Inhabited α] {a : Option α} (h : Al [a.isSome = true]) : enc a = enc (a.getD default) := by
  cases a with
  | none => exact nomatch h.1
  | some a => rfl
theorem cutL_map {g : α → β} {xs : List α} {lo hi : Option Int} : cutL (xs.map g) lo hi = (cutL xs lo hi).map g := by
  unfold cutL
  rw [List.length_map, List.map_take, List.map_drop]
theorem o_sl00 [Enc α] {xs : List α} (hm : m ≤ 1) : pSlc false false [(m, enc xs)] = some ⟨true, 1, enc (cutL xs none none)⟩ := by
  show (if m ≤ 1 then some (⟨true, 1, .lst (cutL (xs.map enc) none none)⟩ : Po) else none) = _
  rw [if_pos hm, cutL_map]; rfl
theorem o_sl10 [Enc α] {xs : List α} {j : Int} (hm : m ≤ 1) : pSlc true false [(m, enc xs), (n, enc j)] = some ⟨true, 1, enc (cutL xs (some j) none)⟩ := by
  show (if m ≤ 1 then some (⟨true, 1, .lst (cutL (xs.map enc) (some j) none)⟩ : Po) else none) = _
  rw [if_pos hm, cutL_map]; rfl
theorem o_sl01 [Enc α] {xs : List α} {j : Int} (hm : m ≤ 1) : pSlc false true [(m, enc xs), (n, enc j)] = some ⟨true, 1, enc (cutL xs none (some j))⟩ := by
  show (if m ≤ 1 then some (⟨true, 1, .lst (cutL (xs.map enc) none (some j))⟩ : Po) else none) = _
  rw [if_pos hm, cutL_map]; rfl
theorem o_sl11 [Enc α] {xs : List α} {j k : Int} (hm : m ≤ 1) : pSlc true true [(m, enc xs), (n, enc j), (l, enc k)] = some ⟨true, 1, enc (cutL xs (some j) (some k))⟩ := by
  show (if m ≤ 1 then some (⟨true, 1, .lst (cutL (xs.map enc) (some j) (some k))⟩ : Po) else none) = _
  rw [if_pos hm, cutL_map]; rfl
theorem o_tl10 [Enc α] {xs : Tup α} {j : Int} : pSlc true false [(m, enc xs), (n, enc j)] = some ⟨true, 0, enc (Tup.mk (cutL xs.l (some j) none))⟩ := by
  show sc (.tup (cutL (xs.l.map enc) (some j) none)) = _
  rw [cutL_map]; rfl
theorem o_tl01 [Enc α] {xs : Tup α} {j : Int} : pSlc false true [(m, enc xs), (n, enc j)] = some ⟨true, 0, enc (Tup.mk (cutL xs.l none (some j)))⟩ := by
  show sc (.tup (cutL (xs.l.map enc) none (some j))) = _
  rw [cutL_map]; rfl
theorem o_ss10 {a : Str} {j : Int} (h : Al [a.length ≤ 16777216]) : pSlc true false [(m, enc a), (n, enc j)] = some ⟨true, 0, enc (cutS a (some j) none)⟩ := by
  show (if a.length ≤ sizeLine then sc (.str (cutS a (some j) none)) else none) = _
  rw [sz_eq, if_pos h.1]; rfl
theorem o_ss01 {a : Str} {j : Int} (h : Al [a.length ≤ 16777216]) : pSlc false true [(m, enc a), (n, enc j)] = some ⟨true, 0, enc (cutS a none (some j))⟩ := by
  show (if a.length ≤ sizeLine then sc (.str (cutS a none (some j))) else none) = _
  rw [sz_eq, if_pos h.1]; rfl
theorem o_ss11 {a : Str} {j k : Int} (h : Al [a.length ≤ 16777216]) : pSlc true true [(m, enc a), (n, enc j), (l, enc k)] = some ⟨true, 0, enc (cutS a (some j) (some k))⟩ := by
  show (if a.length ≤ sizeLine then sc (.str (cutS a (some j) (some k))) else none) = _
  rw [sz_eq, if_pos h.1]; rfl
/-! sums -/
theorem mapM_int : ∀ xs : List Int, (xs.map enc).mapM PV.intOf = some xs
  | [] => rfl
  | x :: r => by
    rw [List.map_cons, List.mapM_cons, mapM_int r]
    rfl
theorem o_sum {xs : List Int} : pSum [(m, enc xs)] = some ⟨true, 0, enc xs.sum⟩ := by
  show ((xs.map enc).mapM PV.intOf).bind (fun ns => sc (.int ns.sum)) = _
  rw [mapM_int]
  rfl
theorem o_maxl {xs : List Int} (h : Al [xs ≠ []]) : pMaxL [(m, enc xs)] = some ⟨true, 0, enc (xs.max?.getD 0)⟩ := by
  show ((xs.map enc).mapM PV.intOf).bind (fun ns => ns.max?.bind fun m => sc (.int m)) = _
  rw [mapM_int]
  show xs.max?.bind (fun m => sc (.int m)) = _
  cases e : xs.max? with
  | none => exact absurd (List.max?_eq_none_iff.mp e) h.1
  | some q => rfl
theorem o_minl {xs : List Int} (h : Al [xs ≠ []]) : pMinL [(m, enc xs)] = some ⟨true, 0, enc (xs.min?.getD 0)⟩ := by
  show ((xs.map enc).mapM PV.intOf).bind (fun ns => ns.min?.bind fun m => sc (.int m)) = _
  rw [mapM_int]
  show xs.min?.bind (fun m => sc (.int m)) = _
  cases e : xs.min? with
  | none => exact absurd (List.min?_eq_none_iff.mp e) h.1
  | some q => rfl
/-! texts -/
theorem o_split {a q : Str} (h : Al [(q.length == 0) = false, a.length + 2 ≤ 16777216]) : pSplit [(m, enc a), (n, enc q)] = some ⟨true, 1, enc (Txt.split a q)⟩ := by
  show pSplit [(m, .str a), (n, .str q)] = _
  rw [p_split, sz_eq, if_pos ⟨h.1, h.2.1⟩]
  rfl
theorem o_part {a q : Str} (h : Al [(q.length == 0) = false, a.length ≤ 16777216]) : pPart [(m, enc a), (n, enc q)] = some ⟨true, 0, enc (T3.mk (Txt.partition a q).1 (Txt.partition a q).2.1 (Txt.partition a q).2.2)⟩ := by
  show pPart [(m, .str a), (n, .str q)] = _
  rw [p_part, sz_eq, if_pos ⟨h.1, h.2.1⟩]
  rfl
theorem mapM_strs : ∀ xs : List Str, (xs.map enc).mapM PV.strOf = some xs
  | [] => rfl
  | x :: r => by
    rw [List.map_cons, List.mapM_cons, mapM_strs r]
    rfl
theorem o_join {a : Str} {xs : List Str} (h : Al [(xs.map (·.length)).sum + xs.length * a.length ≤ 16777216]) : pJoin [(m, enc a), (n, enc xs)] = some ⟨true, 0, enc (Txt.join a xs)⟩ := by
  show ((xs.map enc).mapM PV.strOf).bind (fun ys => if (ys.map (·.length)).sum + ys.length * a.length ≤ 16777216 then sc (.str (Txt.join a ys)) else none) = _
  rw [mapM_strs]
  exact if_pos h.1
theorem o_jointup {a : Str} {xs : Tup Str} (h : Al [(xs.l.map (·.length)).sum + xs.l.length * a.length ≤ 16777216]) : pJoin [(m, enc a), (n, enc xs)] = some ⟨true, 0, enc (Txt.join a xs.l)⟩ := by
  show ((xs.l.map enc).mapM PV.strOf).bind (fun ys => if (ys.map (·.length)).sum + ys.length * a.length ≤ 16777216 then sc (.str (Txt.join a ys)) else none) = _
  rw [mapM_strs]
  exact if_pos h.1
theorem o_starts {a q : Str} : pStarts [(m, enc a), (n, enc q)] = some ⟨true, 0, enc (Txt.startswith a q)⟩ := rfl
def strIn (a b : Str) : Bool := !(Builtin.Str.occurrences b a 0 b.length 1).isEmpty
theorem o_ins {a q : Str} : inOp b [(m, enc a), (n, enc q)] = some ⟨true, 0, enc (b ^^ strIn a q)⟩ := rfl
/-! truth -/
theorem tru_b : (enc b).tru = some b := rfl
theorem tru_i {a : Int} : (enc a).tru = some (a != 0) := rfl
theorem tru_l [Enc α] {a : List α} : (enc a).tru = some (!a.isEmpty) := by cases a <;> rfl
theorem tru_t [Enc α] {a : Tup α} : (enc a).tru = some (!a.l.isEmpty) := by obtain ⟨l⟩ := a; cases l <;> rfl
theorem tru_s {a : Str} (h : Al [a.length ≤ 16777216]) : (enc a).tru = some (decide (a.length ≠ 0)) := by
  show (if a.length ≤ sizeLine then some ((a.length : Int) != 0) else none) = _
  rw [sz_eq, if_pos h.1]
  congr 1
  rw [Bool.eq_iff_iff]
  simp
end T

set_option maxRecDepth 100000
set_option maxHeartbeats 1000000
namespace T
open PySem PySem.Spec PyProof.Rows L2 Pv
open Enc (enc)
variable {α β γ δ ε ζ o τ s κ ν : Type}
variable {Γ Γ1 Γ2 Γ3 : List SP} {f h : EF} {af : AF} {t u : TFn} {op : PO} {i l l1 l2 n m : Nat} {w w1 w2 p p1 p2 ow pu b d : Bool} {c c1 c2 c3 : List Prop} {x y z : PV} {vs : List (Nat × PV)}
/-! # equality -/
/-- values that Python compares as data -/
class Dat (α : Type) [Enc α] where
  ok : α → Prop
  dp : Nat
  d : α → PyData
  toD : ∀ a : α, (enc a).toD = some (d a)
  lay : ∀ a : α, ok a → (d a).canLay0 = true
  dep : ∀ a : α, (d a).depth ≤ dp
  inj : ∀ a b : α, PyData.eqv (d a) (d b) = true ↔ a = b
  sc : ∀ (a b : α) u v, (enc a).flat = some u → (enc b).flat = some v → scal u v = true
theorem flat_eqv : ∀ {x y : PV} {u v : V} {d e : PyData}, x.flat = some u → y.flat = some v → x.toD = some d → y.toD = some e → scal u v = true → PyData.eqv d e = decide (u = v) := by
  intro x y u v d e hx hy hd he hs
  cases x <;> simp [PV.flat] at hx <;> cases y <;> simp [PV.flat] at hy <;> subst hx hy <;> simp [PV.toD] at hd he <;> subst hd he <;> simp [scal] at hs <;> simp [PyData.eqv, Bool.beq_eq_decide_eq]
theorem eqR_dat [Enc α] [D : Dat α] {a a' : α} (hd : D.dp ≤ 64) (h : Al [D.ok a, D.ok a']) [DecidableEq α] : eqR b [(m, enc a), (n, enc a')] = some ⟨true, 0, enc (b ^^ decide (a = a'))⟩ := by
  have key : PyData.eqv (D.d a) (D.d a') = decide (a = a') := by
    rw [Bool.eq_iff_iff, D.inj]; simp
  have s1 : SeqAt.shaped (D.d a) = true := by
    unfold SeqAt.shaped
    rw [D.lay a h.1, Bool.true_and, decide_eq_true_eq]
    exact Nat.le_trans (D.dep a) hd
  have s2 : SeqAt.shaped (D.d a') = true := by
    unfold SeqAt.shaped
    rw [D.lay a' h.2.1, Bool.true_and, decide_eq_true_eq]
    exact Nat.le_trans (D.dep a') hd
  have t1 := D.toD a
  have t2 := D.toD a'
  have sc' := D.sc a a'
  unfold eqR
  cases e1 : (enc a).flat with
  | none => simp only [e1, t1, t2, s1, s2, and_self, if_true, key]; rfl
  | some u =>
    cases e2 : (enc a').flat with
    | none => simp only [e1, e2, t1, t2, s1, s2, and_self, if_true, key]; rfl
    | some v =>
      have hs := sc' u v e1 e2
      have := flat_eqv e1 e2 t1 t2 hs
      rw [key] at this
      simp only [e1, e2, hs, if_true, this]
      rfl
/-- flat values -/
class Flt (α : Type) [Enc α] where
  v : α → V
  fl : ∀ a : α, (enc a).flat = some (v a)
  inj : ∀ a b : α, v a = v b ↔ a = b
  sc : ∀ a b : α, scal (v a) (v b) = true
  eqV : ∀ a b : α, L2.eqV (v a) (v b) = true ↔ a = b
instance : Flt Int where
  v := .int
  fl _ := rfl
  inj a b := by simp
  sc _ _ := rfl
  eqV a b := by simp [L2.eqV]
instance : Flt Str where
  v := .str
  fl _ := rfl
  inj a b := by simp
  sc _ _ := rfl
  eqV a b := by simp [L2.eqV]
instance : Flt Bool where
  v := .bl
  fl _ := rfl
  inj a b := by simp
  sc _ _ := rfl
  eqV a b := by simp [L2.eqV]
instance : Flt (Option Int) where
  v a := match a with | none => .non | some a => .int a
  fl a := by cases a <;> rfl
  inj a b := by cases a <;> cases b <;> simp
  sc a b := by cases a <;> cases b <;> rfl
  eqV a b := by cases a <;> cases b <;> simp [L2.eqV]
instance : Flt (Option Str) where
  v a := match a with | none => .non | some a => .str a
  fl a := by cases a <;> rfl
  inj a b := by cases a <;> cases b <;> simp
  sc a b := by cases a <;> cases b <;> rfl
  eqV a b := by cases a <;> cases b <;> simp [L2.eqV]
theorem eqR_flt [Enc α] [D : Flt α] {a a' : α} [DecidableEq α] : eqR b [(m, enc a), (n, enc a')] = some ⟨true, 0, enc (b ^^ decide (a = a'))⟩ := by
  unfold eqR
  simp only [D.fl, D.sc, if_true]
  congr 3
  rw [Bool.eq_iff_iff]
  simp [D.inj]
theorem o_eqf [Enc α] [Flt α] {a a' : α} [DecidableEq α] : pEq [(m, enc a), (n, enc a')] = some ⟨true, 0, enc (decide (a = a'))⟩ := by
  have := eqR_flt (b := false) (m := m) (n := n) (a := a) (a' := a')
  rw [Bool.false_xor] at this
  exact this
theorem o_nef [Enc α] [Flt α] {a a' : α} [DecidableEq α] : pNe [(m, enc a), (n, enc a')] = some ⟨true, 0, enc (!decide (a = a'))⟩ := by
  have := eqR_flt (b := true) (m := m) (n := n) (a := a) (a' := a')
  rw [Bool.true_xor] at this
  exact this
theorem o_eqd [Enc α] [D : Dat α] {a a' : α} [DecidableEq α] (hd : D.dp ≤ 64) (h : Al [D.ok a, D.ok a']) : pEq [(m, enc a), (n, enc a')] = some ⟨true, 0, enc (decide (a = a'))⟩ := by
  have := eqR_dat (b := false) (m := m) (n := n) hd h
  rw [Bool.false_xor] at this
  exact this
theorem o_ned [Enc α] [D : Dat α] {a a' : α} [DecidableEq α] (hd : D.dp ≤ 64) (h : Al [D.ok a, D.ok a']) : pNe [(m, enc a), (n, enc a')] = some ⟨true, 0, enc (!decide (a = a'))⟩ := by
  have := eqR_dat (b := true) (m := m) (n := n) hd h
  rw [Bool.true_xor] at this
  exact this
instance : Dat Int where
  ok _ := True
  dp := 0
  d := .int
  toD _ := rfl
  lay _ _ := rfl
  dep _ := Nat.le_refl 0
  inj a b := by simp [PyData.eqv]
  sc a b u v h k := by cases h; cases k; rfl
instance : Dat Bool where
  ok _ := True
  dp := 0
  d := .bool
  toD _ := rfl
  lay _ _ := rfl
  dep _ := Nat.le_refl 0
  inj a b := by simp [PyData.eqv]
  sc a b u v h k := by cases h; cases k; rfl
instance : Dat Str where
  ok a := PyData.strOk a = true
  dp := 0
  d := .str
  toD _ := rfl
  lay _ h := h
  dep _ := Nat.le_refl 0
  inj a b := by simp [PyData.eqv]
  sc a b u v h k := by cases h; cases k; rfl
/-- data that is not None -/
class DNN (α : Type) [Enc α] [Dat α] : Prop where
  nn : ∀ a : α, PyData.eqv .none (Dat.d a) = false ∧ PyData.eqv (Dat.d a) .none = false
instance : DNN Int := ⟨fun _ => ⟨rfl, rfl⟩⟩
instance : DNN Bool := ⟨fun _ => ⟨rfl, rfl⟩⟩
instance : DNN Str := ⟨fun _ => ⟨rfl, rfl⟩⟩
instance [Enc α] [D : Dat α] [N : DNN α] : Dat (Option α) where
  ok a := ∀ x, a = some x → D.ok x
  dp := D.dp
  d a := match a with | none => .none | some a => D.d a
  toD a := by cases a with
    | none => rfl
    | some a => exact D.toD a
  lay a h := by cases a with
    | none => rfl
    | some a => exact D.lay a (h a rfl)
  dep a := by cases a with
    | none => exact Nat.zero_le _
    | some a => exact D.dep a
  inj a b := by
    cases a with
    | none => cases b with
      | none => simp [PyData.eqv]
      | some b => simp [(N.nn b).1]
    | some a => cases b with
      | none => simp [(N.nn a).2]
      | some b => simp [D.inj]
  sc a b u v h k := by
    cases a with
    | none => cases b with
      | none => cases h; cases k; rfl
      | some b =>
        cases h
        have k : (enc b).flat = some v := k
        generalize enc b = q at k
        cases q <;> simp [PV.flat] at k <;> subst k <;> rfl
    | some a => cases b with
      | none =>
        cases k
        have h : (enc a).flat = some u := h
        generalize enc a = q at h
        cases q <;> simp [PV.flat] at h <;> subst h <;> rfl
      | some b => exact D.sc a b u v h k
theorem toDs_map [Enc α] [D : Dat α] : ∀ l : List α, PV.toDs (l.map enc) = some (l.map D.d)
  | [] => rfl
  | x :: r => by
    show (PV.toD (enc x)).bind (fun d => (PV.toDs (r.map enc)).map fun ds => d :: ds) = _
    rw [D.toD, toDs_map r]
    rfl
theorem layAll [Enc α] [D : Dat α] : ∀ {l : List α}, (∀ x ∈ l, D.ok x) → PyData.canLayAll0 (l.map D.d) = true
  | [], _ => rfl
  | x :: r, h => by
    show (PyData.canLay0 (D.d x) && PyData.canLayAll0 (r.map D.d)) = true
    rw [D.lay x (h x List.mem_cons_self), layAll fun y hy => h y (List.mem_cons_of_mem _ hy)]
    rfl
theorem depAll [Enc α] [D : Dat α] : ∀ l : List α, PyData.depthAll (l.map D.d) ≤ D.dp
  | [] => Nat.zero_le _
  | x :: r => Nat.max_le.mpr ⟨D.dep x, depAll r⟩
theorem injAll [Enc α] [D : Dat α] : ∀ l k : List α, PyData.eqvAll (l.map D.d) (k.map D.d) = true ↔ l = k
  | [], [] => by simp [PyData.eqvAll]
  | [], _ :: _ => by simp [PyData.eqvAll]
  | _ :: _, [] => by simp [PyData.eqvAll]
  | x :: r, y :: q => by
    rw [List.map_cons, List.map_cons]
    simp [PyData.eqvAll, D.inj, injAll r q]
instance [Enc α] [D : Dat α] : Dat (List α) where
  ok l := ∀ x ∈ l, D.ok x
  dp := D.dp + 1
  d l := .list (l.map D.d)
  toD l := by
    show (PV.toDs (l.map enc)).map PyData.list = _
    rw [toDs_map]; rfl
  lay l h := layAll h
  dep l := Nat.succ_le_succ (depAll l)
  inj a b := by rw [← injAll]; simp [PyData.eqv]
  sc a b u v h k := nomatch h
instance [Enc α] [D : Dat α] : Dat (Tup α) where
  ok l := ∀ x ∈ l.l, D.ok x
  dp := D.dp + 1
  d l := .tuple (l.l.map D.d)
  toD l := by
    show (PV.toDs (l.l.map enc)).map PyData.tuple = _
    rw [toDs_map]; rfl
  lay l h := layAll h
  dep l := Nat.succ_le_succ (depAll l.l)
  inj a b := by
    have := injAll a.l b.l
    obtain ⟨a⟩ := a
    obtain ⟨b⟩ := b
    simp [PyData.eqv, this]
  sc a b u v h k := nomatch h
instance [Enc α] [D : Dat α] : Dat (T1 α) where
  ok l := D.ok l.a
  dp := D.dp + 1
  d l := .tuple [D.d l.a]
  toD l := by
    show ((PV.toD (enc l.a)).bind fun d => (PV.toDs []).map fun ds => d :: ds).map PyData.tuple = _
    rw [D.toD]; rfl
  lay l h := by simp [PyData.canLay0, PyData.canLayAll0, D.lay _ h]
  dep l := by
    have := D.dep l.a
    simp [PyData.depth, PyData.depthAll]
    omega
  inj a b := by
    obtain ⟨a⟩ := a
    obtain ⟨b⟩ := b
    simp [PyData.eqv, PyData.eqvAll, D.inj]
  sc a b u v h k := nomatch h
instance [Enc α] [Enc β] [A : Dat α] [B : Dat β] : Dat (α × β) where
  ok l := A.ok l.1 ∧ B.ok l.2
  dp := max A.dp B.dp + 1
  d l := .tuple [A.d l.1, B.d l.2]
  toD l := by
    show ((PV.toD (enc l.1)).bind fun d => ((PV.toD (enc l.2)).bind fun d => (PV.toDs []).map fun ds => d :: ds).map fun ds => d :: ds).map PyData.tuple = _
    rw [A.toD, B.toD]; rfl
  lay l h := by simp [PyData.canLay0, PyData.canLayAll0, A.lay _ h.1, B.lay _ h.2]
  dep l := by
    have := A.dep l.1
    have := B.dep l.2
    simp [PyData.depth, PyData.depthAll]
    omega
  inj a b := by
    obtain ⟨a, a'⟩ := a
    obtain ⟨b, b'⟩ := b
    simp [PyData.eqv, PyData.eqvAll, A.inj, B.inj]
  sc a b u v h k := nomatch h
instance [Enc α] [Enc β] [Enc γ] [A : Dat α] [B : Dat β] [C : Dat γ] : Dat (T3 α β γ) where
  ok l := A.ok l.a ∧ B.ok l.b ∧ C.ok l.c
  dp := max A.dp (max B.dp C.dp) + 1
  d l := .tuple [A.d l.a, B.d l.b, C.d l.c]
  toD l := by
    show ((PV.toD (enc l.a)).bind fun d => ((PV.toD (enc l.b)).bind fun d => ((PV.toD (enc l.c)).bind fun d => (PV.toDs []).map fun ds => d :: ds).map fun ds => d :: ds).map fun ds => d :: ds).map PyData.tuple = _
    rw [A.toD, B.toD, C.toD]; rfl
  lay l h := by simp [PyData.canLay0, PyData.canLayAll0, A.lay _ h.1, B.lay _ h.2.1, C.lay _ h.2.2]
  dep l := by
    have := A.dep l.a
    have := B.dep l.b
    have := C.dep l.c
    simp [PyData.depth, PyData.depthAll]
    omega
  inj a b := by
    obtain ⟨a, a', a''⟩ := a
    obtain ⟨b, b', b''⟩ := b
    simp [PyData.eqv, PyData.eqvAll, A.inj, B.inj, C.inj]
  sc a b u v h k := nomatch h
instance [Enc α] [Enc β] [Enc γ] [Enc δ] [A : Dat α] [B : Dat β] [C : Dat γ] [D : Dat δ] : Dat (T4 α β γ δ) where
  ok l := A.ok l.a ∧ B.ok l.b ∧ C.ok l.c ∧ D.ok l.d
  dp := max (max A.dp B.dp) (max C.dp D.dp) + 1
  d l := .tuple [A.d l.a, B.d l.b, C.d l.c, D.d l.d]
  toD l := by
    show ((PV.toD (enc l.a)).bind fun d => ((PV.toD (enc l.b)).bind fun d => ((PV.toD (enc l.c)).bind fun d => ((PV.toD (enc l.d)).bind fun d => (PV.toDs []).map fun ds => d :: ds).map fun ds => d :: ds).map fun ds => d :: ds).map fun ds => d :: ds).map PyData.tuple = _
    rw [A.toD, B.toD, C.toD, D.toD]; rfl
  lay l h := by simp [PyData.canLay0, PyData.canLayAll0, A.lay _ h.1, B.lay _ h.2.1, C.lay _ h.2.2.1, D.lay _ h.2.2.2]
  dep l := by
    have := A.dep l.a
    have := B.dep l.b
    have := C.dep l.c
    have := D.dep l.d
    simp [PyData.depth, PyData.depthAll]
    omega
  inj a b := by
    obtain ⟨a, a', a'', a3⟩ := a
    obtain ⟨b, b', b'', b3⟩ := b
    simp [PyData.eqv, PyData.eqvAll, A.inj, B.inj, C.inj, D.inj]
  sc a b u v h k := nomatch h
instance [Enc α] [D : Dat α] : DNN (List α) := ⟨fun _ => ⟨rfl, rfl⟩⟩
instance [Enc α] [D : Dat α] : DNN (Tup α) := ⟨fun _ => ⟨rfl, rfl⟩⟩
instance [Enc α] [D : Dat α] : DNN (T1 α) := ⟨fun _ => ⟨rfl, rfl⟩⟩
instance [Enc α] [Enc β] [A : Dat α] [B : Dat β] : DNN (α × β) := ⟨fun _ => ⟨rfl, rfl⟩⟩
instance [Enc α] [Enc β] [Enc γ] [A : Dat α] [B : Dat β] [C : Dat γ] : DNN (T3 α β γ) := ⟨fun _ => ⟨rfl, rfl⟩⟩
instance [Enc α] [Enc β] [Enc γ] [Enc δ] [A : Dat α] [B : Dat β] [C : Dat γ] [D : Dat δ] : DNN (T4 α β γ δ) := ⟨fun _ => ⟨rfl, rfl⟩⟩
/-! in -/
theorem flats [Enc α] [D : Flt α] : ∀ l : List α, (l.map enc).mapM PV.flat = some (l.map D.v)
  | [] => rfl
  | x :: r => by
    rw [List.map_cons, List.mapM_cons, flats r, D.fl]
    rfl
theorem inV_map [Enc α] [D : Flt α] [DecidableEq α] {a : α} : ∀ {l : List α}, inV (D.v a) (l.map D.v) = decide (a ∈ l)
  | [] => rfl
  | x :: r => by
    have ih := inV_map (a := a) (l := r)
    unfold inV at ih ⊢
    rw [List.map_cons, List.any_cons, ih, Bool.eq_iff_iff, Bool.or_eq_true, D.eqV, decide_eq_true_eq, decide_eq_true_eq, List.mem_cons]
    exact or_congr ⟨fun h => h.symm, fun h => h.symm⟩ Iff.rfl
def inGo (b : Bool) (x : PV) (n : Nat) (y : PV) : Option Po := match y.items n with
  | none => none
  | some q => match x.flat, q.2.mapM PV.flat with
    | some w, some ws => Pv.sc (.bl (b ^^ inV w ws))
    | _, _ => match x.toD, PV.toDs q.2, y with
      | some d, some ds, .lst _ => if SeqAt.shaped d = true ∧ SeqAt.shaped (.list ds) = true then Pv.sc (.bl (b ^^ ds.any fun z => PyData.eqv z d)) else none
      | _, _, _ => none
theorem inOp_go (hs : ∀ z, y ≠ .str z) : inOp b [(m, x), (n, y)] = inGo b x n y := by
  cases y with
  | str z => exact absurd rfl (hs z)
  | _ => cases x <;> rfl
theorem in_gen [Enc α] [D : Flt α] [DecidableEq α] {a : α} {xs : List α} {q : Nat} (hs : ∀ z, y ≠ .str z) (hy : y.items n = some (q, xs.map enc)) : inOp b [(m, enc a), (n, y)] = some ⟨true, 0, enc (b ^^ decide (a ∈ xs))⟩ := by
  rw [inOp_go hs]
  unfold inGo
  simp only [hy, D.fl, flats, inV_map]
  rfl
theorem o_inl [Enc α] [Flt α] [DecidableEq α] {a : α} {xs : List α} : inOp b [(m, enc a), (n, enc xs)] = some ⟨true, 0, enc (b ^^ decide (a ∈ xs))⟩ := in_gen (q := n - 1) (fun z e => nomatch e) rfl
theorem o_intup [Enc α] [Flt α] [DecidableEq α] {a : α} {xs : Tup α} : inOp b [(m, enc a), (n, enc xs)] = some ⟨true, 0, enc (b ^^ decide (a ∈ xs.l))⟩ := in_gen (q := 0) (fun z e => nomatch e) rfl
theorem o_inctup [Enc α] [Flt α] [DecidableEq α] {a : α} {xs : CTup α} : inOp b [(m, enc a), (n, enc xs)] = some ⟨true, 0, enc (b ^^ decide (a ∈ xs.l))⟩ := in_gen (q := 0) (fun z e => nomatch e) rfl
/-- in a display of items -/
theorem o_inT [Enc α] [Flt α] [DecidableEq α] {a : α} (xs : List α) {ys : List PV} (h : ys = xs.map enc) : inOp b [(m, enc a), (n, .tup ys)] = some ⟨true, 0, enc (b ^^ decide (a ∈ xs))⟩ := by
  subst h
  exact in_gen (q := 0) (fun z e => nomatch e) rfl
/-- data in a list of data -/
theorem o_ind [Enc α] [D : Dat α] [DecidableEq α] {a : α} {xs : List α} (hd : D.dp ≤ 63) (hf : (enc a).flat = none) (h : Al [D.ok a, ∀ x ∈ xs, D.ok x]) : inOp b [(m, enc a), (n, enc xs)] = some ⟨true, 0, enc (b ^^ decide (a ∈ xs))⟩ := by
  have s1 : SeqAt.shaped (D.d a) = true := by
    unfold SeqAt.shaped
    rw [D.lay a h.1, Bool.true_and, decide_eq_true_eq]
    exact Nat.le_trans (D.dep a) (by omega)
  have s2 : SeqAt.shaped (.list (xs.map D.d)) = true := by
    unfold SeqAt.shaped
    rw [show PyData.canLay0 (.list (xs.map D.d)) = true from layAll h.2.1, Bool.true_and, decide_eq_true_eq]
    have := depAll xs
    show PyData.depthAll (xs.map D.d) + 1 ≤ 64
    omega
  have e : inOp b [(m, enc a), (n, enc xs)] = inGo b (enc a) n (.lst (xs.map enc)) := inOp_go fun z e => nomatch e
  rw [e]
  unfold inGo
  simp only [PV.items, hf, D.toD, toDs_map, s1, s2, and_self, if_true]
  have k : ((xs.map D.d).any fun z => PyData.eqv z (D.d a)) = decide (a ∈ xs) := by
    rw [Bool.eq_iff_iff, List.any_eq_true, decide_eq_true_eq]
    constructor
    · rintro ⟨z, hz, e⟩
      obtain ⟨q, hq, rfl⟩ := List.mem_map.mp hz
      exact (D.inj _ _).mp e ▸ hq
    · exact fun hq => ⟨_, List.mem_map.mpr ⟨a, hq, rfl⟩, (D.inj _ _).mpr rfl⟩
  rw [k]
  rfl
end T

set_option maxRecDepth 100000
set_option maxHeartbeats 1000000
namespace T
open PySem PySem.Spec PyProof.Rows L2 Pv
open Enc (enc)
variable {α β γ δ ε ζ o τ s κ ν : Type}
variable {Γ Γ1 Γ2 Γ3 : List SP} {f h : EF} {af : AF} {t u : TFn} {op : PO} {i l l1 l2 n mm : Nat} {w w1 w2 p p1 p2 ow pu b d : Bool} {c c1 c2 c3 : List Prop} {x y z : PV} {vs : List (Nat × PV)}
variable {F G A B : SF} {m m' m1 m2 : M o} {Q : o → SR → Prop} {E : Ev → Prop} {K : Rr → SR}
/-! # dicts -/
class KS (κ : Type) [Enc κ] where
  s : κ → Key
  ks : ∀ k : κ, (enc k).keyS = some (s k)
  ko : ∀ k : κ, (enc k).keyOf = some (.k (s k))
  inj : ∀ a b : κ, s a = s b → a = b
  back : ∀ k : κ, keyP (s k) = enc k
instance : KS Int := ⟨.inl, fun _ => rfl, fun _ => rfl, fun a b h => by injection h, fun _ => rfl⟩
instance : KS Str := ⟨.inr, fun _ => rfl, fun _ => rfl, fun a b h => by injection h, fun _ => rfl⟩
class KeyE (κ : Type) [Enc κ] where
  key : κ → DK
  kof : ∀ k : κ, (enc k).keyOf = some (key k)
  inj : ∀ a b : κ, key a = key b → a = b
  back : ∀ k : κ, dkP (key k) = enc k
  kind : Bool
  knd : ∀ k : κ, match key k with | .k _ => kind = false | .t _ => kind = true
instance [Enc κ] [S : KS κ] : KeyE κ := ⟨fun k => .k (S.s k), S.ko, fun a b h => S.inj a b (by injection h), S.back, false, fun _ => rfl⟩
instance [Enc α] [Enc β] [A : KS α] [B : KS β] : KeyE (α × β) where
  key k := .t [A.s k.1, B.s k.2]
  kof k := by
    show (([enc k.1, enc k.2].mapM PV.keyS).map DK.t) = _
    simp [A.ks, B.ks]
  inj a b h := by
    simp only [DK.t.injEq, List.cons.injEq, and_true] at h
    exact Prod.ext (A.inj _ _ h.1) (B.inj _ _ h.2)
  back k := by
    show PV.tup [keyP (A.s k.1), keyP (B.s k.2)] = _
    rw [A.back, B.back]; rfl
  kind := true
  knd _ := rfl
instance [Enc α] [Enc β] [Enc γ] [A : KS α] [B : KS β] [C : KS γ] : KeyE (T3 α β γ) where
  key k := .t [A.s k.a, B.s k.b, C.s k.c]
  kof k := by
    show (([enc k.a, enc k.b, enc k.c].mapM PV.keyS).map DK.t) = _
    simp [A.ks, B.ks, C.ks]
  inj a b h := by
    simp only [DK.t.injEq, List.cons.injEq, and_true] at h
    obtain ⟨a1, a2, a3⟩ := a
    obtain ⟨b1, b2, b3⟩ := b
    rw [T3.mk.injEq]
    exact ⟨A.inj _ _ h.1, B.inj _ _ h.2.1, C.inj _ _ h.2.2⟩
  back k := by
    show PV.tup [keyP (A.s k.a), keyP (B.s k.b), keyP (C.s k.c)] = _
    rw [A.back, B.back, C.back]; rfl
  kind := true
  knd _ := rfl
structure Dic (κ ν : Type) where
  l : List (κ × ν)
  deriving DecidableEq, Inhabited
def Dic.get [DecidableEq κ] (d : Dic κ ν) (k : κ) : Option ν := (d.l.find? fun p => decide (p.1 = k)).map (·.2)
def putL [DecidableEq κ] : List (κ × ν) → κ → ν → List (κ × ν)
  | [], k, x => [(k, x)]
  | p :: r, k, x => if p.1 = k then (p.1, x) :: r else p :: putL r k x
def Dic.put [DecidableEq κ] (d : Dic κ ν) (k : κ) (x : ν) : Dic κ ν := ⟨putL d.l k x⟩
def Dic.keys (d : Dic κ ν) : List κ := d.l.map (·.1)
def Dic.has [DecidableEq κ] (d : Dic κ ν) (k : κ) : Bool := (d.get k).isSome
def Dic.of [DecidableEq κ] (l : List (κ × ν)) : Dic κ ν := ⟨l.foldl (fun acc p => putL acc p.1 p.2) []⟩
def encD [Enc κ] [KeyE κ] [Enc ν] (l : List (κ × ν)) : List (DK × PV) := l.map fun p => (KeyE.key p.1, enc p.2)
instance [Enc κ] [KeyE κ] [Enc ν] : Enc (Dic κ ν) := ⟨fun d => .dic (encD d.l)⟩
section
variable [Enc κ] [KE0 : KeyE κ] [Enc ν] [DecidableEq κ]
theorem key_iff {a b : κ} : KeyE.key a = KeyE.key b ↔ a = b := ⟨KE0.inj a b, fun h => h ▸ rfl⟩
theorem find_enc {k : κ} : ∀ l : List (κ × ν), valD (encD l) (KeyE.key k) = ((l.find? fun p => decide (p.1 = k)).map (·.2)).map enc
  | [] => rfl
  | p :: r => by
    have ih := find_enc (k := k) r
    unfold valD encD at ih ⊢
    rw [List.map_cons]
    by_cases h : p.1 = k
    · rw [List.find?_cons_of_pos (by simp [key_iff, h]), List.find?_cons_of_pos (by simp [h])]
      rfl
    · rw [List.find?_cons_of_neg (by simp [key_iff, h]), List.find?_cons_of_neg (by simp [h])]
      exact ih
theorem valD_enc {d : Dic κ ν} {k : κ} : valD (encD d.l) (KeyE.key k) = (d.get k).map enc := find_enc d.l
theorem putD_enc {k : κ} {v : ν} : ∀ l : List (κ × ν), putD (encD l) (KeyE.key k) (enc v) = encD (putL l k v)
  | [] => rfl
  | p :: r => by
    have ih := putD_enc (k := k) (v := v) r
    show (if KeyE.key p.1 = KeyE.key k then _ else _) = encD (if p.1 = k then _ else _)
    by_cases h : p.1 = k
    · rw [if_pos (key_iff.mpr h), if_pos h]; rfl
    · rw [if_neg (fun z => h (key_iff.mp z)), if_neg h]
      show _ :: putD (encD r) _ _ = _ :: encD (putL r k v)
      rw [ih]
theorem fits_enc {l : List (κ × ν)} {k : κ} : keyFits (encD l) (KeyE.key k) = true := by
  cases l with
  | nil => cases KeyE.key k <;> rfl
  | cons p r =>
    have h1 := KE0.knd p.1
    have h2 := KE0.knd k
    show keyFits ((KeyE.key p.1, enc p.2) :: encD r) _ = true
    revert h1 h2
    cases KeyE.key p.1 <;> cases KeyE.key k <;> intro h1 h2
    · rfl
    · exact absurd ((h1 : KE0.kind = false).symm.trans h2) (by decide)
    · exact absurd ((h2 : KE0.kind = false).symm.trans h1) (by decide)
    · rfl
theorem o_ixd [Inhabited ν] {q : Dic κ ν} {k : κ} (hn : n ≤ 1) (h : Al [(q.get k).isSome = true]) : pIxD [(n, enc q), (mm, enc k)] = some ⟨true, 0, enc ((q.get k).getD default)⟩ := by
  show (match (enc k).keyOf with
    | some k => if keyFits (encD q.l) k = true then (match valD (encD q.l) k with
      | some x => some (⟨n ≤ 1 || x.imm, if x.imm = true then 0 else n - 1, x⟩ : Po)
      | none => none) else none
    | none => none) = _
  rw [KE0.kof]
  simp only [fits_enc, if_true, valD_enc]
  obtain ⟨v, e⟩ := Option.isSome_iff_exists.mp h.1
  rw [e]
  simp only [Option.map_some, Option.getD_some]
  have : n - 1 = 0 := by omega
  simp [hn, this]
theorem o_getd {q : Dic κ ν} {k : κ} (hn : n ≤ 1) : pGetD [(n, enc q), (mm, enc k)] = some ⟨true, 0, enc (q.get k)⟩ := by
  show (match (enc k).keyOf with
    | some k => if keyFits (encD q.l) k = true then (match valD (encD q.l) k with
      | some x => some (⟨n ≤ 1 || x.imm, if x.imm = true then 0 else n - 1, x⟩ : Po)
      | none => some ⟨true, 0, .non⟩) else none
    | none => none) = _
  rw [KE0.kof]
  simp only [fits_enc, if_true, valD_enc]
  cases q.get k with
  | none => rfl
  | some v =>
    have : n - 1 = 0 := by omega
    simp only [Option.map_some]
    simp [hn, this]
    rfl
theorem o_indk {q : Dic κ ν} {k : κ} : inOpD b [(mm, enc k), (n, enc q)] = some ⟨true, 0, enc (b ^^ q.has k)⟩ := by
  show (match (enc k).keyOf with
    | some k => if keyFits (encD q.l) k = true then sc (.bl (b ^^ (valD (encD q.l) k).isSome)) else none
    | none => none) = _
  rw [KE0.kof]
  simp only [fits_enc, if_true, valD_enc, Option.isSome_map]
  rfl
theorem o_lend {q : Dic κ ν} : pLenD [(n, enc q)] = some ⟨true, 0, enc (q.l.length : Int)⟩ := by
  show sc (.int (encD q.l).length) = _
  unfold encD
  rw [List.length_map]
  rfl
theorem keys_enc {q : Dic κ ν} : (encD q.l).map (fun p => dkP p.1) = q.keys.map enc := by
  unfold encD Dic.keys
  rw [List.map_map, List.map_map]
  exact List.map_congr_left fun p _ => KE0.back p.1
theorem ig_keys {q : Dic κ ν} (he : EG Γ f 0 w p c (enc q) Γ1) : IG Γ (iAnyD f) c (q.keys.map enc) Γ1 := by
  have := ig_dic he
  rw [keys_enc] at this
  exact this
end
theorem inD_eq {x y : PV} (h : ∀ kvs, y ≠ .dic kvs) : inOpD b [(mm, x), (n, y)] = inOp b [(mm, x), (n, y)] := by
  cases y with
  | dic kvs => exact absurd rfl (h kvs)
  | _ => rfl
theorem lenD_eq {y : PV} (h : ∀ kvs, y ≠ .dic kvs) : pLenD [(n, y)] = pLen [(n, y)] := by
  cases y with
  | dic kvs => exact absurd rfl (h kvs)
  | _ => rfl
theorem nd_l [Enc α] {l : List α} : ∀ kvs, (enc l : PV) ≠ .dic kvs := fun _ e => nomatch e
theorem enc_join [Enc ν] {a : Option (Option ν)} : enc a = enc a.join := by cases a <;> rfl
/-! # changes in place -/
def kApp (i : Nat) (K : Rr → SR) : Rr → SR := fun r => match r.ρ[i]? with
  | some (some (n + 1, .lst xs)) => if fitL n r = true ∧ xs.length < sizeLine then K ⟨false, true, 0, .non, r.ρ.set i (some (n + 1, .lst (xs ++ [r.x])))⟩ else .bad
  | _ => .bad
theorem ce_app [Enc α] {xs : List α} (hi : Γ[i]? = some (sv 1 (enc xs))) (hf : CE Γ f (kApp i K) m Q E) : CE Γ (eAppend i f) K m Q E := fun ρ z => by
  obtain ⟨q, e1, e2⟩ := z.get hi
  have e2 : q = some (1, .lst (xs.map enc)) := e2
  subst e2
  have := hf ρ z
  rw [show ofE (eAppend i f ρ) K = ofE (f ρ) (kApp i K) by
    rw [z_append]
    simp only [e1]
    cases f ρ with
    | ok r =>
      show ofE (match r.ρ[i]? with | some (some (n + 1, .lst xs)) => _ | _ => _) K = kApp i K r
      unfold kApp
      simp only [sz_eq]
      split
      · split <;> rfl
      · rfl
    | exc => rfl
    | bad => rfl]
  exact this
theorem ke_app [Enc α] {xs : List α} {k : List α → M o} (a : α) (hi : Γ[i]? = some (sv 1 (enc xs))) (hm : m = grds [xs.length < 16777216] (lt (xs ++ [a]) k)) (hk : ∀ ys : List α, KE K 0 true .non (Γ.set i (sv 1 (enc ys))) (k ys) Q E) : KE (kApp i K) 0 w (enc a) Γ m Q E := fun pu ow ρ ho z => .grds hm fun hc => by
  obtain ⟨q, e1, e2⟩ := z.get hi
  have e2 : q = some (0 + 1, .lst (xs.map enc)) := e2
  subst e2
  unfold kApp
  simp only [e1]
  rw [if_pos ⟨by simp [fitL], by rw [sz_eq, List.length_map]; exact hc.1⟩]
  rw [lt_eq]
  refine hk (xs ++ [a]) _ true _ (fun _ => rfl) ?_
  have : PV.lst (xs.map enc ++ [enc a]) = enc (xs ++ [a]) := by
    show _ = PV.lst ((xs ++ [a]).map enc)
    rw [List.map_append]
    rfl
  rw [this]
  exact z.set i rfl
def putR (i : Nat) (rv rk : Rr) : SR := match rk.ρ[i]? with
    | some (some (n + 1, .lst xs)) => match rk.x with
      | .int k => match ixN xs.length k with
        | some j => if fitL n rv = true then .nx (rk.ρ.set i (some (n + 1, .lst (xs.set j rv.x)))) else .bad
        | none => .bad
      | _ => .bad
    | some (some (n + 1, .dic kvs)) => match rk.x.keyOf with
      | some k => if keyFits kvs k = true ∧ fitL n rv = true ∧ kvs.length < sizeLine then .nx (rk.ρ.set i (some (n + 1, .dic (putD kvs k rv.x)))) else .bad
      | none => .bad
    | _ => .bad
def kPut2 (i : Nat) (rv : Rr) (G : SF) : Rr → SR := fun rk => (putR i rv rk).bind G
def kPut (i : Nat) (kf : EF) (G : SF) : Rr → SR := fun rv => match rv.ρ[i]? with
  | some (some _) => ofE (kf rv.ρ) (kPut2 i rv G)
  | _ => .bad
theorem sj_putC {kf : EF} (h : CE Γ f (kPut i kf G) m Q E) : SJ Γ (sSeq (sPut i kf f) G) m Q E := fun ρ z => by
  have := h ρ z
  rw [show sSeq (sPut i kf f) G ρ = ofE (f ρ) (kPut i kf G) by
    show (ofE (f ρ) _).bind G = _
    rw [ofE_bind]
    congr
    funext rv
    unfold kPut
    cases rv.ρ[i]? with
    | none => rfl
    | some q =>
      cases q with
      | none => rfl
      | some q =>
        simp only []
        rw [ofE_bind]
        rfl]
  exact this
theorem ke_put {kf : EF} (hi : Γ[i]? = some (sv l1 y)) (hk : ∀ pu ow ρ, CE Γ kf (kPut2 i ⟨pu, ow, l, x, ρ⟩ G) m Q E) : KE (kPut i kf G) l w x Γ m Q E := fun pu ow ρ ho z => by
  obtain ⟨q, e1, e2⟩ := z.get hi
  have e2 : q = some (l1, y) := e2
  subst e2
  unfold kPut
  simp only [e1]
  exact hk pu ow ρ ρ z
theorem ke_putd {ρ0 : Ev} [Enc κ] [KE0 : KeyE κ] [Enc ν] [DecidableEq κ] {q : Dic κ ν} {k : Dic κ ν → M o} (kk : κ) (v : ν) (hi : Γ[i]? = some (sv 1 (enc q))) (hm : m = grds [q.l.length < 16777216] (lt (q.put kk v) k)) (hk : ∀ y : Dic κ ν, SJ (Γ.set i (sv 1 (enc y))) G (k y) Q E) : KE (kPut2 i ⟨pu, ow, 0, enc v, ρ0⟩ G) l w (enc kk) Γ m Q E := fun pu' ow' ρ ho z => .grds hm fun hc => by
  obtain ⟨r, e1, e2⟩ := z.get hi
  have e2 : r = some (0 + 1, .dic (encD q.l)) := e2
  subst e2
  unfold kPut2 putR
  simp only [e1, KE0.kof]
  rw [if_pos ⟨fits_enc, by simp, by rw [sz_eq, encD, List.length_map]; exact hc.1⟩, putD_enc]
  rw [lt_eq]
  exact hk (q.put kk v) _ (z.set i rfl)
/-- a place of a list set anew -/
def seti (xs : List α) (k : Int) (a : α) : List α := match ixN xs.length k with
  | some j => xs.set j a
  | none => xs
theorem ke_putl {ρ0 : Ev} [Enc α] {xs : List α} {k : List α → M o} (kk : Int) (a : α) (hi : Γ[i]? = some (sv 1 (enc xs))) (hm : m = grds [ixOk xs kk] (lt (seti xs kk a) k)) (hk : ∀ y : List α, SJ (Γ.set i (sv 1 (enc y))) G (k y) Q E) : KE (kPut2 i ⟨pu, ow, 0, enc a, ρ0⟩ G) l w (enc kk) Γ m Q E := fun pu' ow' ρ ho z => .grds hm fun hc => by
  obtain ⟨r, e1, e2⟩ := z.get hi
  have e2 : r = some (0 + 1, .lst (xs.map enc)) := e2
  subst e2
  have hk := hk (seti xs kk a)
  have h1 := hc.1
  unfold ixOk atI at h1
  unfold kPut2 putR
  simp only [e1, show (enc kk : PV) = .int kk from rfl, List.length_map]
  unfold seti at hk ⊢
  cases e : ixN xs.length kk with
  | none => rw [e] at h1; cases h1
  | some j =>
    rw [e] at hk
    simp only [] at hk ⊢
    rw [if_pos (by simp)]
    have : PV.lst ((xs.map enc).set j (enc a)) = enc (xs.set j a) := by
      show _ = PV.lst ((xs.set j a).map enc)
      rw [List.map_set]
    rw [this, lt_eq]
    exact hk _ (z.set i rfl)
/-! # comprehensions -/
def wipeP (Γ : List SP) : List Nat → List SP
  | [] => Γ
  | v :: vs => (wipeP Γ vs).set v (ex none)
theorem Mt.wipe : ∀ {own : List Nat} {ρ : Ev}, Mt Γ ρ → Mt (wipeP Γ own) (wipeE ρ own)
  | [], _, h => h
  | v :: vs, _, h => (Mt.wipe (own := vs) h).set v rfl
theorem mt_mk : ∀ {Γ : List SP} {ρ : Ev}, ρ.length = Γ.length → (∀ (i : Nat) (p : SP), Γ[i]? = some p → ∃ q, ρ[i]? = some q ∧ p q) → Mt Γ ρ
  | [], [], _, _ => trivial
  | [], _ :: _, h, _ => nomatch h
  | _ :: _, [], h, _ => nomatch h
  | p :: ps, q :: ρ, h1, h2 => by
    refine ⟨?_, mt_mk (by simpa using h1) fun i p' e => ?_⟩
    · obtain ⟨q', e, h⟩ := h2 0 p rfl
      cases e
      exact h
    · obtain ⟨q', e', h⟩ := h2 (i + 1) p' (by simpa using e)
      exact ⟨q', by simpa using e', h⟩
theorem wipeP_get {own : List Nat} {j : Nat} (hj : j ∉ own) : (wipeP Γ own)[j]? = Γ[j]? := by
  induction own with
  | nil => rfl
  | cons v vs ih =>
    show ((wipeP Γ vs).set v (ex none))[j]? = _
    rw [List.getElem?_set_ne (fun e => hj (List.mem_cons.mpr (.inl e.symm))), ih fun z => hj (List.mem_cons_of_mem _ z)]
theorem wipeP_len {own : List Nat} : (wipeP Γ own).length = Γ.length := by
  induction own with
  | nil => rfl
  | cons v vs ih => rw [wipeP, List.length_set, ih]
theorem backE_len {ρ ρ3 : Ev} {own : List Nat} : (backE ρ ρ3 own).length = ρ3.length := by
  induction own with
  | nil => rfl
  | cons v vs ih => rw [backE, List.length_set, ih]
theorem backE_out {ρ ρ3 : Ev} {own : List Nat} {j : Nat} (hj : j ∉ own) : (backE ρ ρ3 own)[j]? = ρ3[j]? := by
  induction own with
  | nil => rfl
  | cons v vs ih =>
    rw [backE, List.getElem?_set_ne (fun e => hj (List.mem_cons.mpr (.inl e.symm))), ih fun z => hj (List.mem_cons_of_mem _ z)]
theorem backE_in {ρ ρ3 : Ev} {own : List Nat} {j : Nat} (hj : j ∈ own) (hl : j < ρ3.length) : (backE ρ ρ3 own)[j]? = some (ρ.getD j none) := by
  induction own with
  | nil => cases hj
  | cons v vs ih =>
    rw [backE]
    by_cases e : v = j
    · subst e
      rw [List.getElem?_set_self (by rw [backE_len]; exact hl)]
    · rw [List.getElem?_set_ne e]
      exact ih ((List.mem_cons.mp hj).resolve_left fun z => e z.symm)
theorem Mt.back {own : List Nat} {ρ ρ3 : Ev} (h : Mt Γ ρ) (h3 : Mt (wipeP Γ1 own) ρ3) (hl : Γ1.length = Γ.length) (hs : ∀ v ∈ own, Γ1[v]? = Γ[v]?) : Mt Γ1 (backE ρ ρ3 own) := by
  have l3 := h3.len
  rw [wipeP_len] at l3
  refine mt_mk (by rw [backE_len, l3]) fun j p e => ?_
  by_cases hj : j ∈ own
  · have hlt : j < ρ3.length := by
      rw [l3]
      exact (List.getElem?_eq_some_iff.mp e).1
    refine ⟨_, backE_in hj hlt, ?_⟩
    obtain ⟨q, e1, e2⟩ := h.get (i := j) (p := p) (by rw [← hs j hj]; exact e)
    rw [List.getD_eq_getElem?_getD, e1]
    exact e2
  · rw [backE_out hj]
    exact h3.get (by rw [wipeP_get hj]; exact e)
inductive Fr (Γ : List SP) : List Nat → Prop
  | nil : Fr Γ []
  | cons {v : Nat} {p : SP} {vs : List Nat} (e : Γ[v]? = some p) (h : ∀ q, p q → fr q) (r : Fr Γ vs) : Fr Γ (v :: vs)
theorem Fr.all {own : List Nat} {ρ : Ev} (h : Fr Γ own) (z : Mt Γ ρ) : (own.all fun v => freeS ρ v) = true := by
  induction h with
  | nil => rfl
  | cons e h r ih =>
    rw [List.all_cons, ih, Bool.and_true]
    obtain ⟨q, e1, e2⟩ := z.get e
    have := h q e2
    unfold freeS
    rw [List.getD_eq_getElem?_getD, e1]
    cases q with
    | none => rfl
    | some q =>
      obtain ⟨n, x⟩ := q
      show (n == 0 || x.imm) = true
      rcases this n x rfl with k | k <;> simp [k]
/-- one turn of a comprehension -/
structure LcB (Γw : List SP) (own : List Nat) (bf : BF) (t : TFn) (f : EF) (x : PV) (ct : List Prop) (b : Bool) (cf : List Prop) (y : PV) : Prop where
  go : ∃ Γ2 Γ3 Γ4 pt w p, BG Γw bf x Γ2 ∧ TG Γ2 t pt ct b Γ3 ∧ EG Γ3 f 0 w p cf y Γ4 ∧ Imp (wipeP Γ3 own) Γw ∧ Imp (wipeP Γ4 own) Γw
theorem lc_loop {own : List Nat} {bf : BF} {e : α → PV} {b : α → Bool} {g : α → PV} {ct cf : α → List Prop} (hb : ∀ a, LcB Γ own bf t f (e a) (ct a) (b a) (cf a) (g a)) : ∀ (xs : List α), (∀ a ∈ xs, Al (ct a) ∧ (b a = true → Al (cf a))) → ∀ ρ, Mt Γ ρ → ∃ ρ' pu, lcLoop own bf t f (xs.map e) ρ = some ((xs.filter b).map g, ρ', pu) ∧ Mt Γ ρ'
  | [], _, ρ, h => ⟨ρ, true, rfl, h⟩
  | a :: xs, hc, ρ, h => by
    obtain ⟨Γ2, Γ3, Γ4, pt, w, p, hB, hT, hE, i3, i4⟩ := (hb a).go
    obtain ⟨c1, c2⟩ := hc a List.mem_cons_self
    have ih := lc_loop hb xs fun a' ha' => hc a' (List.mem_cons_of_mem _ ha')
    obtain ⟨ρ1, e1, h1⟩ := hB ρ h
    obtain ⟨pu, ρ2, e2, _, h2⟩ := hT c1 ρ1 h1
    unfold lcLoop
    rw [List.map_cons]
    simp only [e1, e2]
    by_cases hba : b a = true
    · obtain ⟨pu', ow', ρ3, e3, _, _, h3⟩ := hE (c2 hba) ρ2 h2
      obtain ⟨ρ', pu2, e4, h4⟩ := ih _ (i4 _ (h3.wipe (own := own)))
      refine ⟨ρ', pu && pu' && pu2, ?_, h4⟩
      rw [if_pos hba]
      simp only [e3, e4, List.filter_cons_of_pos hba, List.map_cons]
      rfl
    · obtain ⟨ρ', pu2, e4, h4⟩ := ih _ (i3 _ (h2.wipe (own := own)))
      refine ⟨ρ', pu && pu2, ?_, h4⟩
      rw [if_neg hba]
      simp only [e4, List.filter_cons_of_neg hba]
      rfl
theorem eg_lc [Enc β] {own : List Nat} {sr : IF'} {bf : BF} {e : α → PV} {b : α → Bool} {g : α → β} {ct cf : α → List Prop} {xs : List α} (hs : IG Γ sr c (xs.map e) Γ1) (hf : Fr Γ1 own) (hb : ∀ a, LcB (wipeP Γ1 own) own bf t f (e a) (ct a) (b a) (cf a) (enc (g a))) :
    EG Γ (eLc own sr bf t f) 1 true false (c ++ [∀ a ∈ xs, Al (ct a) ∧ (b a = true → Al (cf a)), xs.length ≤ 16777216]) (enc ((xs.filter b).map g)) Γ1 := fun hc ρ z => by
  obtain ⟨h1, h2, h3, _⟩ := hc.app
  obtain ⟨pu, ρ1, e1, z1⟩ := hs h1 ρ z
  obtain ⟨ρ3, pu2, e2, z3⟩ := lc_loop hb xs h2 _ (z1.wipe (own := own))
  have hl : ((xs.filter b).map (fun a => (enc (g a) : PV))).length ≤ sizeLine := by
    rw [sz_eq, List.length_map]
    exact Nat.le_trans (List.length_filter_le _ _) h3
  refine ⟨pu && pu2, true, backE ρ1 ρ3 own, ?_, fun _ => rfl, (fun q => nomatch q), z1.back z3 rfl fun _ _ => rfl⟩
  unfold eLc
  simp only [e1, hf.all z1, if_true, e2]
  rw [if_pos hl]
  congr 2
  show PV.lst _ = PV.lst (((xs.filter b).map g).map enc)
  rw [List.map_map]
  rfl
theorem eg_lc0 [Enc β] {own : List Nat} {sr : IF'} {bf : BF} {e : α → PV} {b : α → Bool} {g : α → β} {xs : List α} (hs : IG Γ sr c (xs.map e) Γ1) (hf : Fr Γ1 own) (hb : ∀ a, LcB (wipeP Γ1 own) own bf t f (e a) [] (b a) [] (enc (g a))) :
    EG Γ (eLc own sr bf t f) 1 true false (c ++ [xs.length ≤ 16777216]) (enc ((xs.filter b).map g)) Γ1 := fun hc => by
  obtain ⟨h1, h2, _⟩ := hc.app
  refine eg_lc hs hf hb ?_
  clear hs hc
  induction c with
  | nil => exact ⟨fun _ _ => ⟨trivial, fun _ => trivial⟩, h2, trivial⟩
  | cons a r ih => exact ⟨h1.1, ih h1.2⟩
theorem eg_lcm [Enc β] {own : List Nat} {sr : IF'} {bf : BF} {e : α → PV} {g : α → β} {cf : α → List Prop} {xs : List α} (hs : IG Γ sr c (xs.map e) Γ1) (hf : Fr Γ1 own) (hb : ∀ a, LcB (wipeP Γ1 own) own bf t f (e a) [] true (cf a) (enc (g a))) :
    EG Γ (eLc own sr bf t f) 1 true false (c ++ [∀ a ∈ xs, Al (cf a), xs.length ≤ 16777216]) (enc (xs.map g)) Γ1 := fun hc => by
  obtain ⟨h1, h2, h3, _⟩ := hc.app
  have e0 : xs.filter (fun _ : α => true) = xs := List.filter_eq_self.mpr fun _ _ => rfl
  have := eg_lc (b := fun _ => true) (ct := fun _ => []) hs hf hb
  rw [e0] at this
  refine this ?_
  clear hs hc this
  induction c with
  | nil => exact ⟨fun a ha => ⟨trivial, fun _ => h2 a ha⟩, h3, trivial⟩
  | cons a r ih => exact ⟨h1.1, ih h1.2⟩
theorem eg_lcm0 [Enc β] {own : List Nat} {sr : IF'} {bf : BF} {e : α → PV} {g : α → β} {xs : List α} (hs : IG Γ sr c (xs.map e) Γ1) (hf : Fr Γ1 own) (hb : ∀ a, LcB (wipeP Γ1 own) own bf t f (e a) [] true [] (enc (g a))) :
    EG Γ (eLc own sr bf t f) 1 true false (c ++ [xs.length ≤ 16777216]) (enc (xs.map g)) Γ1 := fun hc => by
  obtain ⟨h1, h2, _⟩ := hc.app
  refine eg_lcm (cf := fun _ => []) hs hf hb ?_
  clear hs hc
  induction c with
  | nil => exact ⟨fun _ _ => trivial, h2, trivial⟩
  | cons a r ih => exact ⟨h1.1, ih h1.2⟩
end T

set_option maxRecDepth 100000
set_option maxHeartbeats 1000000
namespace T
open PySem PySem.Spec PyProof.Rows L2 Pv
open Enc (enc)
variable {α β γ δ ε ζ o o' τ s κ ν : Type}
variable {Γ Γ1 Γ2 Γ3 Γx : List SP} {f h : EF} {af : AF} {t u : TFn} {op : PO} {i l l1 l2 n mm : Nat} {w w1 w2 p p1 p2 ow pu b d : Bool} {c c1 c2 c3 : List Prop} {x y z : PV} {vs : List (Nat × PV)}
variable {F G A B : SF} {m m' m1 m2 : M o} {Q : o → SR → Prop} {E : Ev → Prop} {K : Rr → SR}
/-! # comprehensions that call -/
def M.lc (f : α → M (Option β)) : List α → M (List β)
  | [] => .ok []
  | x :: xs => match f x with
    | .ok (some y) => (M.lc f xs).bind fun ys => .ok (y :: ys)
    | .ok none => M.lc f xs
    | _ => .bad
def M.lcS (f : s → α → M (Option β × s)) : List α → s → M (List β × s)
  | [], st => .ok ([], st)
  | x :: xs, st => match f st x with
    | .ok (some y, st) => (M.lcS f xs st).bind fun ys => .ok (y :: ys.1, ys.2)
    | .ok (none, st) => M.lcS f xs st
    | _ => .bad
def kLc (own : List Nat) (bf : BF) (t : TFn) (f : EF) (K : Rr → SR) : Ir → SR := fun r => if (own.all fun v => freeS r.ρ v) = true then match lcLoop own bf t f r.xs (wipeE r.ρ own) with
      | some (ys, ρ3, pu) => if ys.length ≤ sizeLine then K ⟨r.pu && pu, true, 1, .lst ys, backE r.ρ ρ3 own⟩ else .bad
      | none => .bad
    else .bad
theorem ce_lc {own : List Nat} {sr : IF'} {bf : BF} (h : CI Γ sr (kLc own bf t f K) m Q E) : CE Γ (eLc own sr bf t f) K m Q E := fun ρ z => by
  have := h ρ z
  rw [show ofE (eLc own sr bf t f ρ) K = ofI (sr ρ) (kLc own bf t f K) by
    unfold eLc
    cases sr ρ with
    | ok r =>
      show ofE (if _ then _ else _) K = kLc own bf t f K r
      unfold kLc
      split
      · cases lcLoop own bf t f r.xs (wipeE r.ρ own) with
        | none => rfl
        | some q =>
          obtain ⟨ys, ρ3, pu⟩ := q
          simp only []
          split <;> rfl
      · rfl
    | exc => rfl
    | bad => rfl]
  exact this
def kLcT (f : EF) : Tr → SR := fun r => if r.b = true then ofE (f r.ρ) kVal else .nx r.ρ
def QC [Enc β] (Γw : List SP) (own : List Nat) : Option β → SR → Prop := fun q S => match q with
  | some y => ∃ ρ, S = .rt 0 (enc y) ρ ∧ Mt Γw (wipeE ρ own)
  | none => ∃ ρ, S = .nx ρ ∧ Mt Γw (wipeE ρ own)
def QCS [Enc β] (Γw : s → List SP) (own : List Nat) : Option β × s → SR → Prop := fun q S => match q with
  | (some y, st) => ∃ ρ, S = .rt 0 (enc y) ρ ∧ Mt (Γw st) (wipeE ρ own)
  | (none, st) => ∃ ρ, S = .nx ρ ∧ Mt (Γw st) (wipeE ρ own)
def EA : Ev → Prop := fun _ => True
theorem lcS_loop [Enc β] {own : List Nat} {bf : BF} {e : α → PV} {fm : s → α → M (Option β × s)} {Γw : s → List SP} (hb : ∀ st a, ∃ Γ2, BG (Γw st) bf (e a) Γ2 ∧ CT Γ2 t (kLcT f) (fm st a) (QCS Γw own) EA) : ∀ (xs : List α) (st : s), match M.lcS fm xs st with
    | .ok (ys, st') => ys.length ≤ xs.length ∧ ∀ ρ, Mt (Γw st) ρ → ∃ ρ' pu, lcLoop own bf t f (xs.map e) ρ = some (ys.map enc, ρ', pu) ∧ Mt (Γw st') ρ'
    | .exc _ _ => False
    | .bad => True
  | [], st => ⟨Nat.le_refl _, fun ρ h => ⟨ρ, true, rfl, h⟩⟩
  | a :: xs, st => by
    obtain ⟨Γ2, hB, hC⟩ := hb st a
    unfold M.lcS
    cases ef : fm st a with
    | bad => trivial
    | exc => trivial
    | ok q =>
      obtain ⟨q, st'⟩ := q
      have ih := lcS_loop hb xs st'
      cases q with
      | some y =>
        simp only []
        cases em : M.lcS fm xs st' with
        | bad => trivial
        | exc => rw [em] at ih; exact ih
        | ok r =>
          obtain ⟨ys, st2⟩ := r
          rw [em] at ih
          obtain ⟨hl, ih⟩ := ih
          refine ⟨Nat.succ_le_succ hl, fun ρ h => ?_⟩
          obtain ⟨ρ1, e1, h1⟩ := hB ρ h
          have hc := hC ρ1 h1
          rw [ef] at hc
          obtain ⟨ρ2, e2, h2⟩ := hc
          obtain ⟨ρ3, pu, e3, h3⟩ := ih _ h2
          rw [List.map_cons]
          unfold lcLoop
          simp only [e1]
          cases et : t ρ1 with
          | bad => rw [et] at e2; cases e2
          | exc => rw [et] at e2; cases e2
          | ok r =>
            rw [et] at e2
            have e2 : kLcT f r = _ := e2
            unfold kLcT at e2
            simp only []
            by_cases hr : r.b = true
            · rw [if_pos hr] at e2 ⊢
              cases ee : f r.ρ with
              | bad => rw [ee] at e2; cases e2
              | exc => rw [ee] at e2; cases e2
              | ok r' =>
                rw [ee] at e2
                obtain ⟨rpu, row, rlv, rx, rρ⟩ := r'
                have e2 : SR.rt rlv rx rρ = .rt 0 (enc y) ρ2 := e2
                cases e2
                refine ⟨ρ3, r.pu && rpu && pu, ?_, h3⟩
                simp only [e3]
                rfl
            · rw [if_neg hr] at e2
              cases e2
      | none =>
        simp only []
        cases em : M.lcS fm xs st' with
        | bad => trivial
        | exc => rw [em] at ih; exact ih
        | ok r =>
          obtain ⟨ys, st2⟩ := r
          rw [em] at ih
          obtain ⟨hl, ih⟩ := ih
          refine ⟨Nat.le_succ_of_le hl, fun ρ h => ?_⟩
          obtain ⟨ρ1, e1, h1⟩ := hB ρ h
          have hc := hC ρ1 h1
          rw [ef] at hc
          obtain ⟨ρ2, e2, h2⟩ := hc
          obtain ⟨ρ3, pu, e3, h3⟩ := ih _ h2
          rw [List.map_cons]
          unfold lcLoop
          simp only [e1]
          cases et : t ρ1 with
          | bad => rw [et] at e2; cases e2
          | exc => rw [et] at e2; cases e2
          | ok r =>
            rw [et] at e2
            have e2 : kLcT f r = _ := e2
            unfold kLcT at e2
            simp only []
            by_cases hr : r.b = true
            · rw [if_pos hr] at e2
              cases ee : f r.ρ with
              | bad => rw [ee] at e2; cases e2
              | exc => rw [ee] at e2; cases e2
              | ok r' => rw [ee] at e2; cases e2
            · rw [if_neg hr] at e2 ⊢
              have e2 : SR.nx r.ρ = .nx ρ2 := e2
              injection e2 with e2
              rw [e2]
              exact ⟨ρ3, _, by rw [e3]; rfl, h3⟩
theorem ki_lcS [Enc β] {own : List Nat} {bf : BF} {e : α → PV} {fm : s → α → M (Option β × s)} {Γl : s → List SP} {xs : List α} {k : List β × s → M o} (st : s) (hf : Fr Γ own) (hi : Imp Γ (Γl st)) (hm : m = (M.lcS fm xs st).bind fun r => grd (xs.length ≤ 16777216) (k r))
    (hb : ∀ st a, ∃ Γ2, BG (wipeP (Γl st) own) bf (e a) Γ2 ∧ CT Γ2 t (kLcT f) (fm st a) (QCS (fun st => wipeP (Γl st) own) own) EA) (hl : ∀ st, (Γl st).length = Γ.length) (hs : ∀ st, ∀ v ∈ own, (Γl st)[v]? = Γ[v]?) (hk : ∀ r, KE K 1 true (enc r.1) (Γl r.2) (k r) Q E) : KI (kLc own bf t f K) (xs.map e) Γ m Q E := fun pu ρ z => by
  subst hm
  have hL := lcS_loop (Γw := fun st => wipeP (Γl st) own) hb xs st
  cases em : M.lcS fm xs st with
  | bad => trivial
  | exc => rw [em] at hL; exact hL.elim
  | ok r =>
    obtain ⟨ys, st'⟩ := r
    rw [em] at hL
    obtain ⟨h1, h2⟩ := hL
    refine Sim.grds (c := [xs.length ≤ 16777216]) rfl fun hc => ?_
    obtain ⟨ρ3, pu', e3, h3⟩ := h2 _ ((hi ρ z).wipe (own := own))
    unfold kLc
    simp only [hf.all z, if_true, e3]
    rw [if_pos (by rw [sz_eq, List.length_map]; exact Nat.le_trans h1 hc.1)]
    exact hk (ys, st') _ true _ (fun _ => rfl) (z.back h3 (hl st') (hs st'))
theorem lc_lcS {fm : α → M (Option β)} : ∀ (xs : List α), M.lc fm xs = (M.lcS (fun (_ : Unit) a => (fm a).bind fun y => .ok (y, ())) xs ()).bind fun r => .ok r.1
  | [] => rfl
  | a :: xs => by
    have ih := lc_lcS (fm := fm) xs
    unfold M.lc M.lcS
    cases fm a with
    | bad => rfl
    | exc => rfl
    | ok q => cases q with
      | some y =>
        show (M.lc fm xs).bind _ = ((M.lcS _ xs ()).bind _).bind _
        rw [ih, M.bind_assoc, M.bind_assoc]
        rfl
      | none => exact ih
theorem ki_lc [Enc β] {own : List Nat} {bf : BF} {e : α → PV} {fm : α → M (Option β)} {xs : List α} {k : List β → M o} (hf : Fr Γ own) (hm : m = (M.lc fm xs).bind fun r => grd (xs.length ≤ 16777216) (k r))
    (hb : ∀ a, ∃ Γ2, BG (wipeP Γ own) bf (e a) Γ2 ∧ CT Γ2 t (kLcT f) (fm a) (QC (wipeP Γ own) own) EA) (hk : ∀ r, KE K 1 true (enc r) Γ (k r) Q E) : KI (kLc own bf t f K) (xs.map e) Γ m Q E := by
  refine ki_lcS (s := Unit) (Γl := fun _ => Γ) (fm := fun _ a => (fm a).bind fun y => .ok (y, ())) (k := fun r => k r.1) () hf (fun _ h => h) ?_ ?_ (fun _ => rfl) (fun _ _ _ => rfl) (fun r => hk r.1)
  · rw [hm, lc_lcS, M.bind_assoc]
    rfl
  · intro st a
    obtain ⟨Γ2, hB, hC⟩ := hb a
    refine ⟨Γ2, hB, fun ρ z => ?_⟩
    have := hC ρ z
    cases ef : fm a with
    | bad => trivial
    | exc => rw [ef] at this; exact this
    | ok q =>
      rw [ef] at this
      cases q with
      | some y => exact this
      | none => exact this
/-- the test of a comprehension, then its item -/
theorem kt_lc [Enc β] {m m1 : M (Option β)} {Q : Option β → SR → Prop} (hm : m = if b = true then m1 else .ok none) (h0 : ∀ ρ, Mt Γ ρ → Q none (.nx ρ)) (h1 : CE Γ f kVal m1 Q E) : KT (kLcT f) b Γ m Q E := fun pu ρ z => by
  subst hm
  unfold kLcT
  cases b with
  | true => exact h1 ρ z
  | false => exact h0 ρ z
theorem kt_lcS [Enc β] {m m1 : M (Option β × s)} {Q : Option β × s → SR → Prop} (st : s) (hm : m = if b = true then m1 else .ok (none, st)) (h0 : ∀ ρ, Mt Γ ρ → Q (none, st) (.nx ρ)) (h1 : CE Γ f kVal m1 Q E) : KT (kLcT f) b Γ m Q E := fun pu ρ z => by
  subst hm
  unfold kLcT
  cases b with
  | true => exact h1 ρ z
  | false => exact h0 ρ z
/-- without a test -/
theorem ct_lc1 {m : M τ} {Q : τ → SR → Prop} (h1 : CE Γ f kVal m Q E) : CT Γ tsTrue (kLcT f) m Q E := fun ρ z => h1 ρ z
theorem q_none [Enc β] {Γw : List SP} {own : List Nat} (hi : Imp (wipeP Γ own) Γw) : ∀ ρ, Mt Γ ρ → QC (β := β) Γw own none (.nx ρ) := fun ρ z => ⟨ρ, rfl, hi _ z.wipe⟩
theorem q_noneS [Enc β] {Γw : s → List SP} {own : List Nat} {st : s} (hi : Imp (wipeP Γ own) (Γw st)) : ∀ ρ, Mt Γ ρ → QCS (β := β) Γw own (none, st) (.nx ρ) := fun ρ z => ⟨ρ, rfl, hi _ z.wipe⟩
theorem ke_lcv [Enc β] {Γw : List SP} {own : List Nat} {m : M (Option β)} (a : β) (hm : m = .ok (some a)) (hi : Imp (wipeP Γ own) Γw) : KE kVal 0 w (enc a) Γ m (QC Γw own) E := fun pu ow ρ ho z => by
  subst hm
  exact ⟨ρ, rfl, hi _ z.wipe⟩
theorem ke_lcvS [Enc β] {Γw : s → List SP} {own : List Nat} {m : M (Option β × s)} (a : β) (st : s) (hm : m = .ok (some a, st)) (hi : Imp (wipeP Γ own) (Γw st)) : KE kVal 0 w (enc a) Γ m (QCS Γw own) E := fun pu ow ρ ho z => by
  subst hm
  exact ⟨ρ, rfl, hi _ z.wipe⟩
/-! dict comprehensions (readings alone) -/
structure DcB (Γw : List SP) (own : List Nat) (bf : BF) (t : TFn) (kf vf : EF) (x : PV) (ct : List Prop) (b : Bool) (cf : List Prop) (k y : PV) : Prop where
  go : ∃ Γ2 Γ3 Γ4 Γ5 pt l w p w' p' ck cv, cf = ck ++ cv ∧ BG Γw bf x Γ2 ∧ TG Γ2 t pt ct b Γ3 ∧ EG Γ3 kf l w p ck k Γ4 ∧ EG Γ4 vf 0 w' p' cv y Γ5 ∧ Imp (wipeP Γ3 own) Γw ∧ Imp (wipeP Γ5 own) Γw
theorem dc_loop [Enc κ] [KE0 : KeyE κ] [Enc ν] [DecidableEq κ] {own : List Nat} {bf : BF} {kf vf : EF} {e : α → PV} {b : α → Bool} {k : α → κ} {v : α → ν} {ct cf : α → List Prop} (hb : ∀ a, DcB Γ own bf t kf vf (e a) (ct a) (b a) (cf a) (enc (k a)) (enc (v a))) : ∀ (xs : List α) (acc : List (κ × ν)), acc.length + xs.length ≤ 16777216 → (∀ a ∈ xs, Al (ct a) ∧ (b a = true → Al (cf a))) → ∀ ρ, Mt Γ ρ → ∃ ρ' pu, dcLoop own bf t kf vf (xs.map e) (encD acc) ρ = some (encD (((xs.filter b).map fun a => (k a, v a)).foldl (fun acc p => putL acc p.1 p.2) acc), ρ', pu) ∧ Mt Γ ρ'
  | [], acc, _, _, ρ, h => ⟨ρ, true, rfl, h⟩
  | a :: xs, acc, hl, hc, ρ, h => by
    obtain ⟨Γ2, Γ3, Γ4, Γ5, pt, l, w, p, w', p', ck, cv, ecf, hB, hT, hK, hV, i3, i5⟩ := (hb a).go
    obtain ⟨c1, c2⟩ := hc a List.mem_cons_self
    rw [List.length_cons] at hl
    obtain ⟨ρ1, e1, h1⟩ := hB ρ h
    obtain ⟨pu, ρ2, e2, _, h2⟩ := hT c1 ρ1 h1
    rw [List.map_cons]
    unfold dcLoop
    simp only [e1, e2]
    by_cases hba : b a = true
    · have c3 := c2 hba
      rw [ecf] at c3
      obtain ⟨pu', ow', ρ3, e3, _, _, h3⟩ := hK c3.app.1 ρ2 h2
      obtain ⟨pu3, ow3, ρ4, e4, _, _, h4⟩ := hV c3.app.2 ρ3 h3
      have hpl : (putL acc (k a) (v a)).length ≤ acc.length + 1 := by
        clear hb hc hl
        induction acc with
        | nil => exact Nat.le_refl _
        | cons q r ih =>
          unfold putL
          split
          · simp
          · simpa using ih
      obtain ⟨ρ', pu2, e5, h5⟩ := dc_loop hb xs (putL acc (k a) (v a)) (by omega) (fun a' ha' => hc a' (List.mem_cons_of_mem _ ha')) _ (i5 _ (h4.wipe (own := own)))
      rw [if_pos hba]
      simp only [e3, e4, KE0.kof]
      rw [if_pos ⟨by simp, fits_enc, by rw [sz_eq, encD, List.length_map]; omega⟩, putD_enc, e5]
      rw [List.filter_cons_of_pos hba, List.map_cons, List.foldl_cons]
      exact ⟨ρ', _, rfl, h5⟩
    · obtain ⟨ρ', pu2, e5, h5⟩ := dc_loop hb xs acc (by omega) (fun a' ha' => hc a' (List.mem_cons_of_mem _ ha')) _ (i3 _ (h2.wipe (own := own)))
      rw [if_neg hba, e5, List.filter_cons_of_neg hba]
      exact ⟨ρ', _, rfl, h5⟩
theorem eg_dc [Enc κ] [KE0 : KeyE κ] [Enc ν] [DecidableEq κ] {own : List Nat} {sr : IF'} {bf : BF} {kf vf : EF} {e : α → PV} {b : α → Bool} {k : α → κ} {v : α → ν} {ct cf : α → List Prop} {xs : List α} (hs : IG Γ sr c (xs.map e) Γ1) (hf : Fr Γ1 own) (hb : ∀ a, DcB (wipeP Γ1 own) own bf t kf vf (e a) (ct a) (b a) (cf a) (enc (k a)) (enc (v a))) :
    EG Γ (eDc own sr bf t kf vf) 1 true false (c ++ [∀ a ∈ xs, Al (ct a) ∧ (b a = true → Al (cf a)), xs.length ≤ 16777216]) (enc (Dic.of ((xs.filter b).map fun a => (k a, v a)))) Γ1 := fun hc ρ z => by
  obtain ⟨h1, h2, h3, _⟩ := hc.app
  obtain ⟨pu, ρ1, e1, z1⟩ := hs h1 ρ z
  obtain ⟨ρ3, pu2, e2, z3⟩ := dc_loop hb xs [] (by simpa using h3) h2 _ (z1.wipe (own := own))
  refine ⟨pu && pu2, true, backE ρ1 ρ3 own, ?_, fun _ => rfl, (fun q => nomatch q), z1.back z3 rfl fun _ _ => rfl⟩
  unfold eDc
  have e2 : dcLoop own bf t kf vf (xs.map e) [] (wipeE ρ1 own) = _ := e2
  simp only [e1, hf.all z1, if_true, e2]
  rfl
theorem eg_dcm [Enc κ] [KE0 : KeyE κ] [Enc ν] [DecidableEq κ] {own : List Nat} {sr : IF'} {bf : BF} {kf vf : EF} {e : α → PV} {k : α → κ} {v : α → ν} {cf : α → List Prop} {xs : List α} (hs : IG Γ sr c (xs.map e) Γ1) (hf : Fr Γ1 own) (hb : ∀ a, DcB (wipeP Γ1 own) own bf t kf vf (e a) [] true (cf a) (enc (k a)) (enc (v a))) :
    EG Γ (eDc own sr bf t kf vf) 1 true false (c ++ [∀ a ∈ xs, Al (cf a), xs.length ≤ 16777216]) (enc (Dic.of (xs.map fun a => (k a, v a)))) Γ1 := fun hc => by
  obtain ⟨h1, h2, h3, _⟩ := hc.app
  have e0 : xs.filter (fun _ : α => true) = xs := List.filter_eq_self.mpr fun _ _ => rfl
  have := eg_dc (b := fun _ => true) (ct := fun _ => []) hs hf hb
  rw [e0] at this
  refine this ?_
  clear hs hc this
  induction c with
  | nil => exact ⟨fun a ha => ⟨trivial, fun _ => h2 a ha⟩, h3, trivial⟩
  | cons a r ih => exact ⟨h1.1, ih h1.2⟩
theorem eg_dcm0 [Enc κ] [KE0 : KeyE κ] [Enc ν] [DecidableEq κ] {own : List Nat} {sr : IF'} {bf : BF} {kf vf : EF} {e : α → PV} {k : α → κ} {v : α → ν} {xs : List α} (hs : IG Γ sr c (xs.map e) Γ1) (hf : Fr Γ1 own) (hb : ∀ a, DcB (wipeP Γ1 own) own bf t kf vf (e a) [] true [] (enc (k a)) (enc (v a))) :
    EG Γ (eDc own sr bf t kf vf) 1 true false (c ++ [xs.length ≤ 16777216]) (enc (Dic.of (xs.map fun a => (k a, v a)))) Γ1 := fun hc => by
  obtain ⟨h1, h2, _⟩ := hc.app
  refine eg_dcm (cf := fun _ => []) hs hf hb ?_
  clear hs hc
  induction c with
  | nil => exact ⟨fun _ _ => trivial, h2, trivial⟩
  | cons a r ih => exact ⟨h1.1, ih h1.2⟩
/-! # try -/
def M.tryc (m : M o) (h : Str → List (Str × PV) → M o) : M o := match m with
  | .ok a => .ok a
  | .exc c fs => h c fs
  | .bad => .bad
@[simp] theorem tryc_ok {a : o} {h : Str → List (Str × PV) → M o} : (M.ok a).tryc h = .ok a := rfl
@[simp] theorem tryc_exc {cn : Str} {fs : List (Str × PV)} {h : Str → List (Str × PV) → M o} : (M.exc cn fs).tryc h = h cn fs := rfl
def hsel (cs ncs : List Str) (h : Str → List (Str × PV) → M o) (t : Str → List (Str × PV) → M o) : Str → List (Str × PV) → M o := fun cn fs => if cs.contains cn = true then (h cn fs).noexc else if ncs.contains cn = true then t cn fs else .bad
def hend : Str → List (Str × PV) → M o := fun cn fs => .exc cn fs
def HsJ (Γx : List SP) (hs : List Hd) (h : Str → List (Str × PV) → M o) (Q : o → SR → Prop) (E : Ev → Prop) : Prop := ∀ cn fs ρ, Mt Γx ρ → Sim (sHs hs cn fs ρ) (h cn fs) Q E
theorem hs_nil (hE : ∀ ρ, Mt Γx ρ → E ρ) : HsJ Γx [] (hend (o := o)) Q E := fun cn fs ρ z => ⟨ρ, rfl, hE ρ z⟩
theorem sim_noexc {S : SR} (h : Sim S m Q EA) : Sim S m.noexc Q E := by
  cases m with
  | ok a => exact h
  | exc => trivial
  | bad => trivial
/-- no end is an exception -/
def NX (Q : o → SR → Prop) : Prop := ∀ a cn fs ρ, ¬ Q a (.exc cn fs ρ)
theorem nx_r {l : Nat} {xf : o → PV} {P : o → List SP} : NX (QR l xf P) := fun a cn fs ρ ⟨_, h, _⟩ => by rcases h with h | h <;> simp at h
theorem nx_n {Γf : s → List SP} : NX (QN Γf) := fun a cn fs ρ ⟨_, h, _⟩ => nomatch h
theorem nx_s {Γf : s → List SP} : NX (QS Γf) := fun a cn fs ρ ⟨_, h, _⟩ => by rcases h with h | h <;> cases h
theorem nx_c (h : NX Q) : NX (Qc Q) := fun a cn fs ρ z => h a cn fs ρ z.1
theorem nx_m {Γf : s → List SP} (h : NX Q) : NX (QM Q Γf) := fun a cn fs ρ z => by
  cases a with
  | rt a => exact h a cn fs ρ z.1
  | go x => obtain ⟨_, e, _⟩ := z; cases e
theorem nx_l {Γf : s → List SP} (h : NX Q) : NX (QL Q Γf) := fun a cn fs ρ z => by
  cases a with
  | rt a => exact h a cn fs ρ z.1
  | nx x => obtain ⟨_, e, _⟩ := z; rcases e with e | e <;> cases e
  | bk x => obtain ⟨_, e, _⟩ := z; cases e
theorem hs_plain (hq : NX Q) {cs ncs : List Str} {sf : Addr → Option Addr → Str → SF} {t : List Hd} {hm ht : Str → List (Str × PV) → M o} (hsf : ∀ a d cn, sf a d cn = sf 0 none cn) (hj : ∀ cn fs, cs.contains cn = true → SJ Γx (sf 0 none cn) (hm cn fs) Q EA) (r : HsJ Γx t ht Q E) : HsJ Γx (⟨cs, ncs, none, sf⟩ :: t) (hsel cs ncs hm ht) Q E := fun cn fs ρ z => by
  unfold sHs hsel
  by_cases c1 : cs.contains cn = true
  · rw [if_pos c1, if_pos c1]
    unfold hRun
    simp only [hsf, implies_true, if_true]
    have := hj cn fs c1 ρ z
    cases em : hm cn fs with
    | bad => trivial
    | exc => trivial
    | ok a =>
      rw [em] at this
      have this : Q a (sf 0 none cn ρ) := this
      cases es : sf 0 none cn ρ with
      | exc => rw [es] at this; exact (hq _ _ _ _ this).elim
      | _ => rw [es] at this; exact this
  · rw [if_neg c1, if_neg c1]
    by_cases c2 : ncs.contains cn = true
    · rw [if_pos c2, if_pos c2]
      exact r cn fs ρ z
    · rw [if_neg c2, if_neg c2]
      trivial
/-- all slots known -/
theorem exacts : ∀ {os ρ : Ev}, Mt (os.map ex) ρ → ρ = os
  | [], [], _ => rfl
  | [], _ :: _, h => h.elim
  | _ :: _, [], h => h.elim
  | _ :: os, _ :: ρ, h => by
    rw [show _ = _ from h.1, exacts h.2]
/-- an end of a suite: told without the exception's slot -/
def QD (i : Nat) (D : o → SR) : o → SR → Prop := fun a S => S.drop i = D a
theorem ok_d {a : o} {D : o → SR} {C : Ev → SR} (os : Ev) (hΓ : Γ = os.map ex) (hD : (C os).drop i = D a) : Ok1 (QD i D) a Γ C := fun ρ z => by
  rw [hΓ] at z
  rw [exacts z]
  exact hD
theorem hs_named (hq : NX Q) {cs ncs : List Str} {sf : Addr → Option Addr → Str → SF} {t : List Hd} {hm ht : Str → List (Str × PV) → M o} (D : Ev → o → SR) (hi : i < Γx.length)
    (hj : ∀ a d cn fs ρ, cs.contains cn = true → Mt Γx ρ → Sim (sf a d cn (ρ.set i (some (0, .exn a d cn fs)))) (hm cn fs) (QD i (D ρ)) EA) (hD : ∀ ρ v, Mt Γx ρ → Q v (D ρ v)) (r : HsJ Γx t ht Q E) : HsJ Γx (⟨cs, ncs, some i, sf⟩ :: t) (hsel cs ncs hm ht) Q E := fun cn fs ρ z => by
  unfold sHs hsel
  by_cases c1 : cs.contains cn = true
  · rw [if_pos c1, if_pos c1]
    cases em : hm cn fs with
    | bad => trivial
    | exc => trivial
    | ok v =>
      have key : ∀ a d, (sf a d cn (ρ.set i (some (0, .exn a d cn fs)))).drop i = D ρ v := fun a d => by
        have := hj a d cn fs ρ c1 z
        rw [em] at this
        exact this
      show Q v _
      unfold hRun
      simp only []
      rw [if_pos ⟨by rw [z.len]; exact hi, fun a d => (key a d).trans (key 0 none).symm⟩, key]
      exact hD ρ v z
  · rw [if_neg c1, if_neg c1]
    by_cases c2 : ncs.contains cn = true
    · rw [if_pos c2, if_pos c2]
      exact r cn fs ρ z
    · rw [if_neg c2, if_neg c2]
      trivial
theorem hs_namedM {σ : Type} {Γf : σ → List SP} (hq : NX Q) {cs ncs : List Str} {sf : Addr → Option Addr → Str → SF} {t : List Hd} {hm : Str → List (Str × PV) → M o} {ht : Str → List (Str × PV) → M (Fl o σ)} (D : Ev → o → SR) (hi : i < Γx.length)
    (hj : ∀ a d cn fs ρ, cs.contains cn = true → Mt Γx ρ → Sim (sf a d cn (ρ.set i (some (0, .exn a d cn fs)))) (hm cn fs) (QD i (D ρ)) EA) (hD : ∀ ρ v, Mt Γx ρ → Qc Q v (D ρ v)) (r : HsJ Γx t ht (QM Q Γf) E) : HsJ Γx (⟨cs, ncs, some i, sf⟩ :: t) (hsel cs ncs (fun cn fs => (hm cn fs).bind fun v => .ok (.rt v)) ht) (QM Q Γf) E := fun cn fs ρ z => by
  unfold sHs hsel
  by_cases c1 : cs.contains cn = true
  · rw [if_pos c1, if_pos c1]
    show Sim _ (((hm cn fs).bind fun v => M.ok (Fl.rt v)).noexc) _ _
    cases em : hm cn fs with
    | bad => trivial
    | exc => trivial
    | ok v =>
      have key : ∀ a d, (sf a d cn (ρ.set i (some (0, .exn a d cn fs)))).drop i = D ρ v := fun a d => by
        have := hj a d cn fs ρ c1 z
        rw [em] at this
        exact this
      show QM Q Γf (.rt v) _
      unfold hRun
      simp only []
      rw [if_pos ⟨by rw [z.len]; exact hi, fun a d => (key a d).trans (key 0 none).symm⟩, key]
      exact hD ρ v z
  · rw [if_neg c1, if_neg c1]
    by_cases c2 : ncs.contains cn = true
    · rw [if_pos c2, if_pos c2]
      exact r cn fs ρ z
    · rw [if_neg c2, if_neg c2]
      trivial
theorem sj_try {hs : List Hd} {ht : Str → List (Str × PV) → M o} (hq : NX Q) (hb : SJ Γ F m Q (Mt Γx)) (hh : HsJ Γx hs ht Q E) : SJ Γ (sTry F hs) (m.tryc ht) Q E := fun ρ z => by
  have := hb ρ z
  unfold sTry
  cases m with
  | bad => trivial
  | ok a =>
    have this : Q a (F ρ) := this
    show Q a _
    cases ef : F ρ with
    | exc => rw [ef] at this; exact (hq _ _ _ _ this).elim
    | _ => rw [ef] at this; exact this
  | exc cn fs =>
    obtain ⟨ρ', e, z'⟩ := this
    rw [e]
    exact hh cn fs ρ' z'
theorem sj_mix {mj : M (Fl o s)} {k : s → M o} {Γf : s → List SP} (hm : m = mj.bind (Fl.cont k)) (h : SJ Γ F mj (QM Q Γf) E) (hk : ∀ a, SJ (Γf a) G (k a) Q E) : SJ Γ (sSeq F G) m Q E := fun ρ z => by
  subst hm
  exact (h ρ z).mix hk
theorem sj_join {mj : M s} {k : s → M o} {Γf : s → List SP} (hm : m = mj.bind k) (h : SJ Γ F mj (QN Γf) E) (hk : ∀ a, SJ (Γf a) G (k a) Q E) : SJ Γ (sSeq F G) m Q E := fun ρ z => by
  subst hm
  exact (h ρ z).join hk
/-! fields of exceptions -/
open Classical in
noncomputable def fld [Enc α] [Inhabited α] (fs : List (Str × PV)) (f : Str) : α := if h : ∃ a : α, fs.lookup f = some (enc a) then Classical.choose h else default
def FldOk (α : Type) [Enc α] (fs : List (Str × PV)) (f : Str) : Prop := ∃ a : α, fs.lookup f = some (enc a)
theorem fld_ok [Enc α] [Inhabited α] {fs : List (Str × PV)} {g : Str} (h : FldOk α fs g) : fs.lookup g = some (enc (fld fs g : α)) := by
  unfold fld
  rw [dif_pos (show ∃ a : α, fs.lookup g = some (enc a) from h)]
  exact Classical.choose_spec h
class InjE (α : Type) [Enc α] : Prop where
  inj : ∀ a b : α, (enc a : PV) = enc b → a = b
theorem fld_eq [Enc α] [Inhabited α] [I : InjE α] {fs : List (Str × PV)} {g : Str} {a : α} (h : fs.lookup g = some (enc a)) : FldOk α fs g ∧ (fld fs g : α) = a := by
  have k : FldOk α fs g := ⟨a, h⟩
  refine ⟨k, I.inj _ _ ?_⟩
  have := (fld_ok k).symm.trans h
  injection this
theorem eg_xf [Enc α] [Inhabited α] {a : Addr} {d : Option Addr} {cn fn : Str} {fs : List (Str × PV)} (e : Γ[i]? = some (sv 0 (.exn a d cn fs))) : EG Γ (eXf a d cn fn i) 0 true true [FldOk α fs fn] (enc (fld fs fn : α)) Γ := fun hc ρ z => by
  obtain ⟨q, e1, e2⟩ := z.get e
  have e2 : q = _ := e2
  subst e2
  refine ⟨true, true, ρ, ?_, fun _ => rfl, fun _ => ⟨rfl, rfl⟩, z⟩
  unfold eXf
  simp only [e1, and_self, if_true, fld_ok hc.1]
instance : InjE Int := ⟨fun a b h => by injection h⟩
instance : InjE Bool := ⟨fun a b h => by injection h⟩
instance : InjE Str := ⟨fun a b h => by injection h⟩
instance : InjE PV := ⟨fun a b h => h⟩
instance : InjE Unit := ⟨fun _ _ _ => rfl⟩
theorem inj_map [Enc α] [I : InjE α] : ∀ {a b : List α}, a.map (enc : α → PV) = b.map enc → a = b
  | [], [], _ => rfl
  | [], _ :: _, h => nomatch h
  | _ :: _, [], h => nomatch h
  | x :: xs, y :: ys, h => by
    rw [List.map_cons, List.map_cons] at h
    injection h with h1 h2
    rw [I.inj _ _ h1, inj_map h2]
instance [Enc α] [I : InjE α] : InjE (List α) := ⟨fun a b h => by injection h with h; exact inj_map h⟩
instance [Enc α] [I : InjE α] : InjE (Tup α) := ⟨fun a b h => by
  obtain ⟨a⟩ := a
  obtain ⟨b⟩ := b
  injection h with h
  exact congrArg Tup.mk (inj_map h)⟩
instance [Enc α] [Enc β] [A : InjE α] [B : InjE β] : InjE (α × β) := ⟨fun a b h => by
  obtain ⟨a1, a2⟩ := a
  obtain ⟨b1, b2⟩ := b
  injection h with h
  injection h with h1 h
  injection h with h2 h
  exact Prod.ext (A.inj _ _ h1) (B.inj _ _ h2)⟩
instance [Enc α] [A : InjE α] : InjE (T1 α) := ⟨fun a b h => by
  obtain ⟨a1⟩ := a
  obtain ⟨b1⟩ := b
  injection h with h
  injection h with h1 h
  exact congrArg T1.mk (A.inj _ _ h1)⟩
instance [Enc α] [Enc β] [Enc γ] [A : InjE α] [B : InjE β] [C : InjE γ] : InjE (T3 α β γ) := ⟨fun a b h => by
  obtain ⟨a1, a2, a3⟩ := a
  obtain ⟨b1, b2, b3⟩ := b
  injection h with h
  injection h with h1 h
  injection h with h2 h
  injection h with h3 h
  rw [T3.mk.injEq]
  exact ⟨A.inj _ _ h1, B.inj _ _ h2, C.inj _ _ h3⟩⟩
end T

set_option maxRecDepth 100000
set_option maxHeartbeats 1000000
namespace T
open PySem PySem.Spec PyProof.Rows L2 Pv
open Enc (enc)
variable {α β γ δ ε ζ o o' τ s κ ν : Type}
variable {Γ Γ1 Γ2 Γ3 Γx : List SP} {f h : EF} {af : AF} {t u : TFn} {op : PO} {i l l1 l2 n mm : Nat} {w w1 w2 p p1 p2 ow pu b d : Bool} {c c1 c2 c3 : List Prop} {x y z : PV} {vs : List (Nat × PV)}
variable {F G A B : SF} {m m' m1 m2 : M o} {Q : o → SR → Prop} {E : Ev → Prop} {K : Rr → SR}
theorem ke_as (hx : x = y) (hk : KE K l w y Γ m Q E) : KE K l w x Γ m Q E := hx ▸ hk
theorem ke_asg (c : List Prop) (hx : Al c → x = y) (hm : m = grds c m') (hk : KE K l w y Γ m' Q E) : KE K l w x Γ m Q E := fun pu ow ρ ho h => .grds hm fun hc => by
  rw [hx hc]
  exact hk pu ow ρ ho h
/-! a slot frozen -/
def kSetF (i : Nat) (G : SF) : Rr → SR := fun r => match matL r with
  | some n => (match (r.ρ.set i (some (n, r.x)))[i]? with
    | some (some (_, x)) => SR.nx ((r.ρ.set i (some (n, r.x))).set i (some (0, x)))
    | _ => .bad).bind G
  | none => .bad
theorem sj_setFC (h : CE Γ f (kSetF i G) m Q E) : SJ Γ (sSeq (sFz i (sSet i f)) G) m Q E := fun ρ z => by
  have := h ρ z
  rw [show sSeq (sFz i (sSet i f)) G ρ = ofE (f ρ) (kSetF i G) by
    unfold sSeq sFz
    rw [z_set]
    cases e : f ρ with
    | ok r =>
      simp only [z_ofE1]
      unfold kSetF
      cases matL r <;> rfl
    | exc => rfl
    | bad => rfl]
  exact this
theorem ke_setF [Enc α] {k : α → M o} (a : α) (hl : l = 0 ∨ w = true) (hi : i < Γ.length) (hm : m = lt a k) (hk : ∀ y : α, SJ (Γ.set i (sv 0 (enc y))) G (k y) Q E) : KE (kSetF i G) l w (enc a) Γ m Q E := fun pu ow ρ ho h => by
  subst hm
  rw [lt_eq]
  unfold kSetF
  have e : matL ⟨pu, ow, l, enc a, ρ⟩ = some l := by
    simp only [z_mat]
    by_cases z : ow = true
    · rw [if_pos z]
    · rw [if_neg z]
      rcases hl with q | q
      · subst q; simp
      · exact absurd (ho q) z
  rw [e]
  simp only []
  rw [List.getElem?_set_self (by rw [h.len]; exact hi)]
  simp only [List.set_set]
  exact hk a _ (h.set i rfl)
/-! sources that call -/
def kAny (K : Ir → SR) : Rr → SR := fun r => match r.x with
  | .str s => K ⟨r.pu, strIt s, r.ρ⟩
  | .tup xs => K ⟨r.pu, xs, r.ρ⟩
  | .ctup xs => K ⟨r.pu, xs, r.ρ⟩
  | .clst xs => K ⟨r.pu, xs, r.ρ⟩
  | .lst xs => if r.lv = 0 ∨ (r.ow = true ∧ r.lv = 1) then K ⟨r.pu, xs, r.ρ⟩ else .bad
  | _ => .bad
theorem ci_any {K : Ir → SR} (hf : CE Γ f (kAny K) m Q E) : CI Γ (iAny f) K m Q E := fun ρ h => by
  have := hf ρ h
  rw [show ofI (iAny f ρ) K = ofE (f ρ) (kAny K) by
    rw [z_any]
    cases f ρ with
    | ok r =>
      simp only [z_rb1, z_ofE1]
      unfold kAny
      cases r.x <;> simp [ofI]
      by_cases hh : r.lv = 0 ∨ r.ow = true ∧ r.lv = 1 <;> simp [hh]
    | exc => rfl
    | bad => rfl]
  exact this
theorem ke_any {K : Ir → SR} {xs : List PV} (hx : x = .tup xs ∨ x = .ctup xs ∨ x = .clst xs ∨ (x = .lst xs ∧ (l = 0 ∨ (l = 1 ∧ w = true)))) (hk : KI K xs Γ m Q E) : KE (kAny K) l w x Γ m Q E := fun pu ow ρ ho h => by
  unfold kAny
  rcases hx with rfl | rfl | rfl | ⟨rfl, hx⟩
  · exact hk pu ρ h
  · exact hk pu ρ h
  · exact hk pu ρ h
  · simp only []
    rw [if_pos]
    · exact hk pu ρ h
    · rcases hx with z | ⟨z, z2⟩
      · exact .inl z
      · exact .inr ⟨ho z2, z⟩
def kRng (g : List (Nat × PV) → Option (List PV)) (K : Ir → SR) : Ar → SR := fun a => match g a.vs with
  | some xs => K ⟨a.pu, xs, a.ρ⟩
  | none => .bad
theorem ci_range {K : Ir → SR} {g : List (Nat × PV) → Option (List PV)} (ha : CA Γ af (kRng g K) m Q E) : CI Γ (iRange g af) K m Q E := fun ρ h => by
  have := ha ρ h
  rw [show ofI (iRange g af ρ) K = ofA (af ρ) (kRng g K) by
    rw [z_range]
    cases af ρ with
    | ok a =>
      simp only [z_rb1]
      show ofI (match g a.vs with | some xs => Res.ok ⟨a.pu, xs, a.ρ⟩ | none => .bad) K = kRng g K a
      unfold kRng
      cases g a.vs <;> rfl
    | exc => rfl
    | bad => rfl]
  exact this
theorem ka_rng {K : Ir → SR} {g : List (Nat × PV) → Option (List PV)} {xs : List PV} (c : List Prop) (hg : Al c → g vs = some xs) (hm : m = grds c m') (hk : KI K xs Γ m' Q E) : KA (kRng g K) vs Γ m Q E := fun pu ρ h => .grds hm fun hc => by
  unfold kRng
  rw [hg hc]
  exact hk pu ρ h
/-- the signs of a text -/
def chars (z : Str) : List Str := z.cps.toList.map fun c => ⟨#[c]⟩
theorem strIt_chars {z : Str} : strIt z = (chars z).map enc := by
  unfold strIt chars
  rw [List.map_map]
  rfl
theorem ig_strc {z : Str} (he : EG Γ f l w p c (enc z) Γ1) : IG Γ (iAny f) c ((chars z).map enc) Γ1 := strIt_chars ▸ ig_str he
/-! += and -= -/
theorem sj_aug {op : Operator} {a b r : Int} {k : Int → M o} (hi : Γ[i]? = some (sv l1 (enc a))) (he : EG Γ f l w p c (enc b) Γ) (ho : (op = .Add ∧ r = a + b) ∨ (op = .Sub ∧ r = a - b)) (hm : m = grds c (lt r k)) (hk : ∀ y : Int, SJ (Γ.set i (sv 0 (enc y))) G (k y) Q E) : SJ Γ (sSeq (sAug i op f) G) m Q E := fun ρ z => .grds hm fun hc => by
  rw [lt_eq]
  obtain ⟨q, e1, e2⟩ := z.get hi
  have e2 : q = some (l1, .int a) := e2
  subst e2
  obtain ⟨pu, ow, ρ', e, _, _, e3⟩ := he hc ρ z
  have e : f ρ = .ok ⟨pu, ow, l, .int b, ρ'⟩ := e
  show Sim ((sAug i op f ρ).bind G) _ _ _
  unfold sAug
  rcases ho with ⟨rfl, rfl⟩ | ⟨rfl, rfl⟩
  · simp only [e1, e, z_ofE1, z_b1]
    exact hk _ _ (e3.set i rfl)
  · simp only [e1, e, z_ofE1, z_b1]
    exact hk _ _ (e3.set i rfl)
/-! the laws' comparison: told where both are one -/
theorem fj_same [Enc α] (a b : α) : FJ (F_same 8) [enc a, enc b] 0 (grd (enc a = (enc b : PV) ∧ Okd 8 (enc a)) (.ok true)) (enc : Bool → PV) := by
  by_cases h : enc a = (enc b : PV) ∧ Okd 8 (enc a)
  · rw [grd_pos h]
    have := same_ok 8 _ h.2
    show F_same 8 [enc a, enc b] = .ok 0 (.bl true) [enc a, enc b]
    rw [← h.1]
    exact this
  · rw [grd_neg h]; trivial

theorem grds1 {c : Prop} {m : M o} : grds [c] m = grd c m := rfl
end T

set_option maxRecDepth 100000
set_option maxHeartbeats 1000000
namespace T
open PySem PySem.Spec PyProof.Rows L2 Pv
open Enc (enc)
variable {α β γ δ ε ζ o o' τ s κ ν : Type}
variable {Γ Γ1 Γ2 Γ3 Γx : List SP} {f h : EF} {af : AF} {t u : TFn} {op : PO} {i l l1 l2 n mm : Nat} {w w1 w2 p p1 p2 ow pu b d : Bool} {c c1 c2 c3 : List Prop} {x y z : PV} {vs : List (Nat × PV)}
variable {F G A B : SF} {m m' m1 m2 : M o} {Q : o → SR → Prop} {E : Ev → Prop} {K : Rr → SR}
theorem o_insF {a q : Str} : inOp false [(mm, enc a), (n, enc q)] = some ⟨true, 0, enc (strIn a q)⟩ := by rw [o_ins, Bool.false_xor]
theorem o_insT {a q : Str} : inOp true [(mm, enc a), (n, enc q)] = some ⟨true, 0, enc (!strIn a q)⟩ := by rw [o_ins, Bool.true_xor]
section
variable [Enc α] [Flt α] [DecidableEq α] {a : α}
theorem o_inlF {xs : List α} : inOp false [(mm, enc a), (n, enc xs)] = some ⟨true, 0, enc (decide (a ∈ xs))⟩ := by rw [o_inl, Bool.false_xor]
theorem o_inlT {xs : List α} : inOp true [(mm, enc a), (n, enc xs)] = some ⟨true, 0, enc (!decide (a ∈ xs))⟩ := by rw [o_inl, Bool.true_xor]
theorem o_intupF {xs : Tup α} : inOp false [(mm, enc a), (n, enc xs)] = some ⟨true, 0, enc (decide (a ∈ xs.l))⟩ := by rw [o_intup, Bool.false_xor]
theorem o_intupT {xs : Tup α} : inOp true [(mm, enc a), (n, enc xs)] = some ⟨true, 0, enc (!decide (a ∈ xs.l))⟩ := by rw [o_intup, Bool.true_xor]
theorem o_inctupF {xs : CTup α} : inOp false [(mm, enc a), (n, enc xs)] = some ⟨true, 0, enc (decide (a ∈ xs.l))⟩ := by rw [o_inctup, Bool.false_xor]
theorem o_inctupT {xs : CTup α} : inOp true [(mm, enc a), (n, enc xs)] = some ⟨true, 0, enc (!decide (a ∈ xs.l))⟩ := by rw [o_inctup, Bool.true_xor]
theorem o_inTF (xs : List α) {ys : List PV} (h : ys = xs.map enc) : inOp false [(mm, enc a), (n, .tup ys)] = some ⟨true, 0, enc (decide (a ∈ xs))⟩ := by rw [o_inT xs h, Bool.false_xor]
theorem o_inTT (xs : List α) {ys : List PV} (h : ys = xs.map enc) : inOp true [(mm, enc a), (n, .tup ys)] = some ⟨true, 0, enc (!decide (a ∈ xs))⟩ := by rw [o_inT xs h, Bool.true_xor]
end
theorem o_indF [Enc α] [D : Dat α] [DecidableEq α] {a : α} {xs : List α} (hd : D.dp ≤ 63) (hf : (enc a).flat = none) (h : Al [D.ok a, ∀ x ∈ xs, D.ok x]) : inOp false [(mm, enc a), (n, enc xs)] = some ⟨true, 0, enc (decide (a ∈ xs))⟩ := by rw [o_ind hd hf h, Bool.false_xor]
theorem o_indT [Enc α] [D : Dat α] [DecidableEq α] {a : α} {xs : List α} (hd : D.dp ≤ 63) (hf : (enc a).flat = none) (h : Al [D.ok a, ∀ x ∈ xs, D.ok x]) : inOp true [(mm, enc a), (n, enc xs)] = some ⟨true, 0, enc (!decide (a ∈ xs))⟩ := by rw [o_ind hd hf h, Bool.true_xor]
theorem o_indkF [Enc κ] [KeyE κ] [Enc ν] [DecidableEq κ] {q : Dic κ ν} {k : κ} : inOpD false [(mm, enc k), (n, enc q)] = some ⟨true, 0, enc (q.has k)⟩ := by rw [o_indk, Bool.false_xor]
theorem o_indkT [Enc κ] [KeyE κ] [Enc ν] [DecidableEq κ] {q : Dic κ ν} {k : κ} : inOpD true [(mm, enc k), (n, enc q)] = some ⟨true, 0, enc (!q.has k)⟩ := by rw [o_indk, Bool.true_xor]
theorem o_isNn [Enc α] [NN α] {a : α} : pIsN false [(mm, enc a), (n, .non)] = some ⟨true, 0, enc false⟩ := by rw [o_isN, NN.nn]; rfl
theorem o_notNn [Enc α] [NN α] {a : α} : pIsN true [(mm, enc a), (n, .non)] = some ⟨true, 0, enc true⟩ := by rw [o_isN, NN.nn]; rfl
theorem o_isNu {a : Unit} : pIsN false [(mm, enc a), (n, .non)] = some ⟨true, 0, enc true⟩ := rfl
theorem o_notNu {a : Unit} : pIsN true [(mm, enc a), (n, .non)] = some ⟨true, 0, enc false⟩ := rfl
theorem o_isNp {a : PV} : pIsN false [(mm, enc a), (n, .non)] = some ⟨true, 0, enc (PV.isNon a)⟩ := by rw [o_isN, Bool.false_xor]; rfl
theorem o_notNp {a : PV} : pIsN true [(mm, enc a), (n, .non)] = some ⟨true, 0, enc (!PV.isNon a)⟩ := by rw [o_isN, Bool.true_xor]; rfl
theorem leb {m n : Nat} (h : Nat.ble m n = true) : m ≤ n := Nat.le_of_ble_eq_true h
theorem o_sc01 [Enc α] {xs : CLst α} {j : Int} : pSlc false true [(mm, enc xs), (n, enc j)] = some ⟨true, 1, enc (cutL xs.l none (some j))⟩ := by
  show some (⟨true, 1, .lst (cutL (xs.l.map enc) none (some j))⟩ : Po) = _
  rw [cutL_map]; rfl
/-! values of no told type -/
open Classical in
noncomputable def eqP (x y : PV) : Bool := decide (pEq [(0, x), (0, y)] = some ⟨true, 0, .bl true⟩)
def EqP (x y : PV) : Prop := ∃ b, ∀ c, eqR c [(0, x), (0, y)] = some ⟨true, 0, .bl (c ^^ b)⟩
theorem eqP_of {x y : PV} {b : Bool} (h : ∀ c, eqR c [(0, x), (0, y)] = some ⟨true, 0, .bl (c ^^ b)⟩) : EqP x y ∧ eqP x y = b := by
  refine ⟨⟨b, h⟩, ?_⟩
  unfold eqP
  rw [show pEq [(0, x), (0, y)] = _ from h false]
  cases b <;> simp
theorem o_eqp {x y : PV} (h : Al [EqP x y]) : pEq [(0, enc x), (0, enc y)] = some ⟨true, 0, enc (eqP x y)⟩ := by
  obtain ⟨b, e⟩ := h.1
  rw [(eqP_of e).2]
  have := e false
  rw [Bool.false_xor] at this
  exact this
theorem o_nep {x y : PV} (h : Al [EqP x y]) : pNe [(0, enc x), (0, enc y)] = some ⟨true, 0, enc (!eqP x y)⟩ := by
  obtain ⟨b, e⟩ := h.1
  rw [(eqP_of e).2]
  have := e true
  rw [Bool.true_xor] at this
  exact this
def IsE (α : Type) [Enc α] (x : PV) : Prop := ∃ a : α, x = enc a
open Classical in
noncomputable def ofPV [Enc α] [Inhabited α] (x : PV) : α := if h : ∃ a : α, x = enc a then Classical.choose h else default
theorem ofPV_ok [Enc α] [Inhabited α] {x : PV} (h : Al [IsE α x]) : (enc x : PV) = enc (ofPV x : α) := by
  unfold ofPV
  rw [dif_pos (show ∃ a : α, x = enc a from h.1)]
  exact Classical.choose_spec h.1
theorem ofPV_enc [Enc α] [Inhabited α] [I : InjE α] {a : α} : IsE α (enc a) ∧ (ofPV (enc a) : α) = a := by
  have k : IsE α (enc a) := ⟨a, rfl⟩
  exact ⟨k, I.inj _ _ (ofPV_ok ⟨k, trivial⟩).symm⟩
def isiP (T : String) (x : PV) : Bool := ((x.tyName).bind fun t => kitB t T).getD false
def IsiP (T : String) (x : PV) : Prop := ((x.tyName).bind fun t => kitB t T).isSome = true
theorem eg_isip {T : String} {x : PV} (he : EG Γ f l w p c (enc x) Γ1) : EG Γ (eIsi T f) 0 true p (c ++ [IsiP T x]) (enc (isiP T x)) Γ1 := fun hc ρ h => by
  obtain ⟨h1, h2⟩ := hc.app
  refine eg_isi he ?_ h1 ρ h
  obtain ⟨q, e⟩ := Option.isSome_iff_exists.mp h2.1
  show ((x.tyName).bind fun t => kitB t T) = some (isiP T x)
  unfold isiP
  rw [e]
  rfl
theorem mapM_strOf_int : ∀ {xs : List Int}, xs ≠ [] → (xs.map (enc : Int → PV)).mapM PV.strOf = none
  | [], h => absurd rfl h
  | x :: r, _ => by rw [List.map_cons, List.mapM_cons]; rfl
theorem mapM_intOf_str : ∀ {xs : List Str}, xs ≠ [] → (xs.map (enc : Str → PV)).mapM PV.intOf = none
  | [], h => absurd rfl h
  | x :: r, _ => by rw [List.map_cons, List.mapM_cons]; rfl
theorem o_sorti {xs : List Int} (h : Al [xs.length ≤ 16777216]) : pSort [(mm, enc xs)] = some ⟨true, 1, enc (sortI xs)⟩ := by
  show (match (xs.map enc).mapM PV.intOf with
    | some ns => some (⟨true, 1, .lst ((sortI ns).map .int)⟩ : Po)
    | none => ((xs.map enc).mapM PV.strOf).bind fun ss => if ss.length < 64 then some ⟨true, 1, .lst ((sortS ss).map .str)⟩ else none) = _
  rw [mapM_int]
  rfl
theorem o_sorts {xs : List Str} (h : Al [xs.length < 64]) : pSort [(mm, enc xs)] = some ⟨true, 1, enc (sortS xs)⟩ := by
  show (match (xs.map enc).mapM PV.intOf with
    | some ns => some (⟨true, 1, .lst ((sortI ns).map .int)⟩ : Po)
    | none => ((xs.map enc).mapM PV.strOf).bind fun ss => if ss.length < 64 then some ⟨true, 1, .lst ((sortS ss).map .str)⟩ else none) = _
  cases xs with
  | nil =>
    show some (⟨true, 1, .lst ((sortI []).map .int)⟩ : Po) = some ⟨true, 1, .lst ((sortS []).map enc)⟩
    rw [show sortI [] = [] by simp [sortI], show sortS [] = [] by simp [sortS]]
    rfl
  | cons x r =>
    rw [mapM_intOf_str (by simp), mapM_strs]
    simp only [Option.bind_some]
    rw [if_pos h.1]
    rfl
section
variable [Enc κ] [KE0 : KeyE κ] [Enc ν] [DecidableEq κ]
theorem o_getd2 {q : Dic κ ν} {k : κ} {v : ν} (hn : n ≤ 1) (hl : l = 0) : pGetD2 [(n, enc q), (mm, enc k), (l, enc v)] = some ⟨true, 0, enc ((q.get k).getD v)⟩ := by
  subst hl
  show (match (enc k).keyOf with
    | some k => if keyFits (encD q.l) k = true ∧ n ≤ 1 ∧ shOk (0, enc v) = true then (match valD (encD q.l) k with
      | some x => some (⟨n ≤ 1 || x.imm, if x.imm = true then 0 else n - 1, x⟩ : Po)
      | none => some ⟨true, 0, enc v⟩) else none
    | none => none) = _
  rw [KE0.kof]
  simp only []
  rw [if_pos ⟨fits_enc, hn, by simp⟩, valD_enc]
  cases q.get k with
  | none => rfl
  | some v =>
    have : n - 1 = 0 := by omega
    simp only [Option.map_some]
    simp [hn, this]
theorem o_getd2p {δ : Type} [Enc δ] {q : Dic κ ν} {k : κ} {v : δ} (hn : n ≤ 1) (hl : l = 0) : pGetD2 [(n, enc q), (mm, enc k), (l, enc v)] = some ⟨true, 0, enc ((q.get k).elim (enc v : PV) enc)⟩ := by
  subst hl
  show (match (enc k).keyOf with
    | some k => if keyFits (encD q.l) k = true ∧ n ≤ 1 ∧ shOk (0, enc v) = true then (match valD (encD q.l) k with
      | some x => some (⟨n ≤ 1 || x.imm, if x.imm = true then 0 else n - 1, x⟩ : Po)
      | none => some ⟨true, 0, enc v⟩) else none
    | none => none) = _
  rw [KE0.kof]
  simp only []
  rw [if_pos ⟨fits_enc, hn, by simp⟩, valD_enc]
  cases q.get k with
  | none => rfl
  | some v =>
    have : n - 1 = 0 := by omega
    simp only [Option.map_some]
    simp [hn, this]
    rfl
theorem o_getdp {q : Dic κ PV} {k : κ} (hn : n ≤ 1) : pGetD [(n, enc q), (mm, enc k)] = some ⟨true, 0, enc ((q.get k).getD .non)⟩ := by
  rw [o_getd hn]
  cases q.get k <;> rfl
theorem o_getdj {q : Dic κ (Option ν)} {k : κ} (hn : n ≤ 1) : pGetD [(n, enc q), (mm, enc k)] = some ⟨true, 0, enc ((q.get k).join)⟩ := by
  rw [o_getd hn, enc_join]
theorem o_listd {q : Dic κ ν} (h : Al [q.l.length ≤ 16777216]) : pListD [(0, enc q)] = some ⟨true, 1, enc q.keys⟩ := by
  show some (⟨true, 1, .lst ((encD q.l).map fun p => dkP p.1)⟩ : Po) = _
  rw [keys_enc]
  rfl
end
theorem ce_pop0 [Enc α] [Inhabited α] {xs : List α} {k : α → List α → M o} (hi : Γ[i]? = some (sv 1 (enc xs))) (hm : m = grd (xs ≠ []) (lt (xs.headD default) fun v => lt xs.tail fun r => k v r)) (hk : ∀ v r, KE K 0 true (enc v) (Γ.set i (sv 1 (enc r))) (k v r) Q E) : CE Γ (ePop0 i) K m Q E := fun ρ z => by
  subst hm
  refine Sim.grds (c := [xs ≠ []]) rfl fun hc => ?_
  obtain ⟨q, e1, e2⟩ := z.get hi
  have e2 : q = some (1, .lst (xs.map enc)) := e2
  subst e2
  unfold ePop0
  simp only [e1]
  cases xs with
  | nil => exact absurd rfl hc.1
  | cons x r =>
    simp only [lt_eq]
    exact hk x r _ true _ (fun _ => rfl) (z.set i rfl)
theorem ce_pop [Enc α] [Inhabited α] {xs : List α} {k : α → List α → M o} (hi : Γ[i]? = some (sv 1 (enc xs))) (hm : m = grd (xs ≠ []) (lt (xs.getLastD default) fun v => lt xs.dropLast fun r => k v r)) (hk : ∀ v r, KE K 0 true (enc v) (Γ.set i (sv 1 (enc r))) (k v r) Q E) : CE Γ (ePop i) K m Q E := fun ρ z => by
  subst hm
  refine Sim.grds (c := [xs ≠ []]) rfl fun hc => ?_
  obtain ⟨q, e1, e2⟩ := z.get hi
  have e2 : q = some (1, .lst (xs.map enc)) := e2
  subst e2
  unfold ePop
  simp only [e1, lt_eq]
  have e3 : (xs.map (enc : α → PV)).getLast? = some (enc (xs.getLastD default)) := by
    rw [List.getLast?_map]
    cases xs with
    | nil => exact absurd rfl hc.1
    | cons x r => rw [List.getLast?_eq_some_getLast (by simp)]; simp [List.getLastD]
  rw [e3]
  simp only []
  rw [show (xs.map (enc : α → PV)).dropLast = xs.dropLast.map enc from (List.map_dropLast ..).symm]
  exact hk _ _ _ true _ (fun _ => rfl) (z.set i rfl)
/-! a slot frozen between statements -/
def fzS (i : Nat) : SF := fun ρ => match ρ[i]? with
  | some (some (_, x)) => .nx (ρ.set i (some (0, x)))
  | _ => .bad
theorem sj_fz (h : SJ Γ (sSeq F (sSeq (fzS i) G)) m Q E) : SJ Γ (sSeq (sFz i F) G) m Q E := fun ρ z => by
  have := h ρ z
  rw [show sSeq (sFz i F) G ρ = sSeq F (sSeq (fzS i) G) ρ by
    unfold sSeq sFz
    cases F ρ with
    | nx ρ' =>
      simp only [z_b1]
      unfold fzS
      rfl
    | _ => rfl]
  exact this
theorem sj_fzs (hi : Γ[i]? = some (sv l x)) (h : SJ (Γ.set i (sv 0 x)) G m Q E) : SJ Γ (sSeq (fzS i) G) m Q E := fun ρ z => by
  obtain ⟨q, e1, e2⟩ := z.get hi
  have e2 : q = some (l, x) := e2
  subst e2
  show Sim ((fzS i ρ).bind G) _ _ _
  unfold fzS
  simp only [e1, z_b1]
  exact h _ (z.set i rfl)
/-! while -/
def M.wh (f : s → M (Lp s o)) : Nat → s → M (Fl o s)
  | 0, _ => .bad
  | n + 1, x => (f x).bind fun r => match r with
    | .nx x => M.wh f n x
    | .bk x => .ok (.go x)
    | .rt a => .ok (.rt a)
theorem wh_mono {f : s → M (Lp s o)} : ∀ {n : Nat} (m : Nat) {x : s} {r : M (Fl o s)}, M.wh f n x = r → r ≠ .bad → n ≤ m → M.wh f m x = r
  | 0, _, x, r, h, hr, _ => absurd h.symm hr
  | n + 1, 0, x, r, h, hr, hm => by omega
  | n + 1, m + 1, x, r, h, hr, hm => by
    unfold M.wh at h ⊢
    cases e : f x with
    | bad => rw [e] at h; exact h
    | exc => rw [e] at h; exact h
    | ok q =>
      rw [e] at h
      simp only [M.bind_ok] at h ⊢
      cases q with
      | nx y => exact wh_mono m h hr (by omega)
      | bk y => exact h
      | rt a => exact h
open Classical in
noncomputable def M.while (f : s → M (Lp s o)) (x : s) : M (Fl o s) := if h : ∃ n, M.wh f n x ≠ .bad then M.wh f (Classical.choose h) x else .bad
theorem while_eq {f : s → M (Lp s o)} {n : Nat} {x : s} {r : M (Fl o s)} (h : M.wh f n x = r) (hr : r ≠ .bad) : M.while f x = r := by
  have hx : ∃ n, M.wh f n x ≠ .bad := ⟨n, by rw [h]; exact hr⟩
  unfold M.while
  rw [dif_pos hx]
  have h2 := Classical.choose_spec hx
  have e1 := wh_mono (max n (Classical.choose hx)) h hr (Nat.le_max_left _ _)
  have e2 := wh_mono (max n (Classical.choose hx)) rfl h2 (Nat.le_max_right _ _)
  exact e2.symm.trans e1
def turn (t : TFn) (F : SF) : SF := fun ρ => ofT (t ρ) fun r => if r.b = true then F r.ρ else .bk r.ρ
theorem whileN_turn {t : TFn} {F : SF} {n : Nat} {ρ : Ev} : whileN t F (n + 1) ρ = match turn t F ρ with
    | .nx ρ => whileN t F n ρ
    | .ct ρ => whileN t F n ρ
    | .bk ρ => some (.nx ρ)
    | r => some r := by
  unfold turn
  show (match t ρ with | .bad => _ | .exc c fs ρ' => _ | .ok r => _) = _
  cases t ρ with
  | bad => rfl
  | exc => rfl
  | ok r =>
    simp only [ofT]
    by_cases h : r.b = true
    · rw [if_pos h, if_pos h]
      first
      | done
      | (cases F r.ρ <;> rfl)
    · rw [if_neg h, if_neg h]
theorem while_sim {f : s → M (Lp s o)} {Γl : s → List SP} (hb : ∀ st, SJ (Γl st) (turn t F) (f st) (QL Q Γl) E) : ∀ (n : Nat) (st : s) (ρ : Ev), Mt (Γl st) ρ → M.wh f n st = .bad ∨ ∃ S, whileN t F n ρ = some S ∧ Sim S (M.wh f n st) (fun r S => match r with | .rt a => Q a S ∧ ∃ lv y ρ, S = .rt lv y ρ | .go x => ∃ ρ, S = .nx ρ ∧ Mt (Γl x) ρ) E
  | 0, st, ρ, h => .inl rfl
  | n + 1, st, ρ, h => by
    have hj := hb st ρ h
    rw [whileN_turn]
    unfold M.wh
    cases ef : f st with
    | bad => exact .inl rfl
    | exc cc fs =>
      rw [ef] at hj
      obtain ⟨ρ2, e2, h2⟩ := hj
      rw [e2]
      exact .inr ⟨_, rfl, ρ2, rfl, h2⟩
    | ok r =>
      rw [ef] at hj
      cases r with
      | nx x =>
        obtain ⟨ρ2, e2, h2⟩ := hj
        rcases e2 with e2 | e2
        · rw [e2]; exact while_sim hb n x ρ2 h2
        · rw [e2]; exact while_sim hb n x ρ2 h2
      | bk x =>
        obtain ⟨ρ2, e2, h2⟩ := hj
        rw [e2]
        exact .inr ⟨_, rfl, ρ2, rfl, h2⟩
      | rt a =>
        obtain ⟨q, lv, y, ρ2, e2⟩ := hj
        rw [e2] at q ⊢
        exact .inr ⟨_, rfl, q, lv, y, ρ2, rfl⟩
theorem sj_while {f : s → M (Lp s o)} {Γl : s → List SP} {k : s → M o} (st : s) (hi : Imp Γ (Γl st)) (hm : m = (M.while f st).bind (Fl.cont k)) (hb : ∀ st, SJ (Γl st) (turn t F) (f st) (QL Q Γl) E) (hk : ∀ st, SJ (Γl st) G (k st) Q E) : SJ Γ (sSeq (sWhile t F) G) m Q E := fun ρ z => by
  subst hm
  show Sim ((sWhile t F ρ).bind G) _ _ _
  by_cases hx : ∃ n, M.wh f n st ≠ .bad
  · obtain ⟨n, hn⟩ := hx
    have hS := while_sim hb n st ρ (hi ρ z)
    rcases hS with hS | ⟨S, e, hS⟩
    · exact absurd hS hn
    · rw [sWhile_eq e, while_eq rfl hn]
      refine Sim.mix (Γf := Γl) ?_ hk
      cases em : M.wh f n st with
      | bad => trivial
      | exc => rw [em] at hS; exact hS
      | ok r =>
        rw [em] at hS
        cases r with
        | go x => exact hS
        | rt a =>
          obtain ⟨q, lv, y, ρ2, e2⟩ := hS
          refine ⟨q, fun G => ?_⟩
          rw [e2]; rfl
  · have : M.while f st = .bad := by unfold M.while; rw [dif_neg hx]
    rw [this]
    trivial
def kTurn (F : SF) : Tr → SR := fun r => if r.b = true then F r.ρ else .bk r.ρ
theorem sj_turn (h : CT Γ t (kTurn F) m Q E) : SJ Γ (turn t F) m Q E := h
theorem kt_turn {a : o} (hm : m = if b = true then m1 else .ok a) (hA : SJ Γ F m1 Q E) (hq : Ok1 Q a Γ .bk) : KT (kTurn F) b Γ m Q E := fun pu ρ h => by
  subst hm
  unfold kTurn
  cases b with
  | true => exact hA ρ h
  | false => exact hq ρ h
noncomputable def m_same [Enc α] [Enc β] (a : α) (b : β) : M Bool := grd ((enc a : PV) = enc b ∧ Okd 8 (enc a)) (.ok true)
end T
namespace T
open PySem PySem.Spec PyProof.Rows L2 Pv
open Enc (enc)
theorem fj_same2 {α β : Type} [Enc α] [Enc β] (a : α) (b : β) : FJ (F_same 8) [enc a, enc b] 0 (m_same a b) (enc : Bool → PV) := fj_same (enc a : PV) (enc b)
end T

set_option maxRecDepth 100000
set_option maxHeartbeats 1000000
namespace T
open PySem PySem.Spec PyProof.Rows L2 Pv
open Enc (enc)
variable {α β : Type} {m n : Nat}
theorem o_comb {a a' : Int} (h : Al [CombOk a a']) : pComb [(m, enc a), (n, enc a')] = some ⟨true, 0, enc (icomb a a')⟩ := if_pos h.1
noncomputable def m_sameQ [Enc α] [Enc β] (a : α) (b : β) : M Bool := grd ((enc a : PV) = enc b ∧ OkdQ (enc a)) (.ok true)
theorem fj_sameQ [Enc α] [Enc β] (a : α) (b : β) : FJ F_sameQ [enc a, enc b] 0 (m_sameQ a b) (enc : Bool → PV) := by
  unfold m_sameQ
  by_cases h : (enc a : PV) = enc b ∧ OkdQ (enc a)
  · rw [grd_pos h]
    have := sameQ_ok _ h.2
    show F_sameQ [enc a, enc b] = .ok 0 (.bl true) [enc a, enc b]
    rw [← h.1]
    exact this
  · rw [grd_neg h]; trivial
end T

set_option maxRecDepth 100000
set_option maxHeartbeats 1000000
namespace T
open PySem PySem.Spec PyProof.Rows L2 Pv
open Enc (enc)
variable {α β o s : Type}
/-! # plain laws of the typed steps -/
theorem rng_nat {n : Nat} : rng 0 (n : Int) = (List.range n).map (fun k : Nat => (k : Int)) := by
  unfold rng
  simp
theorem rng_nat1 {n : Nat} : rng 0 ((n : Int) + 1) = (List.range (n + 1)).map (fun k : Nat => (k : Int)) := by
  have := rng_nat (n := n + 1)
  simpa using this
theorem fold_inv {f : s → α → M s} (I : Nat → s → Prop) : ∀ {xs : List α} {x : s} {i : Nat}, I i x → (∀ j a x, xs[j]? = some a → I (i + j) x → ∃ y, f x a = .ok y ∧ I (i + j + 1) y) → ∃ y, M.fold f xs x = .ok y ∧ I (i + xs.length) y
  | [], x, i, h, _ => ⟨x, rfl, h⟩
  | a :: xs, x, i, h, k => by
    obtain ⟨y, e, h1⟩ := k 0 a x rfl h
    obtain ⟨z, e2, h2⟩ := fold_inv I (xs := xs) (x := y) (i := i + 1) h1 fun j b x e hx => by
      obtain ⟨w, e3, h3⟩ := k (j + 1) b x (by simpa using e) (by rw [show i + (j + 1) = i + 1 + j by omega]; exact hx)
      exact ⟨w, e3, by rw [show i + 1 + j + 1 = i + (j + 1) + 1 by omega]; exact h3⟩
    refine ⟨z, ?_, by rw [List.length_cons, show i + (xs.length + 1) = i + 1 + xs.length by omega]; exact h2⟩
    show (f x a).bind (fun x => M.fold f xs x) = _
    rw [e]; exact e2
theorem fold_inv0 {f : s → α → M s} (I : s → Prop) {xs : List α} {x : s} (h : I x) (k : ∀ a x, a ∈ xs → I x → ∃ y, f x a = .ok y ∧ I y) : ∃ y, M.fold f xs x = .ok y ∧ I y :=
  fold_inv (fun _ => I) (i := 0) h fun j a x e hx => k a x (List.mem_of_getElem? e) hx
theorem fold_pure {f : s → α → M s} {g : s → α → s} : ∀ {xs : List α} {x : s}, (∀ x a, a ∈ xs → f x a = .ok (g x a)) → M.fold f xs x = .ok (xs.foldl g x)
  | [], x, _ => rfl
  | a :: xs, x, k => by
    show (f x a).bind (fun x => M.fold f xs x) = _
    rw [k x a List.mem_cons_self]
    exact fold_pure (xs := xs) fun x b hb => k x b (List.mem_cons_of_mem _ hb)
theorem lc_pure {f : α → M (Option β)} {g : α → β} : ∀ {xs : List α}, (∀ a ∈ xs, f a = .ok (some (g a))) → M.lc f xs = .ok (xs.map g)
  | [], _ => rfl
  | a :: xs, k => by
    show (match f a with | .ok (some y) => (M.lc f xs).bind fun ys => .ok (y :: ys) | .ok none => M.lc f xs | _ => .bad) = _
    rw [k a List.mem_cons_self]
    show (M.lc f xs).bind _ = _
    rw [lc_pure (xs := xs) fun b hb => k b (List.mem_cons_of_mem _ hb)]
    rfl
theorem loop_cons {f : s → α → M (Lp s o)} {a : α} {xs : List α} {x : s} : M.loop f (a :: xs) x = (f x a).bind fun r => match r with
    | .nx x => M.loop f xs x
    | .bk x => .ok (.go x)
    | .rt a => .ok (.rt a) := rfl
theorem loop_inv {f : s → α → M (Lp s o)} (I : Nat → s → Prop) : ∀ {xs : List α} {x : s} {i : Nat}, I i x → (∀ j a x, xs[j]? = some a → I (i + j) x → ∃ y, f x a = .ok (.nx y) ∧ I (i + j + 1) y) → ∃ y, M.loop f xs x = .ok (.go y) ∧ I (i + xs.length) y
  | [], x, i, h, _ => ⟨x, rfl, h⟩
  | a :: xs, x, i, h, k => by
    obtain ⟨y, e, h1⟩ := k 0 a x rfl h
    obtain ⟨z, e2, h2⟩ := loop_inv I (xs := xs) (x := y) (i := i + 1) h1 fun j b x e hx => by
      obtain ⟨w, e3, h3⟩ := k (j + 1) b x (by simpa using e) (by rw [show i + (j + 1) = i + 1 + j by omega]; exact hx)
      exact ⟨w, e3, by rw [show i + 1 + j + 1 = i + (j + 1) + 1 by omega]; exact h3⟩
    refine ⟨z, ?_, by rw [List.length_cons, show i + (xs.length + 1) = i + 1 + xs.length by omega]; exact h2⟩
    rw [loop_cons, e]; exact e2
theorem loop_find {f : Unit → α → M (Lp Unit o)} {p : α → Bool} {r : α → o} : ∀ {xs : List α}, (∀ a ∈ xs, f () a = if p a = true then .ok (.rt (r a)) else .ok (.nx ())) → M.loop f xs () = .ok (match xs.find? p with | some a => .rt (r a) | none => .go ())
  | [], _ => rfl
  | a :: xs, k => by
    rw [loop_cons, k a List.mem_cons_self]
    by_cases h : p a = true
    · rw [if_pos h, List.find?_cons_of_pos h]; rfl
    · rw [if_neg h, List.find?_cons_of_neg h]
      exact loop_find (xs := xs) fun b hb => k b (List.mem_cons_of_mem _ hb)
theorem sm_of {k : Int} (h0 : 0 ≤ k) (h : k ≤ 1000000) : Sm k := ⟨by omega, by omega⟩
theorem log2_lt {a : Int} {k : Nat} (h : a.natAbs < 2 ^ k) (hk : 0 < k) : a.natAbs.log2 < k := by
  by_cases h0 : a.natAbs = 0
  · rw [h0]; simpa using hk
  · exact (Nat.log2_lt h0).mpr h
/-! ## the script's stream -/
noncomputable def mstream (script_ : (CLst Int)) (many_ : Int) : M (List Int) := lt ([] : (List Int)) fun found0 => lt (7 : Int) fun seed0 => (M.fold (fun (s0 : ((List Int) × Int)) (cell0 : Int) => lt (iabs cell0) fun left0 => (if (decide (((10 : Int) ^ ((18 : Int)).toNat) ≤ left0)) = true then (M.fold (fun (s2 : ((List Int) × Int)) (k0 : Int) => (if ((decide ((0 : Int) < s2.2)) && (decide (((s2.1).length : Int) < many_))) = true then grd ((s2.1).length < 16777216) <| lt (s2.1 ++ [(s2.2 % (1000 : Int))]) fun found1 => lt (s2.2 / (1000 : Int)) fun left1 => .ok (found1, left1) else .ok (s2.1, s2.2))) (rng 0 (60 : Int)) (s0.1, left0)).bind fun s3 : ((List Int) × Int) => .ok s3.1 else (if (decide (((s0.1).length : Int) < many_)) = true then grd ((s0.1).length < 16777216) <| lt (s0.1 ++ [(left0 % (1000 : Int))]) fun found2 => .ok found2 else .ok s0.1)).bind fun s1 : (List Int) => grd ((s0.2).natAbs.log2 + ((31 : Int)).natAbs.log2 < 1000000) <| lt ((((s0.2 * (31 : Int)) + (cell0 % (1000003 : Int))) + (5 : Int)) % (1000003 : Int)) fun seed1 => .ok (s1, seed1)) (cutL (script_).l none (some (63 : Int))) (found0, seed0)).bind fun s4 : ((List Int) × Int) => grd (Sm many_) <| (M.fold (fun (s5 : ((List Int) × Int)) (k1 : Int) => (if (decide (((s5.1).length : Int) < many_)) = true then grd ((s5.2).natAbs.log2 + ((48271 : Int)).natAbs.log2 < 1000000) <| lt (((s5.2 * (48271 : Int)) + (11 : Int)) % (1000003 : Int)) fun seed2 => grd ((s5.1).length < 16777216) <| lt (s5.1 ++ [((seed2 / (7 : Int)) % (1000 : Int))]) fun found3 => .ok (found3, seed2) else .ok (s5.1, s5.2))) (rng 0 many_) (s4.1, s4.2)).bind fun s6 : ((List Int) × Int) => .ok (s6.1)
def Thous (l : List Int) : Prop := ∀ x ∈ l, 0 ≤ x ∧ x < 1000
theorem Thous.add {l : List Int} {a : Int} (h : Thous l) : Thous (l ++ [a % 1000]) := fun x hx => by
  rcases List.mem_append.mp hx with hx | hx
  · exact h x hx
  · rw [List.mem_singleton.mp hx]; omega
theorem seed_log {a b : Int} (h0 : 0 ≤ a) (h : a < 1000003) (hb : b.natAbs.log2 < 1000) : a.natAbs.log2 + b.natAbs.log2 < 1000000 := by
  have := log2_lt (a := a) (k := 20) (by omega) (by omega)
  omega
theorem bind_ex {m : M α} {k : α → M β} {P : α → Prop} {R : β → Prop} (h : ∃ y, m = .ok y ∧ P y) (h2 : ∀ y, P y → ∃ l, k y = .ok l ∧ R l) : ∃ l, m.bind k = .ok l ∧ R l := by
  obtain ⟨y, e, p⟩ := h
  rw [e]
  exact h2 y p
theorem ite_ex {c : Prop} [Decidable c] {m n : M α} {R : α → Prop} (h1 : c → ∃ l, m = .ok l ∧ R l) (h2 : ¬ c → ∃ l, n = .ok l ∧ R l) : ∃ l, (if c then m else n) = .ok l ∧ R l := by
  by_cases h : c
  · rw [if_pos h]; exact h1 h
  · rw [if_neg h]; exact h2 h
theorem grd_ex {c : Prop} {m : M α} {R : α → Prop} (h : c) (k : ∃ l, m = .ok l ∧ R l) : ∃ l, grd c m = .ok l ∧ R l := by
  rw [grd_pos h]; exact k
theorem ok_ex {a : α} {R : α → Prop} (h : R a) : ∃ l, M.ok a = .ok l ∧ R l := ⟨a, rfl, h⟩
theorem stream_ok (script : CLst Int) (many : Nat) (hm : many ≤ 100000) : ∃ l, mstream script (many : Int) = .ok l ∧ l.length = many ∧ Thous l := by
  unfold mstream
  simp only [lt_eq]
  refine bind_ex (P := fun x : List Int × Int => x.1.length ≤ many ∧ Thous x.1 ∧ 0 ≤ x.2 ∧ x.2 < 1000003) (fold_inv0 _ ⟨Nat.zero_le _, (by intro x h; cases h), by decide, by decide⟩ fun c x _ ⟨h1, h2, h3, h4⟩ => ?_) fun y ⟨h1, h2, h3, h4⟩ => ?_
  · refine bind_ex (P := fun l : List Int => l.length ≤ many ∧ Thous l) (ite_ex (fun hc => ?_) fun hc => ?_) fun l ⟨k1, k2⟩ => ?_
    · refine bind_ex (P := fun x : List Int × Int => x.1.length ≤ many ∧ Thous x.1) (fold_inv0 _ ⟨h1, h2⟩ fun a x _ ⟨k1, k2⟩ => ?_) fun z k => ok_ex k
      refine ite_ex (fun hd => ?_) fun hd => ok_ex ⟨k1, k2⟩
      have hl : x.1.length < many := by have := of_decide_eq_true (Bool.and_eq_true_iff.mp hd).2; omega
      exact grd_ex (by omega) (ok_ex ⟨by show (x.1 ++ _).length ≤ many; rw [List.length_append]; exact hl, k2.add⟩)
    · refine ite_ex (fun hd => ?_) fun hd => ok_ex ⟨h1, h2⟩
      have hl := of_decide_eq_true hd
      exact grd_ex (by omega) (ok_ex ⟨by rw [List.length_append]; show x.1.length + 1 ≤ many; omega, h2.add⟩)
    · exact grd_ex (seed_log h3 h4 (by decide)) (ok_ex ⟨k1, k2, by show 0 ≤ _ % _; omega, by show _ % _ < _; omega⟩)
  · refine grd_ex (sm_of (by omega) (by omega)) ?_
    refine bind_ex (P := fun x : List Int × Int => min (0 + (rng 0 (many : Int)).length) many ≤ x.1.length ∧ x.1.length ≤ many ∧ Thous x.1 ∧ 0 ≤ x.2 ∧ x.2 < 1000003) (fold_inv (fun i (x : List Int × Int) => min i many ≤ x.1.length ∧ x.1.length ≤ many ∧ Thous x.1 ∧ 0 ≤ x.2 ∧ x.2 < 1000003) (i := 0) ⟨by omega, h1, h2, h3, h4⟩ fun j a x _ ⟨q0, q1, q2, q3, q4⟩ => ?_) fun z ⟨k1, k2, k3, k4, k5⟩ => ?_
    · refine ite_ex (fun hd => ?_) fun hd => ?_
      · have hl := of_decide_eq_true hd
        refine grd_ex (seed_log q3 q4 (by decide)) (grd_ex (by omega) (ok_ex ⟨?_, ?_, q2.add, by show 0 ≤ _ % _; omega, by show _ % _ < _; omega⟩))
        · show _ ≤ (x.1 ++ _).length
          rw [List.length_append]; show _ ≤ x.1.length + 1; omega
        · show (x.1 ++ _).length ≤ _
          rw [List.length_append]; show x.1.length + 1 ≤ _; omega
      · have hl : ¬ (x.1.length : Int) < many := by simpa using hd
        exact ok_ex ⟨by show _ ≤ x.1.length; omega, q1, q2, q3, q4⟩
    · refine ok_ex ⟨?_, k3⟩
      have : (rng 0 (many : Int)).length = many := by rw [rng_nat]; simp
      omega
end T

set_option maxRecDepth 100000
set_option maxHeartbeats 1000000
namespace T
open PySem PySem.Spec PyProof.Rows L2 Pv
open Enc (enc)
/-! # binomials -/
def binom : Nat → Nat → Nat
  | _, 0 => 1
  | 0, _ + 1 => 0
  | n + 1, k + 1 => binom n k + binom n (k + 1)
def fct : Nat → Nat
  | 0 => 1
  | n + 1 => fct n * (n + 1)
theorem ff_top (n : Int) : ∀ k : Nat, Builtin.Math.fallingProduct (n + 1) (k + 1) = (n + 1) * Builtin.Math.fallingProduct n k
  | 0 => by rw [PySem.W.mc_fp_succ, PySem.W.mc_fp_zero, PySem.W.mc_fp_zero]; omega
  | k + 1 => by
    rw [PySem.W.mc_fp_succ, ff_top n k, PySem.W.mc_fp_succ, Int.mul_assoc]
    congr 2
    omega
theorem ff_self : ∀ k : Nat, Builtin.Math.fallingProduct (k : Int) k = (fct k : Int)
  | 0 => rfl
  | k + 1 => by
    have := ff_top (k : Int) k
    rw [show ((k + 1 : Nat) : Int) = (k : Int) + 1 by omega, this, ff_self k]
    show _ = ((fct k * (k + 1) : Nat) : Int)
    rw [Int.natCast_mul, Int.mul_comm]
    rfl
theorem ff_binom : ∀ n k : Nat, Builtin.Math.fallingProduct (n : Int) k = (binom n k : Int) * (fct k : Int)
  | n, 0 => by cases n <;> rfl
  | 0, k + 1 => by
    have := ff_top (-1) k
    rw [show (-1 : Int) + 1 = 0 by decide, Int.zero_mul] at this
    show Builtin.Math.fallingProduct 0 (k + 1) = _
    rw [this]
    show (0 : Int) = ((0 : Nat) : Int) * _
    simp
  | n + 1, k + 1 => by
    rw [show ((n + 1 : Nat) : Int) = (n : Int) + 1 by omega, ff_top]
    have h1 := ff_binom n k
    have h2 := ff_binom n (k + 1)
    rw [PySem.W.mc_fp_succ] at h2
    have e : ((n : Int) + 1) * Builtin.Math.fallingProduct (n : Int) k = Builtin.Math.fallingProduct (n : Int) k * ((n : Int) - (k : Int)) + Builtin.Math.fallingProduct (n : Int) k * ((k : Int) + 1) := by
      rw [← Int.mul_add, Int.mul_comm]
      congr 1
      omega
    rw [e, h2, h1]
    show _ = ((binom n k + binom n (k + 1) : Nat) : Int) * ((fct k * (k + 1) : Nat) : Int)
    show (binom n (k + 1) : Int) * ((fct k * (k + 1) : Nat) : Int) + _ = _
    rw [Int.natCast_add, Int.add_mul, Int.natCast_mul, Int.add_comm, Int.mul_assoc]
    rfl
theorem fct_pos : ∀ n, 0 < fct n
  | 0 => Nat.one_pos
  | n + 1 => Nat.mul_pos (fct_pos n) (Nat.succ_pos n)
theorem binom_above : ∀ {n k : Nat}, n < k → binom n k = 0
  | 0, k + 1, _ => rfl
  | n + 1, k + 1, h => by
    show binom n k + binom n (k + 1) = 0
    rw [binom_above (show n < k by omega), binom_above (show n < k + 1 by omega)]
  | _, 0, h => absurd h (Nat.not_lt_zero _)
theorem binom_self : ∀ n, binom n n = 1
  | 0 => rfl
  | n + 1 => by
    show binom n n + binom n (n + 1) = 1
    rw [binom_self n, binom_above (Nat.lt_succ_self n)]
theorem binom_zero (n : Nat) : binom n 0 = 1 := by cases n <;> rfl
theorem binom_sym : ∀ n k j : Nat, n = k + j → binom n k = binom n j
  | n, 0, j, h => by rw [show j = n by omega, binom_self, binom_zero]
  | n, k + 1, 0, h => by rw [show k + 1 = n by omega, binom_self, binom_zero]
  | 0, k + 1, j + 1, h => by omega
  | n + 1, k + 1, j + 1, h => by
    show binom n k + binom n (k + 1) = binom n j + binom n (j + 1)
    rw [binom_sym n k (j + 1) (by omega), binom_sym n (k + 1) j (by omega), Nat.add_comm]
theorem binom_pos : ∀ {n k : Nat}, k ≤ n → 0 < binom n k
  | n, 0, _ => by rw [binom_zero]; exact Nat.one_pos
  | n + 1, k + 1, h => Nat.add_pos_left (binom_pos (show k ≤ n by omega)) _
  | 0, k + 1, h => by omega
theorem binom_le : ∀ n k : Nat, binom n k ≤ 2 ^ n
  | n, 0 => by rw [binom_zero]; exact Nat.one_le_two_pow
  | 0, k + 1 => Nat.zero_le _
  | n + 1, k + 1 => by
    show binom n k + binom n (k + 1) ≤ 2 ^ (n + 1)
    have := binom_le n k
    have := binom_le n (k + 1)
    rw [Nat.pow_succ]
    omega
theorem icomb_nat (a b : Nat) : icomb (a : Int) (b : Int) = (binom a b : Int) := by
  unfold icomb
  by_cases h : b ≤ a
  · have hm : min (b : Int) ((a : Int) - (b : Int)) = ((min b (a - b) : Nat) : Int) := by omega
    rw [PySem.W.mcComb_at (by omega) (by omega) hm, Int.toNat_natCast, ff_self, ff_binom, Int.mul_ediv_cancel _ (by have := fct_pos (min b (a - b)); omega)]
    by_cases hb : b ≤ a - b
    · rw [Nat.min_eq_left hb]
    · rw [Nat.min_eq_right (by omega), binom_sym a b (a - b) (by omega)]
  · rw [PySem.W.mcComb_above (by omega), binom_above (by omega)]
    rfl
/-! # the greatest common divisor -/
noncomputable def gcdF (s0 : (Int × Int)) (k0 : Int) : M (Lp (Int × Int) Int) := (if (decide (s0.2 = (0 : Int))) = true then .ok (.bk (s0.1, s0.2)) else grd (0 < s0.2) <| lt (s0.2, (s0.1 % s0.2)) fun y0 => .ok (.nx ((y0).1, (y0).2)))
theorem gcdF_zero {a : Int} {k : Int} : gcdF (a, 0) k = .ok (.bk (a, 0)) := rfl
theorem gcdF_step {a b : Nat} {k : Int} (h : 0 < b) : gcdF ((a : Int), (b : Int)) k = .ok (.nx ((b : Int), ((a % b : Nat) : Int))) := by
  unfold gcdF
  rw [if_neg (by simp; omega), grd_pos (show (0 : Int) < ((a : Int), (b : Int)).2 from by show (0 : Int) < (b : Int); omega), lt_eq]
  rfl
theorem gcd_loop : ∀ (n : Nat) (a b : Nat) (ks : List Int), b < 2 ^ n → 2 * n + 1 ≤ ks.length → M.loop gcdF ks ((a : Int), (b : Int)) = .ok (.go (((Nat.gcd a b : Nat) : Int), (0 : Int)))
  | n, a, b, [], h, hl => by simp at hl
  | n, a, 0, k :: ks, h, hl => by
    rw [loop_cons, show (((a : Int), ((0 : Nat) : Int)) : Int × Int) = ((a : Int), 0) from rfl, gcdF_zero, Nat.gcd_zero_right]
    rfl
  | 0, a, b + 1, k :: ks, h, hl => by simp at h
  | n + 1, a, b + 1, [k], h, hl => by simp at hl
  | n + 1, a, b + 1, k :: k2 :: ks, h, hl => by
    rw [loop_cons, gcdF_step (by omega)]
    show M.loop gcdF (k2 :: ks) (((b + 1 : Nat) : Int), ((a % (b + 1) : Nat) : Int)) = _
    have e : Nat.gcd a (b + 1) = Nat.gcd (b + 1) (a % (b + 1)) := by rw [Nat.gcd_comm, Nat.gcd_rec, Nat.gcd_comm]
    by_cases hr : a % (b + 1) = 0
    · rw [e, hr, loop_cons, show ((((b + 1 : Nat) : Int), ((0 : Nat) : Int)) : Int × Int) = (((b + 1 : Nat) : Int), 0) from rfl, gcdF_zero, Nat.gcd_zero_right]
      rfl
    · rw [loop_cons, gcdF_step (by omega)]
      show M.loop gcdF ks (((a % (b + 1) : Nat) : Int), (((b + 1) % (a % (b + 1)) : Nat) : Int)) = _
      have e2 : Nat.gcd (b + 1) (a % (b + 1)) = Nat.gcd (a % (b + 1)) ((b + 1) % (a % (b + 1))) := by rw [Nat.gcd_comm, Nat.gcd_rec, Nat.gcd_comm]
      rw [e, e2]
      have hlt : a % (b + 1) < b + 1 := Nat.mod_lt _ (by omega)
      have hlt2 : (b + 1) % (a % (b + 1)) < a % (b + 1) := Nat.mod_lt _ (by omega)
      have hle : 2 * ((b + 1) % (a % (b + 1))) ≤ b + 1 := by
        have hd := Nat.div_add_mod (b + 1) (a % (b + 1))
        have hq : 1 ≤ (b + 1) / (a % (b + 1)) := Nat.div_pos (by omega) (by omega)
        have := Nat.mul_le_mul_left (a % (b + 1)) hq
        omega
      refine gcd_loop n _ _ ks ?_ (by simp at hl; omega)
      rw [Nat.pow_succ] at h
      omega
noncomputable def mgcd (a_ : Int) (b_ : Int) : M Int := (M.loop gcdF (rng 0 (2000 : Int)) (a_, b_)).bind (Fl.cont fun s1 : (Int × Int) => .ok (s1.1))
theorem mgcd_ok {a b : Nat} (h : b < 2 ^ 900) : mgcd (a : Int) (b : Int) = .ok ((Nat.gcd a b : Nat) : Int) := by
  unfold mgcd
  rw [gcd_loop 900 a b _ h (by rw [show (2000 : Int) = ((2000 : Nat) : Int) from rfl, rng_nat]; simp)]
  rfl
/-! # fractions -/
def frac (p q : Nat) : Int × Int := (((p / Nat.gcd p q : Nat) : Int), ((q / Nat.gcd p q : Nat) : Int))
theorem igcd_nat {p q : Nat} : igcd (p : Int) (q : Int) = ((Nat.gcd p q : Nat) : Int) := rfl
theorem log_nat {a k : Nat} (h : a < 2 ^ k) (hk : 0 < k) : ((a : Nat) : Int).natAbs.log2 < k := log2_lt (by simpa using h) hk
theorem frac_cross {p q : Nat} : (p / Nat.gcd p q) * q = p * (q / Nat.gcd p q) := by
  have h1 := Nat.div_mul_cancel (Nat.gcd_dvd_left p q)
  have h2 := Nat.div_mul_cancel (Nat.gcd_dvd_right p q)
  calc (p / Nat.gcd p q) * q = (p / Nat.gcd p q) * (q / Nat.gcd p q * Nat.gcd p q) := by rw [h2]
    _ = (p / Nat.gcd p q * Nat.gcd p q) * (q / Nat.gcd p q) := by
      rw [Nat.mul_comm (q / Nat.gcd p q), Nat.mul_assoc]
    _ = p * (q / Nat.gcd p q) := by rw [h1]
theorem frac_pos {p q : Nat} (h : 0 < q) : 0 < q / Nat.gcd p q := Nat.div_pos (Nat.le_of_dvd h (Nat.gcd_dvd_right p q)) (Nat.gcd_pos_of_pos_right _ h)
theorem frac_one {p q : Nat} (h : 0 < q) : Nat.gcd (p / Nat.gcd p q) (q / Nat.gcd p q) = 1 := Nat.gcd_div_gcd_div_gcd_of_pos_right h
/-- the smaller of two fractions, told by the undivided ones -/
theorem frac_le {a b c d : Nat} (hb : 0 < b) (hd : 0 < d) : (a / Nat.gcd a b) * (d / Nat.gcd c d) ≤ (c / Nat.gcd c d) * (b / Nat.gcd a b) ↔ a * d ≤ c * b := by
  have h1 := Nat.div_mul_cancel (Nat.gcd_dvd_left a b)
  have h2 := Nat.div_mul_cancel (Nat.gcd_dvd_right a b)
  have h3 := Nat.div_mul_cancel (Nat.gcd_dvd_left c d)
  have h4 := Nat.div_mul_cancel (Nat.gcd_dvd_right c d)
  have g1 : 0 < Nat.gcd a b := Nat.gcd_pos_of_pos_right _ hb
  have g2 : 0 < Nat.gcd c d := Nat.gcd_pos_of_pos_right _ hd
  generalize a / Nat.gcd a b = a' at *
  generalize b / Nat.gcd a b = b' at *
  generalize c / Nat.gcd c d = c' at *
  generalize d / Nat.gcd c d = d' at *
  generalize Nat.gcd a b = g at *
  generalize Nat.gcd c d = k at *
  have e1 : a * d = (a' * d') * (g * k) := by rw [← h1, ← h4]; simp only [Nat.mul_comm, Nat.mul_left_comm]
  have e2 : c * b = (c' * b') * (g * k) := by rw [← h2, ← h3]; simp only [Nat.mul_comm, Nat.mul_left_comm]
  rw [e1, e2]
  exact (Nat.mul_le_mul_right_iff (Nat.mul_pos g1 g2)).symm
end T

set_option maxRecDepth 100000
set_option maxHeartbeats 1000000
namespace T
open PySem PySem.Spec PyProof.Rows L2 Pv
open Enc (enc)
variable {α β : Type} {m n : Nat}
/-- two dicts with tuple keys can be told equal or not -/
def EqDic [Enc α] [Enc β] (a : α) (b : β) : Prop := ∃ r : Bool, ∀ c : Bool, eqDR c [(0, enc a), (0, enc b)] = sc (.bl (c ^^ r))
noncomputable def eqDic [Enc α] [Enc β] (a : α) (b : β) : Bool := @ite _ (∃ r : Bool, r = true ∧ ∀ c : Bool, eqDR c [(0, enc a), (0, enc b)] = sc (.bl (c ^^ r))) (Classical.propDecidable _) true false
theorem eqDR_lv {x y : PV} {c : Bool} : eqDR c [(m, x), (n, y)] = eqDR c [(0, x), (0, y)] := by
  unfold eqDR
  cases x <;> cases y <;> rfl
theorem eqDic_of [Enc α] [Enc β] {a : α} {b : β} {r : Bool} (e : ∀ c : Bool, eqDR c [(0, enc a), (0, enc b)] = sc (.bl (c ^^ r))) : EqDic a b ∧ eqDic a b = r := by
  refine ⟨⟨r, e⟩, ?_⟩
  unfold eqDic
  by_cases h : ∃ r : Bool, r = true ∧ ∀ c : Bool, eqDR c [(0, enc a), (0, enc b)] = sc (.bl (c ^^ r))
  · rw [if_pos h]
    obtain ⟨q, rfl, e2⟩ := h
    have := (e false).symm.trans (e2 false)
    rw [Bool.false_xor, Bool.false_xor] at this
    unfold sc at this
    injection this with this
    injection this with _ _ h
    injection h with h
    exact h.symm
  · rw [if_neg h]
    cases r with
    | false => rfl
    | true => exact absurd ⟨true, rfl, e⟩ h
theorem o_eqdic [Enc α] [Enc β] {a : α} {b : β} (h : Al [EqDic a b]) : eqDR false [(m, enc a), (n, enc b)] = some ⟨true, 0, enc (eqDic a b)⟩ := by
  obtain ⟨r, e⟩ := h.1
  rw [eqDR_lv, e false, (eqDic_of e).2, Bool.false_xor]
  rfl
theorem o_nedic [Enc α] [Enc β] {a : α} {b : β} (h : Al [EqDic a b]) : eqDR true [(m, enc a), (n, enc b)] = some ⟨true, 0, enc (!eqDic a b)⟩ := by
  obtain ⟨r, e⟩ := h.1
  rw [eqDR_lv, e true, (eqDic_of e).2, Bool.true_xor]
  rfl
end T

set_option maxRecDepth 100000
set_option maxHeartbeats 1000000
namespace T
open PySem PySem.Spec PyProof.Rows L2 Pv
open Enc (enc)
instance : Inhabited PV := ⟨.non⟩
variable {α β : Type} {Γ : List SP} {f : EF} {t : TFn} {i : Nat}
/-! # a comprehension over the list of an owned slot -/
theorem eg_lcB [Enc α] [Enc β] {own : List Nat} {bf : BF} {b : α → Bool} {g : α → β} {ct cf : α → List Prop} {xs : List α} (hs : Γ[i]? = some (sv 1 (enc xs))) (hf : Fr (Γ.set i (ex none)) own) (hb : ∀ a, LcB (wipeP (Γ.set i (ex none)) own) own bf t f (enc a) (ct a) (b a) (cf a) (enc (g a))) :
    EG Γ (eLcB own i bf t f) 1 true false [∀ a ∈ xs, Al (ct a) ∧ (b a = true → Al (cf a)), xs.length ≤ 16777216] (enc ((xs.filter b).map g)) Γ := fun hc ρ z => by
  obtain ⟨h2, h3, _⟩ := hc
  obtain ⟨q, e1, e0⟩ := z.get hs
  have e0 : q = some (1, enc xs) := e0
  subst e0
  have z1 : Mt (Γ.set i (ex none)) (ρ.set i none) := z.set i rfl
  obtain ⟨ρ3, pu2, e2, z3⟩ := lc_loop hb xs h2 _ (z1.wipe (own := own))
  have hl : ((xs.filter b).map (fun a => (enc (g a) : PV))).length ≤ sizeLine := by
    rw [sz_eq, List.length_map]
    exact Nat.le_trans (List.length_filter_le _ _) h3
  have hi : i < Γ.length := (List.getElem?_eq_some_iff.mp hs).1
  have z4 : Mt Γ ((backE (ρ.set i none) ρ3 own).set i (some (1, .lst (xs.map enc)))) := by
    have := (z1.back z3 rfl fun _ _ => rfl).set i (p := sv 1 (enc xs)) (x := some (1, .lst (xs.map enc))) rfl
    rw [List.set_set] at this
    have e : Γ.set i (sv 1 (enc xs)) = Γ := List.ext_getElem? fun j => by
      by_cases hj : i = j
      · subst hj
        rw [List.getElem?_set_self hi, hs]
      · rw [List.getElem?_set_ne hj]
    rw [e] at this
    exact this
  refine ⟨pu2, true, _, ?_, fun _ => rfl, (fun q => nomatch q), z4⟩
  have e1 : ρ[i]? = some (some (1, .lst (xs.map enc))) := e1
  unfold eLcB
  simp only [e1, hf.all z1, if_true, e2]
  rw [if_pos hl]
  congr 2
  show PV.lst _ = PV.lst (((xs.filter b).map g).map enc)
  rw [List.map_map]
  rfl
theorem eg_lcBm [Enc α] [Enc β] {own : List Nat} {bf : BF} {g : α → β} {cf : α → List Prop} {xs : List α} (hs : Γ[i]? = some (sv 1 (enc xs))) (hf : Fr (Γ.set i (ex none)) own) (hb : ∀ a, LcB (wipeP (Γ.set i (ex none)) own) own bf t f (enc a) [] true (cf a) (enc (g a))) :
    EG Γ (eLcB own i bf t f) 1 true false [∀ a ∈ xs, Al (cf a), xs.length ≤ 16777216] (enc (xs.map g)) Γ := fun hc => by
  obtain ⟨h2, h3, _⟩ := hc
  have e0 : xs.filter (fun _ : α => true) = xs := List.filter_eq_self.mpr fun _ _ => rfl
  have := eg_lcB (b := fun _ => true) (ct := fun _ => []) hs hf hb
  rw [e0] at this
  exact this ⟨fun a ha => ⟨trivial, fun _ => h2 a ha⟩, h3, trivial⟩
end T

set_option maxRecDepth 100000
set_option maxHeartbeats 1000000
namespace T
open PySem PySem.Spec PyProof.Rows L2 Pv
open Enc (enc)
variable {α β γ κ ν o s : Type}
/-! # how a step ends well -/
theorem noexc_ex {m : M α} {k : α → M β} {P : α → Prop} {R : β → Prop} (h : ∃ y, m = .ok y ∧ P y) (h2 : ∀ y, P y → ∃ l, k y = .ok l ∧ R l) : ∃ l, m.noexc.bind k = .ok l ∧ R l := by
  obtain ⟨y, e, p⟩ := h
  rw [e]
  exact h2 y p
theorem lt_ex {a : α} {k : α → M β} {R : β → Prop} (h : ∃ l, k a = .ok l ∧ R l) : ∃ l, lt a k = .ok l ∧ R l := by
  rw [lt_eq]; exact h
theorem fold_ex {f : s → α → M s} (I : s → Prop) {xs : List α} {x : s} {k : s → M β} {R : β → Prop} (h : I x) (hs : ∀ a x, a ∈ xs → I x → ∃ y, f x a = .ok y ∧ I y) (hk : ∀ y, I y → ∃ l, k y = .ok l ∧ R l) : ∃ l, (M.fold f xs x).bind k = .ok l ∧ R l :=
  bind_ex (fold_inv0 I h hs) hk
theorem fold_exI {f : s → α → M s} (I : Nat → s → Prop) {xs : List α} {x : s} {k : s → M β} {R : β → Prop} (h : I 0 x) (hs : ∀ j a x, xs[j]? = some a → I j x → ∃ y, f x a = .ok y ∧ I (j + 1) y) (hk : ∀ y, I xs.length y → ∃ l, k y = .ok l ∧ R l) : ∃ l, (M.fold f xs x).bind k = .ok l ∧ R l := by
  refine bind_ex (P := I xs.length) ?_ hk
  obtain ⟨y, e, h2⟩ := fold_inv (f := f) I (xs := xs) (x := x) (i := 0) h fun j a x e hx => by
    rw [Nat.zero_add] at hx ⊢
    exact hs j a x e hx
  exact ⟨y, e, by rw [Nat.zero_add] at h2; exact h2⟩
theorem loop_inv0 {f : s → α → M (Lp s o)} (I : s → Prop) : ∀ {xs : List α} {x : s}, I x → (∀ a x, a ∈ xs → I x → ∃ y, f x a = .ok (.nx y) ∧ I y) → ∃ y, M.loop f xs x = .ok (.go y) ∧ I y
  | [], x, h, _ => ⟨x, rfl, h⟩
  | a :: xs, x, h, k => by
    obtain ⟨y, e, h1⟩ := k a x List.mem_cons_self h
    obtain ⟨z, e2, h2⟩ := loop_inv0 I (xs := xs) (x := y) h1 fun b x hb hx => k b x (List.mem_cons_of_mem _ hb) hx
    exact ⟨z, by rw [loop_cons, e]; exact e2, h2⟩
/-- a loop that only checks -/
theorem loop_ex {f : s → α → M (Lp s o)} (I : s → Prop) {xs : List α} {x : s} {k : Fl o s → M β} {R : β → Prop} (h : I x) (hs : ∀ a x, a ∈ xs → I x → ∃ y, f x a = .ok (.nx y) ∧ I y) (hk : ∀ y, I y → ∃ l, k (.go y) = .ok l ∧ R l) : ∃ l, (M.loop f xs x).bind k = .ok l ∧ R l := by
  obtain ⟨y, e, hy⟩ := loop_inv0 (f := f) I h hs
  rw [e]
  exact hk y hy
theorem eq_ex {m : M α} {a : α} {R : α → Prop} (h : m = .ok a) (k : R a) : ∃ l, m = .ok l ∧ R l := ⟨a, h, k⟩
theorem rng_ix {n j : Nat} {a : Int} (h : (rng 0 (n : Int))[j]? = some a) : a = (j : Int) ∧ j < n := by
  rw [rng_nat, List.getElem?_map] at h
  obtain ⟨k, e1, e2⟩ := Option.map_eq_some_iff.mp h
  obtain ⟨hj, e3⟩ := List.getElem?_eq_some_iff.mp e1
  rw [List.getElem_range] at e3
  rw [List.length_range] at hj
  exact ⟨by rw [← e2, e3], hj⟩
theorem rng_mem {n : Nat} {a : Int} (h : a ∈ rng 0 (n : Int)) : ∃ j : Nat, a = (j : Int) ∧ j < n := by
  obtain ⟨j, hj⟩ := List.getElem?_of_mem h
  exact ⟨j, rng_ix hj⟩
theorem rng_mem' {m a : Int} (h : a ∈ rng 0 m) : 0 ≤ a ∧ a < m := by
  unfold rng at h
  obtain ⟨k, hk, e⟩ := List.mem_map.mp h
  rw [List.mem_range] at hk
  omega
theorem rng_len {n : Nat} : (rng 0 (n : Int)).length = n := by rw [rng_nat]; simp
theorem geti_mem [Inhabited α] {xs : List α} {k : Int} (h : ixOk xs k) : geti xs k ∈ xs := by
  have := atI_ok h
  unfold atI at this
  obtain ⟨j, _, hj⟩ := Option.bind_eq_some_iff.mp this
  exact List.mem_of_getElem? hj
/-! # numbers of a script -/
noncomputable def mnext (numbers_ : (List Int)) (many_ : Int) : M (Int × (List Int)) := (if (decide (((numbers_).length : Int) = (0 : Int))) = true then .ok (((0 : Int), numbers_)) else grd (numbers_ ≠ []) <| lt (numbers_.headD default) fun v0 => lt numbers_.tail fun u0 => grd (0 < many_) <| .ok (((v0 % many_), u0)))
theorem next_ok (l : List Int) {m : Int} (h : 0 < m) : ∃ r, mnext l m = .ok r ∧ (0 ≤ r.1 ∧ r.1 < m) := by
  unfold mnext
  refine ite_ex (fun _ => ok_ex ⟨Int.le_refl _, h⟩) fun hl => grd_ex (fun e => hl (by rw [e]; rfl)) (lt_ex (lt_ex (grd_ex h (ok_ex ⟨?_, ?_⟩))))
  · exact Int.emod_nonneg _ (by omega)
  · exact Int.emod_lt_of_pos _ h
noncomputable def mdigits (cell_ : Int) (many_ : Int) : M (List Int) := lt (iabs cell_) fun left0 => lt ([] : (List Int)) fun found0 => grd (Sm many_) <| (M.fold (fun (s0 : (Int × (List Int))) (k0 : Int) => grd ((s0.2).length < 16777216) <| lt (s0.2 ++ [(s0.1 % (720720 : Int))]) fun found1 => lt (s0.1 / (720720 : Int)) fun left1 => .ok (left1, found1)) (rng 0 many_) (left0, found0)).bind fun s1 : (Int × (List Int)) => .ok (s1.2)
theorem digits_ok {cell : Int} {n : Nat} (h : n ≤ 1000000) : ∃ l, mdigits cell (n : Int) = .ok l ∧ l.length = n := by
  unfold mdigits
  refine lt_ex (lt_ex (grd_ex (sm_of (by omega) (by omega)) ?_))
  refine fold_exI (fun i (x : Int × List Int) => x.2.length = i) rfl (fun j a x hj hx => ?_) fun y hy => ok_ex (by rw [hy, rng_len])
  have := (rng_ix hj).2
  refine grd_ex (by omega) (lt_ex (lt_ex (ok_ex ?_)))
  show (x.2 ++ _).length = _
  rw [List.length_append, hx]
  rfl
noncomputable def mmixed (cell_ : Int) (many_ : Int) : M (List Int) := lt ([(cell_ % (720720 : Int))] : (List Int)) fun found0 => lt (cell_ % (2147483647 : Int)) fun x0 => grd (Sm many_) <| (M.fold (fun (s0 : ((List Int) × Int)) (k0 : Int) => grd ((s0.2).natAbs.log2 + ((48271 : Int)).natAbs.log2 < 1000000) <| lt (((s0.2 * (48271 : Int)) + (11 : Int)) % (2147483647 : Int)) fun x1 => grd ((x1).natAbs.log2 + (x1).natAbs.log2 < 1000000) <| grd ((k0).natAbs.log2 + ((69621 : Int)).natAbs.log2 < 1000000) <| grd ((s0.1).length < 16777216) <| lt (s0.1 ++ [((((x1 * x1) + (k0 * (69621 : Int))) % (998244353 : Int)) % (720720 : Int))]) fun found1 => .ok (found1, x1)) (rng 0 many_) (found0, x0)).bind fun s1 : ((List Int) × Int) => .ok (s1.1)
theorem log_lt {a b : Int} {k j : Nat} (h : a.natAbs < 2 ^ k) (h' : b.natAbs < 2 ^ j) (hk : 0 < k) (hj : 0 < j) (hs : k + j < 1000000) : a.natAbs.log2 + b.natAbs.log2 < 1000000 := by
  have := log2_lt h hk
  have := log2_lt h' hj
  omega
theorem mixed_ok {cell : Int} {n : Nat} (h : n ≤ 1000000) : ∃ l, mmixed cell (n : Int) = .ok l ∧ l.length = n + 1 := by
  unfold mmixed
  refine lt_ex (lt_ex (grd_ex (sm_of (by omega) (by omega)) ?_))
  refine fold_exI (fun i (x : List Int × Int) => x.1.length = i + 1 ∧ 0 ≤ x.2 ∧ x.2 < 2147483647) ⟨rfl, Int.emod_nonneg _ (by decide), Int.emod_lt_of_pos _ (by decide)⟩ (fun j a x hj hx => ?_) fun y hy => ok_ex (by rw [hy.1, rng_len])
  obtain ⟨rfl, hj⟩ := rng_ix hj
  obtain ⟨h1, h2, h3⟩ := hx
  refine grd_ex (log_lt (k := 31) (j := 16) (by omega) (by decide) (by decide) (by decide) (by decide)) (lt_ex ?_)
  have q1 : 0 ≤ (x.2 * (48271 : Int) + 11) % 2147483647 := Int.emod_nonneg _ (by decide)
  have q2 : (x.2 * (48271 : Int) + 11) % 2147483647 < 2147483647 := Int.emod_lt_of_pos _ (by decide)
  generalize (x.2 * (48271 : Int) + 11) % 2147483647 = y at q1 q2 ⊢
  refine grd_ex (log_lt (k := 31) (j := 31) (by omega) (by omega) (by decide) (by decide) (by decide)) (grd_ex (log_lt (k := 31) (j := 17) (by omega) (by decide) (by decide) (by decide) (by decide)) (grd_ex (by omega) (lt_ex (ok_ex ⟨?_, q1, q2⟩))))
  show (x.1 ++ _).length = _
  rw [List.length_append, h1]
  rfl
noncomputable def mnumbers (script_ : (CLst Int)) (count_ : Int) : M (List Int) := grd (((cutL (script_).l none (some (63 : Int)))).length ≤ 16777216) <| lt (((cutL (script_).l none (some (63 : Int)))).map (fun a0 : Int => a0)) fun cells0 => (if (decide (((cells0).length : Int) = (0 : Int))) = true then lt ([(0 : Int)] : (List Int)) fun cells1 => .ok cells1 else .ok cells0).bind fun s0 : (List Int) => grd (0 < ((s0).length : Int) ∧ (((s0).length : Int)).natAbs.log2 < 9000) <| lt ((count_ / ((s0).length : Int)) + (1 : Int)) fun each0 => lt ([] : (List (List Int))) fun rows0 => (M.fold (fun (s1 : (List (List Int))) (cell0 : Int) => (if (decide (((10 : Int) ^ ((18 : Int)).toNat) ≤ (iabs cell0))) = true then (mdigits cell0 each0).bind fun r0 => grd ((s1).length < 16777216) <| lt (s1 ++ [r0]) fun rows1 => .ok rows1 else (mmixed ((iabs cell0)) each0).bind fun r1 => grd ((s1).length < 16777216) <| lt (s1 ++ [r1]) fun rows2 => .ok rows2)) s0 rows0).bind fun s2 : (List (List Int)) => grd (Sm count_) <| grd (∀ a1 ∈ (rng 0 count_), Al [0 < ((s0).length : Int), ixOk s2 (a1 % ((s0).length : Int)), 0 < ((s0).length : Int) ∧ (((s0).length : Int)).natAbs.log2 < 9000, ixOk (geti s2 (a1 % ((s0).length : Int))) (a1 / ((s0).length : Int))]) <| grd (((rng 0 count_)).length ≤ 16777216) <| .ok ((((rng 0 count_)).map (fun a1 : Int => (geti (geti s2 (a1 % ((s0).length : Int))) (a1 / ((s0).length : Int))))))
theorem cutL_len {l : List α} : (cutL l none (some (63 : Int))).length ≤ 63 := by
  unfold cutL
  rw [List.length_take, List.length_drop]
  have h1 : HT.sIx l.length 0 none = 0 := rfl
  have h2 : HT.sIx l.length l.length (some (63 : Int)) ≤ 63 := by
    show min _ _ ≤ 63
    first | omega | (simp; omega)
  omega
theorem numbers_ok (script : CLst Int) {n : Nat} (hn : n ≤ 100000) : ∃ l, mnumbers script (n : Int) = .ok l ∧ l.length = n := by
  unfold mnumbers
  have hc := cutL_len (l := script.l)
  refine grd_ex (by omega) (lt_ex ?_)
  refine bind_ex (P := fun l : List Int => 1 ≤ l.length ∧ l.length ≤ 63) (ite_ex (fun _ => lt_ex (ok_ex ⟨by decide, by decide⟩)) fun h => ok_ex ?_) fun c ⟨c1, c2⟩ => ?_
  · rw [List.length_map] at h ⊢
    refine ⟨?_, hc⟩
    have h : ¬ ((cutL script.l none (some (63 : Int))).length : Int) = 0 := by simpa using h
    omega
  have cl : 0 < ((c.length : Nat) : Int) ∧ ((c.length : Nat) : Int).natAbs.log2 < 9000 := ⟨by omega, by
    have := log2_lt (a := (c.length : Int)) (k := 6) (by omega) (by decide)
    omega⟩
  refine grd_ex cl (lt_ex (lt_ex ?_))
  have e0 : (n : Int) / (c.length : Int) + 1 = ((n / c.length + 1 : Nat) : Int) := by simp
  have hd : n / c.length ≤ n := Nat.div_le_self _ _
  rw [e0]
  refine fold_exI (fun i (x : List (List Int)) => x.length = i ∧ ∀ r ∈ x, n / c.length + 1 ≤ r.length) ⟨rfl, by intro r h; cases h⟩ (fun j a x hj hx => ?_) fun y hy => ?_
  · have hj := (List.getElem?_eq_some_iff.mp hj).1
    refine ite_ex (fun _ => bind_ex (digits_ok (by omega)) fun r hr => grd_ex (by omega) (lt_ex (ok_ex ⟨?_, ?_⟩))) fun _ => bind_ex (mixed_ok (by omega)) fun r hr => grd_ex (by omega) (lt_ex (ok_ex ⟨?_, ?_⟩))
    all_goals first
      | (rw [List.length_append, hx.1]; rfl)
      | (intro q hq
         rcases List.mem_append.mp hq with hq | hq
         · exact hx.2 q hq
         · rw [List.mem_singleton.mp hq, hr]; omega)
  · obtain ⟨hl, hr⟩ := hy
    refine grd_ex (sm_of (by omega) (by omega)) (grd_ex (fun a ha => ?_) (grd_ex (by rw [rng_len]; omega) (ok_ex (by rw [List.length_map, rng_len]))))
    obtain ⟨j, rfl, hj⟩ := rng_mem ha
    have e1 : (j : Int) % (c.length : Int) = ((j % c.length : Nat) : Int) := by simp
    have e2 : (j : Int) / (c.length : Int) = ((j / c.length : Nat) : Int) := by simp
    have i1 : j % c.length < y.length := by rw [hl]; exact Nat.mod_lt _ c1
    rw [e1, e2]
    refine ⟨cl.1, ixOk_nat i1, cl, ?_, trivial⟩
    rw [geti_nat i1]
    have := hr _ (List.getElem_mem i1)
    exact ixOk_nat (Nat.lt_of_lt_of_le (Nat.lt_succ_of_le (Nat.div_le_div_right (Nat.le_of_lt hj))) this)
/-- short texts of signs -/
def SOk (n : Nat) (x : Str) : Prop := PyData.strOk x = true ∧ x.length ≤ n
theorem SOk.le {m n : Nat} {x : Str} (h : SOk m x) (k : m ≤ n) : SOk n x := ⟨h.1, Nat.le_trans h.2 k⟩
theorem SOk.add {m n : Nat} {x y : Str} (h : SOk m x) (k : SOk n y) : SOk (m + n) (x ++ y) := by
  refine ⟨?_, ?_⟩
  · have h1 := h.1
    have h2 := k.1
    unfold PyData.strOk at *
    show (x.cps ++ y.cps).all _ = true
    rw [Array.all_append, h1, h2]
    rfl
  · show (x.cps ++ y.cps).size ≤ _
    rw [Array.size_append]
    exact Nat.add_le_add h.2 k.2
theorem SOk.chr {a : Str} {k : Int} (h : PyData.strOk a = true) (hk : ixOk a.cps.toList k) : SOk 1 (chrAt a k) := by
  refine ⟨?_, Nat.le_refl _⟩
  unfold PyData.strOk at *
  have e := atI_ok hk
  have m := geti_mem hk
  have ec : chrAt a k = ⟨#[geti a.cps.toList k]⟩ := by
    unfold chrAt
    rw [e]
    rfl
  rw [ec]
  have := Array.all_eq_true_iff_forall_mem.mp h _ (Array.mem_toList_iff.mp m)
  show Array.all #[_] _ = true
  simpa using this
theorem istr100 : ∀ n : Fin 100, PyData.strOk (istr ((n.val : Nat) : Int)) = true ∧ (istr ((n.val : Nat) : Int)).length ≤ 2 := by decide +kernel
theorem SOk.istr {k : Int} (h0 : 0 ≤ k) (h : k < 100) : SOk 2 (istr k) := by
  obtain ⟨j, rfl⟩ := Int.eq_ofNat_of_zero_le h0
  exact istr100 ⟨j, by omega⟩
noncomputable def mnames (numbers_ : (List Int)) (many_ : Int) : M ((List Str) × (List Int)) := lt ("abcdefghijklmnopqrstuvwxyz" : Str) fun letters0 => (mnext numbers_ ((26 : Int))).noexc.bind fun r0 => lt r0.1 fun start0 => lt ([] : (List Str)) fun found0 => grd (Sm many_) <| (M.fold (fun (s0 : ((List Int) × (List Str))) (k0 : Int) => (mnext (s0.1) ((200 : Int))).noexc.bind fun r1 => lt r1.1 fun tail0 => grd (((5 : Int)).natAbs.log2 + (k0).natAbs.log2 < 1000000) <| grd ((letters0).length ≤ 16777216) <| grd (ixOk (letters0).cps.toList ((start0 + ((5 : Int) * k0)) % (26 : Int))) <| lt (chrAt letters0 ((start0 + ((5 : Int) * k0)) % (26 : Int))) fun name0 => (if (decide (tail0 < (100 : Int))) = true then grd ((tail0).natAbs.log2 < 1920) <| grd ((name0).length + ((istr tail0)).length ≤ 16777216) <| lt (name0 ++ (istr tail0)) fun name1 => .ok name1 else .ok name0).bind fun s1 : Str => grd ((s0.2).length < 16777216) <| lt (s0.2 ++ [s1]) fun found1 => .ok (r1.2, found1)) (rng 0 many_) (r0.2, found0)).bind fun s2 : ((List Int) × (List Str)) => .ok ((s2.2, s2.1))
theorem names_ok (l : List Int) {n : Nat} (hn : n ≤ 1000) : ∃ r, mnames l (n : Int) = .ok r ∧ (r.1.length = n ∧ ∀ x ∈ r.1, SOk 3 x) := by
  unfold mnames
  refine lt_ex (noexc_ex (next_ok _ (by decide)) fun r hr => lt_ex (lt_ex (grd_ex (sm_of (by omega) (by omega)) ?_)))
  refine fold_exI (fun i (x : List Int × List Str) => x.2.length = i ∧ ∀ y ∈ x.2, SOk 3 y) ⟨rfl, by intro y h; cases h⟩ (fun j a x hj hx => ?_) fun y hy => ok_ex ⟨by rw [← hy.1.trans rng_len], hy.2⟩
  obtain ⟨rfl, hj⟩ := rng_ix hj
  refine noexc_ex (next_ok _ (by decide)) fun r1 h1 => lt_ex (grd_ex (log_lt (k := 3) (j := 10) (by decide) (by omega) (by decide) (by decide) (by decide)) (grd_ex (by decide +kernel) ?_))
  have hi : ixOk ("abcdefghijklmnopqrstuvwxyz" : Str).cps.toList ((r.1 + ((5 : Int) * (j : Int))) % (26 : Int)) := ixOk_of (Int.emod_nonneg _ (by decide)) (by
    have := Int.emod_lt_of_pos (r.1 + ((5 : Int) * (j : Int))) (show (0 : Int) < 26 by decide)
    have e : (("abcdefghijklmnopqrstuvwxyz" : Str).cps.toList.length : Int) = 26 := by decide +kernel
    rw [e]; exact this)
  refine grd_ex hi (lt_ex ?_)
  have c1 : SOk 1 (chrAt ("abcdefghijklmnopqrstuvwxyz" : Str) ((r.1 + ((5 : Int) * (j : Int))) % (26 : Int))) := .chr (by decide +kernel) hi
  generalize chrAt ("abcdefghijklmnopqrstuvwxyz" : Str) ((r.1 + ((5 : Int) * (j : Int))) % (26 : Int)) = nm at c1 ⊢
  refine bind_ex (P := SOk 3) (ite_ex (fun h => ?_) fun h => ok_ex (c1.le (by decide))) fun y hy => grd_ex (by omega) (lt_ex (ok_ex ⟨?_, ?_⟩))
  · have h := of_decide_eq_true h
    have c2 := SOk.istr h1.1 h
    refine grd_ex ?_ (grd_ex (by have := c1.2; have := c2.2; omega) (lt_ex (ok_ex (c1.add c2))))
    have := log2_lt (a := r1.1) (k := 7) (by omega) (by decide)
    omega
  · show (x.2 ++ _).length = _
    rw [List.length_append, hx.1]; rfl
  · intro z hz
    rcases List.mem_append.mp hz with hz | hz
    · exact hx.2 z hz
    · rw [List.mem_singleton.mp hz]; exact hy
/-! # dicts -/
theorem nodup_ix {l : List α} (h : l.Nodup) {i j : Nat} (hi : i < l.length) (hj : j < l.length) (e : l[i] = l[j]) : i = j := by
  rcases Nat.lt_trichotomy i j with k | k | k
  · exact absurd e (List.pairwise_iff_getElem.mp h i j hi hj k)
  · exact k
  · exact absurd e.symm (List.pairwise_iff_getElem.mp h j i hj hi k)
theorem nodup_of {l : List α} (h : ∀ i j (hi : i < l.length) (hj : j < l.length), l[i] = l[j] → i = j) : l.Nodup := by
  refine List.pairwise_iff_getElem.mpr fun i j hi hj k e => ?_
  have := h i j hi hj e
  omega
section
variable [DecidableEq κ]
def Dic.Nd (d : Dic κ ν) : Prop := (d.l.map (·.1)).Nodup
theorem putL_keys : ∀ (l : List (κ × ν)) (k : κ) (v : ν), (putL l k v).map (·.1) = if k ∈ l.map (·.1) then l.map (·.1) else l.map (·.1) ++ [k]
  | [], k, v => rfl
  | p :: r, k, v => by
    unfold putL
    by_cases h : p.1 = k
    · rw [if_pos h, if_pos (by rw [List.map_cons, h]; exact List.mem_cons_self)]
      rfl
    · have h' : ¬ k = p.1 := fun e => h e.symm
      rw [if_neg h, List.map_cons, putL_keys r k v, List.map_cons]
      by_cases hk : k ∈ r.map (·.1)
      · rw [if_pos hk, if_pos (List.mem_cons_of_mem _ hk)]
      · rw [if_neg hk, if_neg (by rw [List.mem_cons]; exact fun z => z.elim h' hk)]
        rfl
theorem Dic.nd_nil : (⟨[]⟩ : Dic κ ν).Nd := List.nodup_nil
theorem Dic.nd_put {d : Dic κ ν} (h : d.Nd) (k : κ) (v : ν) : (d.put k v).Nd := by
  show ((putL d.l k v).map (·.1)).Nodup
  rw [putL_keys]
  by_cases hk : k ∈ d.l.map (·.1)
  · rw [if_pos hk]; exact h
  · rw [if_neg hk]
    refine List.nodup_append.mpr ⟨h, by simp, ?_⟩
    intro a ha b hb e
    rw [List.mem_singleton] at hb
    exact hk (by rw [← hb, ← e]; exact ha)
theorem Dic.mem_put {d : Dic κ ν} {k : κ} {v : ν} {p : κ × ν} (h : p ∈ (d.put k v).l) : p ∈ d.l ∨ p = (k, v) := by
  have h : p ∈ putL d.l k v := h
  generalize d.l = l at h ⊢
  induction l with
  | nil => exact .inr (List.mem_singleton.mp h)
  | cons q r ih =>
    unfold putL at h
    by_cases hq : q.1 = k
    · rw [if_pos hq] at h
      rcases List.mem_cons.mp h with h | h
      · exact .inr (by rw [h, hq])
      · exact .inl (List.mem_cons_of_mem _ h)
    · rw [if_neg hq] at h
      rcases List.mem_cons.mp h with h | h
      · exact .inl (h ▸ List.mem_cons_self)
      · exact (ih h).imp (List.mem_cons_of_mem _) id
theorem Dic.len_put {d : Dic κ ν} {k : κ} {v : ν} : (d.put k v).l.length ≤ d.l.length + 1 := by
  have : ((putL d.l k v).map (·.1)).length ≤ d.l.length + 1 := by
    rw [putL_keys]
    split <;> simp
  rw [List.length_map] at this
  exact this
theorem Dic.get_put {d : Dic κ ν} {k k' : κ} {v : ν} : (d.put k v).get k' = if k' = k then some v else d.get k' := by
  unfold Dic.get Dic.put
  show Option.map _ ((putL d.l k v).find? _) = _
  generalize d.l = l
  induction l with
  | nil =>
    unfold putL
    by_cases h : k' = k
    · rw [if_pos h, List.find?_cons_of_pos (by simp [h])]; rfl
    · rw [if_neg h, List.find?_cons_of_neg (by simpa using fun e => h e.symm)]
  | cons p r ih =>
    unfold putL
    by_cases hp : p.1 = k
    · rw [if_pos hp]
      by_cases h : k' = k
      · rw [if_pos h, List.find?_cons_of_pos (by simp [hp, h])]; rfl
      · have : ¬ p.1 = k' := fun e => h (by rw [← e, hp])
        rw [if_neg h, List.find?_cons_of_neg (by simpa using this), List.find?_cons_of_neg (by simpa using this)]
    · rw [if_neg hp]
      by_cases h : p.1 = k'
      · rw [List.find?_cons_of_pos (by simpa using h), List.find?_cons_of_pos (by simpa using h), if_neg (by rw [← h]; exact hp)]
      · rw [List.find?_cons_of_neg (by simpa using h), List.find?_cons_of_neg (by simpa using h)]
        exact ih
theorem Dic.mem_of_get {d : Dic κ ν} {k : κ} {v : ν} (h : d.get k = some v) : (k, v) ∈ d.l := by
  obtain ⟨p, e1, e2⟩ := Option.map_eq_some_iff.mp h
  have := List.find?_some e1
  have e : p = (k, v) := by rw [← e2, ← of_decide_eq_true this]
  exact e ▸ List.mem_of_find?_eq_some e1
theorem Dic.get_of_mem {d : Dic κ ν} (nd : d.Nd) {k : κ} {v : ν} (h : (k, v) ∈ d.l) : d.get k = some v := by
  unfold Dic.Nd at nd
  unfold Dic.get
  generalize d.l = l at nd h
  induction l with
  | nil => cases h
  | cons p r ih =>
    rw [List.map_cons, List.nodup_cons] at nd
    by_cases hp : p.1 = k
    · rw [List.find?_cons_of_pos (by simpa using hp)]
      rcases List.mem_cons.mp h with h | h
      · rw [← h]; rfl
      · exact absurd (List.mem_map.mpr ⟨_, h, rfl⟩) (by rw [← hp] at *; exact nd.1)
    · rw [List.find?_cons_of_neg (by simpa using hp)]
      rcases List.mem_cons.mp h with h | h
      · rw [← h] at hp; exact absurd rfl hp
      · exact ih nd.2 h
theorem Dic.get_key {d : Dic κ ν} {k : κ} (h : k ∈ d.keys) : ∃ v, d.get k = some v ∧ (k, v) ∈ d.l := by
  have : d.get k ≠ none := by
    obtain ⟨p, hp, e⟩ := List.mem_map.mp h
    unfold Dic.get
    intro z
    rw [Option.map_eq_none_iff, List.find?_eq_none] at z
    exact z p hp (by simpa using e)
  obtain ⟨v, e⟩ := Option.ne_none_iff_exists'.mp this
  exact ⟨v, e, Dic.mem_of_get e⟩
theorem Dic.key_of_get {d : Dic κ ν} {k : κ} {v : ν} (h : d.get k = some v) : k ∈ d.keys := List.mem_map.mpr ⟨_, Dic.mem_of_get h, rfl⟩
theorem Dic.has_iff {d : Dic κ ν} {k : κ} : d.has k = true ↔ k ∈ d.keys := by
  unfold Dic.has
  rw [Option.isSome_iff_exists]
  exact ⟨fun ⟨v, h⟩ => Dic.key_of_get h, fun h => (Dic.get_key h).imp fun _ z => z.1⟩
theorem Dic.get_none {d : Dic κ ν} {k : κ} (h : k ∉ d.keys) : d.get k = none := by
  cases e : d.get k with
  | none => rfl
  | some v => exact absurd (Dic.key_of_get e) h
theorem putL_new : ∀ {l : List (κ × ν)} {k : κ} {v : ν}, k ∉ l.map (·.1) → putL l k v = l ++ [(k, v)]
  | [], _, _, _ => rfl
  | p :: r, k, v, h => by
    rw [List.map_cons, List.mem_cons, not_or] at h
    unfold putL
    rw [if_neg fun e => h.1 e.symm, putL_new h.2]
    rfl
theorem Dic.of_nd : ∀ {l : List (κ × ν)}, (l.map (·.1)).Nodup → Dic.of l = ⟨l⟩ := by
  have : ∀ {l acc : List (κ × ν)}, ((acc ++ l).map (·.1)).Nodup → l.foldl (fun acc p => putL acc p.1 p.2) acc = acc ++ l := by
    intro l
    induction l with
    | nil => intro acc _; rw [List.append_nil]; rfl
    | cons p r ih =>
      intro acc h
      have hn : p.1 ∉ acc.map (·.1) := by
        rw [List.map_append, List.nodup_append] at h
        intro hm
        exact h.2.2 _ hm _ (by rw [List.map_cons]; exact List.mem_cons_self) rfl
      rw [List.foldl_cons, putL_new hn, ih (by rw [List.append_assoc]; exact h), List.append_assoc]
      rfl
  intro l h
  unfold Dic.of
  rw [this (by simpa using h)]
  rfl
theorem Dic.of_nil : (Dic.of ([] : List (κ × ν))) = ⟨[]⟩ := rfl
theorem Dic.copy [Inhabited ν] {d : Dic κ ν} (nd : d.Nd) (hl : d.l.length < 16777216) : M.fold (fun (s0 : Dic κ ν) (key0 : κ) => grd ((d.get key0).isSome = true) <| grd (s0.l.length < 16777216) <| lt (s0.put key0 ((d.get key0).getD default)) fun found1 => .ok found1) d.keys ⟨[]⟩ = .ok d := by
  obtain ⟨y, e, h⟩ := fold_inv (f := fun (s0 : Dic κ ν) (key0 : κ) => grd ((d.get key0).isSome = true) <| grd (s0.l.length < 16777216) <| lt (s0.put key0 ((d.get key0).getD default)) fun found1 => .ok found1) (fun i (x : Dic κ ν) => x = ⟨d.l.take i⟩) (xs := d.keys) (x := ⟨[]⟩) (i := 0) (by rw [List.take_zero]) fun j a x hj hx => by
    rw [Nat.zero_add] at hx ⊢
    subst hx
    have hj' : j < d.l.length := by
      have := (List.getElem?_eq_some_iff.mp hj).1
      unfold Dic.keys at this
      rw [List.length_map] at this
      exact this
    have ea : a = d.l[j].1 := by
      have := (List.getElem?_eq_some_iff.mp hj).2
      unfold Dic.keys at this
      rw [List.getElem_map] at this
      exact this.symm
    have eg : d.get a = some d.l[j].2 := Dic.get_of_mem nd (by rw [ea]; exact List.getElem_mem hj')
    rw [eg]
    refine grd_ex rfl (grd_ex (by show (d.l.take j).length < _; rw [List.length_take]; omega) (lt_ex (ok_ex ?_)))
    show (⟨putL (d.l.take j) a d.l[j].2⟩ : Dic κ ν) = _
    rw [putL_new, List.take_succ_eq_append_getElem hj', ea]
    intro hm
    rw [ea] at hm
    unfold Dic.Nd at nd
    obtain ⟨q, hq, e⟩ := List.mem_map.mp hm
    obtain ⟨i, hi, e2⟩ := List.mem_iff_getElem.mp hq
    rw [List.length_take] at hi
    rw [List.getElem_take] at e2
    have := nodup_ix nd (i := i) (j := j) (by rw [List.length_map]; omega) (by rw [List.length_map]; exact hj') (by simp only [List.getElem_map, e2, e])
    omega
  rw [e, h]
  have : d.keys.length = d.l.length := List.length_map _
  rw [Nat.zero_add, this, List.take_length]
end
/-! # data of no told type -/
def DP (n : Nat) (x : PV) : Prop := ∃ d, x.toD = some d ∧ d.canLay0 = true ∧ d.depth ≤ n ∧ PyData.eqv d d = true
theorem DP.le {m n : Nat} {x : PV} (h : DP m x) (k : m ≤ n) : DP n x := by
  obtain ⟨d, h1, h2, h3, h4⟩ := h
  exact ⟨d, h1, h2, Nat.le_trans h3 k, h4⟩
theorem DP.of [Enc α] [D : Dat α] {a : α} (h : D.ok a) : DP D.dp (enc a) := ⟨D.d a, D.toD a, D.lay a h, D.dep a, (D.inj a a).mpr rfl⟩
theorem DP.shaped {n : Nat} {d : PyData} (h : d.canLay0 = true) (hd : d.depth ≤ n) (hn : n ≤ 64) : SeqAt.shaped d = true := by
  unfold SeqAt.shaped
  rw [h, Bool.true_and, decide_eq_true_eq]
  exact Nat.le_trans hd hn
theorem DP.eq {m n : Nat} {x y : PV} (h : DP m x) (k : DP n y) (hm : m ≤ 64) (hn : n ≤ 64) (hf : x.flat = none ∨ y.flat = none) : EqP x y := by
  obtain ⟨d, h1, h2, h3, h4⟩ := h
  obtain ⟨e, k1, k2, k3, k4⟩ := k
  refine ⟨PyData.eqv d e, fun c => ?_⟩
  unfold eqR
  have s1 := DP.shaped h2 h3 hm
  have s2 := DP.shaped k2 k3 hn
  rcases hf with hf | hf
  · simp only [hf, h1, k1, s1, s2, and_self, if_true]; rfl
  · cases hx : x.flat with
    | none => simp only [hx, hf, h1, k1, s1, s2, and_self, if_true]; rfl
    | some u => simp only [hx, hf, h1, k1, s1, s2, and_self, if_true]; rfl
theorem scal_self {x : PV} {u : V} (h : x.flat = some u) : scal u u = true := by
  cases x <;> simp [PV.flat] at h <;> subst h <;> rfl
theorem DP.self {n : Nat} {x : PV} (h : DP n x) (hn : n ≤ 64) : EqP x x ∧ eqP x x = true := by
  obtain ⟨d, h1, h2, h3, h4⟩ := h
  refine eqP_of (b := true) fun c => ?_
  unfold eqR
  have s1 := DP.shaped h2 h3 hn
  cases hx : x.flat with
  | none => simp only [hx, h1, s1, and_self, if_true, h4]; rfl
  | some u => simp only [hx, scal_self hx, if_true, decide_true]; rfl
theorem DP.pair {m n : Nat} {x y : PV} (h : DP m x) (k : DP n y) : DP (max m n + 1) (.tup [x, y]) := by
  obtain ⟨d, h1, h2, h3, h4⟩ := h
  obtain ⟨e, k1, k2, k3, k4⟩ := k
  refine ⟨.tuple [d, e], ?_, ?_, ?_, ?_⟩
  · simp [PV.toD, PV.toDs, h1, k1]
  · show (d.canLay0 && (e.canLay0 && true)) = true
    rw [h2, k2]; rfl
  · simp [PyData.depth, PyData.depthAll]; omega
  · simp [PyData.eqv, PyData.eqvAll, h4, k4]
/-- a dict with tuple keys and data as values is equal to itself -/
theorem eqDic_self [Enc κ] [KE0 : KeyE κ] [Enc ν] [DecidableEq κ] {d : Dic κ ν} (hk : KE0.kind = true) (nd : d.Nd) (hv : ∀ p ∈ d.l, DP 64 (enc p.2)) : EqDic d d ∧ eqDic d d = true := by
  refine eqDic_of (r := true) fun c => ?_
  have key : ∀ l : List (κ × ν), (∀ p ∈ l, DP 64 (enc p.2)) → ∃ da : List (List Key × PyData), (encD l).mapM tDt = some da ∧ da.length = l.length ∧ (∀ q ∈ da, PyData.eqv q.2 q.2 = true) ∧ ∀ (j : Nat) (p : κ × ν) (q : List Key × PyData), l[j]? = some p → da[j]? = some q → KE0.key p.1 = .t q.1 := by
    intro l
    induction l with
    | nil => exact fun _ => ⟨[], rfl, rfl, (by intro q h; cases h), (by intro j p q h; simp at h)⟩
    | cons p r ih =>
      intro h
      obtain ⟨da, e1, e2, e3, e4⟩ := ih fun q hq => h q (List.mem_cons_of_mem _ hq)
      obtain ⟨e, k1, k2, k3, k4⟩ := h p List.mem_cons_self
      have kd := KE0.knd p.1
      cases ek : KE0.key p.1 with
      | k x => rw [ek] at kd; rw [hk] at kd; cases kd
      | t ks =>
        refine ⟨(ks, e) :: da, ?_, by simp [e2], ?_, ?_⟩
        · show ((KE0.key p.1, enc p.2) :: encD r).mapM tDt = _
          rw [List.mapM_cons, ek]
          have : tDt (DK.t ks, enc p.2) = some (ks, e) := by
            unfold tDt
            show (enc p.2 : PV).toD.bind _ = _
            rw [k1]
            show (if SeqAt.shaped e = true then _ else _) = _
            rw [if_pos (DP.shaped k2 k3 (Nat.le_refl _))]
          rw [this, e1]
          rfl
        · intro q hq
          rcases List.mem_cons.mp hq with rfl | hq
          · exact k4
          · exact e3 q hq
        · intro j p' q h1 h2
          cases j with
          | zero =>
            cases h1
            cases h2
            exact ek
          | succ j => exact e4 j p' q (by simpa using h1) (by simpa using h2)
  obtain ⟨da, e1, e2, e3, e4⟩ := key d.l hv
  have hn : (da.map (·.1)).Nodup := by
    refine nodup_of fun i j hi hj e => ?_
    rw [List.length_map] at hi hj
    simp only [List.getElem_map] at e
    have k1 := e4 i _ _ (List.getElem?_eq_getElem (by omega)) (List.getElem?_eq_getElem hi)
    have k2 := e4 j _ _ (List.getElem?_eq_getElem (by omega)) (List.getElem?_eq_getElem hj)
    rw [e] at k1
    have k3 := KE0.inj _ _ (k1.trans k2.symm)
    exact nodup_ix nd (i := i) (j := j) (by rw [List.length_map]; omega) (by rw [List.length_map]; omega) (by simp only [List.getElem_map, k3])
  have look : ∀ {l : List (List Key × PyData)} {k : List Key} {e : PyData}, (l.map (·.1)).Nodup → (k, e) ∈ l → lkD k l = some e := by
    intro l
    induction l with
    | nil => intro k e _ h; cases h
    | cons q r ih =>
      intro k e hn h
      obtain ⟨k', e'⟩ := q
      rw [List.map_cons, List.nodup_cons] at hn
      unfold lkD
      rcases List.mem_cons.mp h with h | h
      · injection h with h1 h2
        rw [if_pos h1, h2]
      · rw [if_neg fun z => hn.1 (List.mem_map.mpr ⟨_, h, z⟩)]
        exact ih hn.2 h
  have ein : ∀ l : List (List Key × PyData), (∀ q ∈ l, q ∈ da) → eqIn da l = true := by
    intro l
    induction l with
    | nil => intro _; rfl
    | cons q r ih =>
      intro h
      obtain ⟨k, e⟩ := q
      unfold eqIn
      rw [look hn (h _ List.mem_cons_self)]
      show (PyData.eqv e e && eqIn da r) = true
      rw [e3 _ (h _ List.mem_cons_self), ih fun q hq => h q (List.mem_cons_of_mem _ hq)]
      rfl
  show ((encD d.l).mapM tDt).bind (fun da => ((encD d.l).mapM tDt).bind fun db => Pv.sc (.bl (c ^^ ((encD d.l).length == (encD d.l).length && eqIn db da)))) = _
  rw [e1]
  show Pv.sc (.bl (c ^^ ((encD d.l).length == (encD d.l).length && eqIn da da))) = _
  rw [ein da fun _ h => h, beq_self_eq_true]
  rfl
/-! # sorted numbers -/
theorem getLast_max {l : List Int} (hs : l.Pairwise (· ≤ ·)) (h : l ≠ []) : ∀ x ∈ l, x ≤ l.getLast h := by
  intro x hx
  obtain ⟨i, hi, rfl⟩ := List.mem_iff_getElem.mp hx
  rw [List.getLast_eq_getElem]
  by_cases e : i = l.length - 1
  · subst e; exact Int.le_refl _
  · exact List.pairwise_iff_getElem.mp hs i (l.length - 1) hi (by omega) (by omega)
theorem sortI_mem {l : List Int} {x : Int} : x ∈ sortI l ↔ x ∈ l := (sortI_perm l).mem_iff
theorem sortI_len {l : List Int} : (sortI l).length = l.length := (sortI_perm l).length_eq
theorem sortS_mem {l : List Str} {x : Str} : x ∈ sortS l ↔ x ∈ l := (sortS_perm l).mem_iff
theorem sortS_len {l : List Str} : (sortS l).length = l.length := (sortS_perm l).length_eq
end T

set_option maxRecDepth 100000
set_option maxHeartbeats 1000000
namespace T
open PySem PySem.Spec PyProof.Rows L2 Pv
open Enc (enc)
variable {α β γ κ ν o s : Type}
/-! # data of no told type, seen -/
def okB : Nat → PV → Bool
  | _, .non => true
  | _, .bl _ => true
  | _, .int _ => true
  | _, .str s => PyData.strOk s
  | n + 1, .tup xs => xs.all (okB n)
  | n + 1, .lst xs => xs.all (okB n)
  | _, _ => false
theorem dps_of {n : Nat} (ih : ∀ x, okB n x = true → DP n x) : ∀ xs : List PV, xs.all (okB n) = true → ∃ ds, PV.toDs xs = some ds ∧ PyData.canLay0 (.tuple ds) = true ∧ PyData.canLay0 (.list ds) = true ∧ PyData.depthAll ds ≤ n ∧ PyData.eqv (.tuple ds) (.tuple ds) = true ∧ PyData.eqv (.list ds) (.list ds) = true
  | [], _ => ⟨[], rfl, rfl, rfl, Nat.zero_le _, rfl, rfl⟩
  | x :: xs, h => by
    rw [List.all_cons, Bool.and_eq_true] at h
    obtain ⟨d, h1, h2, h3, h4⟩ := ih x h.1
    obtain ⟨ds, k1, k2, k2', k3, k4, k5⟩ := dps_of ih xs h.2
    refine ⟨d :: ds, ?_, ?_, ?_, ?_, ?_, ?_⟩
    · simp [PV.toDs, h1, k1]
    · have k2 : PyData.canLayAll0 ds = true := k2
      show (d.canLay0 && PyData.canLayAll0 ds) = true
      rw [h2, k2]; rfl
    · have k2 : PyData.canLayAll0 ds = true := k2
      show (d.canLay0 && PyData.canLayAll0 ds) = true
      rw [h2, k2]; rfl
    · simp only [PyData.depthAll]; omega
    · have k4 : PyData.eqvAll ds ds = true := k4
      show (PyData.eqv d d && PyData.eqvAll ds ds) = true
      rw [h4, k4]; rfl
    · have k4 : PyData.eqvAll ds ds = true := k5
      show (PyData.eqv d d && PyData.eqvAll ds ds) = true
      rw [h4, k4]; rfl
theorem okB_dp : ∀ (n : Nat) (x : PV), okB n x = true → DP n x
  | _, .non, _ => ⟨_, rfl, rfl, Nat.zero_le _, rfl⟩
  | _, .bl b, _ => ⟨_, rfl, rfl, Nat.zero_le _, by cases b <;> rfl⟩
  | _, .int i, _ => ⟨_, rfl, rfl, Nat.zero_le _, by simp [PyData.eqv]⟩
  | n, .str x, h => ⟨_, rfl, (by cases n <;> exact h), Nat.zero_le _, by simp [PyData.eqv]⟩
  | n + 1, .tup xs, h => by
    obtain ⟨ds, h1, h2, h2', h3, h4, h5⟩ := dps_of (okB_dp n) xs h
    exact ⟨.tuple ds, by show (PV.toDs xs).map _ = _; rw [h1]; rfl, h2, by simp only [PyData.depth]; omega, h4⟩
  | n + 1, .lst xs, h => by
    obtain ⟨ds, h1, h2, h2', h3, h4, h5⟩ := dps_of (okB_dp n) xs h
    exact ⟨.list ds, by show (PV.toDs xs).map _ = _; rw [h1]; rfl, h2', by simp only [PyData.depth]; omega, h5⟩
  | 0, .tup xs, h => by cases h
  | 0, .lst xs, h => by cases h
  | n, .dic xs, h => by cases n <;> cases h
  | n, .ctup xs, h => by cases n <;> cases h
  | n, .clst xs, h => by cases n <;> cases h
  | n, .exn _ _ _ _, h => by cases n <;> cases h
theorem okB_le : ∀ {m n : Nat} {x : PV}, m ≤ n → okB m x = true → okB n x = true
  | m, n, .non, _, _ => by cases n <;> rfl
  | m, n, .bl b, _, _ => by cases n <;> rfl
  | m, n, .int i, _, _ => by cases n <;> rfl
  | m, n, .str x, _, h => by cases n <;> cases m <;> exact h
  | m + 1, n + 1, .tup xs, k, h => by
    have h : xs.all (okB m) = true := h
    show xs.all (okB n) = true
    rw [List.all_eq_true] at h ⊢
    exact fun x hx => okB_le (Nat.le_of_succ_le_succ k) (h x hx)
  | m + 1, n + 1, .lst xs, k, h => by
    have h : xs.all (okB m) = true := h
    show xs.all (okB n) = true
    rw [List.all_eq_true] at h ⊢
    exact fun x hx => okB_le (Nat.le_of_succ_le_succ k) (h x hx)
  | 0, n, .tup xs, _, h => by cases h
  | 0, n, .lst xs, _, h => by cases h
  | m + 1, 0, .tup xs, k, h => absurd k (by omega)
  | m + 1, 0, .lst xs, k, h => absurd k (by omega)
  | m, n, .dic xs, _, h => by cases m <;> cases h
  | m, n, .ctup xs, _, h => by cases m <;> cases h
  | m, n, .clst xs, _, h => by cases m <;> cases h
  | m, n, .exn _ _ _ _, _, h => by cases m <;> cases h
theorem okB_tup {n : Nat} {xs : List PV} (h : ∀ x ∈ xs, okB n x = true) : okB (n + 1) (.tup xs) = true := List.all_eq_true.mpr h
theorem okB_str {n : Nat} {x : Str} (h : PyData.strOk x = true) : okB n (.str x) = true := by cases n <;> exact h
theorem okB_int {n : Nat} {x : Int} : okB n (.int x) = true := by cases n <;> rfl
/-- the same data on both sides -/
theorem eqP_self {n : Nat} {x : PV} (h : okB n x = true) (hn : n ≤ 64) : EqP x x ∧ eqP x x = true := (okB_dp n x h).self hn
theorem EqP_tup {m n : Nat} {x y : PV} (h : okB m x = true) (k : okB n y = true) (hm : m ≤ 64) (hn : n ≤ 64) (hf : x.flat = none ∨ y.flat = none) : EqP x y := (okB_dp m x h).eq (okB_dp n y k) hm hn hf
theorem nn_non [Enc α] [NN α] {a : α} : (enc a : PV) ≠ .non := fun e => by
  have := NN.nn a
  rw [e] at this
  cases this
instance [Enc α] [A : InjE α] [NN α] : InjE (Option α) := ⟨fun a b h => by
  cases a with
  | none => cases b with
    | none => rfl
    | some b => exact absurd (show (enc b : PV) = .non from (show PV.non = enc b from h).symm) nn_non
  | some a => cases b with
    | none => exact absurd (show (enc a : PV) = .non from h) nn_non
    | some b => rw [A.inj a b h]⟩
/-! # more steps -/
theorem fold_eq {f : s → α → M s} {k : s → M β} {r : M β} {xs : List α} {x y : s} (h : M.fold f xs x = .ok y) (hk : k y = r) : (M.fold f xs x).bind k = r := by rw [h]; exact hk
theorem bind_eq {m : M α} {k : α → M β} {r : M β} {a : α} (h : m = .ok a) (hk : k a = r) : m.bind k = r := by rw [h]; exact hk
theorem noexc_eq {m : M α} {k : α → M β} {r : M β} {a : α} (h : m = .ok a) (hk : k a = r) : m.noexc.bind k = r := by rw [h]; exact hk
theorem grd_eq {c : Prop} {m r : M α} (h : c) (hk : m = r) : grd c m = r := by rw [grd_pos h]; exact hk
theorem lt_eq' {a : α} {k : α → M β} {r : M β} (h : k a = r) : lt a k = r := by rw [lt_eq]; exact h
theorem exc_bind {m : M α} {k : α → M β} {c : Str} {fs : List (Str × PV)} (h : m = .exc c fs) : m.bind k = .exc c fs := by rw [h]; rfl
/-- a loop whose turns all go on -/
def NxP (I : s → Prop) (l : Lp s o) : Prop := ∃ y, l = .nx y ∧ I y
theorem nx_ex {I : s → Prop} {y : s} (h : I y) : ∃ l : Lp s o, M.ok (.nx y) = .ok l ∧ NxP I l := ⟨_, rfl, y, rfl, h⟩
theorem loop_ex' {f : s → α → M (Lp s o)} (I : s → Prop) {xs : List α} {x : s} {k : Fl o s → M β} {R : β → Prop} (h : I x) (hs : ∀ a x, a ∈ xs → I x → ∃ l, f x a = .ok l ∧ NxP I l) (hk : ∀ y, I y → ∃ l, k (.go y) = .ok l ∧ R l) : ∃ l, (M.loop f xs x).bind k = .ok l ∧ R l :=
  loop_ex I h (fun a x ha hx => by
    obtain ⟨l, e, y, rfl, hy⟩ := hs a x ha hx
    exact ⟨y, e, hy⟩) hk
/-- a loop that gathers -/
theorem fold_gather {f : List β → α → M (List β)} {R : α → List β} (N : Nat) : ∀ {xs : List α} {acc : List β}, (∀ a ∈ xs, (R a).length ≤ 1) → acc.length + xs.length ≤ N → (∀ a ∈ xs, ∀ l : List β, l.length < N → f l a = .ok (l ++ R a)) → M.fold f xs acc = .ok (acc ++ xs.flatMap R)
  | [], acc, _, _, _ => by rw [List.flatMap_nil, List.append_nil]; rfl
  | a :: xs, acc, h1, h2, h => by
    show (f acc a).bind (fun x => M.fold f xs x) = _
    rw [List.length_cons] at h2
    rw [h a List.mem_cons_self acc (by omega)]
    have l1 := h1 a List.mem_cons_self
    rw [M.bind_ok, fold_gather N (fun b hb => h1 b (List.mem_cons_of_mem _ hb)) (by rw [List.length_append]; omega) fun b hb => h b (List.mem_cons_of_mem _ hb), List.flatMap_cons, List.append_assoc]
end T

set_option maxRecDepth 100000
set_option maxHeartbeats 1000000
namespace K20
open PySem PySem.Spec PyProof.Rows L2 Pv

abbrev top (i : Nat) : Stmt := PySem.Challenge.pw_millbench_k20_versions.main.body.getD i (.Pass ⟨0, 0, 0, 0⟩)
noncomputable section
def c_LAST_NUMBER : PV := (.int (9999 : Int))
def cs_MissingVersion : List Str := [("MissingVersion" : Str)]
def ns_MissingVersion : List Str := []
/-- what is leant on of the program -/
structure Hy (g : Prg) : Prop where
  c_LAST_NUMBER : GC g ("LAST_NUMBER" : Str) c_LAST_NUMBER
  m_abs : g.mg ("abs" : Str) = none
  m_bool : g.mg ("bool" : Str) = none
  m_int : g.mg ("int" : Str) = none
  m_isinstance : g.mg ("isinstance" : Str) = none
  m_len : g.mg ("len" : Str) = none
  m_list : g.mg ("list" : Str) = none
  m_max : g.mg ("max" : Str) = none
  m_min : g.mg ("min" : Str) = none
  m_range : g.mg ("range" : Str) = none
  m_sorted : g.mg ("sorted" : Str) = none
  m_str : g.mg ("str" : Str) = none
  m_tuple : g.mg ("tuple" : Str) = none
  d_holding : ∃ a fd, g.mg ("holding" : Str) = some (.ref a) ∧ FunD g.K ("holding" : Str) ("holding" : Str) (defArgs (top 5)) (defBody (top 5)) (defScope (top 5)) [] [] a fd
  d_body_or_none : ∃ a fd, g.mg ("body_or_none" : Str) = some (.ref a) ∧ FunD g.K ("body_or_none" : Str) ("body_or_none" : Str) (defArgs (top 6)) (defBody (top 6)) (defScope (top 6)) [] [] a fd
  d_has_version : ∃ a fd, g.mg ("has_version" : Str) = some (.ref a) ∧ FunD g.K ("has_version" : Str) ("has_version" : Str) (defArgs (top 7)) (defBody (top 7)) (defScope (top 7)) [] [] a fd
  d_stretches : ∃ a fd, g.mg ("stretches" : Str) = some (.ref a) ∧ FunD g.K ("stretches" : Str) ("stretches" : Str) (defArgs (top 8)) (defBody (top 8)) (defScope (top 8)) [] [] a fd
  d_lines_by_seat : ∃ a fd, g.mg ("lines_by_seat" : Str) = some (.ref a) ∧ FunD g.K ("lines_by_seat" : Str) ("lines_by_seat" : Str) (defArgs (top 9)) (defBody (top 9)) (defScope (top 9)) [] [] a fd
  d_bill_changes : ∃ a fd, g.mg ("bill_changes" : Str) = some (.ref a) ∧ FunD g.K ("bill_changes" : Str) ("bill_changes" : Str) (defArgs (top 10)) (defBody (top 10)) (defScope (top 10)) [] [] a fd
  d__law_digits : ∃ a fd, g.mg ("_law_digits" : Str) = some (.ref a) ∧ FunD g.K ("_law_digits" : Str) ("_law_digits" : Str) (defArgs (top 12)) (defBody (top 12)) (defScope (top 12)) [] [] a fd
  d__law_mixed : ∃ a fd, g.mg ("_law_mixed" : Str) = some (.ref a) ∧ FunD g.K ("_law_mixed" : Str) ("_law_mixed" : Str) (defArgs (top 13)) (defBody (top 13)) (defScope (top 13)) [] [] a fd
  d__law_numbers : ∃ a fd, g.mg ("_law_numbers" : Str) = some (.ref a) ∧ FunD g.K ("_law_numbers" : Str) ("_law_numbers" : Str) (defArgs (top 14)) (defBody (top 14)) (defScope (top 14)) [] [] a fd
  d__law_next : ∃ a fd, g.mg ("_law_next" : Str) = some (.ref a) ∧ FunD g.K ("_law_next" : Str) ("_law_next" : Str) (defArgs (top 15)) (defBody (top 15)) (defScope (top 15)) [] [] a fd
  d__law_names : ∃ a fd, g.mg ("_law_names" : Str) = some (.ref a) ∧ FunD g.K ("_law_names" : Str) ("_law_names" : Str) (defArgs (top 16)) (defBody (top 16)) (defScope (top 16)) [] [] a fd
  d__law_copy : ∃ a fd, g.mg ("_law_copy" : Str) = some (.ref a) ∧ FunD g.K ("_law_copy" : Str) ("_law_copy" : Str) (defArgs (top 17)) (defBody (top 17)) (defScope (top 17)) [] [] a fd
  d__law_body : ∃ a fd, g.mg ("_law_body" : Str) = some (.ref a) ∧ FunD g.K ("_law_body" : Str) ("_law_body" : Str) (defArgs (top 18)) (defBody (top 18)) (defScope (top 18)) [] [] a fd
  d__law_lots : ∃ a fd, g.mg ("_law_lots" : Str) = some (.ref a) ∧ FunD g.K ("_law_lots" : Str) ("_law_lots" : Str) (defArgs (top 19)) (defBody (top 19)) (defScope (top 19)) [] [] a fd
  d__law_best : ∃ a fd, g.mg ("_law_best" : Str) = some (.ref a) ∧ FunD g.K ("_law_best" : Str) ("_law_best" : Str) (defArgs (top 20)) (defBody (top 20)) (defScope (top 20)) [] [] a fd
  d__law_told : ∃ a fd, g.mg ("_law_told" : Str) = some (.ref a) ∧ FunD g.K ("_law_told" : Str) ("_law_told" : Str) (defArgs (top 21)) (defBody (top 21)) (defScope (top 21)) [] [] a fd
  d__law_stretches : ∃ a fd, g.mg ("_law_stretches" : Str) = some (.ref a) ∧ FunD g.K ("_law_stretches" : Str) ("_law_stretches" : Str) (defArgs (top 22)) (defBody (top 22)) (defScope (top 22)) [] [] a fd
  d__law_line : ∃ a fd, g.mg ("_law_line" : Str) = some (.ref a) ∧ FunD g.K ("_law_line" : Str) ("_law_line" : Str) (defArgs (top 23)) (defBody (top 23)) (defScope (top 23)) [] [] a fd
  d__law_changes : ∃ a fd, g.mg ("_law_changes" : Str) = some (.ref a) ∧ FunD g.K ("_law_changes" : Str) ("_law_changes" : Str) (defArgs (top 24)) (defBody (top 24)) (defScope (top 24)) [] [] a fd
  d_law : ∃ a fd, g.mg ("law" : Str) = some (.ref a) ∧ FunD g.K ("law" : Str) ("law" : Str) (defArgs (top 25)) (defBody (top 25)) (defScope (top 25)) [] [] a fd
  x_MissingVersion : ExK g ("MissingVersion" : Str) ("MissingVersion" : Str) [("kind" : Str), ("name" : Str), ("number" : Str)]
  k_MissingVersion : g.mg ("MissingVersion" : Str) = some (.ref (g.ea ("MissingVersion" : Str)))
  e1_MissingVersion : ∀ c ∈ cs_MissingVersion, PySem.W.exmOne g.K (.ref (g.ea c)) (.ref (g.ea ("MissingVersion" : Str))) = some true
  e0_MissingVersion : ∀ c ∈ ns_MissingVersion, PySem.W.exmOne g.K (.ref (g.ea c)) (.ref (g.ea ("MissingVersion" : Str))) = some false
  xf_MissingVersion_kind : ∀ c ∈ cs_MissingVersion, XfF g c ("kind" : Str)
  xf_MissingVersion_name : ∀ c ∈ cs_MissingVersion, XfF g c ("name" : Str)
  xf_MissingVersion_number : ∀ c ∈ cs_MissingVersion, XfF g c ("number" : Str)
theorem Hy.n_MissingVersion {g : Prg} (hy : Hy g) {Γ : Sx} (h1 : Γ.sc.names.lookup ("MissingVersion" : Str) = some .globalImplicit) (h2 : (("MissingVersion" : Str) == ("__debug__" : Str)) = false) : NamC g Γ ("MissingVersion" : Str) (.ref (g.ea ("MissingVersion" : Str))) := ⟨⟨h1, h2⟩, .inl hy.k_MissingVersion⟩
variable {g : Prg}
/-! ### holding -/
abbrev N_holding : List Str := [("shop" : Str), ("kind" : Str), ("name" : Str), ("number" : Str), ("best" : Str), ("other" : Str), ("other_name" : Str), ("lot" : Str)]
def L1_holding : SF := (sIf (tSeqF true (tOf (eOp pEq (aCons (eVar 5) (aCons (eVar 1) aNil)))) (tSeqF true (tOf (eOp pEq (aCons (eVar 6) (aCons (eVar 2) aNil)))) (tOf (eChain pLt pLe (eVar 4) (eVar 7) (eVar 3))))) (sSet 4 (eVar 7)) sNil)
def B_holding : SF := (sSeq (sSet 4 (eC (.int (0 : Int)))) (sSeq (sFor (iAnyD (eVar 0)) (bTup [5, 6, 7]) L1_holding) (sSeq (sIf (tOf (eOp pEq (aCons (eVar 4) (aCons (eC (.int (0 : Int))) aNil)))) (sRaise ("MissingVersion" : Str) [("kind" : Str), ("name" : Str), ("number" : Str)] (aCons (eVar 1) (aCons (eVar 2) (aCons (eVar 3) aNil)))) sNil) (sRet (eOp pTup (aCons (eVar 4) (aCons (eOp pIxD (aCons (eVar 0) (aCons (eOp pTup (aCons (eVar 1) (aCons (eVar 2) (aCons (eVar 4) aNil)))) aNil))) aNil)))))))
def F_holding : FF := fnF [0, 0, 0, 0] 8 B_holding
theorem sv_holding (hy : Hy g) : SVs g ⟨N_holding, defScope (top 5), 2, pnOf [0, 0, 0, 0], false, false, none⟩ (defBody (top 5)) B_holding := (svs_cons (sv_set (i := 4) rfl rfl (by decide) rfl ev_int) (svs_cons (sv_for rfl rfl (iv_anyD (ev_var (i := 0) rfl (vis_of rfl) rfl rfl)) (gv_tup rfl (.cons (i := 5) rfl rfl (.cons (i := 6) rfl rfl (.cons (i := 7) rfl rfl .nil)))) (by decide) (svs_one (sv_if ((tw_and (tv_eq rfl (ev_var (i := 5) rfl (vis_of rfl) rfl rfl) (ev_var (i := 1) rfl (vis_of rfl) rfl rfl)) (tw_and (tv_eq rfl (ev_var (i := 6) rfl (vis_of rfl) rfl rfl) (ev_var (i := 2) rfl (vis_of rfl) rfl rfl)) (tw_and1 (tv_lt_le rfl (ev_var (i := 4) rfl (vis_of rfl) rfl rfl) (ev_var (i := 7) rfl (vis_of rfl) rfl rfl) (ev_var (i := 3) rfl (vis_of rfl) rfl rfl)))))).tv (svs_one (sv_set (i := 4) rfl rfl (by decide) rfl (ev_var (i := 7) rfl (vis_of rfl) rfl rfl))) svs_nil))) (svs_cons (sv_if (tv_eq rfl (ev_var (i := 4) rfl (vis_of rfl) rfl rfl) ev_int) (svs_one (sv_raise hy.x_MissingVersion (by decide) ⟨rfl, rfl⟩ rfl (by first | exact Nat.le_refl _ | decide | exact Nat.le_of_ble_eq_true rfl | (show _ ≤ _; omega)) (av_cons rfl (ev_var (i := 1) rfl (vis_of rfl) rfl rfl) (av_cons rfl (ev_var (i := 2) rfl (vis_of rfl) rfl rfl) (av_cons rfl (ev_var (i := 3) rfl (vis_of rfl) rfl rfl) av_nil))) rfl)) svs_nil) (svs_one (sv_ret (ev_tup (av_cons rfl (ev_var (i := 4) rfl (vis_of rfl) rfl rfl) (av_cons rfl (ev_ixD rfl (ev_var (i := 0) rfl (vis_of rfl) rfl rfl) (ev_tup (av_cons rfl (ev_var (i := 1) rfl (vis_of rfl) rfl rfl) (av_cons rfl (ev_var (i := 2) rfl (vis_of rfl) rfl rfl) (av_cons rfl (ev_var (i := 4) rfl (vis_of rfl) rfl rfl) av_nil))))) av_nil))))))))
theorem ca_holding (hy : Hy g) : Callee g ("holding" : Str) [0, 0, 0, 0] F_holding 3 := ⟨rfl, by
  obtain ⟨a, fd, hm, F⟩ := hy.d_holding
  exact ⟨a, fd, [("shop" : Str), ("kind" : Str), ("name" : Str), ("number" : Str)], hm, F.kp, F.bindsN (fun _ _ _ _ _ _ us hl => match us, hl with | [_, _, _, _], _ => rfl), fn_ok (N := N_holding) F ⟨rfl, rfl, rfl, by decide +kernel, rfl, by decide +kernel, by decide +kernel⟩ rfl (sv_holding hy)⟩⟩
/-! ### body_or_none -/
abbrev N_body_or_none : List Str := [("shop" : Str), ("kind" : Str), ("name" : Str), ("number" : Str), ("_" : Str), ("body" : Str)]
def B_body_or_none : SF := (sSeq (sTry (sTgt (bTup [4, 5]) (eCall [0, 0, 0, 0] [none, none, none, none] F_holding (aCons (eVar 0) (aCons (eVar 1) (aCons (eVar 2) (aCons (eVar 3) aNil)))))) [⟨[("MissingVersion" : Str)], [], none, fun a_ d_ c_ => (sRet (eC .non))⟩]) (sRet (eMove 5)))
def F_body_or_none : FF := fnF [0, 0, 0, 0] 6 B_body_or_none
theorem sv_body_or_none (hy : Hy g) : SVs g ⟨N_body_or_none, defScope (top 6), 3, pnOf [0, 0, 0, 0], false, false, none⟩ (defBody (top 6)) B_body_or_none := (svs_cons (sv_try (svs_one (sv_tgt (gv_tup rfl (.cons (i := 4) rfl rfl (.cons (i := 5) rfl rfl .nil))) (by decide) rfl (fun _ => rfl) (ev_call (ca_holding hy) ⟨rfl, rfl⟩ (by first | exact Nat.le_refl _ | decide | exact Nat.le_of_ble_eq_true rfl | (show _ ≤ _; omega)) rfl (am_cons rfl (ev_var (i := 0) rfl (vis_of rfl) rfl rfl) (am_cons rfl (ev_var (i := 1) rfl (vis_of rfl) rfl rfl) (am_cons rfl (ev_var (i := 2) rfl (vis_of rfl) rfl rfl) (am_cons rfl (ev_var (i := 3) rfl (vis_of rfl) rfl rfl) am_nil)))) rfl))) rfl rfl (.plain (hy.n_MissingVersion rfl rfl) hy.e1_MissingVersion hy.e0_MissingVersion (fun a_ d_ c_ hc_ => (svs_one (sv_ret ev_non))) .nil)) (svs_one (sv_ret (ev_move (i := 5) rfl (vis_of rfl) rfl rfl))))
theorem ca_body_or_none (hy : Hy g) : Callee g ("body_or_none" : Str) [0, 0, 0, 0] F_body_or_none 4 := ⟨rfl, by
  obtain ⟨a, fd, hm, F⟩ := hy.d_body_or_none
  exact ⟨a, fd, [("shop" : Str), ("kind" : Str), ("name" : Str), ("number" : Str)], hm, F.kp, F.bindsN (fun _ _ _ _ _ _ us hl => match us, hl with | [_, _, _, _], _ => rfl), fn_ok (N := N_body_or_none) F ⟨rfl, rfl, rfl, by decide +kernel, rfl, by decide +kernel, by decide +kernel⟩ rfl (sv_body_or_none hy)⟩⟩
/-! ### has_version -/
abbrev N_has_version : List Str := [("shop" : Str), ("kind" : Str), ("name" : Str), ("number" : Str)]
def B_has_version : SF := (sRet (eOp (pIsN true) (aCons (eCall [0, 0, 0, 0] [none, none, none, none] F_body_or_none (aCons (eVar 0) (aCons (eVar 1) (aCons (eVar 2) (aCons (eVar 3) aNil))))) (aCons (eC .non) aNil))))
def F_has_version : FF := fnF [0, 0, 0, 0] 4 B_has_version
theorem sv_has_version (hy : Hy g) : SVs g ⟨N_has_version, defScope (top 7), 4, pnOf [0, 0, 0, 0], false, false, none⟩ (defBody (top 7)) B_has_version := (svs_one (sv_ret (ev_notN (ev_call (ca_body_or_none hy) ⟨rfl, rfl⟩ (by first | exact Nat.le_refl _ | decide | exact Nat.le_of_ble_eq_true rfl | (show _ ≤ _; omega)) rfl (am_cons rfl (ev_var (i := 0) rfl (vis_of rfl) rfl rfl) (am_cons rfl (ev_var (i := 1) rfl (vis_of rfl) rfl rfl) (am_cons rfl (ev_var (i := 2) rfl (vis_of rfl) rfl rfl) (am_cons rfl (ev_var (i := 3) rfl (vis_of rfl) rfl rfl) am_nil)))) rfl) ev_non)))
theorem ca_has_version (hy : Hy g) : Callee g ("has_version" : Str) [0, 0, 0, 0] F_has_version 5 := ⟨rfl, by
  obtain ⟨a, fd, hm, F⟩ := hy.d_has_version
  exact ⟨a, fd, [("shop" : Str), ("kind" : Str), ("name" : Str), ("number" : Str)], hm, F.kp, F.bindsN (fun _ _ _ _ _ _ us hl => match us, hl with | [_, _, _, _], _ => rfl), fn_ok (N := N_has_version) F ⟨rfl, rfl, rfl, by decide +kernel, rfl, by decide +kernel, by decide +kernel⟩ rfl (sv_has_version hy)⟩⟩
/-! ### stretches -/
abbrev N_stretches : List Str := [("shop" : Str), ("kind" : Str), ("name" : Str), ("lots" : Str), ("rows" : Str), ("k" : Str), ("other" : Str), ("other_name" : Str), ("lot" : Str)]
def L1_stretches : SF := (sIf (tOf (eOp pLt (aCons (eOp pAdd (aCons (eVar 5) (aCons (eC (.int (1 : Int))) aNil))) (aCons (eOp pLen (aCons (eVar 3) aNil)) aNil)))) (sExpr (eAppend 4 (eOp pTup (aCons (eOp pIx (aCons (eVar 3) (aCons (eVar 5) aNil))) (aCons (eOp pSub (aCons (eOp pIx (aCons (eVar 3) (aCons (eOp pAdd (aCons (eVar 5) (aCons (eC (.int (1 : Int))) aNil))) aNil))) (aCons (eC (.int (1 : Int))) aNil))) aNil))))) (sExpr (eAppend 4 (eOp pTup (aCons (eOp pIx (aCons (eVar 3) (aCons (eVar 5) aNil))) (aCons (eC c_LAST_NUMBER) aNil))))))
def B_stretches : SF := (sSeq (sSet 3 (eFrz (eOp pSort (aCons (eFrz (eLc [6, 7, 8] (iAnyD (eVar 0)) (bTup [6, 7, 8]) (tSeqF true (tOf (eOp pEq (aCons (eVar 6) (aCons (eVar 1) aNil)))) (tOf (eOp pEq (aCons (eVar 7) (aCons (eVar 2) aNil))))) (eVar 8))) aNil)))) (sSeq (sSet 4 (eOp pLst aNil)) (sSeq (sFor (iRange rngA1 (aCons (eOp pLen (aCons (eVar 3) aNil)) aNil)) (bName 5) L1_stretches) (sRet (eOp pTuple (aCons (eVar 4) aNil))))))
def F_stretches : FF := fnF [0, 0, 0] 9 B_stretches
theorem sv_stretches (hy : Hy g) : SVs g ⟨N_stretches, defScope (top 8), 0, pnOf [0, 0, 0], false, false, none⟩ (defBody (top 8)) B_stretches := (svs_cons (sv_set (i := 3) rfl rfl (by decide) rfl (ev_frzT (ev_sort rfl (av_cons rfl (ev_frzT (ev_lc (own := [(("other" : Str), 6), (("other_name" : Str), 7), (("lot" : Str), 8)]) (sl := [6, 7, 8]) rfl rfl rfl (by decide) (iv_anyD (ev_var (i := 0) rfl (vis_of rfl) rfl rfl)) (gv_tup rfl (.cons (i := 6) rfl rfl (.cons (i := 7) rfl rfl (.cons (i := 8) rfl rfl .nil)))) (.one ((tw_and (tv_eq rfl (ev_var (i := 6) rfl (vis_of rfl) rfl rfl) (ev_var (i := 1) rfl (vis_of rfl) rfl rfl)) (tw_and1 (tv_eq rfl (ev_var (i := 7) rfl (vis_of rfl) rfl rfl) (ev_var (i := 2) rfl (vis_of rfl) rfl rfl))))).tv) (ev_var (i := 8) rfl (vis_of rfl) rfl rfl))) av_nil) rfl ⟨rfl, rfl⟩ hy.m_sorted))) (svs_cons (sv_set (i := 4) rfl rfl (by decide) rfl (ev_lst av_nil)) (svs_cons (sv_for rfl rfl (iv_rng1 rfl ⟨rfl, rfl⟩ hy.m_range (av_cons rfl (ev_len rfl (av_cons rfl (ev_var (i := 3) rfl (vis_of rfl) rfl rfl) av_nil) ⟨rfl, rfl⟩ hy.m_len) av_nil)) (gv_name (i := 5) rfl rfl) (by decide) (svs_one (sv_if (tv_lt rfl (ev_add (ev_var (i := 5) rfl (vis_of rfl) rfl rfl) ev_int) (ev_len rfl (av_cons rfl (ev_var (i := 3) rfl (vis_of rfl) rfl rfl) av_nil) ⟨rfl, rfl⟩ hy.m_len)) (svs_one (sv_expr rfl (ev_append (i := 4) rfl (vis_of rfl) rfl rfl rfl rfl (ev_tup (av_cons rfl (ev_ix rfl (ev_var (i := 3) rfl (vis_of rfl) rfl rfl) (ev_var (i := 5) rfl (vis_of rfl) rfl rfl)) (av_cons rfl (ev_sub (ev_ix rfl (ev_var (i := 3) rfl (vis_of rfl) rfl rfl) (ev_add (ev_var (i := 5) rfl (vis_of rfl) rfl rfl) ev_int)) ev_int) av_nil)))))) (svs_one (sv_expr rfl (ev_append (i := 4) rfl (vis_of rfl) rfl rfl rfl rfl (ev_tup (av_cons rfl (ev_ix rfl (ev_var (i := 3) rfl (vis_of rfl) rfl rfl) (ev_var (i := 5) rfl (vis_of rfl) rfl rfl)) (av_cons rfl (ev_glob ⟨rfl, rfl⟩ hy.c_LAST_NUMBER) av_nil))))))))) (svs_one (sv_ret (ev_tuple rfl (av_cons rfl (ev_var (i := 4) rfl (vis_of rfl) rfl rfl) av_nil) ⟨rfl, rfl⟩ hy.m_tuple))))))
theorem ca_stretches (hy : Hy g) : Callee g ("stretches" : Str) [0, 0, 0] F_stretches 1 := ⟨rfl, by
  obtain ⟨a, fd, hm, F⟩ := hy.d_stretches
  exact ⟨a, fd, [("shop" : Str), ("kind" : Str), ("name" : Str)], hm, F.kp, F.bindsN (fun _ _ _ _ _ _ us hl => match us, hl with | [_, _, _], _ => rfl), fn_ok (N := N_stretches) F ⟨rfl, rfl, rfl, by decide +kernel, rfl, by decide +kernel, by decide +kernel⟩ rfl (sv_stretches hy)⟩⟩
/-! ### lines_by_seat -/
abbrev N_lines_by_seat : List Str := [("shop" : Str), ("part" : Str), ("number" : Str), ("body" : Str), ("seat" : Str), ("count" : Str), ("parts" : Str)]
def B_lines_by_seat : SF := (sSeq (sSet 3 (eCall [0, 0, 0, 0] [none, none, none, none] F_body_or_none (aCons (eVar 0) (aCons (eC (.str ("bill" : Str))) (aCons (eVar 1) (aCons (eVar 2) aNil)))))) (sSeq (sIf (tOf (eOp (pIsN false) (aCons (eVar 3) (aCons (eC .non) aNil)))) (sRet eDNew) sNil) (sRet (eDc [4, 5, 6] (iAny (eVar 3)) (bTup [4, 5, 6]) tsTrue (eVar 4) (eOp pTup (aCons (eVar 5) (aCons (eVar 6) aNil)))))))
def F_lines_by_seat : FF := fnF [0, 0, 0] 7 B_lines_by_seat
theorem sv_lines_by_seat (hy : Hy g) : SVs g ⟨N_lines_by_seat, defScope (top 9), 4, pnOf [0, 0, 0], false, false, none⟩ (defBody (top 9)) B_lines_by_seat := (svs_cons (sv_set (i := 3) rfl rfl (by decide) rfl (ev_call (ca_body_or_none hy) ⟨rfl, rfl⟩ (by first | exact Nat.le_refl _ | decide | exact Nat.le_of_ble_eq_true rfl | (show _ ≤ _; omega)) rfl (am_cons rfl (ev_var (i := 0) rfl (vis_of rfl) rfl rfl) (am_cons rfl ev_str (am_cons rfl (ev_var (i := 1) rfl (vis_of rfl) rfl rfl) (am_cons rfl (ev_var (i := 2) rfl (vis_of rfl) rfl rfl) am_nil)))) rfl)) (svs_cons (sv_if (tv_isN rfl (ev_var (i := 3) rfl (vis_of rfl) rfl rfl) ev_non) (svs_one (sv_ret ev_dnew)) svs_nil) (svs_one (sv_ret (ev_dc (own := [(("seat" : Str), 4), (("count" : Str), 5), (("parts" : Str), 6)]) (sl := [4, 5, 6]) rfl rfl rfl (by decide) (iv_any (ev_var (i := 3) rfl (vis_of rfl) rfl rfl)) (gv_tup rfl (.cons (i := 4) rfl rfl (.cons (i := 5) rfl rfl (.cons (i := 6) rfl rfl .nil)))) .nil (ev_var (i := 4) rfl (vis_of rfl) rfl rfl) (ev_tup (av_cons rfl (ev_var (i := 5) rfl (vis_of rfl) rfl rfl) (av_cons rfl (ev_var (i := 6) rfl (vis_of rfl) rfl rfl) av_nil))))))))
theorem ca_lines_by_seat (hy : Hy g) : Callee g ("lines_by_seat" : Str) [0, 0, 0] F_lines_by_seat 5 := ⟨rfl, by
  obtain ⟨a, fd, hm, F⟩ := hy.d_lines_by_seat
  exact ⟨a, fd, [("shop" : Str), ("part" : Str), ("number" : Str)], hm, F.kp, F.bindsN (fun _ _ _ _ _ _ us hl => match us, hl with | [_, _, _], _ => rfl), fn_ok (N := N_lines_by_seat) F ⟨rfl, rfl, rfl, by decide +kernel, rfl, by decide +kernel, by decide +kernel⟩ rfl (sv_lines_by_seat hy)⟩⟩
/-! ### bill_changes -/
abbrev N_bill_changes : List Str := [("shop" : Str), ("part" : Str), ("first" : Str), ("second" : Str), ("old" : Str), ("new" : Str), ("seats" : Str), ("rows" : Str), ("seat" : Str), ("before" : Str), ("after" : Str)]
def L1_bill_changes : SF := (sSeq (sSet 9 (eOp pGetD2 (aConsT PV.isDic (eVar 4) (aCons (eVar 8) (aCons (eOp pTup aNil) aNil))))) (sSeq (sSet 10 (eOp pGetD2 (aConsT PV.isDic (eVar 5) (aCons (eVar 8) (aCons (eOp pTup aNil) aNil))))) (sIf (tOf (eOp pNe (aCons (eVar 9) (aCons (eVar 10) aNil)))) (sExpr (eAppend 7 (eOp pTup (aCons (eVar 8) (aCons (eVar 9) (aCons (eVar 10) aNil)))))) sNil)))
def B_bill_changes : SF := (sSeq (sSet 4 (eFrz (eCall [0, 0, 0] [none, none, none] F_lines_by_seat (aCons (eVar 0) (aCons (eVar 1) (aCons (eVar 2) aNil)))))) (sSeq (sSet 5 (eFrz (eCall [0, 0, 0] [none, none, none] F_lines_by_seat (aCons (eVar 0) (aCons (eVar 1) (aCons (eVar 3) aNil)))))) (sSeq (sSet 6 (eFrz (eOp pAdd (aCons (eOp pListD (aCons (eVar 4) aNil)) (aCons (eLc [8] (iAnyD (eVar 5)) (bName 8) (tOf (eOp (inOpD true) (aCons (eVar 8) (aCons (eVar 4) aNil)))) (eVar 8)) aNil))))) (sSeq (sSet 7 (eOp pLst aNil)) (sSeq (sFor (iAny (eOp pSort (aCons (eVar 6) aNil))) (bName 8) L1_bill_changes) (sRet (eOp pTuple (aCons (eVar 7) aNil))))))))
def F_bill_changes : FF := fnF [0, 0, 0, 0] 11 B_bill_changes
theorem sv_bill_changes (hy : Hy g) : SVs g ⟨N_bill_changes, defScope (top 10), 5, pnOf [0, 0, 0, 0], false, false, none⟩ (defBody (top 10)) B_bill_changes := (svs_cons (sv_set (i := 4) rfl rfl (by decide) rfl (ev_frzT (ev_call (ca_lines_by_seat hy) ⟨rfl, rfl⟩ (by first | exact Nat.le_refl _ | decide | exact Nat.le_of_ble_eq_true rfl | (show _ ≤ _; omega)) rfl (am_cons rfl (ev_var (i := 0) rfl (vis_of rfl) rfl rfl) (am_cons rfl (ev_var (i := 1) rfl (vis_of rfl) rfl rfl) (am_cons rfl (ev_var (i := 2) rfl (vis_of rfl) rfl rfl) am_nil))) rfl))) (svs_cons (sv_set (i := 5) rfl rfl (by decide) rfl (ev_frzT (ev_call (ca_lines_by_seat hy) ⟨rfl, rfl⟩ (by first | exact Nat.le_refl _ | decide | exact Nat.le_of_ble_eq_true rfl | (show _ ≤ _; omega)) rfl (am_cons rfl (ev_var (i := 0) rfl (vis_of rfl) rfl rfl) (am_cons rfl (ev_var (i := 1) rfl (vis_of rfl) rfl rfl) (am_cons rfl (ev_var (i := 3) rfl (vis_of rfl) rfl rfl) am_nil))) rfl))) (svs_cons (sv_set (i := 6) rfl rfl (by decide) rfl (ev_frzT (ev_add (ev_listD rfl (av_cons rfl (ev_var (i := 4) rfl (vis_of rfl) rfl rfl) av_nil) rfl ⟨rfl, rfl⟩ hy.m_list) (ev_lc (own := [(("seat" : Str), 8)]) (sl := [8]) rfl rfl rfl (by decide) (iv_anyD (ev_var (i := 5) rfl (vis_of rfl) rfl rfl)) (gv_name (i := 8) rfl rfl) (.one (tv_notInD rfl (ev_var (i := 8) rfl (vis_of rfl) rfl rfl) (ev_var (i := 4) rfl (vis_of rfl) rfl rfl))) (ev_var (i := 8) rfl (vis_of rfl) rfl rfl))))) (svs_cons (sv_set (i := 7) rfl rfl (by decide) rfl (ev_lst av_nil)) (svs_cons (sv_for rfl rfl (iv_any (ev_sort rfl (av_cons rfl (ev_var (i := 6) rfl (vis_of rfl) rfl rfl) av_nil) rfl ⟨rfl, rfl⟩ hy.m_sorted)) (gv_name (i := 8) rfl rfl) (by decide) (svs_cons (sv_set (i := 9) rfl rfl (by decide) rfl (ev_get2 rfl rfl rfl (ev_var (i := 4) rfl (vis_of rfl) rfl rfl) (av_cons rfl (ev_var (i := 8) rfl (vis_of rfl) rfl rfl) (av_cons rfl (ev_tup av_nil) av_nil)))) (svs_cons (sv_set (i := 10) rfl rfl (by decide) rfl (ev_get2 rfl rfl rfl (ev_var (i := 5) rfl (vis_of rfl) rfl rfl) (av_cons rfl (ev_var (i := 8) rfl (vis_of rfl) rfl rfl) (av_cons rfl (ev_tup av_nil) av_nil)))) (svs_one (sv_if (tv_ne rfl (ev_var (i := 9) rfl (vis_of rfl) rfl rfl) (ev_var (i := 10) rfl (vis_of rfl) rfl rfl)) (svs_one (sv_expr rfl (ev_append (i := 7) rfl (vis_of rfl) rfl rfl rfl rfl (ev_tup (av_cons rfl (ev_var (i := 8) rfl (vis_of rfl) rfl rfl) (av_cons rfl (ev_var (i := 9) rfl (vis_of rfl) rfl rfl) (av_cons rfl (ev_var (i := 10) rfl (vis_of rfl) rfl rfl) av_nil))))))) svs_nil))))) (svs_one (sv_ret (ev_tuple rfl (av_cons rfl (ev_var (i := 7) rfl (vis_of rfl) rfl rfl) av_nil) ⟨rfl, rfl⟩ hy.m_tuple))))))))
theorem ca_bill_changes (hy : Hy g) : Callee g ("bill_changes" : Str) [0, 0, 0, 0] F_bill_changes 6 := ⟨rfl, by
  obtain ⟨a, fd, hm, F⟩ := hy.d_bill_changes
  exact ⟨a, fd, [("shop" : Str), ("part" : Str), ("first" : Str), ("second" : Str)], hm, F.kp, F.bindsN (fun _ _ _ _ _ _ us hl => match us, hl with | [_, _, _, _], _ => rfl), fn_ok (N := N_bill_changes) F ⟨rfl, rfl, rfl, by decide +kernel, rfl, by decide +kernel, by decide +kernel⟩ rfl (sv_bill_changes hy)⟩⟩
/-! ### _law_digits -/
abbrev N__law_digits : List Str := [("cell" : Str), ("many" : Str), ("left" : Str), ("found" : Str), ("k" : Str)]
def L1__law_digits : SF := (sSeq (sExpr (eAppend 3 (eOp pMod (aCons (eOp pInt (aCons (eVar 2) aNil)) (aCons (eC (.int (720720 : Int))) aNil))))) (sSet 2 (eOp pFdiv (aCons (eVar 2) (aCons (eC (.int (720720 : Int))) aNil)))))
def B__law_digits : SF := (sSeq (sSet 2 (eOp pAbs (aCons (eOp pInt (aCons (eVar 0) aNil)) aNil))) (sSeq (sSet 3 (eOp pLst aNil)) (sSeq (sFor (iRange rngA1 (aCons (eVar 1) aNil)) (bName 4) L1__law_digits) (sRet (eMove 3)))))
def F__law_digits : FF := fnF [0, 0] 5 B__law_digits
theorem sv__law_digits (hy : Hy g) : SVs g ⟨N__law_digits, defScope (top 12), 0, pnOf [0, 0], false, false, none⟩ (defBody (top 12)) B__law_digits := (svs_cons (sv_set (i := 2) rfl rfl (by decide) rfl (ev_abs rfl (av_cons rfl (ev_intc rfl (av_cons rfl (ev_var (i := 0) rfl (vis_of rfl) rfl rfl) av_nil) ⟨rfl, rfl⟩ hy.m_int) av_nil) ⟨rfl, rfl⟩ hy.m_abs)) (svs_cons (sv_set (i := 3) rfl rfl (by decide) rfl (ev_lst av_nil)) (svs_cons (sv_for rfl rfl (iv_rng1 rfl ⟨rfl, rfl⟩ hy.m_range (av_cons rfl (ev_var (i := 1) rfl (vis_of rfl) rfl rfl) av_nil)) (gv_name (i := 4) rfl rfl) (by decide) (svs_cons (sv_expr rfl (ev_append (i := 3) rfl (vis_of rfl) rfl rfl rfl rfl (ev_mod (ev_intc rfl (av_cons rfl (ev_var (i := 2) rfl (vis_of rfl) rfl rfl) av_nil) ⟨rfl, rfl⟩ hy.m_int) ev_int))) (svs_one (sv_set (i := 2) rfl rfl (by decide) rfl (ev_fdiv (ev_var (i := 2) rfl (vis_of rfl) rfl rfl) ev_int))))) (svs_one (sv_ret (ev_move (i := 3) rfl (vis_of rfl) rfl rfl))))))
theorem ca__law_digits (hy : Hy g) : Callee g ("_law_digits" : Str) [0, 0] F__law_digits 1 := ⟨rfl, by
  obtain ⟨a, fd, hm, F⟩ := hy.d__law_digits
  exact ⟨a, fd, [("cell" : Str), ("many" : Str)], hm, F.kp, F.bindsN (fun _ _ _ _ _ _ us hl => match us, hl with | [_, _], _ => rfl), fn_ok (N := N__law_digits) F ⟨rfl, rfl, rfl, by decide +kernel, rfl, by decide +kernel, by decide +kernel⟩ rfl (sv__law_digits hy)⟩⟩
/-! ### _law_mixed -/
abbrev N__law_mixed : List Str := [("cell" : Str), ("many" : Str), ("found" : Str), ("x" : Str), ("k" : Str)]
def L1__law_mixed : SF := (sSeq (sSet 3 (eOp pMod (aCons (eOp pInt (aCons (eOp pAdd (aCons (eOp pMul (aCons (eVar 3) (aCons (eC (.int (48271 : Int))) aNil))) (aCons (eC (.int (11 : Int))) aNil))) aNil)) (aCons (eC (.int (2147483647 : Int))) aNil)))) (sExpr (eAppend 2 (eOp pMod (aCons (eOp pInt (aCons (eOp pMod (aCons (eOp pInt (aCons (eOp pAdd (aCons (eOp pMul (aCons (eVar 3) (aCons (eVar 3) aNil))) (aCons (eOp pMul (aCons (eVar 4) (aCons (eC (.int (69621 : Int))) aNil))) aNil))) aNil)) (aCons (eC (.int (998244353 : Int))) aNil))) aNil)) (aCons (eC (.int (720720 : Int))) aNil))))))
def B__law_mixed : SF := (sSeq (sSet 2 (eOp pLst (aCons (eOp pMod (aCons (eOp pInt (aCons (eVar 0) aNil)) (aCons (eC (.int (720720 : Int))) aNil))) aNil))) (sSeq (sSet 3 (eOp pMod (aCons (eOp pInt (aCons (eVar 0) aNil)) (aCons (eC (.int (2147483647 : Int))) aNil)))) (sSeq (sFor (iRange rngA1 (aCons (eVar 1) aNil)) (bName 4) L1__law_mixed) (sRet (eMove 2)))))
def F__law_mixed : FF := fnF [0, 0] 5 B__law_mixed
theorem sv__law_mixed (hy : Hy g) : SVs g ⟨N__law_mixed, defScope (top 13), 0, pnOf [0, 0], false, false, none⟩ (defBody (top 13)) B__law_mixed := (svs_cons (sv_set (i := 2) rfl rfl (by decide) rfl (ev_lst (av_cons rfl (ev_mod (ev_intc rfl (av_cons rfl (ev_var (i := 0) rfl (vis_of rfl) rfl rfl) av_nil) ⟨rfl, rfl⟩ hy.m_int) ev_int) av_nil))) (svs_cons (sv_set (i := 3) rfl rfl (by decide) rfl (ev_mod (ev_intc rfl (av_cons rfl (ev_var (i := 0) rfl (vis_of rfl) rfl rfl) av_nil) ⟨rfl, rfl⟩ hy.m_int) ev_int)) (svs_cons (sv_for rfl rfl (iv_rng1 rfl ⟨rfl, rfl⟩ hy.m_range (av_cons rfl (ev_var (i := 1) rfl (vis_of rfl) rfl rfl) av_nil)) (gv_name (i := 4) rfl rfl) (by decide) (svs_cons (sv_set (i := 3) rfl rfl (by decide) rfl (ev_mod (ev_intc rfl (av_cons rfl (ev_add (ev_mul (ev_var (i := 3) rfl (vis_of rfl) rfl rfl) ev_int) ev_int) av_nil) ⟨rfl, rfl⟩ hy.m_int) ev_int)) (svs_one (sv_expr rfl (ev_append (i := 2) rfl (vis_of rfl) rfl rfl rfl rfl (ev_mod (ev_intc rfl (av_cons rfl (ev_mod (ev_intc rfl (av_cons rfl (ev_add (ev_mul (ev_var (i := 3) rfl (vis_of rfl) rfl rfl) (ev_var (i := 3) rfl (vis_of rfl) rfl rfl)) (ev_mul (ev_var (i := 4) rfl (vis_of rfl) rfl rfl) ev_int)) av_nil) ⟨rfl, rfl⟩ hy.m_int) ev_int) av_nil) ⟨rfl, rfl⟩ hy.m_int) ev_int)))))) (svs_one (sv_ret (ev_move (i := 2) rfl (vis_of rfl) rfl rfl))))))
theorem ca__law_mixed (hy : Hy g) : Callee g ("_law_mixed" : Str) [0, 0] F__law_mixed 1 := ⟨rfl, by
  obtain ⟨a, fd, hm, F⟩ := hy.d__law_mixed
  exact ⟨a, fd, [("cell" : Str), ("many" : Str)], hm, F.kp, F.bindsN (fun _ _ _ _ _ _ us hl => match us, hl with | [_, _], _ => rfl), fn_ok (N := N__law_mixed) F ⟨rfl, rfl, rfl, by decide +kernel, rfl, by decide +kernel, by decide +kernel⟩ rfl (sv__law_mixed hy)⟩⟩
/-! ### _law_numbers -/
abbrev N__law_numbers : List Str := [("script" : Str), ("count" : Str), ("cells" : Str), ("each" : Str), ("rows" : Str), ("cell" : Str), ("t" : Str)]
def L1__law_numbers : SF := (sIf (tOf (eOp pGe (aCons (eOp pAbs (aCons (eVar 5) aNil)) (aCons (eOp pPow (aCons (eC (.int (10 : Int))) (aCons (eC (.int (18 : Int))) aNil))) aNil)))) (sExpr (eAppend 4 (eFrz (eCall [0, 0] [none, none] F__law_digits (aCons (eVar 5) (aCons (eVar 3) aNil)))))) (sExpr (eAppend 4 (eFrz (eCall [0, 0] [none, none] F__law_mixed (aCons (eOp pAbs (aCons (eVar 5) aNil)) (aCons (eVar 3) aNil)))))))
def B__law_numbers : SF := (sSeq (sFz 2 (sSet 2 (eLc [5] (iAny (eOp (pSlc false true) (aCons (eVar 0) (aConsT PV.isInt (eC (.int (63 : Int))) aNil)))) (bName 5) tsTrue (eOp pInt (aCons (eVar 5) aNil))))) (sSeq (sIf (tOf (eOp pEq (aCons (eOp pLen (aCons (eVar 2) aNil)) (aCons (eC (.int (0 : Int))) aNil)))) (sSet 2 (eFrz (eOp pLst (aCons (eC (.int (0 : Int))) aNil)))) sNil) (sSeq (sSet 3 (eOp pAdd (aCons (eOp pFdiv (aCons (eVar 1) (aCons (eOp pLen (aCons (eVar 2) aNil)) aNil))) (aCons (eC (.int (1 : Int))) aNil)))) (sSeq (sSet 4 (eOp pLst aNil)) (sSeq (sFz 4 (sFor (iAny (eVar 2)) (bName 5) L1__law_numbers)) (sRet (eLc [6] (iRange rngA1 (aCons (eVar 1) aNil)) (bName 6) tsTrue (eOp pIx (aCons (eOp pIx (aCons (eVar 4) (aCons (eOp pMod (aCons (eOp pInt (aCons (eVar 6) aNil)) (aCons (eOp pLen (aCons (eVar 2) aNil)) aNil))) aNil))) (aCons (eOp pFdiv (aCons (eVar 6) (aCons (eOp pLen (aCons (eVar 2) aNil)) aNil))) aNil))))))))))
def F__law_numbers : FF := fnF [0, 0] 7 B__law_numbers
theorem sv__law_numbers (hy : Hy g) : SVs g ⟨N__law_numbers, defScope (top 14), 1, pnOf [0, 0], false, false, none⟩ (defBody (top 14)) B__law_numbers := (svs_cons (sv_fz (by decide) (sv_setC (i := 2) rfl rfl (by decide) (fun env h => by cases env; cases h; rfl) (ev_lc (own := [(("cell" : Str), 5)]) (sl := [5]) rfl rfl rfl (by decide) (iv_any (ev_sl01 (ev_var (i := 0) rfl (vis_of rfl) rfl rfl) ev_int)) (gv_name (i := 5) rfl rfl) .nil (ev_intc rfl (av_cons rfl (ev_var (i := 5) rfl (vis_of rfl) rfl rfl) av_nil) ⟨rfl, rfl⟩ hy.m_int)))) (svs_cons (sv_if (tv_eq rfl (ev_len rfl (av_cons rfl (ev_var (i := 2) rfl (vis_of rfl) rfl rfl) av_nil) ⟨rfl, rfl⟩ hy.m_len) ev_int) (svs_one (sv_set (i := 2) rfl rfl (by decide) rfl (ev_frzT (ev_lst (av_cons rfl ev_int av_nil))))) svs_nil) (svs_cons (sv_set (i := 3) rfl rfl (by decide) rfl (ev_add (ev_fdiv (ev_var (i := 1) rfl (vis_of rfl) rfl rfl) (ev_len rfl (av_cons rfl (ev_var (i := 2) rfl (vis_of rfl) rfl rfl) av_nil) ⟨rfl, rfl⟩ hy.m_len)) ev_int)) (svs_cons (sv_set (i := 4) rfl rfl (by decide) rfl (ev_lst av_nil)) (svs_cons (sv_fz (by decide) (sv_for rfl rfl (iv_any (ev_var (i := 2) rfl (vis_of rfl) rfl rfl)) (gv_name (i := 5) rfl rfl) (by decide) (svs_one (sv_if (tv_ge rfl (ev_abs rfl (av_cons rfl (ev_var (i := 5) rfl (vis_of rfl) rfl rfl) av_nil) ⟨rfl, rfl⟩ hy.m_abs) (ev_pow ev_int ev_int)) (svs_one (sv_expr rfl (ev_append (i := 4) rfl (vis_of rfl) rfl rfl rfl rfl (ev_frzT (ev_call (ca__law_digits hy) ⟨rfl, rfl⟩ (by first | exact Nat.le_refl _ | decide | exact Nat.le_of_ble_eq_true rfl | (show _ ≤ _; omega)) rfl (am_cons rfl (ev_var (i := 5) rfl (vis_of rfl) rfl rfl) (am_cons rfl (ev_var (i := 3) rfl (vis_of rfl) rfl rfl) am_nil)) rfl))))) (svs_one (sv_expr rfl (ev_append (i := 4) rfl (vis_of rfl) rfl rfl rfl rfl (ev_frzT (ev_call (ca__law_mixed hy) ⟨rfl, rfl⟩ (by first | exact Nat.le_refl _ | decide | exact Nat.le_of_ble_eq_true rfl | (show _ ≤ _; omega)) rfl (am_cons rfl (ev_abs rfl (av_cons rfl (ev_var (i := 5) rfl (vis_of rfl) rfl rfl) av_nil) ⟨rfl, rfl⟩ hy.m_abs) (am_cons rfl (ev_var (i := 3) rfl (vis_of rfl) rfl rfl) am_nil)) rfl))))))))) (svs_one (sv_ret (ev_lc (own := [(("t" : Str), 6)]) (sl := [6]) rfl rfl rfl (by decide) (iv_rng1 rfl ⟨rfl, rfl⟩ hy.m_range (av_cons rfl (ev_var (i := 1) rfl (vis_of rfl) rfl rfl) av_nil)) (gv_name (i := 6) rfl rfl) .nil (ev_ix rfl (ev_ix rfl (ev_var (i := 4) rfl (vis_of rfl) rfl rfl) (ev_mod (ev_intc rfl (av_cons rfl (ev_var (i := 6) rfl (vis_of rfl) rfl rfl) av_nil) ⟨rfl, rfl⟩ hy.m_int) (ev_len rfl (av_cons rfl (ev_var (i := 2) rfl (vis_of rfl) rfl rfl) av_nil) ⟨rfl, rfl⟩ hy.m_len))) (ev_fdiv (ev_var (i := 6) rfl (vis_of rfl) rfl rfl) (ev_len rfl (av_cons rfl (ev_var (i := 2) rfl (vis_of rfl) rfl rfl) av_nil) ⟨rfl, rfl⟩ hy.m_len)))))))))))
theorem ca__law_numbers (hy : Hy g) : Callee g ("_law_numbers" : Str) [0, 0] F__law_numbers 2 := ⟨rfl, by
  obtain ⟨a, fd, hm, F⟩ := hy.d__law_numbers
  exact ⟨a, fd, [("script" : Str), ("count" : Str)], hm, F.kp, F.bindsN (fun _ _ _ _ _ _ us hl => match us, hl with | [_, _], _ => rfl), fn_ok (N := N__law_numbers) F ⟨rfl, rfl, rfl, by decide +kernel, rfl, by decide +kernel, by decide +kernel⟩ rfl (sv__law_numbers hy)⟩⟩
/-! ### _law_next -/
abbrev N__law_next : List Str := [("numbers" : Str), ("many" : Str)]
def B__law_next : SF := (sSeq (sIf (tOf (eOp pEq (aCons (eOp pLen (aCons (eVar 0) aNil)) (aCons (eC (.int (0 : Int))) aNil)))) (sRet (eC (.int (0 : Int)))) sNil) (sRet (eOp pMod (aCons (eOp pInt (aCons (ePop0 0) aNil)) (aCons (eVar 1) aNil)))))
def F__law_next : FF := fnF [1, 0] 2 B__law_next
theorem sv__law_next (hy : Hy g) : SVs g ⟨N__law_next, defScope (top 15), 0, pnOf [1, 0], false, false, none⟩ (defBody (top 15)) B__law_next := (svs_cons (sv_if (tv_eq rfl (ev_len rfl (av_cons rfl (ev_var (i := 0) rfl (vis_of rfl) rfl rfl) av_nil) ⟨rfl, rfl⟩ hy.m_len) ev_int) (svs_one (sv_ret ev_int)) svs_nil) (svs_one (sv_ret (ev_mod (ev_intc rfl (av_cons rfl (ev_pop0 (i := 0) rfl (vis_of rfl) rfl rfl rfl) av_nil) ⟨rfl, rfl⟩ hy.m_int) (ev_var (i := 1) rfl (vis_of rfl) rfl rfl)))))
theorem ca__law_next (hy : Hy g) : Callee g ("_law_next" : Str) [1, 0] F__law_next 1 := ⟨rfl, by
  obtain ⟨a, fd, hm, F⟩ := hy.d__law_next
  exact ⟨a, fd, [("numbers" : Str), ("many" : Str)], hm, F.kp, F.bindsN (fun _ _ _ _ _ _ us hl => match us, hl with | [_, _], _ => rfl), fn_ok (N := N__law_next) F ⟨rfl, rfl, rfl, by decide +kernel, rfl, by decide +kernel, by decide +kernel⟩ rfl (sv__law_next hy)⟩⟩
/-! ### _law_names -/
abbrev N__law_names : List Str := [("numbers" : Str), ("many" : Str), ("letters" : Str), ("start" : Str), ("found" : Str), ("k" : Str), ("tail" : Str), ("name" : Str)]
def L1__law_names : SF := (sSeq (sSet 6 (eCall [1, 0] [some 0, none] F__law_next (aMut 0 (aCons (eC (.int (200 : Int))) aNil)))) (sSeq (sSet 7 (eOp pIx (aCons (eVar 2) (aCons (eOp pMod (aCons (eOp pInt (aCons (eOp pAdd (aCons (eVar 3) (aCons (eOp pMul (aCons (eC (.int (5 : Int))) (aCons (eVar 5) aNil))) aNil))) aNil)) (aCons (eC (.int (26 : Int))) aNil))) aNil)))) (sSeq (sIf (tOf (eOp pLt (aCons (eVar 6) (aCons (eC (.int (100 : Int))) aNil)))) (sSet 7 (eOp pAdd (aCons (eVar 7) (aCons (eOp pStr (aCons (eVar 6) aNil)) aNil)))) sNil) (sExpr (eAppend 4 (eVar 7))))))
def B__law_names : SF := (sSeq (sSet 2 (eC (.str ("abcdefghijklmnopqrstuvwxyz" : Str)))) (sSeq (sSet 3 (eCall [1, 0] [some 0, none] F__law_next (aMut 0 (aCons (eC (.int (26 : Int))) aNil)))) (sSeq (sSet 4 (eOp pLst aNil)) (sSeq (sFor (iRange rngA1 (aCons (eVar 1) aNil)) (bName 5) L1__law_names) (sRet (eMove 4))))))
def F__law_names : FF := fnF [1, 0] 8 B__law_names
theorem sv__law_names (hy : Hy g) : SVs g ⟨N__law_names, defScope (top 16), 1, pnOf [1, 0], false, false, none⟩ (defBody (top 16)) B__law_names := (svs_cons (sv_set (i := 2) rfl rfl (by decide) rfl ev_str) (svs_cons (sv_set (i := 3) rfl rfl (by decide) rfl (ev_call (ca__law_next hy) ⟨rfl, rfl⟩ (by first | exact Nat.le_refl _ | decide | exact Nat.le_of_ble_eq_true rfl | (show _ ≤ _; omega)) rfl (am_mut (i := 0) rfl (vis_of rfl) rfl rfl (am_cons rfl ev_int am_nil)) rfl)) (svs_cons (sv_set (i := 4) rfl rfl (by decide) rfl (ev_lst av_nil)) (svs_cons (sv_for rfl rfl (iv_rng1 rfl ⟨rfl, rfl⟩ hy.m_range (av_cons rfl (ev_var (i := 1) rfl (vis_of rfl) rfl rfl) av_nil)) (gv_name (i := 5) rfl rfl) (by decide) (svs_cons (sv_set (i := 6) rfl rfl (by decide) rfl (ev_call (ca__law_next hy) ⟨rfl, rfl⟩ (by first | exact Nat.le_refl _ | decide | exact Nat.le_of_ble_eq_true rfl | (show _ ≤ _; omega)) rfl (am_mut (i := 0) rfl (vis_of rfl) rfl rfl (am_cons rfl ev_int am_nil)) rfl)) (svs_cons (sv_set (i := 7) rfl rfl (by decide) rfl (ev_ix rfl (ev_var (i := 2) rfl (vis_of rfl) rfl rfl) (ev_mod (ev_intc rfl (av_cons rfl (ev_add (ev_var (i := 3) rfl (vis_of rfl) rfl rfl) (ev_mul ev_int (ev_var (i := 5) rfl (vis_of rfl) rfl rfl))) av_nil) ⟨rfl, rfl⟩ hy.m_int) ev_int))) (svs_cons (sv_if (tv_lt rfl (ev_var (i := 6) rfl (vis_of rfl) rfl rfl) ev_int) (svs_one (sv_set (i := 7) rfl rfl (by decide) rfl (ev_add (ev_var (i := 7) rfl (vis_of rfl) rfl rfl) (ev_strc rfl (av_cons rfl (ev_var (i := 6) rfl (vis_of rfl) rfl rfl) av_nil) ⟨rfl, rfl⟩ hy.m_str)))) svs_nil) (svs_one (sv_expr rfl (ev_append (i := 4) rfl (vis_of rfl) rfl rfl rfl rfl (ev_var (i := 7) rfl (vis_of rfl) rfl rfl)))))))) (svs_one (sv_ret (ev_move (i := 4) rfl (vis_of rfl) rfl rfl)))))))
theorem ca__law_names (hy : Hy g) : Callee g ("_law_names" : Str) [1, 0] F__law_names 2 := ⟨rfl, by
  obtain ⟨a, fd, hm, F⟩ := hy.d__law_names
  exact ⟨a, fd, [("numbers" : Str), ("many" : Str)], hm, F.kp, F.bindsN (fun _ _ _ _ _ _ us hl => match us, hl with | [_, _], _ => rfl), fn_ok (N := N__law_names) F ⟨rfl, rfl, rfl, by decide +kernel, rfl, by decide +kernel, by decide +kernel⟩ rfl (sv__law_names hy)⟩⟩
/-! ### _law_copy -/
abbrev N__law_copy : List Str := [("shop" : Str), ("found" : Str), ("key" : Str)]
def L1__law_copy : SF := (sPut 1 (eVar 2) (eOp pIxD (aCons (eVar 0) (aCons (eVar 2) aNil))))
def B__law_copy : SF := (sSeq (sSet 1 eDNew) (sSeq (sFor (iAnyD (eVar 0)) (bName 2) L1__law_copy) (sRet (eMove 1))))
def F__law_copy : FF := fnF [0] 3 B__law_copy
theorem sv__law_copy (hy : Hy g) : SVs g ⟨N__law_copy, defScope (top 17), 0, pnOf [0], false, false, none⟩ (defBody (top 17)) B__law_copy := (svs_cons (sv_set (i := 1) rfl rfl (by decide) rfl ev_dnew) (svs_cons (sv_for rfl rfl (iv_anyD (ev_var (i := 0) rfl (vis_of rfl) rfl rfl)) (gv_name (i := 2) rfl rfl) (by decide) (svs_one (sv_put (i := 1) rfl (vis_of rfl) rfl rfl rfl (fun _ => rfl) (fun _ => rfl) (fun _ _ => rfl) (ev_var (i := 2) rfl (vis_of rfl) rfl rfl) (ev_ixD rfl (ev_var (i := 0) rfl (vis_of rfl) rfl rfl) (ev_var (i := 2) rfl (vis_of rfl) rfl rfl))))) (svs_one (sv_ret (ev_move (i := 1) rfl (vis_of rfl) rfl rfl)))))
theorem ca__law_copy (hy : Hy g) : Callee g ("_law_copy" : Str) [0] F__law_copy 1 := ⟨rfl, by
  obtain ⟨a, fd, hm, F⟩ := hy.d__law_copy
  exact ⟨a, fd, [("shop" : Str)], hm, F.kp, F.bindsN (fun _ _ _ _ _ _ us hl => match us, hl with | [_], _ => rfl), fn_ok (N := N__law_copy) F ⟨rfl, rfl, rfl, by decide +kernel, rfl, by decide +kernel, by decide +kernel⟩ rfl (sv__law_copy hy)⟩⟩
/-! ### _law_body -/
abbrev N__law_body : List Str := [("numbers" : Str), ("kind" : Str), ("parts" : Str), ("lines" : Str), ("k" : Str), ("seat" : Str), ("line" : Str)]
def L1__law_body : SF := (sSeq (sSet 5 (eOp pIx (aCons (eC (.str ("suvwx" : Str))) (aCons (eCall [1, 0] [some 0, none] F__law_next (aMut 0 (aCons (eC (.int (5 : Int))) aNil))) aNil)))) (sIf (tOf (eOp (inOp true) (aCons (eVar 5) (aCons (eLcB [6] 3 (bName 6) tsTrue (eOp pIx (aCons (eVar 6) (aCons (eC (.int (0 : Int))) aNil)))) aNil)))) (sExpr (eAppend 3 (eOp pTup (aCons (eVar 5) (aCons (eOp pAdd (aCons (eC (.int (1 : Int))) (aCons (eCall [1, 0] [some 0, none] F__law_next (aMut 0 (aCons (eC (.int (2 : Int))) aNil))) aNil))) (aCons (eOp pTup (aCons (eOp pIx (aCons (eVar 2) (aCons (eCall [1, 0] [some 0, none] F__law_next (aMut 0 (aCons (eC (.int (3 : Int))) aNil))) aNil))) aNil)) aNil)))))) sNil))
def B__law_body : SF := (sSeq (sIf (tOf (eOp pEq (aCons (eVar 1) (aCons (eC (.str ("drawing" : Str))) aNil)))) (sRet (eOp pTup (aCons (eOp pTup (aCons (eC (.str ("a" : Str))) (aCons (eC (.str ("b" : Str))) aNil))) (aCons (eOp pTup (aCons (eOp pTup (aCons (eC (.str ("d" : Str))) (aCons (eC (.str ("a" : Str))) (aCons (eC (.str ("b" : Str))) (aCons (eOp pTup (aCons (eC (.int (0 : Int))) (aCons (eC (.int (1 : Int))) aNil))) (aCons (eOp pTup (aCons (eCall [1, 0] [some 0, none] F__law_next (aMut 0 (aCons (eC (.int (9 : Int))) aNil))) (aCons (eC (.int (1 : Int))) aNil))) aNil)))))) aNil)) (aCons (eOp pTup aNil) aNil))))) sNil) (sSeq (sIf (tOf (eOp pEq (aCons (eVar 1) (aCons (eC (.str ("routing" : Str))) aNil)))) (sRet (eOp pTup (aCons (eOp pTup (aCons (eC (.str ("cut" : Str))) (aCons (eC (.str ("saw" : Str))) (aCons (eOp pTup (aCons (eC (.str ("m" : Str))) aNil)) (aCons (eC (.str ("" : Str))) (aCons (eC (.int (0 : Int))) (aCons (eCall [1, 0] [some 0, none] F__law_next (aMut 0 (aCons (eC (.int (5 : Int))) aNil))) (aCons (eOp pAdd (aCons (eC (.int (1 : Int))) (aCons (eCall [1, 0] [some 0, none] F__law_next (aMut 0 (aCons (eC (.int (5 : Int))) aNil))) aNil))) aNil)))))))) aNil))) sNil) (sSeq (sSet 3 (eOp pLst aNil)) (sSeq (sFor (iRange rngA1 (aCons (eOp pAdd (aCons (eC (.int (1 : Int))) (aCons (eCall [1, 0] [some 0, none] F__law_next (aMut 0 (aCons (eC (.int (5 : Int))) aNil))) aNil))) aNil)) (bName 4) L1__law_body) (sRet (eOp pTuple (aCons (eVar 3) aNil)))))))
def F__law_body : FF := fnF [1, 0, 0] 7 B__law_body
theorem sv__law_body (hy : Hy g) : SVs g ⟨N__law_body, defScope (top 18), 1, pnOf [1, 0, 0], false, false, none⟩ (defBody (top 18)) B__law_body := (svs_cons (sv_if (tv_eq rfl (ev_var (i := 1) rfl (vis_of rfl) rfl rfl) ev_str) (svs_one (sv_ret (ev_tup (av_cons rfl (ev_tup (av_cons rfl ev_str (av_cons rfl ev_str av_nil))) (av_cons rfl (ev_tup (av_cons rfl (ev_tup (av_cons rfl ev_str (av_cons rfl ev_str (av_cons rfl ev_str (av_cons rfl (ev_tup (av_cons rfl ev_int (av_cons rfl ev_int av_nil))) (av_cons rfl (ev_tup (av_cons rfl (ev_call (ca__law_next hy) ⟨rfl, rfl⟩ (by first | exact Nat.le_refl _ | decide | exact Nat.le_of_ble_eq_true rfl | (show _ ≤ _; omega)) rfl (am_mut (i := 0) rfl (vis_of rfl) rfl rfl (am_cons rfl ev_int am_nil)) rfl) (av_cons rfl ev_int av_nil))) av_nil)))))) av_nil)) (av_cons rfl (ev_tup av_nil) av_nil)))))) svs_nil) (svs_cons (sv_if (tv_eq rfl (ev_var (i := 1) rfl (vis_of rfl) rfl rfl) ev_str) (svs_one (sv_ret (ev_tup (av_cons rfl (ev_tup (av_cons rfl ev_str (av_cons rfl ev_str (av_cons rfl (ev_tup (av_cons rfl ev_str av_nil)) (av_cons rfl ev_str (av_cons rfl ev_int (av_cons rfl (ev_call (ca__law_next hy) ⟨rfl, rfl⟩ (by first | exact Nat.le_refl _ | decide | exact Nat.le_of_ble_eq_true rfl | (show _ ≤ _; omega)) rfl (am_mut (i := 0) rfl (vis_of rfl) rfl rfl (am_cons rfl ev_int am_nil)) rfl) (av_cons rfl (ev_add ev_int (ev_call (ca__law_next hy) ⟨rfl, rfl⟩ (by first | exact Nat.le_refl _ | decide | exact Nat.le_of_ble_eq_true rfl | (show _ ≤ _; omega)) rfl (am_mut (i := 0) rfl (vis_of rfl) rfl rfl (am_cons rfl ev_int am_nil)) rfl)) av_nil)))))))) av_nil)))) svs_nil) (svs_cons (sv_set (i := 3) rfl rfl (by decide) rfl (ev_lst av_nil)) (svs_cons (sv_for rfl rfl (iv_rng1 rfl ⟨rfl, rfl⟩ hy.m_range (av_cons rfl (ev_add ev_int (ev_call (ca__law_next hy) ⟨rfl, rfl⟩ (by first | exact Nat.le_refl _ | decide | exact Nat.le_of_ble_eq_true rfl | (show _ ≤ _; omega)) rfl (am_mut (i := 0) rfl (vis_of rfl) rfl rfl (am_cons rfl ev_int am_nil)) rfl)) av_nil)) (gv_name (i := 4) rfl rfl) (by decide) (svs_cons (sv_set (i := 5) rfl rfl (by decide) rfl (ev_ix rfl ev_str (ev_call (ca__law_next hy) ⟨rfl, rfl⟩ (by first | exact Nat.le_refl _ | decide | exact Nat.le_of_ble_eq_true rfl | (show _ ≤ _; omega)) rfl (am_mut (i := 0) rfl (vis_of rfl) rfl rfl (am_cons rfl ev_int am_nil)) rfl))) (svs_one (sv_if (tv_notIn rfl (ev_var (i := 5) rfl (vis_of rfl) rfl rfl) (ev_lcB (i := 3) (own := [(("line" : Str), 6)]) (sl := [6]) rfl rfl (vis_of rfl) rfl rfl rfl (by decide) (gv_name (i := 6) rfl rfl) .nil (ev_ix rfl (ev_var (i := 6) rfl (vis_of rfl) rfl rfl) ev_int))) (svs_one (sv_expr rfl (ev_append (i := 3) rfl (vis_of rfl) rfl rfl rfl rfl (ev_tup (av_cons rfl (ev_var (i := 5) rfl (vis_of rfl) rfl rfl) (av_cons rfl (ev_add ev_int (ev_call (ca__law_next hy) ⟨rfl, rfl⟩ (by first | exact Nat.le_refl _ | decide | exact Nat.le_of_ble_eq_true rfl | (show _ ≤ _; omega)) rfl (am_mut (i := 0) rfl (vis_of rfl) rfl rfl (am_cons rfl ev_int am_nil)) rfl)) (av_cons rfl (ev_tup (av_cons rfl (ev_ix rfl (ev_var (i := 2) rfl (vis_of rfl) rfl rfl) (ev_call (ca__law_next hy) ⟨rfl, rfl⟩ (by first | exact Nat.le_refl _ | decide | exact Nat.le_of_ble_eq_true rfl | (show _ ≤ _; omega)) rfl (am_mut (i := 0) rfl (vis_of rfl) rfl rfl (am_cons rfl ev_int am_nil)) rfl)) av_nil)) av_nil))))))) svs_nil)))) (svs_one (sv_ret (ev_tuple rfl (av_cons rfl (ev_var (i := 3) rfl (vis_of rfl) rfl rfl) av_nil) ⟨rfl, rfl⟩ hy.m_tuple)))))))
theorem ca__law_body (hy : Hy g) : Callee g ("_law_body" : Str) [1, 0, 0] F__law_body 2 := ⟨rfl, by
  obtain ⟨a, fd, hm, F⟩ := hy.d__law_body
  exact ⟨a, fd, [("numbers" : Str), ("kind" : Str), ("parts" : Str)], hm, F.kp, F.bindsN (fun _ _ _ _ _ _ us hl => match us, hl with | [_, _, _], _ => rfl), fn_ok (N := N__law_body) F ⟨rfl, rfl, rfl, by decide +kernel, rfl, by decide +kernel, by decide +kernel⟩ rfl (sv__law_body hy)⟩⟩
/-! ### _law_lots -/
abbrev N__law_lots : List Str := [("shop" : Str), ("kind" : Str), ("name" : Str), ("key" : Str)]
def B__law_lots : SF := (sRet (eOp pSort (aCons (eFrz (eLc [3] (iAnyD (eVar 0)) (bName 3) (tSeqF true (tOf (eOp pEq (aCons (eOp pIx (aCons (eVar 3) (aCons (eC (.int (0 : Int))) aNil))) (aCons (eVar 1) aNil)))) (tOf (eOp pEq (aCons (eOp pIx (aCons (eVar 3) (aCons (eC (.int (1 : Int))) aNil))) (aCons (eVar 2) aNil))))) (eOp pIx (aCons (eVar 3) (aCons (eC (.int (2 : Int))) aNil))))) aNil)))
def F__law_lots : FF := fnF [0, 0, 0] 4 B__law_lots
theorem sv__law_lots (hy : Hy g) : SVs g ⟨N__law_lots, defScope (top 19), 0, pnOf [0, 0, 0], false, false, none⟩ (defBody (top 19)) B__law_lots := (svs_one (sv_ret (ev_sort rfl (av_cons rfl (ev_frzT (ev_lc (own := [(("key" : Str), 3)]) (sl := [3]) rfl rfl rfl (by decide) (iv_anyD (ev_var (i := 0) rfl (vis_of rfl) rfl rfl)) (gv_name (i := 3) rfl rfl) (.one ((tw_and (tv_eq rfl (ev_ix rfl (ev_var (i := 3) rfl (vis_of rfl) rfl rfl) ev_int) (ev_var (i := 1) rfl (vis_of rfl) rfl rfl)) (tw_and1 (tv_eq rfl (ev_ix rfl (ev_var (i := 3) rfl (vis_of rfl) rfl rfl) ev_int) (ev_var (i := 2) rfl (vis_of rfl) rfl rfl))))).tv) (ev_ix rfl (ev_var (i := 3) rfl (vis_of rfl) rfl rfl) ev_int))) av_nil) rfl ⟨rfl, rfl⟩ hy.m_sorted)))
theorem ca__law_lots (hy : Hy g) : Callee g ("_law_lots" : Str) [0, 0, 0] F__law_lots 1 := ⟨rfl, by
  obtain ⟨a, fd, hm, F⟩ := hy.d__law_lots
  exact ⟨a, fd, [("shop" : Str), ("kind" : Str), ("name" : Str)], hm, F.kp, F.bindsN (fun _ _ _ _ _ _ us hl => match us, hl with | [_, _, _], _ => rfl), fn_ok (N := N__law_lots) F ⟨rfl, rfl, rfl, by decide +kernel, rfl, by decide +kernel, by decide +kernel⟩ rfl (sv__law_lots hy)⟩⟩
/-! ### _law_best -/
abbrev N__law_best : List Str := [("shop" : Str), ("kind" : Str), ("name" : Str), ("number" : Str), ("lots" : Str), ("lot" : Str)]
def B__law_best : SF := (sSeq (sFz 4 (sSet 4 (eLc [5] (iAny (eCall [0, 0, 0] [none, none, none] F__law_lots (aCons (eVar 0) (aCons (eVar 1) (aCons (eVar 2) aNil))))) (bName 5) (tOf (eOp pLe (aCons (eVar 5) (aCons (eVar 3) aNil)))) (eVar 5)))) (sSeq (sIf (tOf (eOp pEq (aCons (eOp pLen (aCons (eVar 4) aNil)) (aCons (eC (.int (0 : Int))) aNil)))) (sRet (eC .non)) sNil) (sRet (eOp pTup (aCons (eOp pIx (aCons (eVar 4) (aCons (eOp pSub (aCons (eOp pLen (aCons (eVar 4) aNil)) (aCons (eC (.int (1 : Int))) aNil))) aNil))) (aCons (eOp pIxD (aCons (eVar 0) (aCons (eOp pTup (aCons (eVar 1) (aCons (eVar 2) (aCons (eOp pIx (aCons (eVar 4) (aCons (eOp pSub (aCons (eOp pLen (aCons (eVar 4) aNil)) (aCons (eC (.int (1 : Int))) aNil))) aNil))) aNil)))) aNil))) aNil))))))
def F__law_best : FF := fnF [0, 0, 0, 0] 6 B__law_best
theorem sv__law_best (hy : Hy g) : SVs g ⟨N__law_best, defScope (top 20), 1, pnOf [0, 0, 0, 0], false, false, none⟩ (defBody (top 20)) B__law_best := (svs_cons (sv_fz (by decide) (sv_lc (i := 4) (own := [(("lot" : Str), 5)]) (sl := [5]) rfl rfl rfl (by decide) (fun env h => by cases env; cases h; rfl) rfl rfl (by decide) (iv_any (ev_call (ca__law_lots hy) ⟨rfl, rfl⟩ (by first | exact Nat.le_refl _ | decide | exact Nat.le_of_ble_eq_true rfl | (show _ ≤ _; omega)) rfl (am_cons rfl (ev_var (i := 0) rfl (vis_of rfl) rfl rfl) (am_cons rfl (ev_var (i := 1) rfl (vis_of rfl) rfl rfl) (am_cons rfl (ev_var (i := 2) rfl (vis_of rfl) rfl rfl) am_nil))) rfl)) (gv_name (i := 5) rfl rfl) (.one (tv_le rfl (ev_var (i := 5) rfl (vis_of rfl) rfl rfl) (ev_var (i := 3) rfl (vis_of rfl) rfl rfl))) (ev_var (i := 5) rfl (vis_of rfl) rfl rfl))) (svs_cons (sv_if (tv_eq rfl (ev_len rfl (av_cons rfl (ev_var (i := 4) rfl (vis_of rfl) rfl rfl) av_nil) ⟨rfl, rfl⟩ hy.m_len) ev_int) (svs_one (sv_ret ev_non)) svs_nil) (svs_one (sv_ret (ev_tup (av_cons rfl (ev_ix rfl (ev_var (i := 4) rfl (vis_of rfl) rfl rfl) (ev_sub (ev_len rfl (av_cons rfl (ev_var (i := 4) rfl (vis_of rfl) rfl rfl) av_nil) ⟨rfl, rfl⟩ hy.m_len) ev_int)) (av_cons rfl (ev_ixD rfl (ev_var (i := 0) rfl (vis_of rfl) rfl rfl) (ev_tup (av_cons rfl (ev_var (i := 1) rfl (vis_of rfl) rfl rfl) (av_cons rfl (ev_var (i := 2) rfl (vis_of rfl) rfl rfl) (av_cons rfl (ev_ix rfl (ev_var (i := 4) rfl (vis_of rfl) rfl rfl) (ev_sub (ev_len rfl (av_cons rfl (ev_var (i := 4) rfl (vis_of rfl) rfl rfl) av_nil) ⟨rfl, rfl⟩ hy.m_len) ev_int)) av_nil))))) av_nil)))))))
theorem ca__law_best (hy : Hy g) : Callee g ("_law_best" : Str) [0, 0, 0, 0] F__law_best 2 := ⟨rfl, by
  obtain ⟨a, fd, hm, F⟩ := hy.d__law_best
  exact ⟨a, fd, [("shop" : Str), ("kind" : Str), ("name" : Str), ("number" : Str)], hm, F.kp, F.bindsN (fun _ _ _ _ _ _ us hl => match us, hl with | [_, _, _, _], _ => rfl), fn_ok (N := N__law_best) F ⟨rfl, rfl, rfl, by decide +kernel, rfl, by decide +kernel, by decide +kernel⟩ rfl (sv__law_best hy)⟩⟩
/-! ### _law_told -/
abbrev N__law_told : List Str := [("shop" : Str), ("kind" : Str), ("name" : Str), ("number" : Str), ("e" : Str)]
def B__law_told : SF := (sTry (sRet (eCall [0, 0, 0, 0] [none, none, none, none] F_holding (aCons (eVar 0) (aCons (eVar 1) (aCons (eVar 2) (aCons (eVar 3) aNil)))))) [⟨[("MissingVersion" : Str)], [], some 4, fun a_ d_ c_ => (sSeq (sIf (tOf (eOp pEq (aCons (eOp pTup (aCons (eXf a_ d_ c_ ("kind" : Str) 4) (aCons (eXf a_ d_ c_ ("name" : Str) 4) (aCons (eXf a_ d_ c_ ("number" : Str) 4) aNil)))) (aCons (eOp pTup (aCons (eVar 1) (aCons (eVar 2) (aCons (eVar 3) aNil)))) aNil)))) (sRet (eC .non)) sNil) (sRet (eOp pTup (aCons (eC (.str ("refused" : Str))) aNil))))⟩])
def F__law_told : FF := fnF [0, 0, 0, 0] 5 B__law_told
theorem sv__law_told (hy : Hy g) : SVs g ⟨N__law_told, defScope (top 21), 3, pnOf [0, 0, 0, 0], false, false, none⟩ (defBody (top 21)) B__law_told := (svs_one (sv_try (svs_one (sv_ret (ev_call (ca_holding hy) ⟨rfl, rfl⟩ (by first | exact Nat.le_refl _ | decide | exact Nat.le_of_ble_eq_true rfl | (show _ ≤ _; omega)) rfl (am_cons rfl (ev_var (i := 0) rfl (vis_of rfl) rfl rfl) (am_cons rfl (ev_var (i := 1) rfl (vis_of rfl) rfl rfl) (am_cons rfl (ev_var (i := 2) rfl (vis_of rfl) rfl rfl) (am_cons rfl (ev_var (i := 3) rfl (vis_of rfl) rfl rfl) am_nil)))) rfl))) rfl rfl (.named (i := 4) (hy.n_MissingVersion rfl rfl) (hy.e1_MissingVersion) (hy.e0_MissingVersion) rfl rfl (by decide) (fun a_ d_ c_ hc_ => (svs_cons (sv_if (tv_eq rfl (ev_tup (av_cons rfl (ev_xf (i := 4) (hy.xf_MissingVersion_kind c_ hc_) rfl rfl (vis_of rfl) rfl rfl) (av_cons rfl (ev_xf (i := 4) (hy.xf_MissingVersion_name c_ hc_) rfl rfl (vis_of rfl) rfl rfl) (av_cons rfl (ev_xf (i := 4) (hy.xf_MissingVersion_number c_ hc_) rfl rfl (vis_of rfl) rfl rfl) av_nil)))) (ev_tup (av_cons rfl (ev_var (i := 1) rfl (vis_of rfl) rfl rfl) (av_cons rfl (ev_var (i := 2) rfl (vis_of rfl) rfl rfl) (av_cons rfl (ev_var (i := 3) rfl (vis_of rfl) rfl rfl) av_nil))))) (svs_one (sv_ret ev_non)) svs_nil) (svs_one (sv_ret (ev_tup (av_cons rfl ev_str av_nil)))))) .nil)))
theorem ca__law_told (hy : Hy g) : Callee g ("_law_told" : Str) [0, 0, 0, 0] F__law_told 4 := ⟨rfl, by
  obtain ⟨a, fd, hm, F⟩ := hy.d__law_told
  exact ⟨a, fd, [("shop" : Str), ("kind" : Str), ("name" : Str), ("number" : Str)], hm, F.kp, F.bindsN (fun _ _ _ _ _ _ us hl => match us, hl with | [_, _, _, _], _ => rfl), fn_ok (N := N__law_told) F ⟨rfl, rfl, rfl, by decide +kernel, rfl, by decide +kernel, by decide +kernel⟩ rfl (sv__law_told hy)⟩⟩
/-! ### _law_stretches -/
abbrev N__law_stretches : List Str := [("shop" : Str), ("kind" : Str), ("name" : Str), ("lots" : Str), ("found" : Str), ("k" : Str), ("last" : Str)]
def L1__law_stretches : SF := (sSeq (sSet 6 (eC (.int (9999 : Int)))) (sSeq (sIf (tOf (eOp pLt (aCons (eOp pAdd (aCons (eVar 5) (aCons (eC (.int (1 : Int))) aNil))) (aCons (eOp pLen (aCons (eVar 3) aNil)) aNil)))) (sSet 6 (eOp pSub (aCons (eOp pIx (aCons (eVar 3) (aCons (eOp pAdd (aCons (eVar 5) (aCons (eC (.int (1 : Int))) aNil))) aNil))) (aCons (eC (.int (1 : Int))) aNil)))) sNil) (sExpr (eAppend 4 (eOp pTup (aCons (eOp pIx (aCons (eVar 3) (aCons (eVar 5) aNil))) (aCons (eVar 6) aNil)))))))
def B__law_stretches : SF := (sSeq (sSet 3 (eFrz (eCall [0, 0, 0] [none, none, none] F__law_lots (aCons (eVar 0) (aCons (eVar 1) (aCons (eVar 2) aNil)))))) (sSeq (sSet 4 (eOp pLst aNil)) (sSeq (sFor (iRange rngA1 (aCons (eOp pLen (aCons (eVar 3) aNil)) aNil)) (bName 5) L1__law_stretches) (sRet (eOp pTuple (aCons (eVar 4) aNil))))))
def F__law_stretches : FF := fnF [0, 0, 0] 7 B__law_stretches
theorem sv__law_stretches (hy : Hy g) : SVs g ⟨N__law_stretches, defScope (top 22), 1, pnOf [0, 0, 0], false, false, none⟩ (defBody (top 22)) B__law_stretches := (svs_cons (sv_set (i := 3) rfl rfl (by decide) rfl (ev_frzT (ev_call (ca__law_lots hy) ⟨rfl, rfl⟩ (by first | exact Nat.le_refl _ | decide | exact Nat.le_of_ble_eq_true rfl | (show _ ≤ _; omega)) rfl (am_cons rfl (ev_var (i := 0) rfl (vis_of rfl) rfl rfl) (am_cons rfl (ev_var (i := 1) rfl (vis_of rfl) rfl rfl) (am_cons rfl (ev_var (i := 2) rfl (vis_of rfl) rfl rfl) am_nil))) rfl))) (svs_cons (sv_set (i := 4) rfl rfl (by decide) rfl (ev_lst av_nil)) (svs_cons (sv_for rfl rfl (iv_rng1 rfl ⟨rfl, rfl⟩ hy.m_range (av_cons rfl (ev_len rfl (av_cons rfl (ev_var (i := 3) rfl (vis_of rfl) rfl rfl) av_nil) ⟨rfl, rfl⟩ hy.m_len) av_nil)) (gv_name (i := 5) rfl rfl) (by decide) (svs_cons (sv_set (i := 6) rfl rfl (by decide) rfl ev_int) (svs_cons (sv_if (tv_lt rfl (ev_add (ev_var (i := 5) rfl (vis_of rfl) rfl rfl) ev_int) (ev_len rfl (av_cons rfl (ev_var (i := 3) rfl (vis_of rfl) rfl rfl) av_nil) ⟨rfl, rfl⟩ hy.m_len)) (svs_one (sv_set (i := 6) rfl rfl (by decide) rfl (ev_sub (ev_ix rfl (ev_var (i := 3) rfl (vis_of rfl) rfl rfl) (ev_add (ev_var (i := 5) rfl (vis_of rfl) rfl rfl) ev_int)) ev_int))) svs_nil) (svs_one (sv_expr rfl (ev_append (i := 4) rfl (vis_of rfl) rfl rfl rfl rfl (ev_tup (av_cons rfl (ev_ix rfl (ev_var (i := 3) rfl (vis_of rfl) rfl rfl) (ev_var (i := 5) rfl (vis_of rfl) rfl rfl)) (av_cons rfl (ev_var (i := 6) rfl (vis_of rfl) rfl rfl) av_nil))))))))) (svs_one (sv_ret (ev_tuple rfl (av_cons rfl (ev_var (i := 4) rfl (vis_of rfl) rfl rfl) av_nil) ⟨rfl, rfl⟩ hy.m_tuple))))))
theorem ca__law_stretches (hy : Hy g) : Callee g ("_law_stretches" : Str) [0, 0, 0] F__law_stretches 2 := ⟨rfl, by
  obtain ⟨a, fd, hm, F⟩ := hy.d__law_stretches
  exact ⟨a, fd, [("shop" : Str), ("kind" : Str), ("name" : Str)], hm, F.kp, F.bindsN (fun _ _ _ _ _ _ us hl => match us, hl with | [_, _, _], _ => rfl), fn_ok (N := N__law_stretches) F ⟨rfl, rfl, rfl, by decide +kernel, rfl, by decide +kernel, by decide +kernel⟩ rfl (sv__law_stretches hy)⟩⟩
/-! ### _law_line -/
abbrev N__law_line : List Str := [("shop" : Str), ("part" : Str), ("number" : Str), ("seat" : Str), ("best" : Str), ("line" : Str)]
def L1__law_line : SF := (sIf (tOf (eOp pEq (aCons (eOp pIx (aCons (eVar 5) (aCons (eC (.int (0 : Int))) aNil))) (aCons (eVar 3) aNil)))) (sRet (eOp pTup (aCons (eOp pIx (aCons (eVar 5) (aCons (eC (.int (1 : Int))) aNil))) (aCons (eOp pIx (aCons (eVar 5) (aCons (eC (.int (2 : Int))) aNil))) aNil)))) sNil)
def B__law_line : SF := (sSeq (sSet 4 (eCall [0, 0, 0, 0] [none, none, none, none] F__law_best (aCons (eVar 0) (aCons (eC (.str ("bill" : Str))) (aCons (eVar 1) (aCons (eVar 2) aNil)))))) (sSeq (sIf (tOf (eOp (pIsN false) (aCons (eVar 4) (aCons (eC .non) aNil)))) (sRet (eOp pTup aNil)) sNil) (sSeq (sFor (iAny (eOp pIx (aCons (eVar 4) (aCons (eC (.int (1 : Int))) aNil)))) (bName 5) L1__law_line) (sRet (eOp pTup aNil)))))
def F__law_line : FF := fnF [0, 0, 0, 0] 6 B__law_line
theorem sv__law_line (hy : Hy g) : SVs g ⟨N__law_line, defScope (top 23), 2, pnOf [0, 0, 0, 0], false, false, none⟩ (defBody (top 23)) B__law_line := (svs_cons (sv_set (i := 4) rfl rfl (by decide) rfl (ev_call (ca__law_best hy) ⟨rfl, rfl⟩ (by first | exact Nat.le_refl _ | decide | exact Nat.le_of_ble_eq_true rfl | (show _ ≤ _; omega)) rfl (am_cons rfl (ev_var (i := 0) rfl (vis_of rfl) rfl rfl) (am_cons rfl ev_str (am_cons rfl (ev_var (i := 1) rfl (vis_of rfl) rfl rfl) (am_cons rfl (ev_var (i := 2) rfl (vis_of rfl) rfl rfl) am_nil)))) rfl)) (svs_cons (sv_if (tv_isN rfl (ev_var (i := 4) rfl (vis_of rfl) rfl rfl) ev_non) (svs_one (sv_ret (ev_tup av_nil))) svs_nil) (svs_cons (sv_for rfl rfl (iv_any (ev_ix rfl (ev_var (i := 4) rfl (vis_of rfl) rfl rfl) ev_int)) (gv_name (i := 5) rfl rfl) (by decide) (svs_one (sv_if (tv_eq rfl (ev_ix rfl (ev_var (i := 5) rfl (vis_of rfl) rfl rfl) ev_int) (ev_var (i := 3) rfl (vis_of rfl) rfl rfl)) (svs_one (sv_ret (ev_tup (av_cons rfl (ev_ix rfl (ev_var (i := 5) rfl (vis_of rfl) rfl rfl) ev_int) (av_cons rfl (ev_ix rfl (ev_var (i := 5) rfl (vis_of rfl) rfl rfl) ev_int) av_nil))))) svs_nil))) (svs_one (sv_ret (ev_tup av_nil))))))
theorem ca__law_line (hy : Hy g) : Callee g ("_law_line" : Str) [0, 0, 0, 0] F__law_line 3 := ⟨rfl, by
  obtain ⟨a, fd, hm, F⟩ := hy.d__law_line
  exact ⟨a, fd, [("shop" : Str), ("part" : Str), ("number" : Str), ("seat" : Str)], hm, F.kp, F.bindsN (fun _ _ _ _ _ _ us hl => match us, hl with | [_, _, _, _], _ => rfl), fn_ok (N := N__law_line) F ⟨rfl, rfl, rfl, by decide +kernel, rfl, by decide +kernel, by decide +kernel⟩ rfl (sv__law_line hy)⟩⟩
/-! ### _law_changes -/
abbrev N__law_changes : List Str := [("shop" : Str), ("part" : Str), ("first" : Str), ("second" : Str), ("found" : Str), ("seat" : Str), ("before" : Str), ("after" : Str)]
def L1__law_changes : SF := (sSeq (sSet 6 (eCall [0, 0, 0, 0] [none, none, none, none] F__law_line (aCons (eVar 0) (aCons (eVar 1) (aCons (eVar 2) (aCons (eVar 5) aNil)))))) (sSeq (sSet 7 (eCall [0, 0, 0, 0] [none, none, none, none] F__law_line (aCons (eVar 0) (aCons (eVar 1) (aCons (eVar 3) (aCons (eVar 5) aNil)))))) (sIf (tOf (eOp pNe (aCons (eVar 6) (aCons (eVar 7) aNil)))) (sExpr (eAppend 4 (eOp pTup (aCons (eVar 5) (aCons (eVar 6) (aCons (eVar 7) aNil)))))) sNil)))
def B__law_changes : SF := (sSeq (sSet 4 (eOp pLst aNil)) (sSeq (sFor (iAny (eOp pTup (aCons (eC (.str ("s" : Str))) (aCons (eC (.str ("u" : Str))) (aCons (eC (.str ("v" : Str))) (aCons (eC (.str ("w" : Str))) (aCons (eC (.str ("x" : Str))) aNil))))))) (bName 5) L1__law_changes) (sRet (eOp pTuple (aCons (eVar 4) aNil)))))
def F__law_changes : FF := fnF [0, 0, 0, 0] 8 B__law_changes
theorem sv__law_changes (hy : Hy g) : SVs g ⟨N__law_changes, defScope (top 24), 3, pnOf [0, 0, 0, 0], false, false, none⟩ (defBody (top 24)) B__law_changes := (svs_cons (sv_set (i := 4) rfl rfl (by decide) rfl (ev_lst av_nil)) (svs_cons (sv_for rfl rfl (iv_any (ev_tup (av_cons rfl ev_str (av_cons rfl ev_str (av_cons rfl ev_str (av_cons rfl ev_str (av_cons rfl ev_str av_nil))))))) (gv_name (i := 5) rfl rfl) (by decide) (svs_cons (sv_set (i := 6) rfl rfl (by decide) rfl (ev_call (ca__law_line hy) ⟨rfl, rfl⟩ (by first | exact Nat.le_refl _ | decide | exact Nat.le_of_ble_eq_true rfl | (show _ ≤ _; omega)) rfl (am_cons rfl (ev_var (i := 0) rfl (vis_of rfl) rfl rfl) (am_cons rfl (ev_var (i := 1) rfl (vis_of rfl) rfl rfl) (am_cons rfl (ev_var (i := 2) rfl (vis_of rfl) rfl rfl) (am_cons rfl (ev_var (i := 5) rfl (vis_of rfl) rfl rfl) am_nil)))) rfl)) (svs_cons (sv_set (i := 7) rfl rfl (by decide) rfl (ev_call (ca__law_line hy) ⟨rfl, rfl⟩ (by first | exact Nat.le_refl _ | decide | exact Nat.le_of_ble_eq_true rfl | (show _ ≤ _; omega)) rfl (am_cons rfl (ev_var (i := 0) rfl (vis_of rfl) rfl rfl) (am_cons rfl (ev_var (i := 1) rfl (vis_of rfl) rfl rfl) (am_cons rfl (ev_var (i := 3) rfl (vis_of rfl) rfl rfl) (am_cons rfl (ev_var (i := 5) rfl (vis_of rfl) rfl rfl) am_nil)))) rfl)) (svs_one (sv_if (tv_ne rfl (ev_var (i := 6) rfl (vis_of rfl) rfl rfl) (ev_var (i := 7) rfl (vis_of rfl) rfl rfl)) (svs_one (sv_expr rfl (ev_append (i := 4) rfl (vis_of rfl) rfl rfl rfl rfl (ev_tup (av_cons rfl (ev_var (i := 5) rfl (vis_of rfl) rfl rfl) (av_cons rfl (ev_var (i := 6) rfl (vis_of rfl) rfl rfl) (av_cons rfl (ev_var (i := 7) rfl (vis_of rfl) rfl rfl) av_nil))))))) svs_nil))))) (svs_one (sv_ret (ev_tuple rfl (av_cons rfl (ev_var (i := 4) rfl (vis_of rfl) rfl rfl) av_nil) ⟨rfl, rfl⟩ hy.m_tuple)))))
theorem ca__law_changes (hy : Hy g) : Callee g ("_law_changes" : Str) [0, 0, 0, 0] F__law_changes 4 := ⟨rfl, by
  obtain ⟨a, fd, hm, F⟩ := hy.d__law_changes
  exact ⟨a, fd, [("shop" : Str), ("part" : Str), ("first" : Str), ("second" : Str)], hm, F.kp, F.bindsN (fun _ _ _ _ _ _ us hl => match us, hl with | [_, _, _, _], _ => rfl), fn_ok (N := N__law_changes) F ⟨rfl, rfl, rfl, by decide +kernel, rfl, by decide +kernel, by decide +kernel⟩ rfl (sv__law_changes hy)⟩⟩
/-! ### law -/
abbrev N_law : List Str := [("script" : Str), ("numbers" : Str), ("kinds" : Str), ("parts" : Str), ("shop" : Str), ("turn" : Str), ("before" : Str), ("asked" : Str), ("key" : Str), ("kind" : Str), ("lot" : Str), ("name" : Str), ("part" : Str), ("first" : Str), ("second" : Str), ("number" : Str), ("due" : Str), ("told" : Str)]
def L1_law : SF := (sSeq (sSet 9 (eOp pIx (aCons (eVar 2) (aCons (eCall [1, 0] [some 1, none] F__law_next (aMut 1 (aCons (eC (.int (3 : Int))) aNil))) aNil)))) (sSeq (sSet 10 (eOp pAdd (aCons (eC (.int (1 : Int))) (aCons (eCall [1, 0] [some 1, none] F__law_next (aMut 1 (aCons (eC (.int (40 : Int))) aNil))) aNil)))) (sSeq (sIf (tOf (eOp pEq (aCons (eCall [1, 0] [some 1, none] F__law_next (aMut 1 (aCons (eC (.int (6 : Int))) aNil))) (aCons (eC (.int (0 : Int))) aNil)))) (sSet 10 (eOp pSub (aCons (eC (.int (9999 : Int))) (aCons (eCall [1, 0] [some 1, none] F__law_next (aMut 1 (aCons (eC (.int (3 : Int))) aNil))) aNil)))) sNil) (sSeq (sSet 11 (eOp pIx (aCons (eVar 3) (aCons (eCall [1, 0] [some 1, none] F__law_next (aMut 1 (aCons (eC (.int (3 : Int))) aNil))) aNil)))) (sPut 4 (eOp pTup (aCons (eVar 9) (aCons (eVar 11) (aCons (eVar 10) aNil)))) (eCall [1, 0, 0] [some 1, none, none] F__law_body (aMut 1 (aCons (eVar 9) (aCons (eVar 3) aNil)))))))))
def L2_law : SF := (sSeq (sExpr (eAppend 7 (eOp pIx (aCons (eVar 8) (aCons (eC (.int (2 : Int))) aNil))))) (sSeq (sExpr (eAppend 7 (eOp pMax2 (aCons (eC (.int (1 : Int))) (aCons (eOp pSub (aCons (eOp pIx (aCons (eVar 8) (aCons (eC (.int (2 : Int))) aNil))) (aCons (eC (.int (1 : Int))) aNil))) aNil))))) (sExpr (eAppend 7 (eOp pMin2 (aCons (eC (.int (9999 : Int))) (aCons (eOp pAdd (aCons (eOp pIx (aCons (eVar 8) (aCons (eC (.int (2 : Int))) aNil))) (aCons (eC (.int (1 : Int))) aNil))) aNil)))))))
def L3_law : SF := (sSeq (sSet 16 (eCall [0, 0, 0, 0] [none, none, none, none] F__law_best (aCons (eVar 6) (aCons (eVar 9) (aCons (eVar 11) (aCons (eVar 15) aNil)))))) (sSeq (sIf (tOf (eOp pNe (aCons (eCall [0, 0, 0, 0] [none, none, none, none] F__law_told (aCons (eFrzV 4) (aCons (eVar 9) (aCons (eVar 11) (aCons (eVar 15) aNil))))) (aCons (eVar 16) aNil)))) (sRet (eC (.bl false))) sNil) (sSeq (sSet 17 (eCall [0, 0, 0, 0] [none, none, none, none] F_has_version (aCons (eFrzV 4) (aCons (eVar 9) (aCons (eVar 11) (aCons (eVar 15) aNil)))))) (sIf (tSeqF false (tNotF (tOf (eIsi "bool" (eVar 17)))) (tOf (eOp pNe (aCons (eVar 17) (aCons (eOp (pIsN true) (aCons (eVar 16) (aCons (eC .non) aNil))) aNil))))) (sRet (eC (.bl false))) sNil))))
def L4_law : SF := (sSeq (sIf (tOf (eOp pNe (aCons (eCall [0, 0, 0] [none, none, none] F_stretches (aCons (eFrzV 4) (aCons (eVar 9) (aCons (eVar 11) aNil)))) (aCons (eCall [0, 0, 0] [none, none, none] F__law_stretches (aCons (eVar 6) (aCons (eVar 9) (aCons (eVar 11) aNil)))) aNil)))) (sRet (eC (.bl false))) sNil) (sFor (iAny (eFrzV 7)) (bName 15) L3_law))
def L5_law : SF := (sFor (iAny (eVar 3)) (bName 11) L4_law)
def L6_law : SF := (sSeq (sSet 12 (eOp pIx (aCons (eVar 3) (aCons (eCall [1, 0] [some 1, none] F__law_next (aMut 1 (aCons (eC (.int (3 : Int))) aNil))) aNil)))) (sSeq (sSet 13 (eOp pIx (aCons (eVar 7) (aCons (eCall [1, 0] [some 1, none] F__law_next (aMut 1 (aCons (eOp pLen (aCons (eVar 7) aNil)) aNil))) aNil)))) (sSeq (sSet 14 (eOp pIx (aCons (eVar 7) (aCons (eCall [1, 0] [some 1, none] F__law_next (aMut 1 (aCons (eOp pLen (aCons (eVar 7) aNil)) aNil))) aNil)))) (sIf (tOf (eOp pNe (aCons (eCall [0, 0, 0, 0] [none, none, none, none] F_bill_changes (aCons (eFrzV 4) (aCons (eVar 12) (aCons (eVar 13) (aCons (eVar 14) aNil))))) (aCons (eCall [0, 0, 0, 0] [none, none, none, none] F__law_changes (aCons (eVar 6) (aCons (eVar 12) (aCons (eVar 13) (aCons (eVar 14) aNil))))) aNil)))) (sRet (eC (.bl false))) sNil))))
def B_law : SF := (sSeq (sSet 1 (eCall [0, 0] [none, none] F__law_numbers (aCons (eVar 0) (aCons (eC (.int (220 : Int))) aNil)))) (sSeq (sSet 2 (eOp pTup (aCons (eC (.str ("drawing" : Str))) (aCons (eC (.str ("bill" : Str))) (aCons (eC (.str ("routing" : Str))) aNil))))) (sSeq (sSet 3 (eFrz (eCall [1, 0] [some 1, none] F__law_names (aMut 1 (aCons (eC (.int (3 : Int))) aNil))))) (sSeq (sSet 4 eDNew) (sSeq (sFz 4 (sFor (iRange rngA1 (aCons (eCall [1, 0] [some 1, none] F__law_next (aMut 1 (aCons (eC (.int (13 : Int))) aNil))) aNil)) (bName 5) L1_law)) (sSeq (sSet 6 (eFrz (eCall [0] [none] F__law_copy (aCons (eFrzV 4) aNil)))) (sSeq (sSet 7 (eOp pLst (aCons (eC (.int (1 : Int))) (aCons (eC (.int (9999 : Int))) (aCons (eOp pAdd (aCons (eC (.int (1 : Int))) (aCons (eCall [1, 0] [some 1, none] F__law_next (aMut 1 (aCons (eC (.int (45 : Int))) aNil))) aNil))) aNil))))) (sSeq (sFz 7 (sFor (iAnyD (eVar 6)) (bName 8) L2_law)) (sSeq (sFor (iAny (eVar 2)) (bName 9) L5_law) (sSeq (sFor (iRange rngA1 (aCons (eC (.int (12 : Int))) aNil)) (bName 5) L6_law) (sRet (eOp (eqDR false) (aCons (eVar 4) (aCons (eVar 6) aNil))))))))))))))
def F_law : FF := fnF [0] 18 B_law
theorem sv_law (hy : Hy g) : SVs g ⟨N_law, defScope (top 25), 6, pnOf [0], false, false, none⟩ (defBody (top 25)) B_law := (svs_cons (sv_set (i := 1) rfl rfl (by decide) rfl (ev_call (ca__law_numbers hy) ⟨rfl, rfl⟩ (by first | exact Nat.le_refl _ | decide | exact Nat.le_of_ble_eq_true rfl | (show _ ≤ _; omega)) rfl (am_cons rfl (ev_var (i := 0) rfl (vis_of rfl) rfl rfl) (am_cons rfl ev_int am_nil)) rfl)) (svs_cons (sv_set (i := 2) rfl rfl (by decide) rfl (ev_tup (av_cons rfl ev_str (av_cons rfl ev_str (av_cons rfl ev_str av_nil))))) (svs_cons (sv_set (i := 3) rfl rfl (by decide) rfl (ev_frzT (ev_call (ca__law_names hy) ⟨rfl, rfl⟩ (by first | exact Nat.le_refl _ | decide | exact Nat.le_of_ble_eq_true rfl | (show _ ≤ _; omega)) rfl (am_mut (i := 1) rfl (vis_of rfl) rfl rfl (am_cons rfl ev_int am_nil)) rfl))) (svs_cons (sv_set (i := 4) rfl rfl (by decide) rfl ev_dnew) (svs_cons (sv_fz (by decide) (sv_for rfl rfl (iv_rng1 rfl ⟨rfl, rfl⟩ hy.m_range (av_cons rfl (ev_call (ca__law_next hy) ⟨rfl, rfl⟩ (by first | exact Nat.le_refl _ | decide | exact Nat.le_of_ble_eq_true rfl | (show _ ≤ _; omega)) rfl (am_mut (i := 1) rfl (vis_of rfl) rfl rfl (am_cons rfl ev_int am_nil)) rfl) av_nil)) (gv_name (i := 5) rfl rfl) (by decide) (svs_cons (sv_set (i := 9) rfl rfl (by decide) rfl (ev_ix rfl (ev_var (i := 2) rfl (vis_of rfl) rfl rfl) (ev_call (ca__law_next hy) ⟨rfl, rfl⟩ (by first | exact Nat.le_refl _ | decide | exact Nat.le_of_ble_eq_true rfl | (show _ ≤ _; omega)) rfl (am_mut (i := 1) rfl (vis_of rfl) rfl rfl (am_cons rfl ev_int am_nil)) rfl))) (svs_cons (sv_set (i := 10) rfl rfl (by decide) rfl (ev_add ev_int (ev_call (ca__law_next hy) ⟨rfl, rfl⟩ (by first | exact Nat.le_refl _ | decide | exact Nat.le_of_ble_eq_true rfl | (show _ ≤ _; omega)) rfl (am_mut (i := 1) rfl (vis_of rfl) rfl rfl (am_cons rfl ev_int am_nil)) rfl))) (svs_cons (sv_if (tv_eq rfl (ev_call (ca__law_next hy) ⟨rfl, rfl⟩ (by first | exact Nat.le_refl _ | decide | exact Nat.le_of_ble_eq_true rfl | (show _ ≤ _; omega)) rfl (am_mut (i := 1) rfl (vis_of rfl) rfl rfl (am_cons rfl ev_int am_nil)) rfl) ev_int) (svs_one (sv_set (i := 10) rfl rfl (by decide) rfl (ev_sub ev_int (ev_call (ca__law_next hy) ⟨rfl, rfl⟩ (by first | exact Nat.le_refl _ | decide | exact Nat.le_of_ble_eq_true rfl | (show _ ≤ _; omega)) rfl (am_mut (i := 1) rfl (vis_of rfl) rfl rfl (am_cons rfl ev_int am_nil)) rfl)))) svs_nil) (svs_cons (sv_set (i := 11) rfl rfl (by decide) rfl (ev_ix rfl (ev_var (i := 3) rfl (vis_of rfl) rfl rfl) (ev_call (ca__law_next hy) ⟨rfl, rfl⟩ (by first | exact Nat.le_refl _ | decide | exact Nat.le_of_ble_eq_true rfl | (show _ ≤ _; omega)) rfl (am_mut (i := 1) rfl (vis_of rfl) rfl rfl (am_cons rfl ev_int am_nil)) rfl))) (svs_one (sv_put (i := 4) rfl (vis_of rfl) rfl rfl rfl (fun _ => rfl) (fun _ => rfl) (fun _ _ => rfl) (ev_tup (av_cons rfl (ev_var (i := 9) rfl (vis_of rfl) rfl rfl) (av_cons rfl (ev_var (i := 11) rfl (vis_of rfl) rfl rfl) (av_cons rfl (ev_var (i := 10) rfl (vis_of rfl) rfl rfl) av_nil)))) (ev_call (ca__law_body hy) ⟨rfl, rfl⟩ (by first | exact Nat.le_refl _ | decide | exact Nat.le_of_ble_eq_true rfl | (show _ ≤ _; omega)) rfl (am_mut (i := 1) rfl (vis_of rfl) rfl rfl (am_cons rfl (ev_var (i := 9) rfl (vis_of rfl) rfl rfl) (am_cons rfl (ev_var (i := 3) rfl (vis_of rfl) rfl rfl) am_nil))) rfl))))))))) (svs_cons (sv_set (i := 6) rfl rfl (by decide) rfl (ev_frzT (ev_call (ca__law_copy hy) ⟨rfl, rfl⟩ (by first | exact Nat.le_refl _ | decide | exact Nat.le_of_ble_eq_true rfl | (show _ ≤ _; omega)) rfl (am_cons rfl (ev_frz (i := 4) rfl (vis_of rfl) rfl rfl) am_nil) rfl))) (svs_cons (sv_set (i := 7) rfl rfl (by decide) rfl (ev_lst (av_cons rfl ev_int (av_cons rfl ev_int (av_cons rfl (ev_add ev_int (ev_call (ca__law_next hy) ⟨rfl, rfl⟩ (by first | exact Nat.le_refl _ | decide | exact Nat.le_of_ble_eq_true rfl | (show _ ≤ _; omega)) rfl (am_mut (i := 1) rfl (vis_of rfl) rfl rfl (am_cons rfl ev_int am_nil)) rfl)) av_nil))))) (svs_cons (sv_fz (by decide) (sv_for rfl rfl (iv_anyD (ev_var (i := 6) rfl (vis_of rfl) rfl rfl)) (gv_name (i := 8) rfl rfl) (by decide) (svs_cons (sv_expr rfl (ev_append (i := 7) rfl (vis_of rfl) rfl rfl rfl rfl (ev_ix rfl (ev_var (i := 8) rfl (vis_of rfl) rfl rfl) ev_int))) (svs_cons (sv_expr rfl (ev_append (i := 7) rfl (vis_of rfl) rfl rfl rfl rfl (ev_max2 rfl (av_cons rfl ev_int (av_cons rfl (ev_sub (ev_ix rfl (ev_var (i := 8) rfl (vis_of rfl) rfl rfl) ev_int) ev_int) av_nil)) rfl ⟨rfl, rfl⟩ hy.m_max))) (svs_one (sv_expr rfl (ev_append (i := 7) rfl (vis_of rfl) rfl rfl rfl rfl (ev_min2 rfl (av_cons rfl ev_int (av_cons rfl (ev_add (ev_ix rfl (ev_var (i := 8) rfl (vis_of rfl) rfl rfl) ev_int) ev_int) av_nil)) rfl ⟨rfl, rfl⟩ hy.m_min)))))))) (svs_cons (sv_for rfl rfl (iv_any (ev_var (i := 2) rfl (vis_of rfl) rfl rfl)) (gv_name (i := 9) rfl rfl) (by decide) (svs_one (sv_for rfl rfl (iv_any (ev_var (i := 3) rfl (vis_of rfl) rfl rfl)) (gv_name (i := 11) rfl rfl) (by decide) (svs_cons (sv_if (tv_ne rfl (ev_call (ca_stretches hy) ⟨rfl, rfl⟩ (by first | exact Nat.le_refl _ | decide | exact Nat.le_of_ble_eq_true rfl | (show _ ≤ _; omega)) rfl (am_cons rfl (ev_frz (i := 4) rfl (vis_of rfl) rfl rfl) (am_cons rfl (ev_var (i := 9) rfl (vis_of rfl) rfl rfl) (am_cons rfl (ev_var (i := 11) rfl (vis_of rfl) rfl rfl) am_nil))) rfl) (ev_call (ca__law_stretches hy) ⟨rfl, rfl⟩ (by first | exact Nat.le_refl _ | decide | exact Nat.le_of_ble_eq_true rfl | (show _ ≤ _; omega)) rfl (am_cons rfl (ev_var (i := 6) rfl (vis_of rfl) rfl rfl) (am_cons rfl (ev_var (i := 9) rfl (vis_of rfl) rfl rfl) (am_cons rfl (ev_var (i := 11) rfl (vis_of rfl) rfl rfl) am_nil))) rfl)) (svs_one (sv_ret ev_bl)) svs_nil) (svs_one (sv_for rfl rfl (iv_any (ev_frz (i := 7) rfl (vis_of rfl) rfl rfl)) (gv_name (i := 15) rfl rfl) (by decide) (svs_cons (sv_set (i := 16) rfl rfl (by decide) rfl (ev_call (ca__law_best hy) ⟨rfl, rfl⟩ (by first | exact Nat.le_refl _ | decide | exact Nat.le_of_ble_eq_true rfl | (show _ ≤ _; omega)) rfl (am_cons rfl (ev_var (i := 6) rfl (vis_of rfl) rfl rfl) (am_cons rfl (ev_var (i := 9) rfl (vis_of rfl) rfl rfl) (am_cons rfl (ev_var (i := 11) rfl (vis_of rfl) rfl rfl) (am_cons rfl (ev_var (i := 15) rfl (vis_of rfl) rfl rfl) am_nil)))) rfl)) (svs_cons (sv_if (tv_ne rfl (ev_call (ca__law_told hy) ⟨rfl, rfl⟩ (by first | exact Nat.le_refl _ | decide | exact Nat.le_of_ble_eq_true rfl | (show _ ≤ _; omega)) rfl (am_cons rfl (ev_frz (i := 4) rfl (vis_of rfl) rfl rfl) (am_cons rfl (ev_var (i := 9) rfl (vis_of rfl) rfl rfl) (am_cons rfl (ev_var (i := 11) rfl (vis_of rfl) rfl rfl) (am_cons rfl (ev_var (i := 15) rfl (vis_of rfl) rfl rfl) am_nil)))) rfl) (ev_var (i := 16) rfl (vis_of rfl) rfl rfl)) (svs_one (sv_ret ev_bl)) svs_nil) (svs_cons (sv_set (i := 17) rfl rfl (by decide) rfl (ev_call (ca_has_version hy) ⟨rfl, rfl⟩ (by first | exact Nat.le_refl _ | decide | exact Nat.le_of_ble_eq_true rfl | (show _ ≤ _; omega)) rfl (am_cons rfl (ev_frz (i := 4) rfl (vis_of rfl) rfl rfl) (am_cons rfl (ev_var (i := 9) rfl (vis_of rfl) rfl rfl) (am_cons rfl (ev_var (i := 11) rfl (vis_of rfl) rfl rfl) (am_cons rfl (ev_var (i := 15) rfl (vis_of rfl) rfl rfl) am_nil)))) rfl)) (svs_one (sv_if ((tw_or (tv_not (tv_plain (ev_isi rfl ⟨rfl, rfl⟩ hy.m_isinstance ⟨rfl, rfl⟩ hy.m_bool (by decide +kernel) (by decide) (ev_var (i := 17) rfl (vis_of rfl) rfl rfl)) rfl)) (tw_or1 (tv_ne rfl (ev_var (i := 17) rfl (vis_of rfl) rfl rfl) (ev_notN (ev_var (i := 16) rfl (vis_of rfl) rfl rfl) ev_non))))).tv (svs_one (sv_ret ev_bl)) svs_nil))))))))))) (svs_cons (sv_for rfl rfl (iv_rng1 rfl ⟨rfl, rfl⟩ hy.m_range (av_cons rfl ev_int av_nil)) (gv_name (i := 5) rfl rfl) (by decide) (svs_cons (sv_set (i := 12) rfl rfl (by decide) rfl (ev_ix rfl (ev_var (i := 3) rfl (vis_of rfl) rfl rfl) (ev_call (ca__law_next hy) ⟨rfl, rfl⟩ (by first | exact Nat.le_refl _ | decide | exact Nat.le_of_ble_eq_true rfl | (show _ ≤ _; omega)) rfl (am_mut (i := 1) rfl (vis_of rfl) rfl rfl (am_cons rfl ev_int am_nil)) rfl))) (svs_cons (sv_set (i := 13) rfl rfl (by decide) rfl (ev_ix rfl (ev_var (i := 7) rfl (vis_of rfl) rfl rfl) (ev_call (ca__law_next hy) ⟨rfl, rfl⟩ (by first | exact Nat.le_refl _ | decide | exact Nat.le_of_ble_eq_true rfl | (show _ ≤ _; omega)) rfl (am_mut (i := 1) rfl (vis_of rfl) rfl rfl (am_cons rfl (ev_len rfl (av_cons rfl (ev_var (i := 7) rfl (vis_of rfl) rfl rfl) av_nil) ⟨rfl, rfl⟩ hy.m_len) am_nil)) rfl))) (svs_cons (sv_set (i := 14) rfl rfl (by decide) rfl (ev_ix rfl (ev_var (i := 7) rfl (vis_of rfl) rfl rfl) (ev_call (ca__law_next hy) ⟨rfl, rfl⟩ (by first | exact Nat.le_refl _ | decide | exact Nat.le_of_ble_eq_true rfl | (show _ ≤ _; omega)) rfl (am_mut (i := 1) rfl (vis_of rfl) rfl rfl (am_cons rfl (ev_len rfl (av_cons rfl (ev_var (i := 7) rfl (vis_of rfl) rfl rfl) av_nil) ⟨rfl, rfl⟩ hy.m_len) am_nil)) rfl))) (svs_one (sv_if (tv_ne rfl (ev_call (ca_bill_changes hy) ⟨rfl, rfl⟩ (by first | exact Nat.le_refl _ | decide | exact Nat.le_of_ble_eq_true rfl | (show _ ≤ _; omega)) rfl (am_cons rfl (ev_frz (i := 4) rfl (vis_of rfl) rfl rfl) (am_cons rfl (ev_var (i := 12) rfl (vis_of rfl) rfl rfl) (am_cons rfl (ev_var (i := 13) rfl (vis_of rfl) rfl rfl) (am_cons rfl (ev_var (i := 14) rfl (vis_of rfl) rfl rfl) am_nil)))) rfl) (ev_call (ca__law_changes hy) ⟨rfl, rfl⟩ (by first | exact Nat.le_refl _ | decide | exact Nat.le_of_ble_eq_true rfl | (show _ ≤ _; omega)) rfl (am_cons rfl (ev_var (i := 6) rfl (vis_of rfl) rfl rfl) (am_cons rfl (ev_var (i := 12) rfl (vis_of rfl) rfl rfl) (am_cons rfl (ev_var (i := 13) rfl (vis_of rfl) rfl rfl) (am_cons rfl (ev_var (i := 14) rfl (vis_of rfl) rfl rfl) am_nil)))) rfl)) (svs_one (sv_ret ev_bl)) svs_nil)))))) (svs_one (sv_ret (ev_eqDic (ev_var (i := 4) rfl (vis_of rfl) rfl rfl) (ev_var (i := 6) rfl (vis_of rfl) rfl rfl))))))))))))))
theorem ca_law (hy : Hy g) : Callee g ("law" : Str) [0] F_law 7 := ⟨rfl, by
  obtain ⟨a, fd, hm, F⟩ := hy.d_law
  exact ⟨a, fd, [("script" : Str)], hm, F.kp, F.bindsN (fun _ _ _ _ _ _ us hl => match us, hl with | [_], _ => rfl), fn_ok (N := N_law) F ⟨rfl, rfl, rfl, by decide +kernel, rfl, by decide +kernel, by decide +kernel⟩ rfl (sv_law hy)⟩⟩
end
/-! ### the head -/
def dfs : List He.DefD := [
  ⟨(("holding" : Str), none), ("holding" : Str), ("holding" : Str), defArgs (top 5), defBody (top 5), defScope (top 5), [], []⟩,
  ⟨(("body_or_none" : Str), none), ("body_or_none" : Str), ("body_or_none" : Str), defArgs (top 6), defBody (top 6), defScope (top 6), [], []⟩,
  ⟨(("has_version" : Str), none), ("has_version" : Str), ("has_version" : Str), defArgs (top 7), defBody (top 7), defScope (top 7), [], []⟩,
  ⟨(("stretches" : Str), none), ("stretches" : Str), ("stretches" : Str), defArgs (top 8), defBody (top 8), defScope (top 8), [], []⟩,
  ⟨(("lines_by_seat" : Str), none), ("lines_by_seat" : Str), ("lines_by_seat" : Str), defArgs (top 9), defBody (top 9), defScope (top 9), [], []⟩,
  ⟨(("bill_changes" : Str), none), ("bill_changes" : Str), ("bill_changes" : Str), defArgs (top 10), defBody (top 10), defScope (top 10), [], []⟩,
  ⟨(("_law_digits" : Str), none), ("_law_digits" : Str), ("_law_digits" : Str), defArgs (top 12), defBody (top 12), defScope (top 12), [], []⟩,
  ⟨(("_law_mixed" : Str), none), ("_law_mixed" : Str), ("_law_mixed" : Str), defArgs (top 13), defBody (top 13), defScope (top 13), [], []⟩,
  ⟨(("_law_numbers" : Str), none), ("_law_numbers" : Str), ("_law_numbers" : Str), defArgs (top 14), defBody (top 14), defScope (top 14), [], []⟩,
  ⟨(("_law_next" : Str), none), ("_law_next" : Str), ("_law_next" : Str), defArgs (top 15), defBody (top 15), defScope (top 15), [], []⟩,
  ⟨(("_law_names" : Str), none), ("_law_names" : Str), ("_law_names" : Str), defArgs (top 16), defBody (top 16), defScope (top 16), [], []⟩,
  ⟨(("_law_copy" : Str), none), ("_law_copy" : Str), ("_law_copy" : Str), defArgs (top 17), defBody (top 17), defScope (top 17), [], []⟩,
  ⟨(("_law_body" : Str), none), ("_law_body" : Str), ("_law_body" : Str), defArgs (top 18), defBody (top 18), defScope (top 18), [], []⟩,
  ⟨(("_law_lots" : Str), none), ("_law_lots" : Str), ("_law_lots" : Str), defArgs (top 19), defBody (top 19), defScope (top 19), [], []⟩,
  ⟨(("_law_best" : Str), none), ("_law_best" : Str), ("_law_best" : Str), defArgs (top 20), defBody (top 20), defScope (top 20), [], []⟩,
  ⟨(("_law_told" : Str), none), ("_law_told" : Str), ("_law_told" : Str), defArgs (top 21), defBody (top 21), defScope (top 21), [], []⟩,
  ⟨(("_law_stretches" : Str), none), ("_law_stretches" : Str), ("_law_stretches" : Str), defArgs (top 22), defBody (top 22), defScope (top 22), [], []⟩,
  ⟨(("_law_line" : Str), none), ("_law_line" : Str), ("_law_line" : Str), defArgs (top 23), defBody (top 23), defScope (top 23), [], []⟩,
  ⟨(("_law_changes" : Str), none), ("_law_changes" : Str), ("_law_changes" : Str), defArgs (top 24), defBody (top 24), defScope (top 24), [], []⟩,
  ⟨(("law" : Str), none), ("law" : Str), ("law" : Str), defArgs (top 25), defBody (top 25), defScope (top 25), [], []⟩,
  ⟨(("MissingVersion" : Str), some "__init__"), "__init__", ("MissingVersion.__init__" : Str), defArgs (inClass (top 2) 0), defBody (inClass (top 2) 0), defScope (inClass (top 2) 0), [], []⟩]
def facts : List He.Fa := [.int ("LAST_NUMBER" : Str) (9999 : Int), .free ("abs" : Str), .free ("bool" : Str), .free ("int" : Str), .free ("isinstance" : Str), .free ("len" : Str), .free ("list" : Str), .free ("max" : Str), .free ("min" : Str), .free ("range" : Str), .free ("sorted" : Str), .free ("str" : Str), .free ("tuple" : Str), .glo ("holding" : Str), .glo ("body_or_none" : Str), .glo ("has_version" : Str), .glo ("stretches" : Str), .glo ("lines_by_seat" : Str), .glo ("bill_changes" : Str), .glo ("_law_digits" : Str), .glo ("_law_mixed" : Str), .glo ("_law_numbers" : Str), .glo ("_law_next" : Str), .glo ("_law_names" : Str), .glo ("_law_copy" : Str), .glo ("_law_body" : Str), .glo ("_law_lots" : Str), .glo ("_law_best" : Str), .glo ("_law_told" : Str), .glo ("_law_stretches" : Str), .glo ("_law_line" : Str), .glo ("_law_changes" : Str), .glo ("law" : Str), .noat ("MissingVersion" : Str) ("kind" : Str), .noat ("MissingVersion" : Str) ("name" : Str), .noat ("MissingVersion" : Str) ("number" : Str), .glo ("MissingVersion" : Str), .exm ("MissingVersion" : Str) ("MissingVersion" : Str) true]
def exs : List (PySem.W.Frag → Bool) := [iniB ("MissingVersion" : Str), fun K => oexB K (He.ga K ("MissingVersion" : Str)), fun K => xfB K (He.ga K ("MissingVersion" : Str))]
theorem hy_of {P : Program} {w : World} {K : PySem.W.Frag} {h : Heap} {mg : Str → Option Value} (X : K.In h) (G : h.Ns mainGlobals mg) (c : He.SaysX facts dfs [] [] (exAll exs) w h K) (base : Heap) : Hy (mkG P w K mg base) where
  c_LAST_NUMBER := by obtain ⟨t, e⟩ := He.int_ok X G (c.t.d.fact 0 rfl); exact GC.int e
  m_abs := He.free_ok X G (c.t.d.fact 1 rfl)
  m_bool := He.free_ok X G (c.t.d.fact 2 rfl)
  m_int := He.free_ok X G (c.t.d.fact 3 rfl)
  m_isinstance := He.free_ok X G (c.t.d.fact 4 rfl)
  m_len := He.free_ok X G (c.t.d.fact 5 rfl)
  m_list := He.free_ok X G (c.t.d.fact 6 rfl)
  m_max := He.free_ok X G (c.t.d.fact 7 rfl)
  m_min := He.free_ok X G (c.t.d.fact 8 rfl)
  m_range := He.free_ok X G (c.t.d.fact 9 rfl)
  m_sorted := He.free_ok X G (c.t.d.fact 10 rfl)
  m_str := He.free_ok X G (c.t.d.fact 11 rfl)
  m_tuple := He.free_ok X G (c.t.d.fact 12 rfl)
  d_holding := by obtain ⟨fd, F⟩ := c.t.d.def_ 0 rfl; exact ⟨_, fd, He.glo_ok X G (c.t.d.fact 13 rfl), F⟩
  d_body_or_none := by obtain ⟨fd, F⟩ := c.t.d.def_ 1 rfl; exact ⟨_, fd, He.glo_ok X G (c.t.d.fact 14 rfl), F⟩
  d_has_version := by obtain ⟨fd, F⟩ := c.t.d.def_ 2 rfl; exact ⟨_, fd, He.glo_ok X G (c.t.d.fact 15 rfl), F⟩
  d_stretches := by obtain ⟨fd, F⟩ := c.t.d.def_ 3 rfl; exact ⟨_, fd, He.glo_ok X G (c.t.d.fact 16 rfl), F⟩
  d_lines_by_seat := by obtain ⟨fd, F⟩ := c.t.d.def_ 4 rfl; exact ⟨_, fd, He.glo_ok X G (c.t.d.fact 17 rfl), F⟩
  d_bill_changes := by obtain ⟨fd, F⟩ := c.t.d.def_ 5 rfl; exact ⟨_, fd, He.glo_ok X G (c.t.d.fact 18 rfl), F⟩
  d__law_digits := by obtain ⟨fd, F⟩ := c.t.d.def_ 6 rfl; exact ⟨_, fd, He.glo_ok X G (c.t.d.fact 19 rfl), F⟩
  d__law_mixed := by obtain ⟨fd, F⟩ := c.t.d.def_ 7 rfl; exact ⟨_, fd, He.glo_ok X G (c.t.d.fact 20 rfl), F⟩
  d__law_numbers := by obtain ⟨fd, F⟩ := c.t.d.def_ 8 rfl; exact ⟨_, fd, He.glo_ok X G (c.t.d.fact 21 rfl), F⟩
  d__law_next := by obtain ⟨fd, F⟩ := c.t.d.def_ 9 rfl; exact ⟨_, fd, He.glo_ok X G (c.t.d.fact 22 rfl), F⟩
  d__law_names := by obtain ⟨fd, F⟩ := c.t.d.def_ 10 rfl; exact ⟨_, fd, He.glo_ok X G (c.t.d.fact 23 rfl), F⟩
  d__law_copy := by obtain ⟨fd, F⟩ := c.t.d.def_ 11 rfl; exact ⟨_, fd, He.glo_ok X G (c.t.d.fact 24 rfl), F⟩
  d__law_body := by obtain ⟨fd, F⟩ := c.t.d.def_ 12 rfl; exact ⟨_, fd, He.glo_ok X G (c.t.d.fact 25 rfl), F⟩
  d__law_lots := by obtain ⟨fd, F⟩ := c.t.d.def_ 13 rfl; exact ⟨_, fd, He.glo_ok X G (c.t.d.fact 26 rfl), F⟩
  d__law_best := by obtain ⟨fd, F⟩ := c.t.d.def_ 14 rfl; exact ⟨_, fd, He.glo_ok X G (c.t.d.fact 27 rfl), F⟩
  d__law_told := by obtain ⟨fd, F⟩ := c.t.d.def_ 15 rfl; exact ⟨_, fd, He.glo_ok X G (c.t.d.fact 28 rfl), F⟩
  d__law_stretches := by obtain ⟨fd, F⟩ := c.t.d.def_ 16 rfl; exact ⟨_, fd, He.glo_ok X G (c.t.d.fact 29 rfl), F⟩
  d__law_line := by obtain ⟨fd, F⟩ := c.t.d.def_ 17 rfl; exact ⟨_, fd, He.glo_ok X G (c.t.d.fact 30 rfl), F⟩
  d__law_changes := by obtain ⟨fd, F⟩ := c.t.d.def_ 18 rfl; exact ⟨_, fd, He.glo_ok X G (c.t.d.fact 31 rfl), F⟩
  d_law := by obtain ⟨fd, F⟩ := c.t.d.def_ 19 rfl; exact ⟨_, fd, He.glo_ok X G (c.t.d.fact 32 rfl), F⟩
  x_MissingVersion := by
    obtain ⟨fd, F⟩ := c.t.d.def_ 20 rfl
    have ii := iniB_ok (C := ("MissingVersion" : Str)) (exAll_at c.more 0 rfl)
    exact exk3 ⟨oexB_ok (exAll_at c.more 1 rfl), He.glo_ok X G (c.t.d.fact 36 rfl), rfl⟩ F ⟨rfl, rfl, rfl, by decide +kernel, rfl, by decide +kernel, by decide +kernel⟩ rfl rfl rfl rfl rfl rfl (F.bindsN (fun _ _ _ _ _ _ us hl => match us, hl with | [_, _, _, _], _ => rfl)) ii.1 ii.2 (He.noat_ok (c.t.d.fact 33 rfl)) (He.noat_ok (c.t.d.fact 34 rfl)) (He.noat_ok (c.t.d.fact 35 rfl))
  k_MissingVersion := He.glo_ok X G (c.t.d.fact 36 rfl)
  e1_MissingVersion := fun x h => by
    unfold cs_MissingVersion at h
    simp only [List.mem_cons, List.not_mem_nil, or_false] at h
    subst h
    exact He.exm_ok (c.t.d.fact 37 rfl)
  e0_MissingVersion := fun x h => by
    unfold ns_MissingVersion at h
    exact absurd h (by simp)
  xf_MissingVersion_kind := fun x h => by
    unfold cs_MissingVersion at h
    simp only [List.mem_cons, List.not_mem_nil, or_false] at h
    subst h
    exact ⟨xfB_ok (exAll_at c.more 2 rfl), He.noat_ok (c.t.d.fact 33 rfl)⟩
  xf_MissingVersion_name := fun x h => by
    unfold cs_MissingVersion at h
    simp only [List.mem_cons, List.not_mem_nil, or_false] at h
    subst h
    exact ⟨xfB_ok (exAll_at c.more 2 rfl), He.noat_ok (c.t.d.fact 34 rfl)⟩
  xf_MissingVersion_number := fun x h => by
    unfold cs_MissingVersion at h
    simp only [List.mem_cons, List.not_mem_nil, or_false] at h
    subst h
    exact ⟨xfB_ok (exAll_at c.more 2 rfl), He.noat_ok (c.t.d.fact 35 rfl)⟩
abbrev R : PySem.W.OpenRow := PySem.W.OpenLaw.row PySem.Challenge.rw_millbench_k20_versions
abbrev hk : PySem.W.Hook := He.hookX 5 facts dfs [] [] (exAll exs)
def ob (s : PySem.W.SharedT) : He.AlX := He.obsX 5 facts dfs [] [] (exAll exs) (HandSHeadRun.getT s)
theorem ob_eq (s : PySem.W.SharedT) : ob s = hk.obs s.abs := He.obsX_eq (HandSHeadRun.getT_eq s)
abbrev view : Program := PySem.W.view R.prog [25]
theorem run (w : World) : HandSHeadRun.RunEq R view hk ob 2000 [("holding" : Str), ("body_or_none" : Str), ("has_version" : Str), ("stretches" : Str), ("lines_by_seat" : Str), ("bill_changes" : Str), ("_law_digits" : Str), ("_law_mixed" : Str), ("_law_numbers" : Str), ("_law_next" : Str), ("_law_names" : Str), ("_law_copy" : Str), ("_law_body" : Str), ("_law_lots" : Str), ("_law_best" : Str), ("_law_told" : Str), ("_law_stretches" : Str), ("_law_line" : Str), ("_law_changes" : Str), ("LAST_NUMBER" : Str), ("MillError" : Str), ("MissingVersion" : Str)] w := by
  intro os
  kernel_rfl
end K20
open PySem PySem.W PySem.Calls PyProof.Rows in
theorem K20.holds_of (true_ : ∀ ns : List Int, ns.length ≤ 63 → Pv.Bits ns → ∃ outs, outs.length = 1 ∧ K20.F_law [.clst (Pv.pvInts ns)] = .ok 0 (.bl true) outs) : PySem.Challenge.rw_millbench_k20_versions.Holds := by
  w_on; o_law
  refine HandSHeadRun.head_any (r := OpenLaw.row PySem.Challenge.rw_millbench_k20_versions) (q := K20.view) (H := K20.hk) (ob := K20.ob) (M := 2000) (loose := [("holding" : PySem.Str), ("body_or_none" : PySem.Str), ("has_version" : PySem.Str), ("stretches" : PySem.Str), ("lines_by_seat" : PySem.Str), ("bill_changes" : PySem.Str), ("_law_digits" : PySem.Str), ("_law_mixed" : PySem.Str), ("_law_numbers" : PySem.Str), ("_law_next" : PySem.Str), ("_law_names" : PySem.Str), ("_law_copy" : PySem.Str), ("_law_body" : PySem.Str), ("_law_lots" : PySem.Str), ("_law_best" : PySem.Str), ("_law_told" : PySem.Str), ("_law_stretches" : PySem.Str), ("_law_line" : PySem.Str), ("_law_changes" : PySem.Str), ("LAST_NUMBER" : PySem.Str), ("MillError" : PySem.Str), ("MissingVersion" : PySem.Str)]) (d := HandSHeadRun.topDef (OpenLaw.row PySem.Challenge.rw_millbench_k20_versions).prog 25) (kwd := []) K20.ob_eq
    (by kernel_rfl) (fun s => by kernel_rfl) K20.run (by kernel_rfl) (by kernel_rfl) (by kernel_rfl) (by rfl) (by first | assumption | decide +kernel) (by decide +kernel) ⟨rfl, rfl, rfl, rfl, rfl, by decide +kernel⟩ ?hw ?hc
  case hw => w_witness2
  case hc =>
    refine Pv.walk_end (l := PySem.Challenge.rw_millbench_k20_versions) (n := 63) (k := 7) (x := "script") rfl (by decide) (by kernel_rfl) ⟨rfl, by decide, by decide⟩ ?_
    intro w mg fa h Y G hmg
    obtain ⟨K, KX, c⟩ := Y
    have e0 : (HandSHeadRun.topDef (OpenLaw.row PySem.Challenge.rw_millbench_k20_versions).prog 25).name = ("law" : PySem.Str) := by kernel_rfl
    rw [e0] at hmg
    obtain ⟨fd, F⟩ := c.t.d.def_ 19 rfl
    have e := hmg.symm.trans (He.glo_ok KX G (c.t.d.fact 32 rfl))
    cases e
    exact ⟨K, fd, Pv.spF (Pv.mkG (PySem.Challenge.rw_millbench_k20_versions).prog w K mg h) [0] K20.F_law, KX, fun s v => L2.FunD.bindsA (ps := ["script"]) F (fun _ _ _ _ _ _ us hl => match us, hl with | [_], _ => rfl) s [v] rfl, fun H a ns hl hb hS => Pv.sp_law hS (true_ ns hl hb), fun base => Pv.fn_ok (g := Pv.mkG _ w K mg base) (N := K20.N_law) F ⟨rfl, rfl, rfl, by decide +kernel, rfl, by decide +kernel, by decide +kernel⟩ rfl (K20.sv_law (K20.hy_of KX G c base))⟩

set_option maxRecDepth 100000
set_option maxHeartbeats 1000000
namespace K20
open PySem PySem.Spec PyProof.Rows L2 Pv

open T
open T.Enc (enc)
noncomputable section
def k_LAST_NUMBER : Int := (9999 : Int)
/-! ### holding -/
def m_holding (shop_ : (Dic (T3 Str Str Int) PV)) (kind_ : Str) (name_ : Str) (number_ : Int) : M (Int × PV) := lt (0 : Int) fun best0 => (M.fold (fun (s0 : Int) (a0 : (T3 Str Str Int)) => (if ((decide ((a0).a = kind_)) && ((decide ((a0).b = name_)) && (decide (s0 < (a0).c) && decide ((a0).c ≤ number_)))) = true then lt (a0).c fun best1 => .ok best1 else .ok s0)) (shop_).keys best0).bind fun s1 : Int => (if (decide (s1 = (0 : Int))) = true then .exc ("MissingVersion" : Str) [(("kind" : Str), enc (kind_ : Str)), (("name" : Str), enc (name_ : Str)), (("number" : Str), enc (number_ : Int))] else grd (((shop_).get (T3.mk kind_ name_ s1)).isSome = true) <| .ok ((s1, (((shop_).get (T3.mk kind_ name_ s1)).getD default))))
theorem fj_holding (shop_ : (Dic (T3 Str Str Int) PV)) (kind_ : Str) (name_ : Str) (number_ : Int) : FJ F_holding [enc shop_, enc kind_, enc name_, enc number_] 0 (m_holding shop_ kind_ name_ number_) (enc : (Int × PV) → PV) := fj_of (Γ := [sv 0 (enc (shop_ : (Dic (T3 Str Str Int) PV))), sv 0 (enc (kind_ : Str)), sv 0 (enc (name_ : Str)), sv 0 (enc (number_ : Int)), ex none, ex none, ex none, ex none]) rfl (leb rfl) ⟨rfl, rfl, rfl, rfl, rfl, rfl, rfl, rfl, trivial⟩ (by exact (sj_setC (ce_g0 (eg_c (x := enc (0 : Int))) (by exact (ke_set ((0 : Int) : Int) (.inl rfl) rfl (fun best0 => (by exact (sj_forC (ci_g0 (ig_keys (eg_var (x := enc (shop_ : (Dic (T3 Str Str Int) PV))) rfl)) (by exact (ki_fold (Γl := fun s0 : Int => [sv 0 (enc (shop_ : (Dic (T3 Str Str Int) PV))), sv 0 (enc (kind_ : Str)), sv 0 (enc (name_ : Str)), sv 0 (enc (number_ : Int)), sv 0 (enc (s0 : Int)), fr, fr, fr]) (e := enc) (xs := (shop_).keys) best0 (imp_c i_id (imp_c i_id (imp_c i_id (imp_c i_id (imp_c i_id (imp_c i_no (imp_c i_no (imp_c i_no imp_n)))))))) rfl (fun s0 a0 => ⟨_, (bg_tup rfl), (by exact (sj_last (sj_ifC (ct_g0 (tg_and0 (tg_of (b := (decide ((a0).a = kind_))) (eg_op (x := enc ((decide ((a0).a = kind_)) : Bool)) (ag_cons (eg_var (x := enc ((a0).a : Str)) rfl) (ag_cons (eg_var (x := enc (kind_ : Str)) rfl) ag_nil (.inl rfl)) (.inl rfl)) o_eqf) tru_b) (tg_and0 (tg_of (b := (decide ((a0).b = name_))) (eg_op (x := enc ((decide ((a0).b = name_)) : Bool)) (ag_cons (eg_var (x := enc ((a0).b : Str)) rfl) (ag_cons (eg_var (x := enc (name_ : Str)) rfl) ag_nil (.inl rfl)) (.inl rfl)) o_eqf) tru_b) (tg_of (b := (decide (s0 < (a0).c) && decide ((a0).c ≤ number_))) (eg_chain0 (ag_cons (eg_var (x := enc (s0 : Int)) rfl) (ag_cons (eg_var (x := enc ((a0).c : Int)) rfl) ag_nil (.inl rfl)) (.inl rfl)) o_lt (eg_var (x := enc (number_ : Int)) rfl) o_le) tru_b))) (by exact (kt_tail rfl (by exact (sj_last (sj_setC (ce_g0 (eg_var (x := enc ((a0).c : Int)) rfl) (by exact (ke_set ((a0).c : Int) (.inl rfl) rfl (fun best1 => (by exact (sj_nil rfl (ok_snx (imp_c i_id (imp_c i_id (imp_c i_id (imp_c i_id (imp_c i_id (imp_c i_fr (imp_c i_fr (imp_c i_fr imp_n)))))))))))))))))) (by exact (sj_nil rfl (ok_snx (imp_c i_id (imp_c i_id (imp_c i_id (imp_c i_id (imp_c i_id (imp_c i_fr (imp_c i_fr (imp_c i_fr imp_n)))))))))))))))))⟩) (fun s1 => (by exact (sj_ifC (ct_g0 (tg_of (b := (decide (s1 = (0 : Int)))) (eg_op (x := enc ((decide (s1 = (0 : Int))) : Bool)) (ag_cons (eg_var (x := enc (s1 : Int)) rfl) (ag_cons (eg_c (x := enc (0 : Int))) ag_nil (.inl rfl)) (.inl rfl)) o_eqf) tru_b) (by exact (kt_esc1 rfl (by exact (sj_raiseC (ca_g0 (ag_cons (eg_var (x := enc (kind_ : Str)) rfl) (ag_cons (eg_var (x := enc (name_ : Str)) rfl) (ag_cons (eg_var (x := enc (number_ : Int)) rfl) ag_nil (.inl rfl)) (.inl rfl)) (.inl rfl)) (by exact (ka_raise ⟨rfl, rfl⟩ rfl rfl (hlen rfl)))))) (sj_pass (by exact (sj_retC (ce_g (eg_op (x := enc ((s1, (((shop_).get (T3.mk kind_ name_ s1)).getD default)) : (Int × PV))) (ag_cons (eg_var (x := enc (s1 : Int)) rfl) (ag_cons (eg_opg (x := enc ((((shop_).get (T3.mk kind_ name_ s1)).getD default) : PV)) (ag_cons (eg_var (x := enc (shop_ : (Dic (T3 Str Str Int) PV))) rfl) (ag_cons (eg_op (x := enc ((T3.mk kind_ name_ s1) : (T3 Str Str Int))) (ag_cons (eg_var (x := enc (kind_ : Str)) rfl) (ag_cons (eg_var (x := enc (name_ : Str)) rfl) (ag_cons (eg_var (x := enc (s1 : Int)) rfl) ag_nil (.inl rfl)) (.inl rfl)) (.inl rfl)) (o_tup (ps := [enc (kind_ : Str), enc (name_ : Str), enc (s1 : Int)]) (leb rfl))) ag_nil (.inl rfl)) (.inl rfl)) [((shop_).get (T3.mk kind_ name_ s1)).isSome = true] (fun h => o_ixd (by decide) h)) ag_nil (.inl rfl)) (.inl rfl)) (o_tup (ps := [enc (s1 : Int), enc ((((shop_).get (T3.mk kind_ name_ s1)).getD default) : PV)]) (leb rfl))) rfl (by exact (ke_ret (.inl rfl) rfl (ok_ret rfl (imp_wds rfl)))))))))))))))))))))))))
/-! ### body_or_none -/
def m_body_or_none (shop_ : (Dic (T3 Str Str Int) PV)) (kind_ : Str) (name_ : Str) (number_ : Int) : M PV := (((m_holding shop_ kind_ name_ number_).bind fun r0 => lt r0 fun y0 => .ok (.go (y0).2)).tryc (hsel [("MissingVersion" : Str)] [] (fun _ _ => .ok (.rt ((enc (() : Unit) : PV)))) hend)).bind (Fl.cont fun s1 : PV => .ok (s1))
theorem fj_body_or_none (shop_ : (Dic (T3 Str Str Int) PV)) (kind_ : Str) (name_ : Str) (number_ : Int) : FJ F_body_or_none [enc shop_, enc kind_, enc name_, enc number_] 0 (m_body_or_none shop_ kind_ name_ number_) (enc : PV → PV) := fj_of (Γ := [sv 0 (enc (shop_ : (Dic (T3 Str Str Int) PV))), sv 0 (enc (kind_ : Str)), sv 0 (enc (name_ : Str)), sv 0 (enc (number_ : Int)), ex none, ex none]) rfl (leb rfl) ⟨rfl, rfl, rfl, rfl, rfl, rfl, trivial⟩ (by exact (sj_mix (Γf := fun s0 : PV => [sv 0 (enc (shop_ : (Dic (T3 Str Str Int) PV))), sv 0 (enc (kind_ : Str)), sv 0 (enc (name_ : Str)), sv 0 (enc (number_ : Int)), fr, sv 0 (enc (s0 : PV))]) rfl (sj_try (Γx := [sv 0 (enc (shop_ : (Dic (T3 Str Str Int) PV))), sv 0 (enc (kind_ : Str)), sv 0 (enc (name_ : Str)), sv 0 (enc (number_ : Int)), wd, wd]) (nx_m nx_r) (by exact (sj_last (sj_tgtC (ce_call (ca_g0 (ag_cons (eg_var (x := enc (shop_ : (Dic (T3 Str Str Int) PV))) rfl) (ag_cons (eg_var (x := enc (kind_ : Str)) rfl) (ag_cons (eg_var (x := enc (name_ : Str)) rfl) (ag_cons (eg_var (x := enc (number_ : Int)) rfl) ag_nil (.inl rfl)) (.inl rfl)) (.inl rfl)) (.inl rfl)) (by exact (ka_call (fj_holding shop_ kind_ name_ number_) (fun _ => rfl) rfl (fun _ => rfl) rfl (imp_c i_id (imp_c i_id (imp_c i_id (imp_c i_id (imp_c i_wd (imp_c i_wd imp_n)))))) (fun r0 => by exact (ke_tgt (r0 : (Int × PV)) rfl (fun _ => (bg_tup rfl)) (fun y0 => (by exact (sj_nil rfl (ok_go (imp_c i_id (imp_c i_id (imp_c i_id (imp_c i_id (imp_c i_fr (imp_c i_id imp_n))))))))))))))))))) (hs_plain (nx_m nx_r) (fun _ _ _ => rfl) (fun _ _ _ => (by exact (sj_retC (ce_g0 (eg_as (y := enc ((enc (() : Unit) : PV) : PV)) (eg_c (x := enc ())) rfl) (by exact (ke_ret (.inl rfl) rfl (ok_rt shut_rt (ok_ret rfl (imp_wds rfl))))))))) (hs_nil (hlen rfl)))) (fun s1 => (by exact (sj_retC (ce_g0 (eg_move (x := enc (s1 : PV)) rfl) (by exact (ke_ret (.inl rfl) rfl (ok_ret rfl (imp_wds rfl))))))))))
/-! ### has_version -/
def m_has_version (shop_ : (Dic (T3 Str Str Int) PV)) (kind_ : Str) (name_ : Str) (number_ : Int) : M Bool := (m_body_or_none shop_ kind_ name_ number_).bind fun r0 => .ok ((!PV.isNon r0))
theorem fj_has_version (shop_ : (Dic (T3 Str Str Int) PV)) (kind_ : Str) (name_ : Str) (number_ : Int) : FJ F_has_version [enc shop_, enc kind_, enc name_, enc number_] 0 (m_has_version shop_ kind_ name_ number_) (enc : Bool → PV) := fj_of (Γ := [sv 0 (enc (shop_ : (Dic (T3 Str Str Int) PV))), sv 0 (enc (kind_ : Str)), sv 0 (enc (name_ : Str)), sv 0 (enc (number_ : Int))]) rfl (leb rfl) ⟨rfl, rfl, rfl, rfl, trivial⟩ (by exact (sj_retC (ce_op (ca_cons (ce_call (ca_g0 (ag_cons (eg_var (x := enc (shop_ : (Dic (T3 Str Str Int) PV))) rfl) (ag_cons (eg_var (x := enc (kind_ : Str)) rfl) (ag_cons (eg_var (x := enc (name_ : Str)) rfl) (ag_cons (eg_var (x := enc (number_ : Int)) rfl) ag_nil (.inl rfl)) (.inl rfl)) (.inl rfl)) (.inl rfl)) (by exact (ka_call (fj_body_or_none shop_ kind_ name_ number_) (fun _ => rfl) rfl (fun _ => rfl) rfl (hlen rfl) (fun r0 => by exact (ke_cons (.inl rfl) (fun _ => (ca_g0 (ag_cons (eg_c (x := enc ())) ag_nil (.inl rfl)) (by exact (ka_add (ka_op (x := enc ((!PV.isNon r0) : Bool)) o_notNp (ke_ret (.inl rfl) rfl (ok_ret rfl (imp_wds rfl))))))))))))))))))
/-! ### stretches -/
def m_stretches (shop_ : (Dic (T3 Str Str Int) PV)) (kind_ : Str) (name_ : Str) : M (Tup (Int × Int)) := grd (((shop_).keys).length ≤ 16777216) <| grd ((((((shop_).keys).filter (fun a0 : (T3 Str Str Int) => ((decide ((a0).a = kind_)) && (decide ((a0).b = name_))))).map (fun a0 : (T3 Str Str Int) => (a0).c))).length ≤ 16777216) <| lt (sortI ((((shop_).keys).filter (fun a0 : (T3 Str Str Int) => ((decide ((a0).a = kind_)) && (decide ((a0).b = name_))))).map (fun a0 : (T3 Str Str Int) => (a0).c))) fun lots0 => lt ([] : (List (Int × Int))) fun rows0 => grd (Sm ((lots0).length : Int)) <| (M.fold (fun (s0 : (List (Int × Int))) (k0 : Int) => (if (decide ((k0 + (1 : Int)) < ((lots0).length : Int))) = true then grd (ixOk lots0 k0) <| grd (ixOk lots0 (k0 + (1 : Int))) <| grd ((s0).length < 16777216) <| lt (s0 ++ [((geti lots0 k0), ((geti lots0 (k0 + (1 : Int))) - (1 : Int)))]) fun rows1 => .ok rows1 else grd (ixOk lots0 k0) <| grd ((s0).length < 16777216) <| lt (s0 ++ [((geti lots0 k0), k_LAST_NUMBER)]) fun rows2 => .ok rows2)) (rng 0 ((lots0).length : Int)) rows0).bind fun s1 : (List (Int × Int)) => .ok ((Tup.mk s1))
theorem fj_stretches (shop_ : (Dic (T3 Str Str Int) PV)) (kind_ : Str) (name_ : Str) : FJ F_stretches [enc shop_, enc kind_, enc name_] 0 (m_stretches shop_ kind_ name_) (enc : (Tup (Int × Int)) → PV) := fj_of (Γ := [sv 0 (enc (shop_ : (Dic (T3 Str Str Int) PV))), sv 0 (enc (kind_ : Str)), sv 0 (enc (name_ : Str)), ex none, ex none, ex none, ex none, ex none, ex none]) rfl (leb rfl) ⟨rfl, rfl, rfl, rfl, rfl, rfl, rfl, rfl, rfl, trivial⟩ (by exact (sj_setC (ce_frz (ce_g (eg_opg (x := enc ((sortI ((((shop_).keys).filter (fun a0 : (T3 Str Str Int) => ((decide ((a0).a = kind_)) && (decide ((a0).b = name_))))).map (fun a0 : (T3 Str Str Int) => (a0).c))) : (List Int))) (ag_cons (eg_frz (eg_lc0 (xs := (shop_).keys) (e := enc) (g := (fun a0 : (T3 Str Str Int) => (a0).c)) (b := (fun a0 : (T3 Str Str Int) => ((decide ((a0).a = kind_)) && (decide ((a0).b = name_))))) (ig_keys (eg_var (x := enc (shop_ : (Dic (T3 Str Str Int) PV))) rfl)) (.cons rfl i_no (.cons rfl i_no (.cons rfl i_no .nil))) (fun a0 => ⟨⟨_, _, _, _, _, _, (bg_tup rfl), (tg_and0 (tg_of (b := (decide ((a0).a = kind_))) (eg_op (x := enc ((decide ((a0).a = kind_)) : Bool)) (ag_cons (eg_var (x := enc ((a0).a : Str)) rfl) (ag_cons (eg_var (x := enc (kind_ : Str)) rfl) ag_nil (.inl rfl)) (.inl rfl)) o_eqf) tru_b) (tg_of (b := (decide ((a0).b = name_))) (eg_op (x := enc ((decide ((a0).b = name_)) : Bool)) (ag_cons (eg_var (x := enc ((a0).b : Str)) rfl) (ag_cons (eg_var (x := enc (name_ : Str)) rfl) ag_nil (.inl rfl)) (.inl rfl)) o_eqf) tru_b)), (eg_var (x := enc ((a0).c : Int)) rfl), imp_r, imp_r⟩⟩)) (.inr rfl)) ag_nil (.inl rfl)) [(((((shop_).keys).filter (fun a0 : (T3 Str Str Int) => ((decide ((a0).a = kind_)) && (decide ((a0).b = name_))))).map (fun a0 : (T3 Str Str Int) => (a0).c))).length ≤ 16777216] (fun h => o_sorti h)) rfl (by exact (ke_frz (.inr rfl) (ke_set ((sortI ((((shop_).keys).filter (fun a0 : (T3 Str Str Int) => ((decide ((a0).a = kind_)) && (decide ((a0).b = name_))))).map (fun a0 : (T3 Str Str Int) => (a0).c))) : (List Int)) (.inl rfl) rfl (fun lots0 => (by exact (sj_setC (ce_g0 (eg_op (x := enc (([] : (List (Int × Int))) : (List (Int × Int)))) ag_nil (o_lst (ps := []) (leb rfl))) (by exact (ke_set (([] : (List (Int × Int))) : (List (Int × Int))) (.inr rfl) rfl (fun rows0 => (by exact (sj_forC (ci_g (ig_range (xs := ((rng 0 ((lots0).length : Int))).map enc) (ag_cons (eg_op (x := enc (((lots0).length : Int) : Int)) (ag_cons (eg_var (x := enc (lots0 : (List Int))) rfl) ag_nil (.inl rfl)) o_lenl) ag_nil (.inl rfl)) [Sm ((lots0).length : Int)] (fun h => g_rng1 h.1)) rfl (by exact (ki_fold (Γl := fun s0 : (List (Int × Int)) => [sv 0 (enc (shop_ : (Dic (T3 Str Str Int) PV))), sv 0 (enc (kind_ : Str)), sv 0 (enc (name_ : Str)), sv 0 (enc (lots0 : (List Int))), sv 1 (enc (s0 : (List (Int × Int)))), fr, ex none, ex none, ex none]) (e := enc) (xs := (rng 0 ((lots0).length : Int))) rows0 (imp_c i_id (imp_c i_id (imp_c i_id (imp_c i_id (imp_c i_id (imp_c i_no (imp_c i_id (imp_c i_id (imp_c i_id imp_n))))))))) rfl (fun s0 k0 => ⟨_, bg_name, (by exact (sj_last (sj_ifC (ct_g0 (tg_of (b := (decide ((k0 + (1 : Int)) < ((lots0).length : Int)))) (eg_op (x := enc ((decide ((k0 + (1 : Int)) < ((lots0).length : Int))) : Bool)) (ag_cons (eg_op (x := enc ((k0 + (1 : Int)) : Int)) (ag_cons (eg_var (x := enc (k0 : Int)) rfl) (ag_cons (eg_c (x := enc (1 : Int))) ag_nil (.inl rfl)) (.inl rfl)) o_add) (ag_cons (eg_op (x := enc (((lots0).length : Int) : Int)) (ag_cons (eg_var (x := enc (lots0 : (List Int))) rfl) ag_nil (.inl rfl)) o_lenl) ag_nil (.inl rfl)) (.inl rfl)) o_lt) tru_b) (by exact (kt_tail rfl (by exact (sj_last (sj_exprC (ce_app rfl (ce_g (eg_op (x := enc (((geti lots0 k0), ((geti lots0 (k0 + (1 : Int))) - (1 : Int))) : (Int × Int))) (ag_cons (eg_opg (x := enc ((geti lots0 k0) : Int)) (ag_cons (eg_var (x := enc (lots0 : (List Int))) rfl) (ag_cons (eg_var (x := enc (k0 : Int)) rfl) ag_nil (.inl rfl)) (.inl rfl)) [ixOk lots0 k0] (fun h => o_ixl (by decide) h)) (ag_cons (eg_op (x := enc (((geti lots0 (k0 + (1 : Int))) - (1 : Int)) : Int)) (ag_cons (eg_opg (x := enc ((geti lots0 (k0 + (1 : Int))) : Int)) (ag_cons (eg_var (x := enc (lots0 : (List Int))) rfl) (ag_cons (eg_op (x := enc ((k0 + (1 : Int)) : Int)) (ag_cons (eg_var (x := enc (k0 : Int)) rfl) (ag_cons (eg_c (x := enc (1 : Int))) ag_nil (.inl rfl)) (.inl rfl)) o_add) ag_nil (.inl rfl)) (.inl rfl)) [ixOk lots0 (k0 + (1 : Int))] (fun h => o_ixl (by decide) h)) (ag_cons (eg_c (x := enc (1 : Int))) ag_nil (.inl rfl)) (.inl rfl)) o_sub) ag_nil (.inl rfl)) (.inl rfl)) (o_tup (ps := [enc ((geti lots0 k0) : Int), enc (((geti lots0 (k0 + (1 : Int))) - (1 : Int)) : Int)]) (leb rfl))) rfl (by exact (ke_app (((geti lots0 k0), ((geti lots0 (k0 + (1 : Int))) - (1 : Int))) : (Int × Int)) rfl rfl (fun rows1 => ke_expr (by exact (sj_nil rfl (ok_snx (imp_c i_id (imp_c i_id (imp_c i_id (imp_c i_id (imp_c i_id (imp_c i_fr (imp_c i_id (imp_c i_id (imp_c i_id imp_n)))))))))))))))))))) (by exact (sj_last (sj_exprC (ce_app rfl (ce_g (eg_op (x := enc (((geti lots0 k0), k_LAST_NUMBER) : (Int × Int))) (ag_cons (eg_opg (x := enc ((geti lots0 k0) : Int)) (ag_cons (eg_var (x := enc (lots0 : (List Int))) rfl) (ag_cons (eg_var (x := enc (k0 : Int)) rfl) ag_nil (.inl rfl)) (.inl rfl)) [ixOk lots0 k0] (fun h => o_ixl (by decide) h)) (ag_cons (eg_c (x := enc (k_LAST_NUMBER : Int))) ag_nil (.inl rfl)) (.inl rfl)) (o_tup (ps := [enc ((geti lots0 k0) : Int), enc (k_LAST_NUMBER : Int)]) (leb rfl))) rfl (by exact (ke_app (((geti lots0 k0), k_LAST_NUMBER) : (Int × Int)) rfl rfl (fun rows2 => ke_expr (by exact (sj_nil rfl (ok_snx (imp_c i_id (imp_c i_id (imp_c i_id (imp_c i_id (imp_c i_id (imp_c i_fr (imp_c i_id (imp_c i_id (imp_c i_id imp_n))))))))))))))))))))))))))⟩) (fun s1 => (by exact (sj_retC (ce_g0 (eg_op (x := enc ((Tup.mk s1) : (Tup (Int × Int)))) (ag_cons (eg_var (x := enc (s1 : (List (Int × Int)))) rfl) ag_nil (.inr (.inr rfl))) (o_tuple (by decide))) (by exact (ke_ret (.inl rfl) rfl (ok_ret rfl (imp_wds rfl)))))))))))))))))))))))))))
/-! ### lines_by_seat -/
def m_lines_by_seat (shop_ : (Dic (T3 Str Str Int) PV)) (part_ : Str) (number_ : Int) : M (Dic Str (Int × (T1 Str))) := (m_body_or_none shop_ (("bill" : Str)) part_ number_).bind fun r0 => grd (IsE (Option (Tup (T3 Str Int (T1 Str)))) (r0)) <| lt (ofPV r0 : (Option (Tup (T3 Str Int (T1 Str))))) fun body0 => (if (body0).isNone = true then .ok ((⟨[]⟩ : (Dic Str (Int × (T1 Str))))) else grd ((body0).isSome = true) <| grd (((((body0).getD default)).l).length ≤ 16777216) <| .ok ((Dic.of (((((body0).getD default)).l).map (fun a0 : (T3 Str Int (T1 Str)) => ((a0).a, ((a0).b, (a0).c)))))))
theorem fj_lines_by_seat (shop_ : (Dic (T3 Str Str Int) PV)) (part_ : Str) (number_ : Int) : FJ F_lines_by_seat [enc shop_, enc part_, enc number_] 1 (m_lines_by_seat shop_ part_ number_) (enc : (Dic Str (Int × (T1 Str))) → PV) := fj_of (Γ := [sv 0 (enc (shop_ : (Dic (T3 Str Str Int) PV))), sv 0 (enc (part_ : Str)), sv 0 (enc (number_ : Int)), ex none, ex none, ex none, ex none]) rfl (leb rfl) ⟨rfl, rfl, rfl, rfl, rfl, rfl, rfl, trivial⟩ (by exact (sj_setC (ce_call (ca_g0 (ag_cons (eg_var (x := enc (shop_ : (Dic (T3 Str Str Int) PV))) rfl) (ag_cons (eg_c (x := enc ("bill" : Str))) (ag_cons (eg_var (x := enc (part_ : Str)) rfl) (ag_cons (eg_var (x := enc (number_ : Int)) rfl) ag_nil (.inl rfl)) (.inl rfl)) (.inl rfl)) (.inl rfl)) (by exact (ka_call (fj_body_or_none shop_ (("bill" : Str)) part_ number_) (fun _ => rfl) rfl (fun _ => rfl) rfl (hlen rfl) (fun r0 => by exact (ke_asg (y := enc ((ofPV r0 : (Option (Tup (T3 Str Int (T1 Str))))) : (Option (Tup (T3 Str Int (T1 Str)))))) [IsE (Option (Tup (T3 Str Int (T1 Str)))) (r0)] (fun h => ofPV_ok h) rfl (ke_set ((ofPV r0 : (Option (Tup (T3 Str Int (T1 Str))))) : (Option (Tup (T3 Str Int (T1 Str))))) (.inl rfl) rfl (fun body0 => (by exact (sj_ifC (ct_g0 (tg_of (b := (body0).isNone) (eg_op (x := enc ((body0).isNone : Bool)) (ag_cons (eg_var (x := enc (body0 : (Option (Tup (T3 Str Int (T1 Str)))))) rfl) (ag_cons (eg_c (x := enc ())) ag_nil (.inl rfl)) (.inl rfl)) o_isNo) tru_b) (by exact (kt_esc1 rfl (by exact (sj_retC (ce_g0 eg_dnew (by exact (ke_ret (.inr rfl) rfl (ok_c shut_rt (ok_ret rfl (imp_wds rfl)))))))) (sj_pass (by exact (sj_retC (ce_g (eg_dcm0 (xs := (((body0).getD default)).l) (e := enc) (k := (fun a0 : (T3 Str Int (T1 Str)) => (a0).a)) (v := (fun a0 : (T3 Str Int (T1 Str)) => ((a0).b, (a0).c))) (ig_any (xs := (((body0).getD default)).l.map enc) (eg_asg (y := enc (((body0).getD default) : (Tup (T3 Str Int (T1 Str))))) (eg_var (x := enc (body0 : (Option (Tup (T3 Str Int (T1 Str)))))) rfl) [(body0).isSome = true] (fun h => opt_some h)) (.inl rfl)) (.cons rfl i_no (.cons rfl i_no (.cons rfl i_no .nil))) (fun a0 => ⟨⟨_, _, _, _, _, _, _, _, _, _, _, _, rfl, (bg_tup rfl), tg_true, (eg_var (x := enc ((a0).a : Str)) rfl), (eg_op (x := enc (((a0).b, (a0).c) : (Int × (T1 Str)))) (ag_cons (eg_var (x := enc ((a0).b : Int)) rfl) (ag_cons (eg_var (x := enc ((a0).c : (T1 Str))) rfl) ag_nil (.inl rfl)) (.inl rfl)) (o_tup (ps := [enc ((a0).b : Int), enc ((a0).c : (T1 Str))]) (leb rfl))), imp_r, imp_r⟩⟩)) rfl (by exact (ke_ret (.inr rfl) rfl (ok_ret rfl (imp_wds rfl)))))))))))))))))))))))
/-! ### bill_changes -/
def m_bill_changes (shop_ : (Dic (T3 Str Str Int) PV)) (part_ : Str) (first_ : Int) (second_ : Int) : M (Tup (T3 Str PV PV)) := (m_lines_by_seat shop_ part_ first_).bind fun r0 => lt r0 fun old0 => (m_lines_by_seat shop_ part_ second_).bind fun r1 => lt r1 fun new0 => grd ((old0).l.length ≤ 16777216) <| grd (((new0).keys).length ≤ 16777216) <| grd (((old0).keys).length + (((((new0).keys).filter (fun a0 : Str => (!(old0).has a0))).map (fun a0 : Str => a0))).length ≤ 16777216) <| lt ((old0).keys ++ ((((new0).keys).filter (fun a0 : Str => (!(old0).has a0))).map (fun a0 : Str => a0))) fun seats0 => lt ([] : (List (T3 Str PV PV))) fun rows0 => grd ((seats0).length < 64) <| (M.fold (fun (s0 : (List (T3 Str PV PV))) (seat0 : Str) => lt (((old0).get seat0).elim (enc ((Tup.mk [] : Tup Int) : (Tup Int)) : PV) enc) fun before0 => lt (((new0).get seat0).elim (enc ((Tup.mk [] : Tup Int) : (Tup Int)) : PV) enc) fun after0 => grd (EqP before0 after0) <| (if (!eqP before0 after0) = true then grd ((s0).length < 16777216) <| lt (s0 ++ [(T3.mk seat0 before0 after0)]) fun rows1 => .ok rows1 else .ok s0)) (sortS seats0) rows0).bind fun s1 : (List (T3 Str PV PV)) => .ok ((Tup.mk s1))
theorem fj_bill_changes (shop_ : (Dic (T3 Str Str Int) PV)) (part_ : Str) (first_ : Int) (second_ : Int) : FJ F_bill_changes [enc shop_, enc part_, enc first_, enc second_] 0 (m_bill_changes shop_ part_ first_ second_) (enc : (Tup (T3 Str PV PV)) → PV) := fj_of (Γ := [sv 0 (enc (shop_ : (Dic (T3 Str Str Int) PV))), sv 0 (enc (part_ : Str)), sv 0 (enc (first_ : Int)), sv 0 (enc (second_ : Int)), ex none, ex none, ex none, ex none, ex none, ex none, ex none]) rfl (leb rfl) ⟨rfl, rfl, rfl, rfl, rfl, rfl, rfl, rfl, rfl, rfl, rfl, trivial⟩ (by exact (sj_setC (ce_frz (ce_call (ca_g0 (ag_cons (eg_var (x := enc (shop_ : (Dic (T3 Str Str Int) PV))) rfl) (ag_cons (eg_var (x := enc (part_ : Str)) rfl) (ag_cons (eg_var (x := enc (first_ : Int)) rfl) ag_nil (.inl rfl)) (.inl rfl)) (.inl rfl)) (by exact (ka_call (fj_lines_by_seat shop_ part_ first_) (fun _ => rfl) rfl (fun _ => rfl) rfl (hlen rfl) (fun r0 => by exact (ke_frz (.inr rfl) (ke_set (r0 : (Dic Str (Int × (T1 Str)))) (.inl rfl) rfl (fun old0 => (by exact (sj_setC (ce_frz (ce_call (ca_g0 (ag_cons (eg_var (x := enc (shop_ : (Dic (T3 Str Str Int) PV))) rfl) (ag_cons (eg_var (x := enc (part_ : Str)) rfl) (ag_cons (eg_var (x := enc (second_ : Int)) rfl) ag_nil (.inl rfl)) (.inl rfl)) (.inl rfl)) (by exact (ka_call (fj_lines_by_seat shop_ part_ second_) (fun _ => rfl) rfl (fun _ => rfl) rfl (hlen rfl) (fun r1 => by exact (ke_frz (.inr rfl) (ke_set (r1 : (Dic Str (Int × (T1 Str)))) (.inl rfl) rfl (fun new0 => (by exact (sj_setC (ce_frz (ce_g (eg_opg (x := enc (((old0).keys ++ ((((new0).keys).filter (fun a0 : Str => (!(old0).has a0))).map (fun a0 : Str => a0))) : (List Str))) (ag_cons (eg_opg (x := enc ((old0).keys : (List Str))) (ag_cons (eg_var (x := enc (old0 : (Dic Str (Int × (T1 Str))))) rfl) ag_nil (.inl rfl)) [(old0).l.length ≤ 16777216] (fun h => o_listd h)) (ag_cons (eg_lc0 (xs := (new0).keys) (e := enc) (g := (fun a0 : Str => a0)) (b := (fun a0 : Str => (!(old0).has a0))) (ig_keys (eg_var (x := enc (new0 : (Dic Str (Int × (T1 Str))))) rfl)) (.cons rfl i_no .nil) (fun a0 => ⟨⟨_, _, _, _, _, _, bg_name, (tg_of (b := (!(old0).has a0)) (eg_op (x := enc ((!(old0).has a0) : Bool)) (ag_cons (eg_var (x := enc (a0 : Str)) rfl) (ag_cons (eg_var (x := enc (old0 : (Dic Str (Int × (T1 Str))))) rfl) ag_nil (.inl rfl)) (.inl rfl)) o_indkT) tru_b), (eg_var (x := enc (a0 : Str)) rfl), imp_r, imp_r⟩⟩)) ag_nil (.inr (.inl rfl))) (.inr (.inl rfl))) [((old0).keys).length + (((((new0).keys).filter (fun a0 : Str => (!(old0).has a0))).map (fun a0 : Str => a0))).length ≤ 16777216] (fun h => o_addl (by decide) (by decide) h)) rfl (by exact (ke_frz (.inr rfl) (ke_set (((old0).keys ++ ((((new0).keys).filter (fun a0 : Str => (!(old0).has a0))).map (fun a0 : Str => a0))) : (List Str)) (.inl rfl) rfl (fun seats0 => (by exact (sj_setC (ce_g0 (eg_op (x := enc (([] : (List (T3 Str PV PV))) : (List (T3 Str PV PV)))) ag_nil (o_lst (ps := []) (leb rfl))) (by exact (ke_set (([] : (List (T3 Str PV PV))) : (List (T3 Str PV PV))) (.inr rfl) rfl (fun rows0 => (by exact (sj_forC (ci_g (ig_any (xs := ((sortS seats0) : (List Str)).map enc) (eg_opg (x := enc ((sortS seats0) : (List Str))) (ag_cons (eg_var (x := enc (seats0 : (List Str))) rfl) ag_nil (.inl rfl)) [(seats0).length < 64] (fun h => o_sorts h)) (.inr (.inr (.inr ⟨rfl, .inr ⟨rfl, rfl⟩⟩)))) rfl (by exact (ki_fold (Γl := fun s0 : (List (T3 Str PV PV)) => [sv 0 (enc (shop_ : (Dic (T3 Str Str Int) PV))), sv 0 (enc (part_ : Str)), sv 0 (enc (first_ : Int)), sv 0 (enc (second_ : Int)), sv 0 (enc (old0 : (Dic Str (Int × (T1 Str))))), sv 0 (enc (new0 : (Dic Str (Int × (T1 Str))))), sv 0 (enc (seats0 : (List Str))), sv 1 (enc (s0 : (List (T3 Str PV PV)))), fr, fr, fr]) (e := enc) (xs := (sortS seats0)) rows0 (imp_c i_id (imp_c i_id (imp_c i_id (imp_c i_id (imp_c i_id (imp_c i_id (imp_c i_id (imp_c i_id (imp_c i_no (imp_c i_no (imp_c i_no imp_n))))))))))) rfl (fun s0 seat0 => ⟨_, bg_name, (by exact (sj_setC (ce_g0 (eg_op (x := enc ((((old0).get seat0).elim (enc ((Tup.mk [] : Tup Int) : (Tup Int)) : PV) enc) : PV)) (ag_consT (eg_var (x := enc (old0 : (Dic Str (Int × (T1 Str))))) rfl) rfl (ag_cons (eg_var (x := enc (seat0 : Str)) rfl) (ag_cons (eg_op (x := enc ((Tup.mk [] : Tup Int) : (Tup Int))) ag_nil (o_tup (ps := []) (leb rfl))) ag_nil (.inl rfl)) (.inl rfl)) (.inl rfl)) (o_getd2p (by decide) rfl)) (by exact (ke_set ((((old0).get seat0).elim (enc ((Tup.mk [] : Tup Int) : (Tup Int)) : PV) enc) : PV) (.inl rfl) rfl (fun before0 => (by exact (sj_setC (ce_g0 (eg_op (x := enc ((((new0).get seat0).elim (enc ((Tup.mk [] : Tup Int) : (Tup Int)) : PV) enc) : PV)) (ag_consT (eg_var (x := enc (new0 : (Dic Str (Int × (T1 Str))))) rfl) rfl (ag_cons (eg_var (x := enc (seat0 : Str)) rfl) (ag_cons (eg_op (x := enc ((Tup.mk [] : Tup Int) : (Tup Int))) ag_nil (o_tup (ps := []) (leb rfl))) ag_nil (.inl rfl)) (.inl rfl)) (.inl rfl)) (o_getd2p (by decide) rfl)) (by exact (ke_set ((((new0).get seat0).elim (enc ((Tup.mk [] : Tup Int) : (Tup Int)) : PV) enc) : PV) (.inl rfl) rfl (fun after0 => (by exact (sj_last (sj_ifC (ct_g (tg_of (b := (!eqP before0 after0)) (eg_opg (x := enc ((!eqP before0 after0) : Bool)) (ag_cons (eg_var (x := enc (before0 : PV)) rfl) (ag_cons (eg_var (x := enc (after0 : PV)) rfl) ag_nil (.inl rfl)) (.inl rfl)) [EqP before0 after0] (fun h => o_nep h)) tru_b) rfl (by exact (kt_tail rfl (by exact (sj_last (sj_exprC (ce_app rfl (ce_g0 (eg_op (x := enc ((T3.mk seat0 before0 after0) : (T3 Str PV PV))) (ag_cons (eg_var (x := enc (seat0 : Str)) rfl) (ag_cons (eg_var (x := enc (before0 : PV)) rfl) (ag_cons (eg_var (x := enc (after0 : PV)) rfl) ag_nil (.inl rfl)) (.inl rfl)) (.inl rfl)) (o_tup (ps := [enc (seat0 : Str), enc (before0 : PV), enc (after0 : PV)]) (leb rfl))) (by exact (ke_app ((T3.mk seat0 before0 after0) : (T3 Str PV PV)) rfl rfl (fun rows1 => ke_expr (by exact (sj_nil rfl (ok_snx (imp_c i_id (imp_c i_id (imp_c i_id (imp_c i_id (imp_c i_id (imp_c i_id (imp_c i_id (imp_c i_id (imp_c i_fr (imp_c i_fr (imp_c i_fr imp_n)))))))))))))))))))))) (by exact (sj_nil rfl (ok_snx (imp_c i_id (imp_c i_id (imp_c i_id (imp_c i_id (imp_c i_id (imp_c i_id (imp_c i_id (imp_c i_id (imp_c i_fr (imp_c i_fr (imp_c i_fr imp_n))))))))))))))))))))))))))))))))⟩) (fun s1 => (by exact (sj_retC (ce_g0 (eg_op (x := enc ((Tup.mk s1) : (Tup (T3 Str PV PV)))) (ag_cons (eg_var (x := enc (s1 : (List (T3 Str PV PV)))) rfl) ag_nil (.inr (.inr rfl))) (o_tuple (by decide))) (by exact (ke_ret (.inl rfl) rfl (ok_ret rfl (imp_wds rfl)))))))))))))))))))))))))))))))))))))))))))))))))
/-! ### _law_digits -/
def m__law_digits (cell_ : Int) (many_ : Int) : M (List Int) := lt (iabs cell_) fun left0 => lt ([] : (List Int)) fun found0 => grd (Sm many_) <| (M.fold (fun (s0 : (Int × (List Int))) (k0 : Int) => grd ((s0.2).length < 16777216) <| lt (s0.2 ++ [(s0.1 % (720720 : Int))]) fun found1 => lt (s0.1 / (720720 : Int)) fun left1 => .ok (left1, found1)) (rng 0 many_) (left0, found0)).bind fun s1 : (Int × (List Int)) => .ok (s1.2)
theorem fj__law_digits (cell_ : Int) (many_ : Int) : FJ F__law_digits [enc cell_, enc many_] 1 (m__law_digits cell_ many_) (enc : (List Int) → PV) := fj_of (Γ := [sv 0 (enc (cell_ : Int)), sv 0 (enc (many_ : Int)), ex none, ex none, ex none]) rfl (leb rfl) ⟨rfl, rfl, rfl, rfl, rfl, trivial⟩ (by exact (sj_setC (ce_g0 (eg_op (x := enc ((iabs cell_) : Int)) (ag_cons (eg_op (x := enc (cell_ : Int)) (ag_cons (eg_var (x := enc (cell_ : Int)) rfl) ag_nil (.inl rfl)) o_int) ag_nil (.inl rfl)) o_abs) (by exact (ke_set ((iabs cell_) : Int) (.inl rfl) rfl (fun left0 => (by exact (sj_setC (ce_g0 (eg_op (x := enc (([] : (List Int)) : (List Int))) ag_nil (o_lst (ps := []) (leb rfl))) (by exact (ke_set (([] : (List Int)) : (List Int)) (.inr rfl) rfl (fun found0 => (by exact (sj_forC (ci_g (ig_range (xs := ((rng 0 many_)).map enc) (ag_cons (eg_var (x := enc (many_ : Int)) rfl) ag_nil (.inl rfl)) [Sm many_] (fun h => g_rng1 h.1)) rfl (by exact (ki_fold (Γl := fun s0 : (Int × (List Int)) => [sv 0 (enc (cell_ : Int)), sv 0 (enc (many_ : Int)), sv 0 (enc (s0.1 : Int)), sv 1 (enc (s0.2 : (List Int))), fr]) (e := enc) (xs := (rng 0 many_)) (left0, found0) (imp_c i_id (imp_c i_id (imp_c i_id (imp_c i_id (imp_c i_no imp_n))))) rfl (fun s0 k0 => ⟨_, bg_name, (by exact (sj_exprC (ce_app rfl (ce_g0 (eg_op (x := enc ((s0.1 % (720720 : Int)) : Int)) (ag_cons (eg_op (x := enc (s0.1 : Int)) (ag_cons (eg_var (x := enc (s0.1 : Int)) rfl) ag_nil (.inl rfl)) o_int) (ag_cons (eg_c (x := enc (720720 : Int))) ag_nil (.inl rfl)) (.inl rfl)) (o_mod ⟨by decide, trivial⟩)) (by exact (ke_app ((s0.1 % (720720 : Int)) : Int) rfl rfl (fun found1 => ke_expr (by exact (sj_last (sj_setC (ce_g0 (eg_op (x := enc ((s0.1 / (720720 : Int)) : Int)) (ag_cons (eg_var (x := enc (s0.1 : Int)) rfl) (ag_cons (eg_c (x := enc (720720 : Int))) ag_nil (.inl rfl)) (.inl rfl)) (o_fdiv ⟨by decide, trivial⟩)) (by exact (ke_set ((s0.1 / (720720 : Int)) : Int) (.inl rfl) rfl (fun left1 => (by exact (sj_nil rfl (ok_snx (imp_c i_id (imp_c i_id (imp_c i_id (imp_c i_id (imp_c i_fr imp_n))))))))))))))))))))))⟩) (fun s1 => (by exact (sj_retC (ce_g0 (eg_move (x := enc (s1.2 : (List Int))) rfl) (by exact (ke_ret (.inr rfl) rfl (ok_ret rfl (imp_wds rfl)))))))))))))))))))))))))
/-! ### _law_mixed -/
def m__law_mixed (cell_ : Int) (many_ : Int) : M (List Int) := lt ([(cell_ % (720720 : Int))] : (List Int)) fun found0 => lt (cell_ % (2147483647 : Int)) fun x0 => grd (Sm many_) <| (M.fold (fun (s0 : ((List Int) × Int)) (k0 : Int) => grd ((s0.2).natAbs.log2 + ((48271 : Int)).natAbs.log2 < 1000000) <| lt (((s0.2 * (48271 : Int)) + (11 : Int)) % (2147483647 : Int)) fun x1 => grd ((x1).natAbs.log2 + (x1).natAbs.log2 < 1000000) <| grd ((k0).natAbs.log2 + ((69621 : Int)).natAbs.log2 < 1000000) <| grd ((s0.1).length < 16777216) <| lt (s0.1 ++ [((((x1 * x1) + (k0 * (69621 : Int))) % (998244353 : Int)) % (720720 : Int))]) fun found1 => .ok (found1, x1)) (rng 0 many_) (found0, x0)).bind fun s1 : ((List Int) × Int) => .ok (s1.1)
theorem fj__law_mixed (cell_ : Int) (many_ : Int) : FJ F__law_mixed [enc cell_, enc many_] 1 (m__law_mixed cell_ many_) (enc : (List Int) → PV) := fj_of (Γ := [sv 0 (enc (cell_ : Int)), sv 0 (enc (many_ : Int)), ex none, ex none, ex none]) rfl (leb rfl) ⟨rfl, rfl, rfl, rfl, rfl, trivial⟩ (by exact (sj_setC (ce_g0 (eg_op (x := enc (([(cell_ % (720720 : Int))] : (List Int)) : (List Int))) (ag_cons (eg_op (x := enc ((cell_ % (720720 : Int)) : Int)) (ag_cons (eg_op (x := enc (cell_ : Int)) (ag_cons (eg_var (x := enc (cell_ : Int)) rfl) ag_nil (.inl rfl)) o_int) (ag_cons (eg_c (x := enc (720720 : Int))) ag_nil (.inl rfl)) (.inl rfl)) (o_mod ⟨by decide, trivial⟩)) ag_nil (.inl rfl)) (o_lst (ps := [enc ((cell_ % (720720 : Int)) : Int)]) (leb rfl))) (by exact (ke_set (([(cell_ % (720720 : Int))] : (List Int)) : (List Int)) (.inr rfl) rfl (fun found0 => (by exact (sj_setC (ce_g0 (eg_op (x := enc ((cell_ % (2147483647 : Int)) : Int)) (ag_cons (eg_op (x := enc (cell_ : Int)) (ag_cons (eg_var (x := enc (cell_ : Int)) rfl) ag_nil (.inl rfl)) o_int) (ag_cons (eg_c (x := enc (2147483647 : Int))) ag_nil (.inl rfl)) (.inl rfl)) (o_mod ⟨by decide, trivial⟩)) (by exact (ke_set ((cell_ % (2147483647 : Int)) : Int) (.inl rfl) rfl (fun x0 => (by exact (sj_forC (ci_g (ig_range (xs := ((rng 0 many_)).map enc) (ag_cons (eg_var (x := enc (many_ : Int)) rfl) ag_nil (.inl rfl)) [Sm many_] (fun h => g_rng1 h.1)) rfl (by exact (ki_fold (Γl := fun s0 : ((List Int) × Int) => [sv 0 (enc (cell_ : Int)), sv 0 (enc (many_ : Int)), sv 1 (enc (s0.1 : (List Int))), sv 0 (enc (s0.2 : Int)), fr]) (e := enc) (xs := (rng 0 many_)) (found0, x0) (imp_c i_id (imp_c i_id (imp_c i_id (imp_c i_id (imp_c i_no imp_n))))) rfl (fun s0 k0 => ⟨_, bg_name, (by exact (sj_setC (ce_g (eg_op (x := enc ((((s0.2 * (48271 : Int)) + (11 : Int)) % (2147483647 : Int)) : Int)) (ag_cons (eg_op (x := enc (((s0.2 * (48271 : Int)) + (11 : Int)) : Int)) (ag_cons (eg_op (x := enc (((s0.2 * (48271 : Int)) + (11 : Int)) : Int)) (ag_cons (eg_opg (x := enc ((s0.2 * (48271 : Int)) : Int)) (ag_cons (eg_var (x := enc (s0.2 : Int)) rfl) (ag_cons (eg_c (x := enc (48271 : Int))) ag_nil (.inl rfl)) (.inl rfl)) [(s0.2).natAbs.log2 + ((48271 : Int)).natAbs.log2 < 1000000] (fun h => o_mul h)) (ag_cons (eg_c (x := enc (11 : Int))) ag_nil (.inl rfl)) (.inl rfl)) o_add) ag_nil (.inl rfl)) o_int) (ag_cons (eg_c (x := enc (2147483647 : Int))) ag_nil (.inl rfl)) (.inl rfl)) (o_mod ⟨by decide, trivial⟩)) rfl (by exact (ke_set ((((s0.2 * (48271 : Int)) + (11 : Int)) % (2147483647 : Int)) : Int) (.inl rfl) rfl (fun x1 => (by exact (sj_last (sj_exprC (ce_app rfl (ce_g (eg_op (x := enc (((((x1 * x1) + (k0 * (69621 : Int))) % (998244353 : Int)) % (720720 : Int)) : Int)) (ag_cons (eg_op (x := enc ((((x1 * x1) + (k0 * (69621 : Int))) % (998244353 : Int)) : Int)) (ag_cons (eg_op (x := enc ((((x1 * x1) + (k0 * (69621 : Int))) % (998244353 : Int)) : Int)) (ag_cons (eg_op (x := enc (((x1 * x1) + (k0 * (69621 : Int))) : Int)) (ag_cons (eg_op (x := enc (((x1 * x1) + (k0 * (69621 : Int))) : Int)) (ag_cons (eg_opg (x := enc ((x1 * x1) : Int)) (ag_cons (eg_var (x := enc (x1 : Int)) rfl) (ag_cons (eg_var (x := enc (x1 : Int)) rfl) ag_nil (.inl rfl)) (.inl rfl)) [(x1).natAbs.log2 + (x1).natAbs.log2 < 1000000] (fun h => o_mul h)) (ag_cons (eg_opg (x := enc ((k0 * (69621 : Int)) : Int)) (ag_cons (eg_var (x := enc (k0 : Int)) rfl) (ag_cons (eg_c (x := enc (69621 : Int))) ag_nil (.inl rfl)) (.inl rfl)) [(k0).natAbs.log2 + ((69621 : Int)).natAbs.log2 < 1000000] (fun h => o_mul h)) ag_nil (.inl rfl)) (.inl rfl)) o_add) ag_nil (.inl rfl)) o_int) (ag_cons (eg_c (x := enc (998244353 : Int))) ag_nil (.inl rfl)) (.inl rfl)) (o_mod ⟨by decide, trivial⟩)) ag_nil (.inl rfl)) o_int) (ag_cons (eg_c (x := enc (720720 : Int))) ag_nil (.inl rfl)) (.inl rfl)) (o_mod ⟨by decide, trivial⟩)) rfl (by exact (ke_app (((((x1 * x1) + (k0 * (69621 : Int))) % (998244353 : Int)) % (720720 : Int)) : Int) rfl rfl (fun found1 => ke_expr (by exact (sj_nil rfl (ok_snx (imp_c i_id (imp_c i_id (imp_c i_id (imp_c i_id (imp_c i_fr imp_n))))))))))))))))))))))⟩) (fun s1 => (by exact (sj_retC (ce_g0 (eg_move (x := enc (s1.1 : (List Int))) rfl) (by exact (ke_ret (.inr rfl) rfl (ok_ret rfl (imp_wds rfl)))))))))))))))))))))))))
/-! ### _law_numbers -/
def m__law_numbers (script_ : (CLst Int)) (count_ : Int) : M (List Int) := grd (((cutL (script_).l none (some (63 : Int)))).length ≤ 16777216) <| lt (((cutL (script_).l none (some (63 : Int)))).map (fun a0 : Int => a0)) fun cells0 => (if (decide (((cells0).length : Int) = (0 : Int))) = true then lt ([(0 : Int)] : (List Int)) fun cells1 => .ok cells1 else .ok cells0).bind fun s0 : (List Int) => grd (0 < ((s0).length : Int) ∧ (((s0).length : Int)).natAbs.log2 < 9000) <| lt ((count_ / ((s0).length : Int)) + (1 : Int)) fun each0 => lt ([] : (List (List Int))) fun rows0 => (M.fold (fun (s1 : (List (List Int))) (cell0 : Int) => (if (decide (((10 : Int) ^ ((18 : Int)).toNat) ≤ (iabs cell0))) = true then (m__law_digits cell0 each0).bind fun r0 => grd ((s1).length < 16777216) <| lt (s1 ++ [r0]) fun rows1 => .ok rows1 else (m__law_mixed ((iabs cell0)) each0).bind fun r1 => grd ((s1).length < 16777216) <| lt (s1 ++ [r1]) fun rows2 => .ok rows2)) s0 rows0).bind fun s2 : (List (List Int)) => grd (Sm count_) <| grd (∀ a1 ∈ (rng 0 count_), Al [0 < ((s0).length : Int), ixOk s2 (a1 % ((s0).length : Int)), 0 < ((s0).length : Int) ∧ (((s0).length : Int)).natAbs.log2 < 9000, ixOk (geti s2 (a1 % ((s0).length : Int))) (a1 / ((s0).length : Int))]) <| grd (((rng 0 count_)).length ≤ 16777216) <| .ok ((((rng 0 count_)).map (fun a1 : Int => (geti (geti s2 (a1 % ((s0).length : Int))) (a1 / ((s0).length : Int))))))
theorem fj__law_numbers (script_ : (CLst Int)) (count_ : Int) : FJ F__law_numbers [enc script_, enc count_] 1 (m__law_numbers script_ count_) (enc : (List Int) → PV) := fj_of (Γ := [sv 0 (enc (script_ : (CLst Int))), sv 0 (enc (count_ : Int)), ex none, ex none, ex none, ex none, ex none]) rfl (leb rfl) ⟨rfl, rfl, rfl, rfl, rfl, rfl, rfl, trivial⟩ (by exact (sj_setFC (ce_g (eg_lcm0 (xs := (cutL (script_).l none (some (63 : Int)))) (e := enc) (g := (fun a0 : Int => a0)) (ig_any (xs := ((cutL (script_).l none (some (63 : Int))) : (List Int)).map enc) (eg_op (x := enc ((cutL (script_).l none (some (63 : Int))) : (List Int))) (ag_cons (eg_var (x := enc (script_ : (CLst Int))) rfl) (ag_consT (eg_c (x := enc (63 : Int))) rfl ag_nil (.inl rfl)) (.inl rfl)) o_sc01) (.inr (.inr (.inr ⟨rfl, .inr ⟨rfl, rfl⟩⟩)))) (.cons rfl i_no .nil) (fun a0 => ⟨⟨_, _, _, _, _, _, bg_name, tg_true, (eg_op (x := enc (a0 : Int)) (ag_cons (eg_var (x := enc (a0 : Int)) rfl) ag_nil (.inl rfl)) o_int), imp_r, imp_r⟩⟩)) rfl (by exact (ke_setF ((((cutL (script_).l none (some (63 : Int)))).map (fun a0 : Int => a0)) : (List Int)) (.inr rfl) (show 2 < 7 by decide) rfl (fun cells0 => (by exact (sj_ifC (ct_g0 (tg_of (b := (decide (((cells0).length : Int) = (0 : Int)))) (eg_op (x := enc ((decide (((cells0).length : Int) = (0 : Int))) : Bool)) (ag_cons (eg_op (x := enc (((cells0).length : Int) : Int)) (ag_cons (eg_var (x := enc (cells0 : (List Int))) rfl) ag_nil (.inl rfl)) o_lenl) (ag_cons (eg_c (x := enc (0 : Int))) ag_nil (.inl rfl)) (.inl rfl)) o_eqf) tru_b) (by exact (kt_join (Γf := fun s0 : (List Int) => [sv 0 (enc (script_ : (CLst Int))), sv 0 (enc (count_ : Int)), sv 0 (enc (s0 : (List Int))), ex none, ex none, ex none, ex none]) rfl (by exact (sj_last (sj_setC (ce_frz (ce_g0 (eg_op (x := enc (([(0 : Int)] : (List Int)) : (List Int))) (ag_cons (eg_c (x := enc (0 : Int))) ag_nil (.inl rfl)) (o_lst (ps := [enc ((0 : Int) : Int)]) (leb rfl))) (by exact (ke_frz (.inr rfl) (ke_set (([(0 : Int)] : (List Int)) : (List Int)) (.inl rfl) rfl (fun cells1 => (by exact (sj_nil rfl (ok_n (imp_c i_id (imp_c i_id (imp_c i_id (imp_c i_id (imp_c i_id (imp_c i_id (imp_c i_id imp_n))))))))))))))))))) (by exact (sj_nil rfl (ok_n (imp_c i_id (imp_c i_id (imp_c i_id (imp_c i_id (imp_c i_id (imp_c i_id (imp_c i_id imp_n)))))))))) (fun s0 => (by exact (sj_setC (ce_g (eg_op (x := enc (((count_ / ((s0).length : Int)) + (1 : Int)) : Int)) (ag_cons (eg_opg (x := enc ((count_ / ((s0).length : Int)) : Int)) (ag_cons (eg_var (x := enc (count_ : Int)) rfl) (ag_cons (eg_op (x := enc (((s0).length : Int) : Int)) (ag_cons (eg_var (x := enc (s0 : (List Int))) rfl) ag_nil (.inl rfl)) o_lenl) ag_nil (.inl rfl)) (.inl rfl)) [0 < ((s0).length : Int) ∧ (((s0).length : Int)).natAbs.log2 < 9000] (fun h => o_fdiv h)) (ag_cons (eg_c (x := enc (1 : Int))) ag_nil (.inl rfl)) (.inl rfl)) o_add) rfl (by exact (ke_set (((count_ / ((s0).length : Int)) + (1 : Int)) : Int) (.inl rfl) rfl (fun each0 => (by exact (sj_setC (ce_g0 (eg_op (x := enc (([] : (List (List Int))) : (List (List Int)))) ag_nil (o_lst (ps := []) (leb rfl))) (by exact (ke_set (([] : (List (List Int))) : (List (List Int))) (.inr rfl) rfl (fun rows0 => (by exact (sj_fz (sj_forC (ci_g0 (ig_any (xs := (s0 : (List Int)).map enc) (eg_var (x := enc (s0 : (List Int))) rfl) (.inr (.inr (.inr ⟨rfl, .inl rfl⟩)))) (by exact (ki_fold (Γl := fun s1 : (List (List Int)) => [sv 0 (enc (script_ : (CLst Int))), sv 0 (enc (count_ : Int)), sv 0 (enc (s0 : (List Int))), sv 0 (enc (each0 : Int)), sv 1 (enc (s1 : (List (List Int)))), fr, ex none]) (e := enc) (xs := s0) rows0 (imp_c i_id (imp_c i_id (imp_c i_id (imp_c i_id (imp_c i_id (imp_c i_no (imp_c i_id imp_n))))))) rfl (fun s1 cell0 => ⟨_, bg_name, (by exact (sj_last (sj_ifC (ct_g0 (tg_of (b := (decide (((10 : Int) ^ ((18 : Int)).toNat) ≤ (iabs cell0)))) (eg_op (x := enc ((decide (((10 : Int) ^ ((18 : Int)).toNat) ≤ (iabs cell0))) : Bool)) (ag_cons (eg_op (x := enc ((iabs cell0) : Int)) (ag_cons (eg_var (x := enc (cell0 : Int)) rfl) ag_nil (.inl rfl)) o_abs) (ag_cons (eg_op (x := enc (((10 : Int) ^ ((18 : Int)).toNat) : Int)) (ag_cons (eg_c (x := enc (10 : Int))) (ag_cons (eg_c (x := enc (18 : Int))) ag_nil (.inl rfl)) (.inl rfl)) (o_pow ⟨by decide, trivial⟩)) ag_nil (.inl rfl)) (.inl rfl)) o_ge) tru_b) (by exact (kt_tail rfl (by exact (sj_last (sj_exprC (ce_app rfl (ce_frz (ce_call (ca_g0 (ag_cons (eg_var (x := enc (cell0 : Int)) rfl) (ag_cons (eg_var (x := enc (each0 : Int)) rfl) ag_nil (.inl rfl)) (.inl rfl)) (by exact (ka_call (fj__law_digits cell0 each0) (fun _ => rfl) rfl (fun _ => rfl) rfl (hlen rfl) (fun r0 => by exact (ke_frz (.inr rfl) (ke_app (r0 : (List Int)) rfl rfl (fun rows1 => ke_expr (by exact (sj_nil rfl (ok_snx (imp_c i_id (imp_c i_id (imp_c i_id (imp_c i_id (imp_c i_id (imp_c i_fr (imp_c i_id imp_n))))))))))))))))))))))) (by exact (sj_last (sj_exprC (ce_app rfl (ce_frz (ce_call (ca_g0 (ag_cons (eg_op (x := enc ((iabs cell0) : Int)) (ag_cons (eg_var (x := enc (cell0 : Int)) rfl) ag_nil (.inl rfl)) o_abs) (ag_cons (eg_var (x := enc (each0 : Int)) rfl) ag_nil (.inl rfl)) (.inl rfl)) (by exact (ka_call (fj__law_mixed ((iabs cell0)) each0) (fun _ => rfl) rfl (fun _ => rfl) rfl (hlen rfl) (fun r1 => by exact (ke_frz (.inr rfl) (ke_app (r1 : (List Int)) rfl rfl (fun rows2 => ke_expr (by exact (sj_nil rfl (ok_snx (imp_c i_id (imp_c i_id (imp_c i_id (imp_c i_id (imp_c i_id (imp_c i_fr (imp_c i_id imp_n)))))))))))))))))))))))))))))⟩) (fun s2 => (by exact (sj_fzs rfl (by exact (sj_retC (ce_g (eg_lcm (xs := (rng 0 count_)) (e := enc) (g := (fun a1 : Int => (geti (geti s2 (a1 % ((s0).length : Int))) (a1 / ((s0).length : Int))))) (cf := fun a1 => [0 < ((s0).length : Int), ixOk s2 (a1 % ((s0).length : Int)), 0 < ((s0).length : Int) ∧ (((s0).length : Int)).natAbs.log2 < 9000, ixOk (geti s2 (a1 % ((s0).length : Int))) (a1 / ((s0).length : Int))]) (ig_range (xs := ((rng 0 count_)).map enc) (ag_cons (eg_var (x := enc (count_ : Int)) rfl) ag_nil (.inl rfl)) [Sm count_] (fun h => g_rng1 h.1)) (.cons rfl i_no .nil) (fun a1 => ⟨⟨_, _, _, _, _, _, bg_name, tg_true, (eg_opg (x := enc ((geti (geti s2 (a1 % ((s0).length : Int))) (a1 / ((s0).length : Int))) : Int)) (ag_cons (eg_opg (x := enc ((geti s2 (a1 % ((s0).length : Int))) : (List Int))) (ag_cons (eg_var (x := enc (s2 : (List (List Int)))) rfl) (ag_cons (eg_opg (x := enc ((a1 % ((s0).length : Int)) : Int)) (ag_cons (eg_op (x := enc (a1 : Int)) (ag_cons (eg_var (x := enc (a1 : Int)) rfl) ag_nil (.inl rfl)) o_int) (ag_cons (eg_op (x := enc (((s0).length : Int) : Int)) (ag_cons (eg_var (x := enc (s0 : (List Int))) rfl) ag_nil (.inl rfl)) o_lenl) ag_nil (.inl rfl)) (.inl rfl)) [0 < ((s0).length : Int)] (fun h => o_mod h)) ag_nil (.inl rfl)) (.inl rfl)) [ixOk s2 (a1 % ((s0).length : Int))] (fun h => o_ixl (by decide) h)) (ag_cons (eg_opg (x := enc ((a1 / ((s0).length : Int)) : Int)) (ag_cons (eg_var (x := enc (a1 : Int)) rfl) (ag_cons (eg_op (x := enc (((s0).length : Int) : Int)) (ag_cons (eg_var (x := enc (s0 : (List Int))) rfl) ag_nil (.inl rfl)) o_lenl) ag_nil (.inl rfl)) (.inl rfl)) [0 < ((s0).length : Int) ∧ (((s0).length : Int)).natAbs.log2 < 9000] (fun h => o_fdiv h)) ag_nil (.inl rfl)) (.inl rfl)) [ixOk (geti s2 (a1 % ((s0).length : Int))) (a1 / ((s0).length : Int))] (fun h => o_ixl (by decide) h)), imp_r, imp_r⟩⟩)) rfl (by exact (ke_ret (.inr rfl) rfl (ok_ret rfl (imp_wds rfl))))))))))))))))))))))))))))))))))))))))
/-! ### _law_next -/
def m__law_next (numbers_ : (List Int)) (many_ : Int) : M (Int × (List Int)) := (if (decide (((numbers_).length : Int) = (0 : Int))) = true then .ok (((0 : Int), numbers_)) else grd (numbers_ ≠ []) <| lt (numbers_.headD default) fun v0 => lt numbers_.tail fun u0 => grd (0 < many_) <| .ok (((v0 % many_), u0)))
theorem fj__law_next (numbers_ : (List Int)) (many_ : Int) : FJ1 F__law_next [enc numbers_, enc many_] 0 (m__law_next numbers_ many_) (fun r : (Int × (List Int)) => enc r.1) (fun r : (Int × (List Int)) => [enc r.2, enc many_]) := fj1_of (Γ := [sv 1 (enc (numbers_ : (List Int))), sv 0 (enc (many_ : Int))]) (P := fun r : (Int × (List Int)) => [sv 1 (enc r.2), wd]) rfl ⟨rfl, rfl, trivial⟩ (fun r ρ h => match ρ, h with | [q0, q1], ⟨h0, h1, _⟩ => by cases h0; rfl) (by exact (sj_ifC (ct_g0 (tg_of (b := (decide (((numbers_).length : Int) = (0 : Int)))) (eg_op (x := enc ((decide (((numbers_).length : Int) = (0 : Int))) : Bool)) (ag_cons (eg_op (x := enc (((numbers_).length : Int) : Int)) (ag_cons (eg_var (x := enc (numbers_ : (List Int))) rfl) ag_nil (.inr (.inr rfl))) o_lenl) (ag_cons (eg_c (x := enc (0 : Int))) ag_nil (.inl rfl)) (.inl rfl)) o_eqf) tru_b) (by exact (kt_esc1 rfl (by exact (sj_retC (ce_g0 (eg_c (x := enc (0 : Int))) (by exact (ke_ret (.inl rfl) rfl (ok_c shut_rt (ok_ret rfl (imp_c i_id (imp_c i_wd imp_n))))))))) (sj_pass (by exact (sj_retC (ce_op (ca_cons (ce_op (ca_cons (ce_pop0 rfl rfl (fun v0 u0 => (ke_cons (.inl rfl) (fun _ => (ca_g0 ag_nil (by exact (ka_add (ka_op (x := enc (v0 : Int)) o_int (ke_cons (.inl rfl) (fun _ => (ca_g0 (ag_cons (eg_var (x := enc (many_ : Int)) rfl) ag_nil (.inl rfl)) (by exact (ka_add (ka_opg (x := enc ((v0 % many_) : Int)) [0 < many_] (fun h => o_mod h) rfl (ke_ret (.inl rfl) rfl (ok_ret rfl (imp_c i_id (imp_c i_wd imp_n))))))))))))))))))))))))))))))
/-! ### _law_names -/
def m__law_names (numbers_ : (List Int)) (many_ : Int) : M ((List Str) × (List Int)) := lt ("abcdefghijklmnopqrstuvwxyz" : Str) fun letters0 => (m__law_next numbers_ ((26 : Int))).noexc.bind fun r0 => lt r0.1 fun start0 => lt ([] : (List Str)) fun found0 => grd (Sm many_) <| (M.fold (fun (s0 : ((List Int) × (List Str))) (k0 : Int) => (m__law_next (s0.1) ((200 : Int))).noexc.bind fun r1 => lt r1.1 fun tail0 => grd (((5 : Int)).natAbs.log2 + (k0).natAbs.log2 < 1000000) <| grd ((letters0).length ≤ 16777216) <| grd (ixOk (letters0).cps.toList ((start0 + ((5 : Int) * k0)) % (26 : Int))) <| lt (chrAt letters0 ((start0 + ((5 : Int) * k0)) % (26 : Int))) fun name0 => (if (decide (tail0 < (100 : Int))) = true then grd ((tail0).natAbs.log2 < 1920) <| grd ((name0).length + ((istr tail0)).length ≤ 16777216) <| lt (name0 ++ (istr tail0)) fun name1 => .ok name1 else .ok name0).bind fun s1 : Str => grd ((s0.2).length < 16777216) <| lt (s0.2 ++ [s1]) fun found1 => .ok (r1.2, found1)) (rng 0 many_) (r0.2, found0)).bind fun s2 : ((List Int) × (List Str)) => .ok ((s2.2, s2.1))
theorem fj__law_names (numbers_ : (List Int)) (many_ : Int) : FJ1 F__law_names [enc numbers_, enc many_] 1 (m__law_names numbers_ many_) (fun r : ((List Str) × (List Int)) => enc r.1) (fun r : ((List Str) × (List Int)) => [enc r.2, enc many_]) := fj1_of (Γ := [sv 1 (enc (numbers_ : (List Int))), sv 0 (enc (many_ : Int)), ex none, ex none, ex none, ex none, ex none, ex none]) (P := fun r : ((List Str) × (List Int)) => [sv 1 (enc r.2), wd, wd, wd, wd, wd, wd, wd]) rfl ⟨rfl, rfl, rfl, rfl, rfl, rfl, rfl, rfl, trivial⟩ (fun r ρ h => match ρ, h with | [q0, q1, q2, q3, q4, q5, q6, q7], ⟨h0, h1, h2, h3, h4, h5, h6, h7, _⟩ => by cases h0; rfl) (by exact (sj_setC (ce_g0 (eg_c (x := enc ("abcdefghijklmnopqrstuvwxyz" : Str))) (by exact (ke_set (("abcdefghijklmnopqrstuvwxyz" : Str) : Str) (.inl rfl) rfl (fun letters0 => (by exact (sj_setC (ce_call (ca_mut rfl (ca_g0 (ag_cons (eg_c (x := enc (26 : Int))) ag_nil (.inl rfl)) (by exact (ka_add (ka_call1 rfl (fj__law_next numbers_ ((26 : Int))) (fun ρ e => by simp [callIn, e]) (fun _ => rfl) (fun _ _ => rfl) rfl (fun r0 => by exact (ke_set (r0.1 : Int) (.inl rfl) rfl (fun start0 => (by exact (sj_setC (ce_g0 (eg_op (x := enc (([] : (List Str)) : (List Str))) ag_nil (o_lst (ps := []) (leb rfl))) (by exact (ke_set (([] : (List Str)) : (List Str)) (.inr rfl) rfl (fun found0 => (by exact (sj_forC (ci_g (ig_range (xs := ((rng 0 many_)).map enc) (ag_cons (eg_var (x := enc (many_ : Int)) rfl) ag_nil (.inl rfl)) [Sm many_] (fun h => g_rng1 h.1)) rfl (by exact (ki_fold (Γl := fun s0 : ((List Int) × (List Str)) => [sv 1 (enc (s0.1 : (List Int))), sv 0 (enc (many_ : Int)), sv 0 (enc (letters0 : Str)), sv 0 (enc (start0 : Int)), sv 1 (enc (s0.2 : (List Str))), fr, fr, fr]) (e := enc) (xs := (rng 0 many_)) (r0.2, found0) (imp_c i_id (imp_c i_id (imp_c i_id (imp_c i_id (imp_c i_id (imp_c i_no (imp_c i_no (imp_c i_no imp_n)))))))) rfl (fun s0 k0 => ⟨_, bg_name, (by exact (sj_setC (ce_call (ca_mut rfl (ca_g0 (ag_cons (eg_c (x := enc (200 : Int))) ag_nil (.inl rfl)) (by exact (ka_add (ka_call1 rfl (fj__law_next (s0.1) ((200 : Int))) (fun ρ e => by simp [callIn, e]) (fun _ => rfl) (fun _ _ => rfl) rfl (fun r1 => by exact (ke_set (r1.1 : Int) (.inl rfl) rfl (fun tail0 => (by exact (sj_setC (ce_g (eg_opg (x := enc ((chrAt letters0 ((start0 + ((5 : Int) * k0)) % (26 : Int))) : Str)) (ag_cons (eg_var (x := enc (letters0 : Str)) rfl) (ag_cons (eg_op (x := enc (((start0 + ((5 : Int) * k0)) % (26 : Int)) : Int)) (ag_cons (eg_op (x := enc ((start0 + ((5 : Int) * k0)) : Int)) (ag_cons (eg_op (x := enc ((start0 + ((5 : Int) * k0)) : Int)) (ag_cons (eg_var (x := enc (start0 : Int)) rfl) (ag_cons (eg_opg (x := enc (((5 : Int) * k0) : Int)) (ag_cons (eg_c (x := enc (5 : Int))) (ag_cons (eg_var (x := enc (k0 : Int)) rfl) ag_nil (.inl rfl)) (.inl rfl)) [((5 : Int)).natAbs.log2 + (k0).natAbs.log2 < 1000000] (fun h => o_mul h)) ag_nil (.inl rfl)) (.inl rfl)) o_add) ag_nil (.inl rfl)) o_int) (ag_cons (eg_c (x := enc (26 : Int))) ag_nil (.inl rfl)) (.inl rfl)) (o_mod ⟨by decide, trivial⟩)) ag_nil (.inl rfl)) (.inl rfl)) [(letters0).length ≤ 16777216, ixOk (letters0).cps.toList ((start0 + ((5 : Int) * k0)) % (26 : Int))] (fun h => o_ixs h)) rfl (by exact (ke_set ((chrAt letters0 ((start0 + ((5 : Int) * k0)) % (26 : Int))) : Str) (.inl rfl) rfl (fun name0 => (by exact (sj_ifC (ct_g0 (tg_of (b := (decide (tail0 < (100 : Int)))) (eg_op (x := enc ((decide (tail0 < (100 : Int))) : Bool)) (ag_cons (eg_var (x := enc (tail0 : Int)) rfl) (ag_cons (eg_c (x := enc (100 : Int))) ag_nil (.inl rfl)) (.inl rfl)) o_lt) tru_b) (by exact (kt_join (Γf := fun s1 : Str => [sv 1 (enc (r1.2 : (List Int))), sv 0 (enc (many_ : Int)), sv 0 (enc (letters0 : Str)), sv 0 (enc (start0 : Int)), sv 1 (enc (s0.2 : (List Str))), sv 0 (enc (k0 : Int)), sv 0 (enc (tail0 : Int)), sv 0 (enc (s1 : Str))]) rfl (by exact (sj_last (sj_setC (ce_g (eg_opg (x := enc ((name0 ++ (istr tail0)) : Str)) (ag_cons (eg_var (x := enc (name0 : Str)) rfl) (ag_cons (eg_opg (x := enc ((istr tail0) : Str)) (ag_cons (eg_var (x := enc (tail0 : Int)) rfl) ag_nil (.inl rfl)) [(tail0).natAbs.log2 < 1920] (fun h => o_str h)) ag_nil (.inl rfl)) (.inl rfl)) [(name0).length + ((istr tail0)).length ≤ 16777216] (fun h => o_adds h)) rfl (by exact (ke_set ((name0 ++ (istr tail0)) : Str) (.inl rfl) rfl (fun name1 => (by exact (sj_nil rfl (ok_n (imp_c i_id (imp_c i_id (imp_c i_id (imp_c i_id (imp_c i_id (imp_c i_id (imp_c i_id (imp_c i_id imp_n)))))))))))))))))) (by exact (sj_nil rfl (ok_n (imp_c i_id (imp_c i_id (imp_c i_id (imp_c i_id (imp_c i_id (imp_c i_id (imp_c i_id (imp_c i_id imp_n))))))))))) (fun s1 => (by exact (sj_last (sj_exprC (ce_app rfl (ce_g0 (eg_var (x := enc (s1 : Str)) rfl) (by exact (ke_app (s1 : Str) rfl rfl (fun found1 => ke_expr (by exact (sj_nil rfl (ok_snx (imp_c i_id (imp_c i_id (imp_c i_id (imp_c i_id (imp_c i_id (imp_c i_fr (imp_c i_fr (imp_c i_fr imp_n))))))))))))))))))))))))))))))))))))))))))⟩) (fun s2 => (by exact (sj_retC (ce_g0 (eg_move (x := enc (s2.2 : (List Str))) rfl) (by exact (ke_ret (.inr rfl) rfl (ok_ret rfl (imp_c i_id (imp_c i_wd (imp_c i_wd (imp_c i_wd (imp_c i_wd (imp_c i_wd (imp_c i_wd (imp_c i_wd imp_n)))))))))))))))))))))))))))))))))))))))))))
/-! ### _law_copy -/
def m__law_copy (shop_ : (Dic (T3 Str Str Int) PV)) : M (Dic (T3 Str Str Int) PV) := lt (⟨[]⟩ : (Dic (T3 Str Str Int) PV)) fun found0 => (M.fold (fun (s0 : (Dic (T3 Str Str Int) PV)) (key0 : (T3 Str Str Int)) => grd (((shop_).get key0).isSome = true) <| grd ((s0).l.length < 16777216) <| lt ((s0).put key0 (((shop_).get key0).getD default)) fun found1 => .ok found1) (shop_).keys found0).bind fun s1 : (Dic (T3 Str Str Int) PV) => .ok (s1)
theorem fj__law_copy (shop_ : (Dic (T3 Str Str Int) PV)) : FJ F__law_copy [enc shop_] 1 (m__law_copy shop_) (enc : (Dic (T3 Str Str Int) PV) → PV) := fj_of (Γ := [sv 0 (enc (shop_ : (Dic (T3 Str Str Int) PV))), ex none, ex none]) rfl (leb rfl) ⟨rfl, rfl, rfl, trivial⟩ (by exact (sj_setC (ce_g0 eg_dnew (by exact (ke_set ((⟨[]⟩ : (Dic (T3 Str Str Int) PV)) : (Dic (T3 Str Str Int) PV)) (.inr rfl) rfl (fun found0 => (by exact (sj_forC (ci_g0 (ig_keys (eg_var (x := enc (shop_ : (Dic (T3 Str Str Int) PV))) rfl)) (by exact (ki_fold (Γl := fun s0 : (Dic (T3 Str Str Int) PV) => [sv 0 (enc (shop_ : (Dic (T3 Str Str Int) PV))), sv 1 (enc (s0 : (Dic (T3 Str Str Int) PV))), fr]) (e := enc) (xs := (shop_).keys) found0 (imp_c i_id (imp_c i_id (imp_c i_no imp_n))) rfl (fun s0 key0 => ⟨_, bg_name, (by exact (sj_last (sj_putC (ce_g (eg_opg (x := enc ((((shop_).get key0).getD default) : PV)) (ag_cons (eg_var (x := enc (shop_ : (Dic (T3 Str Str Int) PV))) rfl) (ag_cons (eg_var (x := enc (key0 : (T3 Str Str Int))) rfl) ag_nil (.inl rfl)) (.inl rfl)) [((shop_).get key0).isSome = true] (fun h => o_ixd (by decide) h)) rfl (by exact (ke_put rfl (fun _ _ _ => (ce_g0 (eg_var (x := enc (key0 : (T3 Str Str Int))) rfl) (by exact (ke_putd (key0 : (T3 Str Str Int)) ((((shop_).get key0).getD default) : PV) rfl rfl (fun found1 => (by exact (sj_nil rfl (ok_snx (imp_c i_id (imp_c i_id (imp_c i_fr imp_n)))))))))))))))))⟩) (fun s1 => (by exact (sj_retC (ce_g0 (eg_move (x := enc (s1 : (Dic (T3 Str Str Int) PV))) rfl) (by exact (ke_ret (.inr rfl) rfl (ok_ret rfl (imp_wds rfl)))))))))))))))))))
/-! ### _law_body -/
def m__law_body (numbers_ : (List Int)) (kind_ : Str) (parts_ : (List Str)) : M (PV × (List Int)) := (if (decide (kind_ = ("drawing" : Str))) = true then (m__law_next numbers_ ((9 : Int))).noexc.bind fun r0 => .ok (((enc ((T3.mk (("a" : Str), ("b" : Str)) (T1.mk (T5.mk ("d" : Str) ("a" : Str) ("b" : Str) ((0 : Int), (1 : Int)) (r0.1, (1 : Int)))) (Tup.mk [] : Tup Int)) : (T3 (Str × Str) (T1 (T5 Str Str Str (Int × Int) (Int × Int))) (Tup Int))) : PV), r0.2)) else (if (decide (kind_ = ("routing" : Str))) = true then (m__law_next numbers_ ((5 : Int))).noexc.bind fun r1 => (m__law_next (r1.2) ((5 : Int))).noexc.bind fun r2 => .ok (((enc ((T1.mk (T7.mk ("cut" : Str) ("saw" : Str) (T1.mk ("m" : Str)) ("" : Str) (0 : Int) r1.1 ((1 : Int) + r2.1))) : (T1 (T7 Str Str (T1 Str) Str Int Int Int))) : PV), r2.2)) else lt ([] : (List (T3 Str Int (T1 Str)))) fun lines0 => (m__law_next numbers_ ((5 : Int))).noexc.bind fun r3 => grd (Sm (((1 : Int) + r3.1))) <| (M.fold (fun (s0 : ((List Int) × (List (T3 Str Int (T1 Str))))) (k0 : Int) => (m__law_next (s0.1) ((5 : Int))).noexc.bind fun r4 => grd ((("suvwx" : Str)).length ≤ 16777216) <| grd (ixOk (("suvwx" : Str)).cps.toList r4.1) <| lt (chrAt ("suvwx" : Str) r4.1) fun seat0 => grd (∀ a0 ∈ s0.2, Al []) <| grd ((s0.2).length ≤ 16777216) <| (if (!decide (seat0 ∈ (((s0.2).map (fun a0 : (T3 Str Int (T1 Str)) => (a0).a))))) = true then (m__law_next (r4.2) ((2 : Int))).noexc.bind fun r5 => (m__law_next (r5.2) ((3 : Int))).noexc.bind fun r6 => grd (ixOk parts_ r6.1) <| grd ((s0.2).length < 16777216) <| lt (s0.2 ++ [(T3.mk seat0 ((1 : Int) + r5.1) (T1.mk (geti parts_ r6.1)))]) fun lines1 => .ok (r6.2, lines1) else .ok (r4.2, s0.2))) (rng 0 ((1 : Int) + r3.1)) (r3.2, lines0)).bind fun s1 : ((List Int) × (List (T3 Str Int (T1 Str)))) => .ok (((enc ((Tup.mk s1.2) : (Tup (T3 Str Int (T1 Str)))) : PV), s1.1))))
theorem fj__law_body (numbers_ : (List Int)) (kind_ : Str) (parts_ : (List Str)) : FJ1 F__law_body [enc numbers_, enc kind_, enc parts_] 0 (m__law_body numbers_ kind_ parts_) (fun r : (PV × (List Int)) => enc r.1) (fun r : (PV × (List Int)) => [enc r.2, enc kind_, enc parts_]) := fj1_of (Γ := [sv 1 (enc (numbers_ : (List Int))), sv 0 (enc (kind_ : Str)), sv 0 (enc (parts_ : (List Str))), ex none, ex none, ex none, ex none]) (P := fun r : (PV × (List Int)) => [sv 1 (enc r.2), wd, wd, wd, wd, wd, wd]) rfl ⟨rfl, rfl, rfl, rfl, rfl, rfl, rfl, trivial⟩ (fun r ρ h => match ρ, h with | [q0, q1, q2, q3, q4, q5, q6], ⟨h0, h1, h2, h3, h4, h5, h6, _⟩ => by cases h0; rfl) (by exact (sj_ifC (ct_g0 (tg_of (b := (decide (kind_ = ("drawing" : Str)))) (eg_op (x := enc ((decide (kind_ = ("drawing" : Str))) : Bool)) (ag_cons (eg_var (x := enc (kind_ : Str)) rfl) (ag_cons (eg_c (x := enc ("drawing" : Str))) ag_nil (.inl rfl)) (.inl rfl)) o_eqf) tru_b) (by exact (kt_esc1 rfl (by exact (sj_retC (ce_op (ca_cons (ce_g0 (eg_op (x := enc ((("a" : Str), ("b" : Str)) : (Str × Str))) (ag_cons (eg_c (x := enc ("a" : Str))) (ag_cons (eg_c (x := enc ("b" : Str))) ag_nil (.inl rfl)) (.inl rfl)) (o_tup (ps := [enc (("a" : Str) : Str), enc (("b" : Str) : Str)]) (leb rfl))) (by exact (ke_cons (.inl rfl) (fun _ => (ca_cons (ce_op (ca_cons (ce_op (ca_cons (ce_g0 (eg_c (x := enc ("d" : Str))) (by exact (ke_cons (.inl rfl) (fun _ => (ca_cons (ce_g0 (eg_c (x := enc ("a" : Str))) (by exact (ke_cons (.inl rfl) (fun _ => (ca_cons (ce_g0 (eg_c (x := enc ("b" : Str))) (by exact (ke_cons (.inl rfl) (fun _ => (ca_cons (ce_g0 (eg_op (x := enc (((0 : Int), (1 : Int)) : (Int × Int))) (ag_cons (eg_c (x := enc (0 : Int))) (ag_cons (eg_c (x := enc (1 : Int))) ag_nil (.inl rfl)) (.inl rfl)) (o_tup (ps := [enc ((0 : Int) : Int), enc ((1 : Int) : Int)]) (leb rfl))) (by exact (ke_cons (.inl rfl) (fun _ => (ca_cons (ce_op (ca_cons (ce_call (ca_mut rfl (ca_g0 (ag_cons (eg_c (x := enc (9 : Int))) ag_nil (.inl rfl)) (by exact (ka_add (ka_call1 rfl (fj__law_next numbers_ ((9 : Int))) (fun ρ e => by simp [callIn, e]) (fun _ => rfl) (fun _ _ => rfl) rfl (fun r0 => by exact (ke_cons (.inl rfl) (fun _ => (ca_g0 (ag_cons (eg_c (x := enc (1 : Int))) ag_nil (.inl rfl)) (by exact (ka_add (ka_op (x := enc ((r0.1, (1 : Int)) : (Int × Int))) (o_tup (ps := [enc (r0.1 : Int), enc ((1 : Int) : Int)]) (leb rfl)) (ke_cons (.inl rfl) (fun _ => (ca_g0 ag_nil (by exact (ka_add (ka_add (ka_add (ka_add (ka_add (ka_op (x := enc ((T5.mk ("d" : Str) ("a" : Str) ("b" : Str) ((0 : Int), (1 : Int)) (r0.1, (1 : Int))) : (T5 Str Str Str (Int × Int) (Int × Int)))) (o_tup (ps := [enc (("d" : Str) : Str), enc (("a" : Str) : Str), enc (("b" : Str) : Str), enc (((0 : Int), (1 : Int)) : (Int × Int)), enc ((r0.1, (1 : Int)) : (Int × Int))]) (leb rfl)) (ke_cons (.inl rfl) (fun _ => (ca_g0 ag_nil (by exact (ka_add (ka_op (x := enc ((T1.mk (T5.mk ("d" : Str) ("a" : Str) ("b" : Str) ((0 : Int), (1 : Int)) (r0.1, (1 : Int)))) : (T1 (T5 Str Str Str (Int × Int) (Int × Int))))) (o_tup (ps := [enc ((T5.mk ("d" : Str) ("a" : Str) ("b" : Str) ((0 : Int), (1 : Int)) (r0.1, (1 : Int))) : (T5 Str Str Str (Int × Int) (Int × Int)))]) (leb rfl)) (ke_cons (.inl rfl) (fun _ => (ca_g0 (ag_cons (eg_op (x := enc ((Tup.mk [] : Tup Int) : (Tup Int))) ag_nil (o_tup (ps := []) (leb rfl))) ag_nil (.inl rfl)) (by exact (ka_add (ka_add (ka_op (x := enc ((T3.mk (("a" : Str), ("b" : Str)) (T1.mk (T5.mk ("d" : Str) ("a" : Str) ("b" : Str) ((0 : Int), (1 : Int)) (r0.1, (1 : Int)))) (Tup.mk [] : Tup Int)) : (T3 (Str × Str) (T1 (T5 Str Str Str (Int × Int) (Int × Int))) (Tup Int)))) (o_tup (ps := [enc ((("a" : Str), ("b" : Str)) : (Str × Str)), enc ((T1.mk (T5.mk ("d" : Str) ("a" : Str) ("b" : Str) ((0 : Int), (1 : Int)) (r0.1, (1 : Int)))) : (T1 (T5 Str Str Str (Int × Int) (Int × Int)))), enc ((Tup.mk [] : Tup Int) : (Tup Int))]) (leb rfl)) (ke_as (y := enc ((enc ((T3.mk (("a" : Str), ("b" : Str)) (T1.mk (T5.mk ("d" : Str) ("a" : Str) ("b" : Str) ((0 : Int), (1 : Int)) (r0.1, (1 : Int)))) (Tup.mk [] : Tup Int)) : (T3 (Str × Str) (T1 (T5 Str Str Str (Int × Int) (Int × Int))) (Tup Int))) : PV) : PV)) rfl (ke_ret (.inl rfl) rfl (ok_c shut_rt (ok_ret rfl (imp_c i_id (imp_c i_wd (imp_c i_wd (imp_c i_wd (imp_c i_wd (imp_c i_wd (imp_c i_wd imp_n)))))))))))))))))))))))))))))))))))))))))))))))))))))))))))))))))))))))))))))))))) (sj_pass (by exact (sj_ifC (ct_g0 (tg_of (b := (decide (kind_ = ("routing" : Str)))) (eg_op (x := enc ((decide (kind_ = ("routing" : Str))) : Bool)) (ag_cons (eg_var (x := enc (kind_ : Str)) rfl) (ag_cons (eg_c (x := enc ("routing" : Str))) ag_nil (.inl rfl)) (.inl rfl)) o_eqf) tru_b) (by exact (kt_esc1 rfl (by exact (sj_retC (ce_op (ca_cons (ce_op (ca_cons (ce_g0 (eg_c (x := enc ("cut" : Str))) (by exact (ke_cons (.inl rfl) (fun _ => (ca_cons (ce_g0 (eg_c (x := enc ("saw" : Str))) (by exact (ke_cons (.inl rfl) (fun _ => (ca_cons (ce_g0 (eg_op (x := enc ((T1.mk ("m" : Str)) : (T1 Str))) (ag_cons (eg_c (x := enc ("m" : Str))) ag_nil (.inl rfl)) (o_tup (ps := [enc (("m" : Str) : Str)]) (leb rfl))) (by exact (ke_cons (.inl rfl) (fun _ => (ca_cons (ce_g0 (eg_c (x := enc ("" : Str))) (by exact (ke_cons (.inl rfl) (fun _ => (ca_cons (ce_g0 (eg_c (x := enc (0 : Int))) (by exact (ke_cons (.inl rfl) (fun _ => (ca_cons (ce_call (ca_mut rfl (ca_g0 (ag_cons (eg_c (x := enc (5 : Int))) ag_nil (.inl rfl)) (by exact (ka_add (ka_call1 rfl (fj__law_next numbers_ ((5 : Int))) (fun ρ e => by simp [callIn, e]) (fun _ => rfl) (fun _ _ => rfl) rfl (fun r1 => by exact (ke_cons (.inl rfl) (fun _ => (ca_cons (ce_op (ca_cons (ce_g0 (eg_c (x := enc (1 : Int))) (by exact (ke_cons (.inl rfl) (fun _ => (ca_cons (ce_call (ca_mut rfl (ca_g0 (ag_cons (eg_c (x := enc (5 : Int))) ag_nil (.inl rfl)) (by exact (ka_add (ka_call1 rfl (fj__law_next (r1.2) ((5 : Int))) (fun ρ e => by simp [callIn, e]) (fun _ => rfl) (fun _ _ => rfl) rfl (fun r2 => by exact (ke_cons (.inl rfl) (fun _ => (ca_g0 ag_nil (by exact (ka_add (ka_add (ka_op (x := enc (((1 : Int) + r2.1) : Int)) o_add (ke_cons (.inl rfl) (fun _ => (ca_g0 ag_nil (by exact (ka_add (ka_add (ka_add (ka_add (ka_add (ka_add (ka_add (ka_op (x := enc ((T7.mk ("cut" : Str) ("saw" : Str) (T1.mk ("m" : Str)) ("" : Str) (0 : Int) r1.1 ((1 : Int) + r2.1)) : (T7 Str Str (T1 Str) Str Int Int Int))) (o_tup (ps := [enc (("cut" : Str) : Str), enc (("saw" : Str) : Str), enc ((T1.mk ("m" : Str)) : (T1 Str)), enc (("" : Str) : Str), enc ((0 : Int) : Int), enc (r1.1 : Int), enc (((1 : Int) + r2.1) : Int)]) (leb rfl)) (ke_cons (.inl rfl) (fun _ => (ca_g0 ag_nil (by exact (ka_add (ka_op (x := enc ((T1.mk (T7.mk ("cut" : Str) ("saw" : Str) (T1.mk ("m" : Str)) ("" : Str) (0 : Int) r1.1 ((1 : Int) + r2.1))) : (T1 (T7 Str Str (T1 Str) Str Int Int Int)))) (o_tup (ps := [enc ((T7.mk ("cut" : Str) ("saw" : Str) (T1.mk ("m" : Str)) ("" : Str) (0 : Int) r1.1 ((1 : Int) + r2.1)) : (T7 Str Str (T1 Str) Str Int Int Int))]) (leb rfl)) (ke_as (y := enc ((enc ((T1.mk (T7.mk ("cut" : Str) ("saw" : Str) (T1.mk ("m" : Str)) ("" : Str) (0 : Int) r1.1 ((1 : Int) + r2.1))) : (T1 (T7 Str Str (T1 Str) Str Int Int Int))) : PV) : PV)) rfl (ke_ret (.inl rfl) rfl (ok_c shut_rt (ok_ret rfl (imp_c i_id (imp_c i_wd (imp_c i_wd (imp_c i_wd (imp_c i_wd (imp_c i_wd (imp_c i_wd imp_n))))))))))))))))))))))))))))))))))))))))))))))))))))))))))))))))))))))))))))))))))))))))))) (sj_pass (by exact (sj_setC (ce_g0 (eg_op (x := enc (([] : (List (T3 Str Int (T1 Str)))) : (List (T3 Str Int (T1 Str))))) ag_nil (o_lst (ps := []) (leb rfl))) (by exact (ke_set (([] : (List (T3 Str Int (T1 Str)))) : (List (T3 Str Int (T1 Str)))) (.inr rfl) rfl (fun lines0 => (by exact (sj_forC (ci_range (ca_cons (ce_op (ca_cons (ce_g0 (eg_c (x := enc (1 : Int))) (by exact (ke_cons (.inl rfl) (fun _ => (ca_cons (ce_call (ca_mut rfl (ca_g0 (ag_cons (eg_c (x := enc (5 : Int))) ag_nil (.inl rfl)) (by exact (ka_add (ka_call1 rfl (fj__law_next numbers_ ((5 : Int))) (fun ρ e => by simp [callIn, e]) (fun _ => rfl) (fun _ _ => rfl) rfl (fun r3 => by exact (ke_cons (.inl rfl) (fun _ => (ca_g0 ag_nil (by exact (ka_add (ka_add (ka_op (x := enc (((1 : Int) + r3.1) : Int)) o_add (ke_cons (.inl rfl) (fun _ => (ca_g0 ag_nil (by exact (ka_add (ka_rng (xs := ((rng 0 ((1 : Int) + r3.1))).map enc) [Sm (((1 : Int) + r3.1))] (fun h => g_rng1 h.1) rfl (ki_fold (Γl := fun s0 : ((List Int) × (List (T3 Str Int (T1 Str)))) => [sv 1 (enc (s0.1 : (List Int))), sv 0 (enc (kind_ : Str)), sv 0 (enc (parts_ : (List Str))), sv 1 (enc (s0.2 : (List (T3 Str Int (T1 Str))))), fr, fr, ex none]) (e := enc) (xs := (rng 0 ((1 : Int) + r3.1))) (r3.2, lines0) (imp_c i_id (imp_c i_id (imp_c i_id (imp_c i_id (imp_c i_no (imp_c i_no (imp_c i_id imp_n))))))) rfl (fun s0 k0 => ⟨_, bg_name, (by exact (sj_setC (ce_op (ca_cons (ce_g0 (eg_c (x := enc ("suvwx" : Str))) (by exact (ke_cons (.inl rfl) (fun _ => (ca_cons (ce_call (ca_mut rfl (ca_g0 (ag_cons (eg_c (x := enc (5 : Int))) ag_nil (.inl rfl)) (by exact (ka_add (ka_call1 rfl (fj__law_next (s0.1) ((5 : Int))) (fun ρ e => by simp [callIn, e]) (fun _ => rfl) (fun _ _ => rfl) rfl (fun r4 => by exact (ke_cons (.inl rfl) (fun _ => (ca_g0 ag_nil (by exact (ka_add (ka_add (ka_opg (x := enc ((chrAt ("suvwx" : Str) r4.1) : Str)) [(("suvwx" : Str)).length ≤ 16777216, ixOk (("suvwx" : Str)).cps.toList r4.1] (fun h => o_ixs h) rfl (ke_set ((chrAt ("suvwx" : Str) r4.1) : Str) (.inl rfl) rfl (fun seat0 => (by exact (sj_last (sj_ifC (ct_g (tg_of (b := (!decide (seat0 ∈ (((s0.2).map (fun a0 : (T3 Str Int (T1 Str)) => (a0).a)))))) (eg_op (x := enc ((!decide (seat0 ∈ (((s0.2).map (fun a0 : (T3 Str Int (T1 Str)) => (a0).a))))) : Bool)) (ag_cons (eg_var (x := enc (seat0 : Str)) rfl) (ag_cons (eg_lcBm (xs := (s0.2 : List (T3 Str Int (T1 Str)))) (g := (fun a0 : (T3 Str Int (T1 Str)) => (a0).a)) (cf := fun a0 => []) rfl (.cons rfl i_no .nil) (fun a0 => ⟨⟨_, _, _, _, _, _, bg_name, tg_true, (eg_op (x := enc ((a0).a : Str)) (ag_cons (eg_var (x := enc (a0 : (T3 Str Int (T1 Str)))) rfl) (ag_cons (eg_c (x := enc (0 : Int))) ag_nil (.inl rfl)) (.inl rfl)) (o_ixt (y := enc ((a0).a : Str)) rfl)), imp_r, imp_r⟩⟩)) ag_nil (.inr (.inl rfl))) (.inl rfl)) o_inlT) tru_b) rfl (by exact (kt_tail rfl (by exact (sj_last (sj_exprC (ce_app rfl (ce_op (ca_cons (ce_g0 (eg_var (x := enc (seat0 : Str)) rfl) (by exact (ke_cons (.inl rfl) (fun _ => (ca_cons (ce_op (ca_cons (ce_g0 (eg_c (x := enc (1 : Int))) (by exact (ke_cons (.inl rfl) (fun _ => (ca_cons (ce_call (ca_mut rfl (ca_g0 (ag_cons (eg_c (x := enc (2 : Int))) ag_nil (.inl rfl)) (by exact (ka_add (ka_call1 rfl (fj__law_next (r4.2) ((2 : Int))) (fun ρ e => by simp [callIn, e]) (fun _ => rfl) (fun _ _ => rfl) rfl (fun r5 => by exact (ke_cons (.inl rfl) (fun _ => (ca_g0 ag_nil (by exact (ka_add (ka_add (ka_op (x := enc (((1 : Int) + r5.1) : Int)) o_add (ke_cons (.inl rfl) (fun _ => (ca_cons (ce_op (ca_cons (ce_op (ca_cons (ce_g0 (eg_var (x := enc (parts_ : (List Str))) rfl) (by exact (ke_cons (.inl rfl) (fun _ => (ca_cons (ce_call (ca_mut rfl (ca_g0 (ag_cons (eg_c (x := enc (3 : Int))) ag_nil (.inl rfl)) (by exact (ka_add (ka_call1 rfl (fj__law_next (r5.2) ((3 : Int))) (fun ρ e => by simp [callIn, e]) (fun _ => rfl) (fun _ _ => rfl) rfl (fun r6 => by exact (ke_cons (.inl rfl) (fun _ => (ca_g0 ag_nil (by exact (ka_add (ka_add (ka_opg (x := enc ((geti parts_ r6.1) : Str)) [ixOk parts_ r6.1] (fun h => o_ixl (by decide) h) rfl (ke_cons (.inl rfl) (fun _ => (ca_g0 ag_nil (by exact (ka_add (ka_op (x := enc ((T1.mk (geti parts_ r6.1)) : (T1 Str))) (o_tup (ps := [enc ((geti parts_ r6.1) : Str)]) (leb rfl)) (ke_cons (.inl rfl) (fun _ => (ca_g0 ag_nil (by exact (ka_add (ka_add (ka_add (ka_op (x := enc ((T3.mk seat0 ((1 : Int) + r5.1) (T1.mk (geti parts_ r6.1))) : (T3 Str Int (T1 Str)))) (o_tup (ps := [enc (seat0 : Str), enc (((1 : Int) + r5.1) : Int), enc ((T1.mk (geti parts_ r6.1)) : (T1 Str))]) (leb rfl)) (ke_app ((T3.mk seat0 ((1 : Int) + r5.1) (T1.mk (geti parts_ r6.1))) : (T3 Str Int (T1 Str))) rfl rfl (fun lines1 => ke_expr (by exact (sj_nil rfl (ok_snx (imp_c i_id (imp_c i_id (imp_c i_id (imp_c i_id (imp_c i_fr (imp_c i_fr (imp_c i_id imp_n)))))))))))))))))))))))))))))))))))))))))))))))))))))))))))))))))))))))))))))))))))) (by exact (sj_nil rfl (ok_snx (imp_c i_id (imp_c i_id (imp_c i_id (imp_c i_id (imp_c i_fr (imp_c i_fr (imp_c i_id imp_n)))))))))))))))))))))))))))))))))))))))))⟩) (fun s1 => (by exact (sj_retC (ce_g0 (eg_as (y := enc ((enc ((Tup.mk s1.2) : (Tup (T3 Str Int (T1 Str)))) : PV) : PV)) (eg_op (x := enc ((Tup.mk s1.2) : (Tup (T3 Str Int (T1 Str))))) (ag_cons (eg_var (x := enc (s1.2 : (List (T3 Str Int (T1 Str))))) rfl) ag_nil (.inr (.inr rfl))) (o_tuple (by decide))) rfl) (by exact (ke_ret (.inl rfl) rfl (ok_ret rfl (imp_c i_id (imp_c i_wd (imp_c i_wd (imp_c i_wd (imp_c i_wd (imp_c i_wd (imp_c i_wd imp_n))))))))))))))))))))))))))))))))))))))))))))))))))))))))))))))))
/-! ### _law_lots -/
def m__law_lots (shop_ : (Dic (T3 Str Str Int) PV)) (kind_ : Str) (name_ : Str) : M (List Int) := grd (((shop_).keys).length ≤ 16777216) <| grd ((((((shop_).keys).filter (fun a0 : (T3 Str Str Int) => ((decide ((a0).a = kind_)) && (decide ((a0).b = name_))))).map (fun a0 : (T3 Str Str Int) => (a0).c))).length ≤ 16777216) <| .ok ((sortI ((((shop_).keys).filter (fun a0 : (T3 Str Str Int) => ((decide ((a0).a = kind_)) && (decide ((a0).b = name_))))).map (fun a0 : (T3 Str Str Int) => (a0).c))))
theorem fj__law_lots (shop_ : (Dic (T3 Str Str Int) PV)) (kind_ : Str) (name_ : Str) : FJ F__law_lots [enc shop_, enc kind_, enc name_] 1 (m__law_lots shop_ kind_ name_) (enc : (List Int) → PV) := fj_of (Γ := [sv 0 (enc (shop_ : (Dic (T3 Str Str Int) PV))), sv 0 (enc (kind_ : Str)), sv 0 (enc (name_ : Str)), ex none]) rfl (leb rfl) ⟨rfl, rfl, rfl, rfl, trivial⟩ (by exact (sj_retC (ce_g (eg_opg (x := enc ((sortI ((((shop_).keys).filter (fun a0 : (T3 Str Str Int) => ((decide ((a0).a = kind_)) && (decide ((a0).b = name_))))).map (fun a0 : (T3 Str Str Int) => (a0).c))) : (List Int))) (ag_cons (eg_frz (eg_lc0 (xs := (shop_).keys) (e := enc) (g := (fun a0 : (T3 Str Str Int) => (a0).c)) (b := (fun a0 : (T3 Str Str Int) => ((decide ((a0).a = kind_)) && (decide ((a0).b = name_))))) (ig_keys (eg_var (x := enc (shop_ : (Dic (T3 Str Str Int) PV))) rfl)) (.cons rfl i_no .nil) (fun a0 => ⟨⟨_, _, _, _, _, _, bg_name, (tg_and0 (tg_of (b := (decide ((a0).a = kind_))) (eg_op (x := enc ((decide ((a0).a = kind_)) : Bool)) (ag_cons (eg_op (x := enc ((a0).a : Str)) (ag_cons (eg_var (x := enc (a0 : (T3 Str Str Int))) rfl) (ag_cons (eg_c (x := enc (0 : Int))) ag_nil (.inl rfl)) (.inl rfl)) (o_ixt (y := enc ((a0).a : Str)) rfl)) (ag_cons (eg_var (x := enc (kind_ : Str)) rfl) ag_nil (.inl rfl)) (.inl rfl)) o_eqf) tru_b) (tg_of (b := (decide ((a0).b = name_))) (eg_op (x := enc ((decide ((a0).b = name_)) : Bool)) (ag_cons (eg_op (x := enc ((a0).b : Str)) (ag_cons (eg_var (x := enc (a0 : (T3 Str Str Int))) rfl) (ag_cons (eg_c (x := enc (1 : Int))) ag_nil (.inl rfl)) (.inl rfl)) (o_ixt (y := enc ((a0).b : Str)) rfl)) (ag_cons (eg_var (x := enc (name_ : Str)) rfl) ag_nil (.inl rfl)) (.inl rfl)) o_eqf) tru_b)), (eg_op (x := enc ((a0).c : Int)) (ag_cons (eg_var (x := enc (a0 : (T3 Str Str Int))) rfl) (ag_cons (eg_c (x := enc (2 : Int))) ag_nil (.inl rfl)) (.inl rfl)) (o_ixt (y := enc ((a0).c : Int)) rfl)), imp_r, imp_r⟩⟩)) (.inr rfl)) ag_nil (.inl rfl)) [(((((shop_).keys).filter (fun a0 : (T3 Str Str Int) => ((decide ((a0).a = kind_)) && (decide ((a0).b = name_))))).map (fun a0 : (T3 Str Str Int) => (a0).c))).length ≤ 16777216] (fun h => o_sorti h)) rfl (by exact (ke_ret (.inr rfl) rfl (ok_ret rfl (imp_wds rfl)))))))
/-! ### _law_best -/
def m__law_best (shop_ : (Dic (T3 Str Str Int) PV)) (kind_ : Str) (name_ : Str) (number_ : Int) : M (Option (Int × PV)) := (m__law_lots shop_ kind_ name_).bind fun r0 => (M.lc (fun a0 => (if (decide (a0 ≤ number_)) = true then .ok (some a0) else .ok none)) r0).bind fun r1 => grd ((r0).length ≤ 16777216) <| lt r1 fun lots0 => (if (decide (((lots0).length : Int) = (0 : Int))) = true then .ok ((none : (Option (Int × PV)))) else grd (ixOk lots0 (((lots0).length : Int) - (1 : Int))) <| grd (ixOk lots0 (((lots0).length : Int) - (1 : Int))) <| grd (((shop_).get (T3.mk kind_ name_ (geti lots0 (((lots0).length : Int) - (1 : Int))))).isSome = true) <| .ok ((some ((geti lots0 (((lots0).length : Int) - (1 : Int))), (((shop_).get (T3.mk kind_ name_ (geti lots0 (((lots0).length : Int) - (1 : Int))))).getD default)) : (Option (Int × PV)))))
theorem fj__law_best (shop_ : (Dic (T3 Str Str Int) PV)) (kind_ : Str) (name_ : Str) (number_ : Int) : FJ F__law_best [enc shop_, enc kind_, enc name_, enc number_] 0 (m__law_best shop_ kind_ name_ number_) (enc : (Option (Int × PV)) → PV) := fj_of (Γ := [sv 0 (enc (shop_ : (Dic (T3 Str Str Int) PV))), sv 0 (enc (kind_ : Str)), sv 0 (enc (name_ : Str)), sv 0 (enc (number_ : Int)), ex none, ex none]) rfl (leb rfl) ⟨rfl, rfl, rfl, rfl, rfl, rfl, trivial⟩ (by exact (sj_setFC (ce_lc (ci_any (ce_call (ca_g0 (ag_cons (eg_var (x := enc (shop_ : (Dic (T3 Str Str Int) PV))) rfl) (ag_cons (eg_var (x := enc (kind_ : Str)) rfl) (ag_cons (eg_var (x := enc (name_ : Str)) rfl) ag_nil (.inl rfl)) (.inl rfl)) (.inl rfl)) (by exact (ka_call (fj__law_lots shop_ kind_ name_) (fun _ => rfl) rfl (fun _ => rfl) rfl (hlen rfl) (fun r0 => by exact (ke_any (xs := (r0).map enc) (.inr (.inr (.inr ⟨rfl, .inr ⟨rfl, rfl⟩⟩))) (ki_lc (e := enc) (xs := r0) (.cons rfl i_no .nil) rfl (fun a0 => ⟨_, bg_name, by exact (ct_g0 (tg_of (b := (decide (a0 ≤ number_))) (eg_op (x := enc ((decide (a0 ≤ number_)) : Bool)) (ag_cons (eg_var (x := enc (a0 : Int)) rfl) (ag_cons (eg_var (x := enc (number_ : Int)) rfl) ag_nil (.inl rfl)) (.inl rfl)) o_le) tru_b) (by exact (kt_lc rfl (q_none imp_r) (ce_g0 (eg_var (x := enc (a0 : Int)) rfl) (by exact (ke_lcv a0 rfl imp_r))))))⟩) (fun r1 => by exact (ke_setF (r1 : (List Int)) (.inr rfl) (show 4 < 6 by decide) rfl (fun lots0 => (by exact (sj_ifC (ct_g0 (tg_of (b := (decide (((lots0).length : Int) = (0 : Int)))) (eg_op (x := enc ((decide (((lots0).length : Int) = (0 : Int))) : Bool)) (ag_cons (eg_op (x := enc (((lots0).length : Int) : Int)) (ag_cons (eg_var (x := enc (lots0 : (List Int))) rfl) ag_nil (.inl rfl)) o_lenl) (ag_cons (eg_c (x := enc (0 : Int))) ag_nil (.inl rfl)) (.inl rfl)) o_eqf) tru_b) (by exact (kt_esc1 rfl (by exact (sj_retC (ce_g0 (eg_as (y := enc ((none : (Option (Int × PV))) : (Option (Int × PV)))) (eg_c (x := enc ())) rfl) (by exact (ke_ret (.inl rfl) rfl (ok_c shut_rt (ok_ret rfl (imp_wds rfl)))))))) (sj_pass (by exact (sj_retC (ce_g (eg_as (y := enc ((some ((geti lots0 (((lots0).length : Int) - (1 : Int))), (((shop_).get (T3.mk kind_ name_ (geti lots0 (((lots0).length : Int) - (1 : Int))))).getD default)) : (Option (Int × PV))) : (Option (Int × PV)))) (eg_op (x := enc (((geti lots0 (((lots0).length : Int) - (1 : Int))), (((shop_).get (T3.mk kind_ name_ (geti lots0 (((lots0).length : Int) - (1 : Int))))).getD default)) : (Int × PV))) (ag_cons (eg_opg (x := enc ((geti lots0 (((lots0).length : Int) - (1 : Int))) : Int)) (ag_cons (eg_var (x := enc (lots0 : (List Int))) rfl) (ag_cons (eg_op (x := enc ((((lots0).length : Int) - (1 : Int)) : Int)) (ag_cons (eg_op (x := enc (((lots0).length : Int) : Int)) (ag_cons (eg_var (x := enc (lots0 : (List Int))) rfl) ag_nil (.inl rfl)) o_lenl) (ag_cons (eg_c (x := enc (1 : Int))) ag_nil (.inl rfl)) (.inl rfl)) o_sub) ag_nil (.inl rfl)) (.inl rfl)) [ixOk lots0 (((lots0).length : Int) - (1 : Int))] (fun h => o_ixl (by decide) h)) (ag_cons (eg_opg (x := enc ((((shop_).get (T3.mk kind_ name_ (geti lots0 (((lots0).length : Int) - (1 : Int))))).getD default) : PV)) (ag_cons (eg_var (x := enc (shop_ : (Dic (T3 Str Str Int) PV))) rfl) (ag_cons (eg_op (x := enc ((T3.mk kind_ name_ (geti lots0 (((lots0).length : Int) - (1 : Int)))) : (T3 Str Str Int))) (ag_cons (eg_var (x := enc (kind_ : Str)) rfl) (ag_cons (eg_var (x := enc (name_ : Str)) rfl) (ag_cons (eg_opg (x := enc ((geti lots0 (((lots0).length : Int) - (1 : Int))) : Int)) (ag_cons (eg_var (x := enc (lots0 : (List Int))) rfl) (ag_cons (eg_op (x := enc ((((lots0).length : Int) - (1 : Int)) : Int)) (ag_cons (eg_op (x := enc (((lots0).length : Int) : Int)) (ag_cons (eg_var (x := enc (lots0 : (List Int))) rfl) ag_nil (.inl rfl)) o_lenl) (ag_cons (eg_c (x := enc (1 : Int))) ag_nil (.inl rfl)) (.inl rfl)) o_sub) ag_nil (.inl rfl)) (.inl rfl)) [ixOk lots0 (((lots0).length : Int) - (1 : Int))] (fun h => o_ixl (by decide) h)) ag_nil (.inl rfl)) (.inl rfl)) (.inl rfl)) (o_tup (ps := [enc (kind_ : Str), enc (name_ : Str), enc ((geti lots0 (((lots0).length : Int) - (1 : Int))) : Int)]) (leb rfl))) ag_nil (.inl rfl)) (.inl rfl)) [((shop_).get (T3.mk kind_ name_ (geti lots0 (((lots0).length : Int) - (1 : Int))))).isSome = true] (fun h => o_ixd (by decide) h)) ag_nil (.inl rfl)) (.inl rfl)) (o_tup (ps := [enc ((geti lots0 (((lots0).length : Int) - (1 : Int))) : Int), enc ((((shop_).get (T3.mk kind_ name_ (geti lots0 (((lots0).length : Int) - (1 : Int))))).getD default) : PV)]) (leb rfl))) rfl) rfl (by exact (ke_ret (.inl rfl) rfl (ok_ret rfl (imp_wds rfl)))))))))))))))))))))))))))
/-! ### _law_told -/
def m__law_told (shop_ : (Dic (T3 Str Str Int) PV)) (kind_ : Str) (name_ : Str) (number_ : Int) : M PV := ((m_holding shop_ kind_ name_ number_).bind fun r0 => .ok ((enc (r0 : (Int × PV)) : PV))).tryc (hsel [("MissingVersion" : Str)] [] (fun _ fs_ => grd (FldOk Str fs_ ("kind" : Str)) <| grd (FldOk Str fs_ ("name" : Str)) <| grd (FldOk Int fs_ ("number" : Str)) <| grd (Dat.ok ((T3.mk (fld fs_ ("kind" : Str) : Str) (fld fs_ ("name" : Str) : Str) (fld fs_ ("number" : Str) : Int)) : (T3 Str Str Int))) <| grd (Dat.ok ((T3.mk kind_ name_ number_) : (T3 Str Str Int))) <| (if (decide ((T3.mk (fld fs_ ("kind" : Str) : Str) (fld fs_ ("name" : Str) : Str) (fld fs_ ("number" : Str) : Int)) = (T3.mk kind_ name_ number_))) = true then .ok ((enc (() : Unit) : PV)) else .ok ((enc ((T1.mk ("refused" : Str)) : (T1 Str)) : PV)))) hend)
theorem fj__law_told (shop_ : (Dic (T3 Str Str Int) PV)) (kind_ : Str) (name_ : Str) (number_ : Int) : FJ F__law_told [enc shop_, enc kind_, enc name_, enc number_] 0 (m__law_told shop_ kind_ name_ number_) (enc : PV → PV) := fj_of (Γ := [sv 0 (enc (shop_ : (Dic (T3 Str Str Int) PV))), sv 0 (enc (kind_ : Str)), sv 0 (enc (name_ : Str)), sv 0 (enc (number_ : Int)), ex none]) rfl (leb rfl) ⟨rfl, rfl, rfl, rfl, rfl, trivial⟩ (by exact (sj_try (Γx := [sv 0 (enc (shop_ : (Dic (T3 Str Str Int) PV))), sv 0 (enc (kind_ : Str)), sv 0 (enc (name_ : Str)), sv 0 (enc (number_ : Int)), ex none]) nx_r (by exact (sj_retC (ce_call (ca_g0 (ag_cons (eg_var (x := enc (shop_ : (Dic (T3 Str Str Int) PV))) rfl) (ag_cons (eg_var (x := enc (kind_ : Str)) rfl) (ag_cons (eg_var (x := enc (name_ : Str)) rfl) (ag_cons (eg_var (x := enc (number_ : Int)) rfl) ag_nil (.inl rfl)) (.inl rfl)) (.inl rfl)) (.inl rfl)) (by exact (ka_call (fj_holding shop_ kind_ name_ number_) (fun _ => rfl) rfl (fun _ => rfl) rfl (imp_c i_id (imp_c i_id (imp_c i_id (imp_c i_id (imp_c i_id imp_n))))) (fun r0 => by exact (ke_as (y := enc ((enc (r0 : (Int × PV)) : PV) : PV)) rfl (ke_ret (.inl rfl) rfl (ok_ret rfl (imp_wds rfl))))))))))) (hs_named nx_r (fun ρ_ v_ => SR.rt 0 (enc (v_ : PV)) (ρ_.set 4 none)) (show 4 < 5 by decide) (fun a_ d_ c_ fs_ ρ_ hc_ hz_ => match ρ_, hz_ with | [q0, q1, q2, q3, q4], ⟨h0_, h1_, h2_, h3_, h4_, _⟩ => by cases h0_; cases h1_; cases h2_; cases h3_; exact (show SJ [sv 0 (enc (shop_ : (Dic (T3 Str Str Int) PV))), sv 0 (enc (kind_ : Str)), sv 0 (enc (name_ : Str)), sv 0 (enc (number_ : Int)), ex (some (0, PV.exn a_ d_ c_ fs_))] _ _ _ _ from (by exact (sj_ifC (ct_g (tg_of (b := (decide ((T3.mk (fld fs_ ("kind" : Str) : Str) (fld fs_ ("name" : Str) : Str) (fld fs_ ("number" : Str) : Int)) = (T3.mk kind_ name_ number_)))) (eg_opg (x := enc ((decide ((T3.mk (fld fs_ ("kind" : Str) : Str) (fld fs_ ("name" : Str) : Str) (fld fs_ ("number" : Str) : Int)) = (T3.mk kind_ name_ number_))) : Bool)) (ag_cons (eg_op (x := enc ((T3.mk (fld fs_ ("kind" : Str) : Str) (fld fs_ ("name" : Str) : Str) (fld fs_ ("number" : Str) : Int)) : (T3 Str Str Int))) (ag_cons (eg_xf (α := Str) rfl) (ag_cons (eg_xf (α := Str) rfl) (ag_cons (eg_xf (α := Int) rfl) ag_nil (.inl rfl)) (.inl rfl)) (.inl rfl)) (o_tup (ps := [enc ((fld fs_ ("kind" : Str) : Str) : Str), enc ((fld fs_ ("name" : Str) : Str) : Str), enc ((fld fs_ ("number" : Str) : Int) : Int)]) (leb rfl))) (ag_cons (eg_op (x := enc ((T3.mk kind_ name_ number_) : (T3 Str Str Int))) (ag_cons (eg_var (x := enc (kind_ : Str)) rfl) (ag_cons (eg_var (x := enc (name_ : Str)) rfl) (ag_cons (eg_var (x := enc (number_ : Int)) rfl) ag_nil (.inl rfl)) (.inl rfl)) (.inl rfl)) (o_tup (ps := [enc (kind_ : Str), enc (name_ : Str), enc (number_ : Int)]) (leb rfl))) ag_nil (.inl rfl)) (.inl rfl)) [Dat.ok ((T3.mk (fld fs_ ("kind" : Str) : Str) (fld fs_ ("name" : Str) : Str) (fld fs_ ("number" : Str) : Int)) : (T3 Str Str Int)), Dat.ok ((T3.mk kind_ name_ number_) : (T3 Str Str Int))] (fun h => o_eqd (by decide) h)) tru_b) rfl (by exact (kt_esc1 rfl (by exact (sj_retC (ce_g0 (eg_as (y := enc ((enc (() : Unit) : PV) : PV)) (eg_c (x := enc ())) rfl) (by exact (ke_ret (.inl rfl) rfl (ok_c shut_rt (ok_d [some (0, enc (shop_ : (Dic (T3 Str Str Int) PV))), some (0, enc (kind_ : Str)), some (0, enc (name_ : Str)), some (0, enc (number_ : Int)), some (0, PV.exn a_ d_ c_ fs_)] rfl rfl))))))) (sj_pass (by exact (sj_retC (ce_g0 (eg_as (y := enc ((enc ((T1.mk ("refused" : Str)) : (T1 Str)) : PV) : PV)) (eg_op (x := enc ((T1.mk ("refused" : Str)) : (T1 Str))) (ag_cons (eg_c (x := enc ("refused" : Str))) ag_nil (.inl rfl)) (o_tup (ps := [enc (("refused" : Str) : Str)]) (leb rfl))) rfl) (by exact (ke_ret (.inl rfl) rfl (ok_d [some (0, enc (shop_ : (Dic (T3 Str Str Int) PV))), some (0, enc (kind_ : Str)), some (0, enc (name_ : Str)), some (0, enc (number_ : Int)), some (0, PV.exn a_ d_ c_ fs_)] rfl rfl))))))))))))) _ ⟨rfl, rfl, rfl, rfl, rfl, trivial⟩) (fun ρ_ v_ z_ => ⟨_, .inl rfl, imp_wds rfl _ (Mt.set 4 (p := wd) z_ trivial)⟩) (hs_nil (hlen rfl)))))
/-! ### _law_stretches -/
def m__law_stretches (shop_ : (Dic (T3 Str Str Int) PV)) (kind_ : Str) (name_ : Str) : M (Tup (Int × Int)) := (m__law_lots shop_ kind_ name_).bind fun r0 => lt r0 fun lots0 => lt ([] : (List (Int × Int))) fun found0 => grd (Sm ((lots0).length : Int)) <| (M.fold (fun (s0 : (List (Int × Int))) (k0 : Int) => lt (9999 : Int) fun last0 => (if (decide ((k0 + (1 : Int)) < ((lots0).length : Int))) = true then grd (ixOk lots0 (k0 + (1 : Int))) <| lt ((geti lots0 (k0 + (1 : Int))) - (1 : Int)) fun last1 => .ok last1 else .ok last0).bind fun s1 : Int => grd (ixOk lots0 k0) <| grd ((s0).length < 16777216) <| lt (s0 ++ [((geti lots0 k0), s1)]) fun found1 => .ok found1) (rng 0 ((lots0).length : Int)) found0).bind fun s2 : (List (Int × Int)) => .ok ((Tup.mk s2))
theorem fj__law_stretches (shop_ : (Dic (T3 Str Str Int) PV)) (kind_ : Str) (name_ : Str) : FJ F__law_stretches [enc shop_, enc kind_, enc name_] 0 (m__law_stretches shop_ kind_ name_) (enc : (Tup (Int × Int)) → PV) := fj_of (Γ := [sv 0 (enc (shop_ : (Dic (T3 Str Str Int) PV))), sv 0 (enc (kind_ : Str)), sv 0 (enc (name_ : Str)), ex none, ex none, ex none, ex none]) rfl (leb rfl) ⟨rfl, rfl, rfl, rfl, rfl, rfl, rfl, trivial⟩ (by exact (sj_setC (ce_frz (ce_call (ca_g0 (ag_cons (eg_var (x := enc (shop_ : (Dic (T3 Str Str Int) PV))) rfl) (ag_cons (eg_var (x := enc (kind_ : Str)) rfl) (ag_cons (eg_var (x := enc (name_ : Str)) rfl) ag_nil (.inl rfl)) (.inl rfl)) (.inl rfl)) (by exact (ka_call (fj__law_lots shop_ kind_ name_) (fun _ => rfl) rfl (fun _ => rfl) rfl (hlen rfl) (fun r0 => by exact (ke_frz (.inr rfl) (ke_set (r0 : (List Int)) (.inl rfl) rfl (fun lots0 => (by exact (sj_setC (ce_g0 (eg_op (x := enc (([] : (List (Int × Int))) : (List (Int × Int)))) ag_nil (o_lst (ps := []) (leb rfl))) (by exact (ke_set (([] : (List (Int × Int))) : (List (Int × Int))) (.inr rfl) rfl (fun found0 => (by exact (sj_forC (ci_g (ig_range (xs := ((rng 0 ((lots0).length : Int))).map enc) (ag_cons (eg_op (x := enc (((lots0).length : Int) : Int)) (ag_cons (eg_var (x := enc (lots0 : (List Int))) rfl) ag_nil (.inl rfl)) o_lenl) ag_nil (.inl rfl)) [Sm ((lots0).length : Int)] (fun h => g_rng1 h.1)) rfl (by exact (ki_fold (Γl := fun s0 : (List (Int × Int)) => [sv 0 (enc (shop_ : (Dic (T3 Str Str Int) PV))), sv 0 (enc (kind_ : Str)), sv 0 (enc (name_ : Str)), sv 0 (enc (lots0 : (List Int))), sv 1 (enc (s0 : (List (Int × Int)))), fr, fr]) (e := enc) (xs := (rng 0 ((lots0).length : Int))) found0 (imp_c i_id (imp_c i_id (imp_c i_id (imp_c i_id (imp_c i_id (imp_c i_no (imp_c i_no imp_n))))))) rfl (fun s0 k0 => ⟨_, bg_name, (by exact (sj_setC (ce_g0 (eg_c (x := enc (9999 : Int))) (by exact (ke_set ((9999 : Int) : Int) (.inl rfl) rfl (fun last0 => (by exact (sj_ifC (ct_g0 (tg_of (b := (decide ((k0 + (1 : Int)) < ((lots0).length : Int)))) (eg_op (x := enc ((decide ((k0 + (1 : Int)) < ((lots0).length : Int))) : Bool)) (ag_cons (eg_op (x := enc ((k0 + (1 : Int)) : Int)) (ag_cons (eg_var (x := enc (k0 : Int)) rfl) (ag_cons (eg_c (x := enc (1 : Int))) ag_nil (.inl rfl)) (.inl rfl)) o_add) (ag_cons (eg_op (x := enc (((lots0).length : Int) : Int)) (ag_cons (eg_var (x := enc (lots0 : (List Int))) rfl) ag_nil (.inl rfl)) o_lenl) ag_nil (.inl rfl)) (.inl rfl)) o_lt) tru_b) (by exact (kt_join (Γf := fun s1 : Int => [sv 0 (enc (shop_ : (Dic (T3 Str Str Int) PV))), sv 0 (enc (kind_ : Str)), sv 0 (enc (name_ : Str)), sv 0 (enc (lots0 : (List Int))), sv 1 (enc (s0 : (List (Int × Int)))), sv 0 (enc (k0 : Int)), sv 0 (enc (s1 : Int))]) rfl (by exact (sj_last (sj_setC (ce_g (eg_op (x := enc (((geti lots0 (k0 + (1 : Int))) - (1 : Int)) : Int)) (ag_cons (eg_opg (x := enc ((geti lots0 (k0 + (1 : Int))) : Int)) (ag_cons (eg_var (x := enc (lots0 : (List Int))) rfl) (ag_cons (eg_op (x := enc ((k0 + (1 : Int)) : Int)) (ag_cons (eg_var (x := enc (k0 : Int)) rfl) (ag_cons (eg_c (x := enc (1 : Int))) ag_nil (.inl rfl)) (.inl rfl)) o_add) ag_nil (.inl rfl)) (.inl rfl)) [ixOk lots0 (k0 + (1 : Int))] (fun h => o_ixl (by decide) h)) (ag_cons (eg_c (x := enc (1 : Int))) ag_nil (.inl rfl)) (.inl rfl)) o_sub) rfl (by exact (ke_set (((geti lots0 (k0 + (1 : Int))) - (1 : Int)) : Int) (.inl rfl) rfl (fun last1 => (by exact (sj_nil rfl (ok_n (imp_c i_id (imp_c i_id (imp_c i_id (imp_c i_id (imp_c i_id (imp_c i_id (imp_c i_id imp_n))))))))))))))))) (by exact (sj_nil rfl (ok_n (imp_c i_id (imp_c i_id (imp_c i_id (imp_c i_id (imp_c i_id (imp_c i_id (imp_c i_id imp_n)))))))))) (fun s1 => (by exact (sj_last (sj_exprC (ce_app rfl (ce_g (eg_op (x := enc (((geti lots0 k0), s1) : (Int × Int))) (ag_cons (eg_opg (x := enc ((geti lots0 k0) : Int)) (ag_cons (eg_var (x := enc (lots0 : (List Int))) rfl) (ag_cons (eg_var (x := enc (k0 : Int)) rfl) ag_nil (.inl rfl)) (.inl rfl)) [ixOk lots0 k0] (fun h => o_ixl (by decide) h)) (ag_cons (eg_var (x := enc (s1 : Int)) rfl) ag_nil (.inl rfl)) (.inl rfl)) (o_tup (ps := [enc ((geti lots0 k0) : Int), enc (s1 : Int)]) (leb rfl))) rfl (by exact (ke_app (((geti lots0 k0), s1) : (Int × Int)) rfl rfl (fun found1 => ke_expr (by exact (sj_nil rfl (ok_snx (imp_c i_id (imp_c i_id (imp_c i_id (imp_c i_id (imp_c i_id (imp_c i_fr (imp_c i_fr imp_n))))))))))))))))))))))))))))))⟩) (fun s2 => (by exact (sj_retC (ce_g0 (eg_op (x := enc ((Tup.mk s2) : (Tup (Int × Int)))) (ag_cons (eg_var (x := enc (s2 : (List (Int × Int)))) rfl) ag_nil (.inr (.inr rfl))) (o_tuple (by decide))) (by exact (ke_ret (.inl rfl) rfl (ok_ret rfl (imp_wds rfl))))))))))))))))))))))))))))))
/-! ### _law_line -/
def m__law_line (shop_ : (Dic (T3 Str Str Int) PV)) (part_ : Str) (number_ : Int) (seat_ : Str) : M PV := (m__law_best shop_ (("bill" : Str)) part_ number_).bind fun r0 => grd (IsE (Option (Int × (Tup (T3 Str Int (T1 Str))))) (enc (r0 : (Option (Int × PV))) : PV)) <| lt (ofPV (enc (r0 : (Option (Int × PV))) : PV) : (Option (Int × (Tup (T3 Str Int (T1 Str)))))) fun best0 => (if (best0).isNone = true then .ok ((enc ((Tup.mk [] : Tup Int) : (Tup Int)) : PV)) else grd ((best0).isSome = true) <| (M.loop (fun (s0 : Unit) (line0 : (T3 Str Int (T1 Str))) => (if (decide ((line0).a = seat_)) = true then .ok (.rt (enc (((line0).b, (line0).c) : (Int × (T1 Str))) : PV)) else .ok (.nx ()))) ((((best0).getD default)).2).l ()).bind (Fl.cont fun s1 : Unit => .ok ((enc ((Tup.mk [] : Tup Int) : (Tup Int)) : PV))))
theorem fj__law_line (shop_ : (Dic (T3 Str Str Int) PV)) (part_ : Str) (number_ : Int) (seat_ : Str) : FJ F__law_line [enc shop_, enc part_, enc number_, enc seat_] 0 (m__law_line shop_ part_ number_ seat_) (enc : PV → PV) := fj_of (Γ := [sv 0 (enc (shop_ : (Dic (T3 Str Str Int) PV))), sv 0 (enc (part_ : Str)), sv 0 (enc (number_ : Int)), sv 0 (enc (seat_ : Str)), ex none, ex none]) rfl (leb rfl) ⟨rfl, rfl, rfl, rfl, rfl, rfl, trivial⟩ (by exact (sj_setC (ce_call (ca_g0 (ag_cons (eg_var (x := enc (shop_ : (Dic (T3 Str Str Int) PV))) rfl) (ag_cons (eg_c (x := enc ("bill" : Str))) (ag_cons (eg_var (x := enc (part_ : Str)) rfl) (ag_cons (eg_var (x := enc (number_ : Int)) rfl) ag_nil (.inl rfl)) (.inl rfl)) (.inl rfl)) (.inl rfl)) (by exact (ka_call (fj__law_best shop_ (("bill" : Str)) part_ number_) (fun _ => rfl) rfl (fun _ => rfl) rfl (hlen rfl) (fun r0 => by exact (ke_asg (y := enc ((ofPV (enc (r0 : (Option (Int × PV))) : PV) : (Option (Int × (Tup (T3 Str Int (T1 Str)))))) : (Option (Int × (Tup (T3 Str Int (T1 Str))))))) [IsE (Option (Int × (Tup (T3 Str Int (T1 Str))))) (enc (r0 : (Option (Int × PV))) : PV)] (fun h => ofPV_ok h) rfl (ke_set ((ofPV (enc (r0 : (Option (Int × PV))) : PV) : (Option (Int × (Tup (T3 Str Int (T1 Str)))))) : (Option (Int × (Tup (T3 Str Int (T1 Str)))))) (.inl rfl) rfl (fun best0 => (by exact (sj_ifC (ct_g0 (tg_of (b := (best0).isNone) (eg_op (x := enc ((best0).isNone : Bool)) (ag_cons (eg_var (x := enc (best0 : (Option (Int × (Tup (T3 Str Int (T1 Str))))))) rfl) (ag_cons (eg_c (x := enc ())) ag_nil (.inl rfl)) (.inl rfl)) o_isNo) tru_b) (by exact (kt_esc1 rfl (by exact (sj_retC (ce_g0 (eg_as (y := enc ((enc ((Tup.mk [] : Tup Int) : (Tup Int)) : PV) : PV)) (eg_op (x := enc ((Tup.mk [] : Tup Int) : (Tup Int))) ag_nil (o_tup (ps := []) (leb rfl))) rfl) (by exact (ke_ret (.inl rfl) rfl (ok_c shut_rt (ok_ret rfl (imp_wds rfl)))))))) (sj_pass (by exact (sj_forC (ci_g (ig_any (xs := ((((best0).getD default)).2).l.map enc) (eg_op (x := enc ((((best0).getD default)).2 : (Tup (T3 Str Int (T1 Str))))) (ag_cons (eg_asg (y := enc (((best0).getD default) : (Int × (Tup (T3 Str Int (T1 Str)))))) (eg_var (x := enc (best0 : (Option (Int × (Tup (T3 Str Int (T1 Str))))))) rfl) [(best0).isSome = true] (fun h => opt_some h)) (ag_cons (eg_c (x := enc (1 : Int))) ag_nil (.inl rfl)) (.inl rfl)) (o_ixt (y := enc ((((best0).getD default)).2 : (Tup (T3 Str Int (T1 Str))))) rfl)) (.inl rfl)) rfl (by exact (ki_loop (Γl := fun s0 : Unit => [sv 0 (enc (shop_ : (Dic (T3 Str Str Int) PV))), sv 0 (enc (part_ : Str)), sv 0 (enc (number_ : Int)), sv 0 (enc (seat_ : Str)), sv 0 (enc (best0 : (Option (Int × (Tup (T3 Str Int (T1 Str))))))), fr]) (e := enc) (xs := ((((best0).getD default)).2).l) () (imp_c i_id (imp_c i_id (imp_c i_id (imp_c i_id (imp_c i_id (imp_c i_no imp_n)))))) rfl (fun s0 line0 => ⟨_, bg_name, (by exact (sj_last (sj_ifC (ct_g0 (tg_of (b := (decide ((line0).a = seat_))) (eg_op (x := enc ((decide ((line0).a = seat_)) : Bool)) (ag_cons (eg_op (x := enc ((line0).a : Str)) (ag_cons (eg_var (x := enc (line0 : (T3 Str Int (T1 Str)))) rfl) (ag_cons (eg_c (x := enc (0 : Int))) ag_nil (.inl rfl)) (.inl rfl)) (o_ixt (y := enc ((line0).a : Str)) rfl)) (ag_cons (eg_var (x := enc (seat_ : Str)) rfl) ag_nil (.inl rfl)) (.inl rfl)) o_eqf) tru_b) (by exact (kt_tail rfl (by exact (sj_retC (ce_g0 (eg_as (y := enc ((enc (((line0).b, (line0).c) : (Int × (T1 Str))) : PV) : PV)) (eg_op (x := enc (((line0).b, (line0).c) : (Int × (T1 Str)))) (ag_cons (eg_op (x := enc ((line0).b : Int)) (ag_cons (eg_var (x := enc (line0 : (T3 Str Int (T1 Str)))) rfl) (ag_cons (eg_c (x := enc (1 : Int))) ag_nil (.inl rfl)) (.inl rfl)) (o_ixt (y := enc ((line0).b : Int)) rfl)) (ag_cons (eg_op (x := enc ((line0).c : (T1 Str))) (ag_cons (eg_var (x := enc (line0 : (T3 Str Int (T1 Str)))) rfl) (ag_cons (eg_c (x := enc (2 : Int))) ag_nil (.inl rfl)) (.inl rfl)) (o_ixt (y := enc ((line0).c : (T1 Str))) rfl)) ag_nil (.inl rfl)) (.inl rfl)) (o_tup (ps := [enc ((line0).b : Int), enc ((line0).c : (T1 Str))]) (leb rfl))) rfl) (by exact (ke_ret (.inl rfl) rfl (ok_lrt (ok_ret rfl (imp_wds rfl)))))))) (by exact (sj_nil rfl (ok_lnx (imp_c i_id (imp_c i_id (imp_c i_id (imp_c i_id (imp_c i_id (imp_c i_fr imp_n)))))))))))))))⟩) (fun s1 => (by exact (sj_retC (ce_g0 (eg_as (y := enc ((enc ((Tup.mk [] : Tup Int) : (Tup Int)) : PV) : PV)) (eg_op (x := enc ((Tup.mk [] : Tup Int) : (Tup Int))) ag_nil (o_tup (ps := []) (leb rfl))) rfl) (by exact (ke_ret (.inl rfl) rfl (ok_ret rfl (imp_wds rfl)))))))))))))))))))))))))))))
/-! ### _law_changes -/
def m__law_changes (shop_ : (Dic (T3 Str Str Int) PV)) (part_ : Str) (first_ : Int) (second_ : Int) : M (Tup (T3 Str PV PV)) := lt ([] : (List (T3 Str PV PV))) fun found0 => (M.fold (fun (s0 : (List (T3 Str PV PV))) (seat0 : Str) => (m__law_line shop_ part_ first_ seat0).bind fun r0 => lt r0 fun before0 => (m__law_line shop_ part_ second_ seat0).bind fun r1 => lt r1 fun after0 => grd (EqP before0 after0) <| (if (!eqP before0 after0) = true then grd ((s0).length < 16777216) <| lt (s0 ++ [(T3.mk seat0 before0 after0)]) fun found1 => .ok found1 else .ok s0)) ([((T5.mk ("s" : Str) ("u" : Str) ("v" : Str) ("w" : Str) ("x" : Str))).a, ((T5.mk ("s" : Str) ("u" : Str) ("v" : Str) ("w" : Str) ("x" : Str))).b, ((T5.mk ("s" : Str) ("u" : Str) ("v" : Str) ("w" : Str) ("x" : Str))).c, ((T5.mk ("s" : Str) ("u" : Str) ("v" : Str) ("w" : Str) ("x" : Str))).d, ((T5.mk ("s" : Str) ("u" : Str) ("v" : Str) ("w" : Str) ("x" : Str))).e] : List Str) found0).bind fun s1 : (List (T3 Str PV PV)) => .ok ((Tup.mk s1))
theorem fj__law_changes (shop_ : (Dic (T3 Str Str Int) PV)) (part_ : Str) (first_ : Int) (second_ : Int) : FJ F__law_changes [enc shop_, enc part_, enc first_, enc second_] 0 (m__law_changes shop_ part_ first_ second_) (enc : (Tup (T3 Str PV PV)) → PV) := fj_of (Γ := [sv 0 (enc (shop_ : (Dic (T3 Str Str Int) PV))), sv 0 (enc (part_ : Str)), sv 0 (enc (first_ : Int)), sv 0 (enc (second_ : Int)), ex none, ex none, ex none, ex none]) rfl (leb rfl) ⟨rfl, rfl, rfl, rfl, rfl, rfl, rfl, rfl, trivial⟩ (by exact (sj_setC (ce_g0 (eg_op (x := enc (([] : (List (T3 Str PV PV))) : (List (T3 Str PV PV)))) ag_nil (o_lst (ps := []) (leb rfl))) (by exact (ke_set (([] : (List (T3 Str PV PV))) : (List (T3 Str PV PV))) (.inr rfl) rfl (fun found0 => (by exact (sj_forC (ci_g0 (ig_any (xs := ([((T5.mk ("s" : Str) ("u" : Str) ("v" : Str) ("w" : Str) ("x" : Str))).a, ((T5.mk ("s" : Str) ("u" : Str) ("v" : Str) ("w" : Str) ("x" : Str))).b, ((T5.mk ("s" : Str) ("u" : Str) ("v" : Str) ("w" : Str) ("x" : Str))).c, ((T5.mk ("s" : Str) ("u" : Str) ("v" : Str) ("w" : Str) ("x" : Str))).d, ((T5.mk ("s" : Str) ("u" : Str) ("v" : Str) ("w" : Str) ("x" : Str))).e] : List Str).map enc) (eg_op (x := enc ((T5.mk ("s" : Str) ("u" : Str) ("v" : Str) ("w" : Str) ("x" : Str)) : (T5 Str Str Str Str Str))) (ag_cons (eg_c (x := enc ("s" : Str))) (ag_cons (eg_c (x := enc ("u" : Str))) (ag_cons (eg_c (x := enc ("v" : Str))) (ag_cons (eg_c (x := enc ("w" : Str))) (ag_cons (eg_c (x := enc ("x" : Str))) ag_nil (.inl rfl)) (.inl rfl)) (.inl rfl)) (.inl rfl)) (.inl rfl)) (o_tup (ps := [enc (("s" : Str) : Str), enc (("u" : Str) : Str), enc (("v" : Str) : Str), enc (("w" : Str) : Str), enc (("x" : Str) : Str)]) (leb rfl))) (.inl rfl)) (by exact (ki_fold (Γl := fun s0 : (List (T3 Str PV PV)) => [sv 0 (enc (shop_ : (Dic (T3 Str Str Int) PV))), sv 0 (enc (part_ : Str)), sv 0 (enc (first_ : Int)), sv 0 (enc (second_ : Int)), sv 1 (enc (s0 : (List (T3 Str PV PV)))), fr, fr, fr]) (e := enc) (xs := ([((T5.mk ("s" : Str) ("u" : Str) ("v" : Str) ("w" : Str) ("x" : Str))).a, ((T5.mk ("s" : Str) ("u" : Str) ("v" : Str) ("w" : Str) ("x" : Str))).b, ((T5.mk ("s" : Str) ("u" : Str) ("v" : Str) ("w" : Str) ("x" : Str))).c, ((T5.mk ("s" : Str) ("u" : Str) ("v" : Str) ("w" : Str) ("x" : Str))).d, ((T5.mk ("s" : Str) ("u" : Str) ("v" : Str) ("w" : Str) ("x" : Str))).e] : List Str)) found0 (imp_c i_id (imp_c i_id (imp_c i_id (imp_c i_id (imp_c i_id (imp_c i_no (imp_c i_no (imp_c i_no imp_n)))))))) rfl (fun s0 seat0 => ⟨_, bg_name, (by exact (sj_setC (ce_call (ca_g0 (ag_cons (eg_var (x := enc (shop_ : (Dic (T3 Str Str Int) PV))) rfl) (ag_cons (eg_var (x := enc (part_ : Str)) rfl) (ag_cons (eg_var (x := enc (first_ : Int)) rfl) (ag_cons (eg_var (x := enc (seat0 : Str)) rfl) ag_nil (.inl rfl)) (.inl rfl)) (.inl rfl)) (.inl rfl)) (by exact (ka_call (fj__law_line shop_ part_ first_ seat0) (fun _ => rfl) rfl (fun _ => rfl) rfl (hlen rfl) (fun r0 => by exact (ke_set (r0 : PV) (.inl rfl) rfl (fun before0 => (by exact (sj_setC (ce_call (ca_g0 (ag_cons (eg_var (x := enc (shop_ : (Dic (T3 Str Str Int) PV))) rfl) (ag_cons (eg_var (x := enc (part_ : Str)) rfl) (ag_cons (eg_var (x := enc (second_ : Int)) rfl) (ag_cons (eg_var (x := enc (seat0 : Str)) rfl) ag_nil (.inl rfl)) (.inl rfl)) (.inl rfl)) (.inl rfl)) (by exact (ka_call (fj__law_line shop_ part_ second_ seat0) (fun _ => rfl) rfl (fun _ => rfl) rfl (hlen rfl) (fun r1 => by exact (ke_set (r1 : PV) (.inl rfl) rfl (fun after0 => (by exact (sj_last (sj_ifC (ct_g (tg_of (b := (!eqP before0 after0)) (eg_opg (x := enc ((!eqP before0 after0) : Bool)) (ag_cons (eg_var (x := enc (before0 : PV)) rfl) (ag_cons (eg_var (x := enc (after0 : PV)) rfl) ag_nil (.inl rfl)) (.inl rfl)) [EqP before0 after0] (fun h => o_nep h)) tru_b) rfl (by exact (kt_tail rfl (by exact (sj_last (sj_exprC (ce_app rfl (ce_g0 (eg_op (x := enc ((T3.mk seat0 before0 after0) : (T3 Str PV PV))) (ag_cons (eg_var (x := enc (seat0 : Str)) rfl) (ag_cons (eg_var (x := enc (before0 : PV)) rfl) (ag_cons (eg_var (x := enc (after0 : PV)) rfl) ag_nil (.inl rfl)) (.inl rfl)) (.inl rfl)) (o_tup (ps := [enc (seat0 : Str), enc (before0 : PV), enc (after0 : PV)]) (leb rfl))) (by exact (ke_app ((T3.mk seat0 before0 after0) : (T3 Str PV PV)) rfl rfl (fun found1 => ke_expr (by exact (sj_nil rfl (ok_snx (imp_c i_id (imp_c i_id (imp_c i_id (imp_c i_id (imp_c i_id (imp_c i_fr (imp_c i_fr (imp_c i_fr imp_n))))))))))))))))))) (by exact (sj_nil rfl (ok_snx (imp_c i_id (imp_c i_id (imp_c i_id (imp_c i_id (imp_c i_id (imp_c i_fr (imp_c i_fr (imp_c i_fr imp_n)))))))))))))))))))))))))))))))))))⟩) (fun s1 => (by exact (sj_retC (ce_g0 (eg_op (x := enc ((Tup.mk s1) : (Tup (T3 Str PV PV)))) (ag_cons (eg_var (x := enc (s1 : (List (T3 Str PV PV)))) rfl) ag_nil (.inr (.inr rfl))) (o_tuple (by decide))) (by exact (ke_ret (.inl rfl) rfl (ok_ret rfl (imp_wds rfl)))))))))))))))))))
/-! ### law -/
def m_law (script_ : (CLst Int)) : M Bool := (m__law_numbers script_ ((220 : Int))).bind fun r0 => lt r0 fun numbers0 => lt (T3.mk ("drawing" : Str) ("bill" : Str) ("routing" : Str)) fun kinds0 => (m__law_names numbers0 ((3 : Int))).noexc.bind fun r1 => lt r1.1 fun parts0 => lt (⟨[]⟩ : (Dic (T3 Str Str Int) PV)) fun shop0 => (m__law_next (r1.2) ((13 : Int))).noexc.bind fun r2 => grd (Sm (r2.1)) <| (M.fold (fun (s0 : ((List Int) × (Dic (T3 Str Str Int) PV))) (turn0 : Int) => (m__law_next (s0.1) ((3 : Int))).noexc.bind fun r3 => grd (ixOk ((Tup.mk [(kinds0).a, (kinds0).b, (kinds0).c] : (Tup Str))).l r3.1) <| lt (geti ((Tup.mk [(kinds0).a, (kinds0).b, (kinds0).c] : (Tup Str))).l r3.1) fun kind0 => (m__law_next (r3.2) ((40 : Int))).noexc.bind fun r4 => lt ((1 : Int) + r4.1) fun lot0 => (m__law_next (r4.2) ((6 : Int))).noexc.bind fun r5 => (if (decide (r5.1 = (0 : Int))) = true then (m__law_next (r5.2) ((3 : Int))).noexc.bind fun r6 => lt ((9999 : Int) - r6.1) fun lot1 => .ok (r6.2, lot1) else .ok (r5.2, lot0)).bind fun s1 : ((List Int) × Int) => (m__law_next (s1.1) ((3 : Int))).noexc.bind fun r7 => grd (ixOk parts0 r7.1) <| lt (geti parts0 r7.1) fun name0 => (m__law_body (r7.2) kind0 parts0).noexc.bind fun r8 => grd ((s0.2).l.length < 16777216) <| lt ((s0.2).put (T3.mk kind0 name0 s1.2) r8.1) fun shop1 => .ok (r8.2, shop1)) (rng 0 r2.1) (r2.2, shop0)).bind fun s2 : ((List Int) × (Dic (T3 Str Str Int) PV)) => (m__law_copy (s2.2)).bind fun r9 => lt r9 fun before0 => (m__law_next (s2.1) ((45 : Int))).noexc.bind fun r10 => lt ([(1 : Int), (9999 : Int), ((1 : Int) + r10.1)] : (List Int)) fun asked0 => (M.fold (fun (s3 : (List Int)) (key0 : (T3 Str Str Int)) => grd ((s3).length < 16777216) <| lt (s3 ++ [(key0).c]) fun asked1 => grd ((asked1).length < 16777216) <| lt (asked1 ++ [(imax (1 : Int) ((key0).c - (1 : Int)))]) fun asked2 => grd ((asked2).length < 16777216) <| lt (asked2 ++ [(imin (9999 : Int) ((key0).c + (1 : Int)))]) fun asked3 => .ok asked3) (before0).keys asked0).bind fun s4 : (List Int) => (M.loop (fun (s5 : Unit) (kind1 : Str) => (M.loop (fun (s6 : Unit) (name1 : Str) => (m_stretches (s2.2) kind1 name1).bind fun r11 => (m__law_stretches before0 kind1 name1).bind fun r12 => grd (Dat.ok (r11 : (Tup (Int × Int)))) <| grd (Dat.ok (r12 : (Tup (Int × Int)))) <| (if (!decide (r11 = r12)) = true then .ok (.rt (.rt (false))) else (M.loop (fun (s7 : Unit) (number0 : Int) => (m__law_best before0 kind1 name1 number0).bind fun r13 => lt r13 fun due0 => (m__law_told (s2.2) kind1 name1 number0).bind fun r14 => grd (EqP r14 (enc (due0 : (Option (Int × PV))) : PV)) <| (if (!eqP r14 (enc (due0 : (Option (Int × PV))) : PV)) = true then .ok (.rt (.rt (.rt (false)))) else (m_has_version (s2.2) kind1 name1 number0).bind fun r15 => lt r15 fun told0 => (if ((!true) || (!decide (told0 = (due0).isSome))) = true then .ok (.rt (.rt (.rt (false)))) else .ok (.nx ())))) s4 ()).bind (Fl.cont fun s8 : Unit => .ok (.nx ())))) parts0 ()).bind (Fl.cont fun s9 : Unit => .ok (.nx ()))) ([(kinds0).a, (kinds0).b, (kinds0).c] : List Str) ()).bind (Fl.cont fun s10 : Unit => (M.loop (fun (s11 : (List Int)) (turn1 : Int) => (m__law_next s11 ((3 : Int))).noexc.bind fun r16 => grd (ixOk parts0 r16.1) <| lt (geti parts0 r16.1) fun part0 => (m__law_next (r16.2) (((s4).length : Int))).noexc.bind fun r17 => grd (ixOk s4 r17.1) <| lt (geti s4 r17.1) fun first0 => (m__law_next (r17.2) (((s4).length : Int))).noexc.bind fun r18 => grd (ixOk s4 r18.1) <| lt (geti s4 r18.1) fun second0 => (m_bill_changes (s2.2) part0 first0 second0).bind fun r19 => (m__law_changes before0 part0 first0 second0).bind fun r20 => grd (EqP (enc (r19 : (Tup (T3 Str PV PV))) : PV) (enc (r20 : (Tup (T3 Str PV PV))) : PV)) <| (if (!eqP (enc (r19 : (Tup (T3 Str PV PV))) : PV) (enc (r20 : (Tup (T3 Str PV PV))) : PV)) = true then .ok (.rt (false)) else .ok (.nx r18.2))) (rng 0 (12 : Int)) r10.2).bind (Fl.cont fun s12 : (List Int) => grd (EqDic (s2.2) (before0)) <| .ok ((eqDic (s2.2) (before0)))))
theorem fj_law (script_ : (CLst Int)) : FJ F_law [enc script_] 0 (m_law script_) (enc : Bool → PV) := fj_of (Γ := [sv 0 (enc (script_ : (CLst Int))), ex none, ex none, ex none, ex none, ex none, ex none, ex none, ex none, ex none, ex none, ex none, ex none, ex none, ex none, ex none, ex none, ex none]) rfl (leb rfl) ⟨rfl, rfl, rfl, rfl, rfl, rfl, rfl, rfl, rfl, rfl, rfl, rfl, rfl, rfl, rfl, rfl, rfl, rfl, trivial⟩ (by exact (sj_setC (ce_call (ca_g0 (ag_cons (eg_var (x := enc (script_ : (CLst Int))) rfl) (ag_cons (eg_c (x := enc (220 : Int))) ag_nil (.inl rfl)) (.inl rfl)) (by exact (ka_call (fj__law_numbers script_ ((220 : Int))) (fun _ => rfl) rfl (fun _ => rfl) rfl (hlen rfl) (fun r0 => by exact (ke_set (r0 : (List Int)) (.inr rfl) rfl (fun numbers0 => (by exact (sj_setC (ce_g0 (eg_op (x := enc ((T3.mk ("drawing" : Str) ("bill" : Str) ("routing" : Str)) : (T3 Str Str Str))) (ag_cons (eg_c (x := enc ("drawing" : Str))) (ag_cons (eg_c (x := enc ("bill" : Str))) (ag_cons (eg_c (x := enc ("routing" : Str))) ag_nil (.inl rfl)) (.inl rfl)) (.inl rfl)) (o_tup (ps := [enc (("drawing" : Str) : Str), enc (("bill" : Str) : Str), enc (("routing" : Str) : Str)]) (leb rfl))) (by exact (ke_set ((T3.mk ("drawing" : Str) ("bill" : Str) ("routing" : Str)) : (T3 Str Str Str)) (.inl rfl) rfl (fun kinds0 => (by exact (sj_setC (ce_frz (ce_call (ca_mut rfl (ca_g0 (ag_cons (eg_c (x := enc (3 : Int))) ag_nil (.inl rfl)) (by exact (ka_add (ka_call1 rfl (fj__law_names numbers0 ((3 : Int))) (fun ρ e => by simp [callIn, e]) (fun _ => rfl) (fun _ _ => rfl) rfl (fun r1 => by exact (ke_frz (.inr rfl) (ke_set (r1.1 : (List Str)) (.inl rfl) rfl (fun parts0 => (by exact (sj_setC (ce_g0 eg_dnew (by exact (ke_set ((⟨[]⟩ : (Dic (T3 Str Str Int) PV)) : (Dic (T3 Str Str Int) PV)) (.inr rfl) rfl (fun shop0 => (by exact (sj_fz (sj_forC (ci_range (ca_cons (ce_call (ca_mut rfl (ca_g0 (ag_cons (eg_c (x := enc (13 : Int))) ag_nil (.inl rfl)) (by exact (ka_add (ka_call1 rfl (fj__law_next (r1.2) ((13 : Int))) (fun ρ e => by simp [callIn, e]) (fun _ => rfl) (fun _ _ => rfl) rfl (fun r2 => by exact (ke_cons (.inl rfl) (fun _ => (ca_g0 ag_nil (by exact (ka_add (ka_rng (xs := ((rng 0 r2.1)).map enc) [Sm (r2.1)] (fun h => g_rng1 h.1) rfl (ki_fold (Γl := fun s0 : ((List Int) × (Dic (T3 Str Str Int) PV)) => [sv 0 (enc (script_ : (CLst Int))), sv 1 (enc (s0.1 : (List Int))), sv 0 (enc (kinds0 : (T3 Str Str Str))), sv 0 (enc (parts0 : (List Str))), sv 1 (enc (s0.2 : (Dic (T3 Str Str Int) PV))), fr, ex none, ex none, ex none, fr, fr, fr, ex none, ex none, ex none, ex none, ex none, ex none]) (e := enc) (xs := (rng 0 r2.1)) (r2.2, shop0) (imp_c i_id (imp_c i_id (imp_c i_id (imp_c i_id (imp_c i_id (imp_c i_no (imp_c i_id (imp_c i_id (imp_c i_id (imp_c i_no (imp_c i_no (imp_c i_no (imp_c i_id (imp_c i_id (imp_c i_id (imp_c i_id (imp_c i_id (imp_c i_id imp_n)))))))))))))))))) rfl (fun s0 turn0 => ⟨_, bg_name, (by exact (sj_setC (ce_op (ca_cons (ce_g0 (eg_as (y := enc ((Tup.mk [(kinds0).a, (kinds0).b, (kinds0).c] : (Tup Str)) : (Tup Str))) (eg_var (x := enc (kinds0 : (T3 Str Str Str))) rfl) rfl) (by exact (ke_cons (.inl rfl) (fun _ => (ca_cons (ce_call (ca_mut rfl (ca_g0 (ag_cons (eg_c (x := enc (3 : Int))) ag_nil (.inl rfl)) (by exact (ka_add (ka_call1 rfl (fj__law_next (s0.1) ((3 : Int))) (fun ρ e => by simp [callIn, e]) (fun _ => rfl) (fun _ _ => rfl) rfl (fun r3 => by exact (ke_cons (.inl rfl) (fun _ => (ca_g0 ag_nil (by exact (ka_add (ka_add (ka_opg (x := enc ((geti ((Tup.mk [(kinds0).a, (kinds0).b, (kinds0).c] : (Tup Str))).l r3.1) : Str)) [ixOk ((Tup.mk [(kinds0).a, (kinds0).b, (kinds0).c] : (Tup Str))).l r3.1] (fun h => o_ixtup h) rfl (ke_set ((geti ((Tup.mk [(kinds0).a, (kinds0).b, (kinds0).c] : (Tup Str))).l r3.1) : Str) (.inl rfl) rfl (fun kind0 => (by exact (sj_setC (ce_op (ca_cons (ce_g0 (eg_c (x := enc (1 : Int))) (by exact (ke_cons (.inl rfl) (fun _ => (ca_cons (ce_call (ca_mut rfl (ca_g0 (ag_cons (eg_c (x := enc (40 : Int))) ag_nil (.inl rfl)) (by exact (ka_add (ka_call1 rfl (fj__law_next (r3.2) ((40 : Int))) (fun ρ e => by simp [callIn, e]) (fun _ => rfl) (fun _ _ => rfl) rfl (fun r4 => by exact (ke_cons (.inl rfl) (fun _ => (ca_g0 ag_nil (by exact (ka_add (ka_add (ka_op (x := enc (((1 : Int) + r4.1) : Int)) o_add (ke_set (((1 : Int) + r4.1) : Int) (.inl rfl) rfl (fun lot0 => (by exact (sj_ifC (ct_of (ce_op (ca_cons (ce_call (ca_mut rfl (ca_g0 (ag_cons (eg_c (x := enc (6 : Int))) ag_nil (.inl rfl)) (by exact (ka_add (ka_call1 rfl (fj__law_next (r4.2) ((6 : Int))) (fun ρ e => by simp [callIn, e]) (fun _ => rfl) (fun _ _ => rfl) rfl (fun r5 => by exact (ke_cons (.inl rfl) (fun _ => (ca_g0 (ag_cons (eg_c (x := enc (0 : Int))) ag_nil (.inl rfl)) (by exact (ka_add (ka_op (x := enc ((decide (r5.1 = (0 : Int))) : Bool)) o_eqf (ke_of (b := (decide (r5.1 = (0 : Int)))) tru_b (kt_join (Γf := fun s1 : ((List Int) × Int) => [sv 0 (enc (script_ : (CLst Int))), sv 1 (enc (s1.1 : (List Int))), sv 0 (enc (kinds0 : (T3 Str Str Str))), sv 0 (enc (parts0 : (List Str))), sv 1 (enc (s0.2 : (Dic (T3 Str Str Int) PV))), sv 0 (enc (turn0 : Int)), ex none, ex none, ex none, sv 0 (enc (kind0 : Str)), sv 0 (enc (s1.2 : Int)), fr, ex none, ex none, ex none, ex none, ex none, ex none]) rfl (by exact (sj_last (sj_setC (ce_op (ca_cons (ce_g0 (eg_c (x := enc (9999 : Int))) (by exact (ke_cons (.inl rfl) (fun _ => (ca_cons (ce_call (ca_mut rfl (ca_g0 (ag_cons (eg_c (x := enc (3 : Int))) ag_nil (.inl rfl)) (by exact (ka_add (ka_call1 rfl (fj__law_next (r5.2) ((3 : Int))) (fun ρ e => by simp [callIn, e]) (fun _ => rfl) (fun _ _ => rfl) rfl (fun r6 => by exact (ke_cons (.inl rfl) (fun _ => (ca_g0 ag_nil (by exact (ka_add (ka_add (ka_op (x := enc (((9999 : Int) - r6.1) : Int)) o_sub (ke_set (((9999 : Int) - r6.1) : Int) (.inl rfl) rfl (fun lot1 => (by exact (sj_nil rfl (ok_n (imp_c i_id (imp_c i_id (imp_c i_id (imp_c i_id (imp_c i_id (imp_c i_id (imp_c i_id (imp_c i_id (imp_c i_id (imp_c i_id (imp_c i_id (imp_c i_id (imp_c i_id (imp_c i_id (imp_c i_id (imp_c i_id (imp_c i_id (imp_c i_id imp_n))))))))))))))))))))))))))))))))))))))))))))))) (by exact (sj_nil rfl (ok_n (imp_c i_id (imp_c i_id (imp_c i_id (imp_c i_id (imp_c i_id (imp_c i_id (imp_c i_id (imp_c i_id (imp_c i_id (imp_c i_id (imp_c i_id (imp_c i_id (imp_c i_id (imp_c i_id (imp_c i_id (imp_c i_id (imp_c i_id (imp_c i_id imp_n))))))))))))))))))))) (fun s1 => (by exact (sj_setC (ce_op (ca_cons (ce_g0 (eg_var (x := enc (parts0 : (List Str))) rfl) (by exact (ke_cons (.inl rfl) (fun _ => (ca_cons (ce_call (ca_mut rfl (ca_g0 (ag_cons (eg_c (x := enc (3 : Int))) ag_nil (.inl rfl)) (by exact (ka_add (ka_call1 rfl (fj__law_next (s1.1) ((3 : Int))) (fun ρ e => by simp [callIn, e]) (fun _ => rfl) (fun _ _ => rfl) rfl (fun r7 => by exact (ke_cons (.inl rfl) (fun _ => (ca_g0 ag_nil (by exact (ka_add (ka_add (ka_opg (x := enc ((geti parts0 r7.1) : Str)) [ixOk parts0 r7.1] (fun h => o_ixl (by decide) h) rfl (ke_set ((geti parts0 r7.1) : Str) (.inl rfl) rfl (fun name0 => (by exact (sj_last (sj_putC (ce_call (ca_mut rfl (ca_g0 (ag_cons (eg_var (x := enc (kind0 : Str)) rfl) (ag_cons (eg_var (x := enc (parts0 : (List Str))) rfl) ag_nil (.inl rfl)) (.inl rfl)) (by exact (ka_add (ka_call1 rfl (fj__law_body (r7.2) kind0 parts0) (fun ρ e => by simp [callIn, e]) (fun _ => rfl) (fun _ _ => rfl) rfl (fun r8 => by exact (ke_put rfl (fun _ _ _ => (ce_g0 (eg_op (x := enc ((T3.mk kind0 name0 s1.2) : (T3 Str Str Int))) (ag_cons (eg_var (x := enc (kind0 : Str)) rfl) (ag_cons (eg_var (x := enc (name0 : Str)) rfl) (ag_cons (eg_var (x := enc (s1.2 : Int)) rfl) ag_nil (.inl rfl)) (.inl rfl)) (.inl rfl)) (o_tup (ps := [enc (kind0 : Str), enc (name0 : Str), enc (s1.2 : Int)]) (leb rfl))) (by exact (ke_putd ((T3.mk kind0 name0 s1.2) : (T3 Str Str Int)) (r8.1 : PV) rfl rfl (fun shop1 => (by exact (sj_nil rfl (ok_snx (imp_c i_id (imp_c i_id (imp_c i_id (imp_c i_id (imp_c i_id (imp_c i_fr (imp_c i_id (imp_c i_id (imp_c i_id (imp_c i_fr (imp_c i_fr (imp_c i_fr (imp_c i_id (imp_c i_id (imp_c i_id (imp_c i_id (imp_c i_id (imp_c i_id imp_n)))))))))))))))))))))))))))))))))))))))))))))))))))))))))))))))))))))))))))))))))))))))))))))))))))))))))))))))))))))))))))))))))))))⟩) (fun s2 => (by exact (sj_fzs rfl (by exact (sj_setC (ce_frz (ce_call (ca_g0 (ag_cons (eg_frzv0 (x := enc (s2.2 : (Dic (T3 Str Str Int) PV))) rfl) ag_nil (.inl rfl)) (by exact (ka_call (fj__law_copy (s2.2)) (fun _ => rfl) rfl (fun _ => rfl) rfl (hlen rfl) (fun r9 => by exact (ke_frz (.inr rfl) (ke_set (r9 : (Dic (T3 Str Str Int) PV)) (.inl rfl) rfl (fun before0 => (by exact (sj_setC (ce_op (ca_cons (ce_g0 (eg_c (x := enc (1 : Int))) (by exact (ke_cons (.inl rfl) (fun _ => (ca_cons (ce_g0 (eg_c (x := enc (9999 : Int))) (by exact (ke_cons (.inl rfl) (fun _ => (ca_cons (ce_op (ca_cons (ce_g0 (eg_c (x := enc (1 : Int))) (by exact (ke_cons (.inl rfl) (fun _ => (ca_cons (ce_call (ca_mut rfl (ca_g0 (ag_cons (eg_c (x := enc (45 : Int))) ag_nil (.inl rfl)) (by exact (ka_add (ka_call1 rfl (fj__law_next (s2.1) ((45 : Int))) (fun ρ e => by simp [callIn, e]) (fun _ => rfl) (fun _ _ => rfl) rfl (fun r10 => by exact (ke_cons (.inl rfl) (fun _ => (ca_g0 ag_nil (by exact (ka_add (ka_add (ka_op (x := enc (((1 : Int) + r10.1) : Int)) o_add (ke_cons (.inl rfl) (fun _ => (ca_g0 ag_nil (by exact (ka_add (ka_add (ka_add (ka_op (x := enc (([(1 : Int), (9999 : Int), ((1 : Int) + r10.1)] : (List Int)) : (List Int))) (o_lst (ps := [enc ((1 : Int) : Int), enc ((9999 : Int) : Int), enc (((1 : Int) + r10.1) : Int)]) (leb rfl)) (ke_set (([(1 : Int), (9999 : Int), ((1 : Int) + r10.1)] : (List Int)) : (List Int)) (.inr rfl) rfl (fun asked0 => (by exact (sj_fz (sj_forC (ci_g0 (ig_keys (eg_var (x := enc (before0 : (Dic (T3 Str Str Int) PV))) rfl)) (by exact (ki_fold (Γl := fun s3 : (List Int) => [sv 0 (enc (script_ : (CLst Int))), sv 1 (enc (r10.2 : (List Int))), sv 0 (enc (kinds0 : (T3 Str Str Str))), sv 0 (enc (parts0 : (List Str))), sv 0 (enc (s2.2 : (Dic (T3 Str Str Int) PV))), fr, sv 0 (enc (before0 : (Dic (T3 Str Str Int) PV))), sv 1 (enc (s3 : (List Int))), fr, fr, fr, fr, ex none, ex none, ex none, ex none, ex none, ex none]) (e := enc) (xs := (before0).keys) asked0 (imp_c i_id (imp_c i_id (imp_c i_id (imp_c i_id (imp_c i_id (imp_c i_id (imp_c i_id (imp_c i_id (imp_c i_no (imp_c i_id (imp_c i_id (imp_c i_id (imp_c i_id (imp_c i_id (imp_c i_id (imp_c i_id (imp_c i_id (imp_c i_id imp_n)))))))))))))))))) rfl (fun s3 key0 => ⟨_, bg_name, (by exact (sj_exprC (ce_app rfl (ce_g0 (eg_op (x := enc ((key0).c : Int)) (ag_cons (eg_var (x := enc (key0 : (T3 Str Str Int))) rfl) (ag_cons (eg_c (x := enc (2 : Int))) ag_nil (.inl rfl)) (.inl rfl)) (o_ixt (y := enc ((key0).c : Int)) rfl)) (by exact (ke_app ((key0).c : Int) rfl rfl (fun asked1 => ke_expr (by exact (sj_exprC (ce_app rfl (ce_g0 (eg_op (x := enc ((imax (1 : Int) ((key0).c - (1 : Int))) : Int)) (ag_cons (eg_c (x := enc (1 : Int))) (ag_cons (eg_op (x := enc (((key0).c - (1 : Int)) : Int)) (ag_cons (eg_op (x := enc ((key0).c : Int)) (ag_cons (eg_var (x := enc (key0 : (T3 Str Str Int))) rfl) (ag_cons (eg_c (x := enc (2 : Int))) ag_nil (.inl rfl)) (.inl rfl)) (o_ixt (y := enc ((key0).c : Int)) rfl)) (ag_cons (eg_c (x := enc (1 : Int))) ag_nil (.inl rfl)) (.inl rfl)) o_sub) ag_nil (.inl rfl)) (.inl rfl)) o_max2) (by exact (ke_app ((imax (1 : Int) ((key0).c - (1 : Int))) : Int) rfl rfl (fun asked2 => ke_expr (by exact (sj_last (sj_exprC (ce_app rfl (ce_g0 (eg_op (x := enc ((imin (9999 : Int) ((key0).c + (1 : Int))) : Int)) (ag_cons (eg_c (x := enc (9999 : Int))) (ag_cons (eg_op (x := enc (((key0).c + (1 : Int)) : Int)) (ag_cons (eg_op (x := enc ((key0).c : Int)) (ag_cons (eg_var (x := enc (key0 : (T3 Str Str Int))) rfl) (ag_cons (eg_c (x := enc (2 : Int))) ag_nil (.inl rfl)) (.inl rfl)) (o_ixt (y := enc ((key0).c : Int)) rfl)) (ag_cons (eg_c (x := enc (1 : Int))) ag_nil (.inl rfl)) (.inl rfl)) o_add) ag_nil (.inl rfl)) (.inl rfl)) o_min2) (by exact (ke_app ((imin (9999 : Int) ((key0).c + (1 : Int))) : Int) rfl rfl (fun asked3 => ke_expr (by exact (sj_nil rfl (ok_snx (imp_c i_id (imp_c i_id (imp_c i_id (imp_c i_id (imp_c i_id (imp_c i_id (imp_c i_id (imp_c i_id (imp_c i_fr (imp_c i_id (imp_c i_id (imp_c i_id (imp_c i_id (imp_c i_id (imp_c i_id (imp_c i_id (imp_c i_id (imp_c i_id imp_n)))))))))))))))))))))))))))))))))))))))))))⟩) (fun s4 => (by exact (sj_fzs rfl (by exact (sj_forC (ci_g0 (ig_any (xs := ([(kinds0).a, (kinds0).b, (kinds0).c] : List Str).map enc) (eg_var (x := enc (kinds0 : (T3 Str Str Str))) rfl) (.inl rfl)) (by exact (ki_loop (Γl := fun s5 : Unit => [sv 0 (enc (script_ : (CLst Int))), sv 1 (enc (r10.2 : (List Int))), sv 0 (enc (kinds0 : (T3 Str Str Str))), sv 0 (enc (parts0 : (List Str))), sv 0 (enc (s2.2 : (Dic (T3 Str Str Int) PV))), fr, sv 0 (enc (before0 : (Dic (T3 Str Str Int) PV))), sv 0 (enc (s4 : (List Int))), fr, fr, fr, fr, ex none, ex none, ex none, fr, fr, fr]) (e := enc) (xs := ([(kinds0).a, (kinds0).b, (kinds0).c] : List Str)) () (imp_c i_id (imp_c i_id (imp_c i_id (imp_c i_id (imp_c i_id (imp_c i_id (imp_c i_id (imp_c i_id (imp_c i_id (imp_c i_id (imp_c i_id (imp_c i_id (imp_c i_id (imp_c i_id (imp_c i_id (imp_c i_no (imp_c i_no (imp_c i_no imp_n)))))))))))))))))) rfl (fun s5 kind1 => ⟨_, bg_name, (by exact (sj_last (sj_forC (ci_g0 (ig_any (xs := (parts0 : (List Str)).map enc) (eg_var (x := enc (parts0 : (List Str))) rfl) (.inr (.inr (.inr ⟨rfl, .inl rfl⟩)))) (by exact (ki_loop (Γl := fun s6 : Unit => [sv 0 (enc (script_ : (CLst Int))), sv 1 (enc (r10.2 : (List Int))), sv 0 (enc (kinds0 : (T3 Str Str Str))), sv 0 (enc (parts0 : (List Str))), sv 0 (enc (s2.2 : (Dic (T3 Str Str Int) PV))), fr, sv 0 (enc (before0 : (Dic (T3 Str Str Int) PV))), sv 0 (enc (s4 : (List Int))), fr, sv 0 (enc (kind1 : Str)), fr, fr, ex none, ex none, ex none, fr, fr, fr]) (e := enc) (xs := parts0) () (imp_c i_id (imp_c i_id (imp_c i_id (imp_c i_id (imp_c i_id (imp_c i_id (imp_c i_id (imp_c i_id (imp_c i_id (imp_c i_id (imp_c i_id (imp_c i_id (imp_c i_id (imp_c i_id (imp_c i_id (imp_c i_id (imp_c i_id (imp_c i_id imp_n)))))))))))))))))) rfl (fun s6 name1 => ⟨_, bg_name, (by exact (sj_ifC (ct_of (ce_op (ca_cons (ce_call (ca_g0 (ag_cons (eg_frzv0 (x := enc (s2.2 : (Dic (T3 Str Str Int) PV))) rfl) (ag_cons (eg_var (x := enc (kind1 : Str)) rfl) (ag_cons (eg_var (x := enc (name1 : Str)) rfl) ag_nil (.inl rfl)) (.inl rfl)) (.inl rfl)) (by exact (ka_call (fj_stretches (s2.2) kind1 name1) (fun _ => rfl) rfl (fun _ => rfl) rfl (hlen rfl) (fun r11 => by exact (ke_cons (.inl rfl) (fun _ => (ca_cons (ce_call (ca_g0 (ag_cons (eg_var (x := enc (before0 : (Dic (T3 Str Str Int) PV))) rfl) (ag_cons (eg_var (x := enc (kind1 : Str)) rfl) (ag_cons (eg_var (x := enc (name1 : Str)) rfl) ag_nil (.inl rfl)) (.inl rfl)) (.inl rfl)) (by exact (ka_call (fj__law_stretches before0 kind1 name1) (fun _ => rfl) rfl (fun _ => rfl) rfl (hlen rfl) (fun r12 => by exact (ke_cons (.inl rfl) (fun _ => (ca_g0 ag_nil (by exact (ka_add (ka_add (ka_opg (x := enc ((!decide (r11 = r12)) : Bool)) [Dat.ok (r11 : (Tup (Int × Int))), Dat.ok (r12 : (Tup (Int × Int)))] (fun h => o_ned (by decide) h) rfl (ke_of (b := (!decide (r11 = r12))) tru_b (kt_esc1 rfl (by exact (sj_retC (ce_g0 (eg_c (x := enc false)) (by exact (ke_ret (.inl rfl) rfl (ok_c shut_rt (ok_lrt (ok_lrt (ok_ret rfl (imp_wds rfl)))))))))) (sj_pass (by exact (sj_last (sj_forC (ci_g0 (ig_any (xs := (s4 : (List Int)).map enc) (eg_frzv0 (x := enc (s4 : (List Int))) rfl) (.inr (.inr (.inr ⟨rfl, .inl rfl⟩)))) (by exact (ki_loop (Γl := fun s7 : Unit => [sv 0 (enc (script_ : (CLst Int))), sv 1 (enc (r10.2 : (List Int))), sv 0 (enc (kinds0 : (T3 Str Str Str))), sv 0 (enc (parts0 : (List Str))), sv 0 (enc (s2.2 : (Dic (T3 Str Str Int) PV))), fr, sv 0 (enc (before0 : (Dic (T3 Str Str Int) PV))), sv 0 (enc (s4 : (List Int))), fr, sv 0 (enc (kind1 : Str)), fr, sv 0 (enc (name1 : Str)), ex none, ex none, ex none, fr, fr, fr]) (e := enc) (xs := s4) () (imp_c i_id (imp_c i_id (imp_c i_id (imp_c i_id (imp_c i_id (imp_c i_id (imp_c i_id (imp_c i_id (imp_c i_id (imp_c i_id (imp_c i_id (imp_c i_id (imp_c i_id (imp_c i_id (imp_c i_id (imp_c i_id (imp_c i_id (imp_c i_id imp_n)))))))))))))))))) rfl (fun s7 number0 => ⟨_, bg_name, (by exact (sj_setC (ce_call (ca_g0 (ag_cons (eg_var (x := enc (before0 : (Dic (T3 Str Str Int) PV))) rfl) (ag_cons (eg_var (x := enc (kind1 : Str)) rfl) (ag_cons (eg_var (x := enc (name1 : Str)) rfl) (ag_cons (eg_var (x := enc (number0 : Int)) rfl) ag_nil (.inl rfl)) (.inl rfl)) (.inl rfl)) (.inl rfl)) (by exact (ka_call (fj__law_best before0 kind1 name1 number0) (fun _ => rfl) rfl (fun _ => rfl) rfl (hlen rfl) (fun r13 => by exact (ke_set (r13 : (Option (Int × PV))) (.inl rfl) rfl (fun due0 => (by exact (sj_ifC (ct_of (ce_op (ca_cons (ce_call (ca_g0 (ag_cons (eg_frzv0 (x := enc (s2.2 : (Dic (T3 Str Str Int) PV))) rfl) (ag_cons (eg_var (x := enc (kind1 : Str)) rfl) (ag_cons (eg_var (x := enc (name1 : Str)) rfl) (ag_cons (eg_var (x := enc (number0 : Int)) rfl) ag_nil (.inl rfl)) (.inl rfl)) (.inl rfl)) (.inl rfl)) (by exact (ka_call (fj__law_told (s2.2) kind1 name1 number0) (fun _ => rfl) rfl (fun _ => rfl) rfl (hlen rfl) (fun r14 => by exact (ke_cons (.inl rfl) (fun _ => (ca_g0 (ag_cons (eg_as (y := enc ((enc (due0 : (Option (Int × PV))) : PV) : PV)) (eg_var (x := enc (due0 : (Option (Int × PV)))) rfl) rfl) ag_nil (.inl rfl)) (by exact (ka_add (ka_opg (x := enc ((!eqP r14 (enc (due0 : (Option (Int × PV))) : PV)) : Bool)) [EqP r14 (enc (due0 : (Option (Int × PV))) : PV)] (fun h => o_nep h) rfl (ke_of (b := (!eqP r14 (enc (due0 : (Option (Int × PV))) : PV))) tru_b (kt_esc1 rfl (by exact (sj_retC (ce_g0 (eg_c (x := enc false)) (by exact (ke_ret (.inl rfl) rfl (ok_c shut_rt (ok_lrt (ok_lrt (ok_lrt (ok_ret rfl (imp_wds rfl))))))))))) (sj_pass (by exact (sj_setC (ce_call (ca_g0 (ag_cons (eg_frzv0 (x := enc (s2.2 : (Dic (T3 Str Str Int) PV))) rfl) (ag_cons (eg_var (x := enc (kind1 : Str)) rfl) (ag_cons (eg_var (x := enc (name1 : Str)) rfl) (ag_cons (eg_var (x := enc (number0 : Int)) rfl) ag_nil (.inl rfl)) (.inl rfl)) (.inl rfl)) (.inl rfl)) (by exact (ka_call (fj_has_version (s2.2) kind1 name1 number0) (fun _ => rfl) rfl (fun _ => rfl) rfl (hlen rfl) (fun r15 => by exact (ke_set (r15 : Bool) (.inl rfl) rfl (fun told0 => (by exact (sj_last (sj_ifC (ct_g0 (tg_or0 (tg_not (tg_of (b := true) (eg_isi (eg_var (x := enc (told0 : Bool)) rfl) (show kitB "bool" "bool" = some true by decide +kernel)) tru_b)) (tg_of (b := (!decide (told0 = (due0).isSome))) (eg_op (x := enc ((!decide (told0 = (due0).isSome)) : Bool)) (ag_cons (eg_var (x := enc (told0 : Bool)) rfl) (ag_cons (eg_op (x := enc ((due0).isSome : Bool)) (ag_cons (eg_var (x := enc (due0 : (Option (Int × PV)))) rfl) (ag_cons (eg_c (x := enc ())) ag_nil (.inl rfl)) (.inl rfl)) o_notNo) ag_nil (.inl rfl)) (.inl rfl)) o_nef) tru_b)) (by exact (kt_tail rfl (by exact (sj_retC (ce_g0 (eg_c (x := enc false)) (by exact (ke_ret (.inl rfl) rfl (ok_lrt (ok_lrt (ok_lrt (ok_ret rfl (imp_wds rfl)))))))))) (by exact (sj_nil rfl (ok_lnx (imp_c i_id (imp_c i_id (imp_c i_id (imp_c i_id (imp_c i_id (imp_c i_id (imp_c i_id (imp_c i_id (imp_c i_id (imp_c i_id (imp_c i_id (imp_c i_id (imp_c i_id (imp_c i_id (imp_c i_id (imp_c i_fr (imp_c i_fr (imp_c i_fr imp_n))))))))))))))))))))))))))))))))))))))))))))))))))))))))))))))))⟩) (fun s8 => (by exact (sj_nil rfl (ok_lnx (imp_c i_id (imp_c i_id (imp_c i_id (imp_c i_id (imp_c i_id (imp_c i_id (imp_c i_id (imp_c i_id (imp_c i_id (imp_c i_id (imp_c i_id (imp_c i_fr (imp_c i_id (imp_c i_id (imp_c i_id (imp_c i_id (imp_c i_id (imp_c i_id imp_n))))))))))))))))))))))))))))))))))))))))))))))))))))))))⟩) (fun s9 => (by exact (sj_nil rfl (ok_lnx (imp_c i_id (imp_c i_id (imp_c i_id (imp_c i_id (imp_c i_id (imp_c i_id (imp_c i_id (imp_c i_id (imp_c i_id (imp_c i_fr (imp_c i_id (imp_c i_id (imp_c i_id (imp_c i_id (imp_c i_id (imp_c i_id (imp_c i_id (imp_c i_id imp_n))))))))))))))))))))))))))))⟩) (fun s10 => (by exact (sj_forC (ci_g0 (ig_range0 (xs := ((rng 0 (12 : Int))).map enc) (ag_cons (eg_c (x := enc (12 : Int))) ag_nil (.inl rfl)) (g_rng1 ⟨by decide, by decide⟩)) (by exact (ki_loop (Γl := fun s11 : (List Int) => [sv 0 (enc (script_ : (CLst Int))), sv 1 (enc (s11 : (List Int))), sv 0 (enc (kinds0 : (T3 Str Str Str))), sv 0 (enc (parts0 : (List Str))), sv 0 (enc (s2.2 : (Dic (T3 Str Str Int) PV))), fr, sv 0 (enc (before0 : (Dic (T3 Str Str Int) PV))), sv 0 (enc (s4 : (List Int))), fr, fr, fr, fr, fr, fr, fr, fr, fr, fr]) (e := enc) (xs := (rng 0 (12 : Int))) r10.2 (imp_c i_id (imp_c i_id (imp_c i_id (imp_c i_id (imp_c i_id (imp_c i_id (imp_c i_id (imp_c i_id (imp_c i_id (imp_c i_id (imp_c i_id (imp_c i_id (imp_c i_no (imp_c i_no (imp_c i_no (imp_c i_id (imp_c i_id (imp_c i_id imp_n)))))))))))))))))) rfl (fun s11 turn1 => ⟨_, bg_name, (by exact (sj_setC (ce_op (ca_cons (ce_g0 (eg_var (x := enc (parts0 : (List Str))) rfl) (by exact (ke_cons (.inl rfl) (fun _ => (ca_cons (ce_call (ca_mut rfl (ca_g0 (ag_cons (eg_c (x := enc (3 : Int))) ag_nil (.inl rfl)) (by exact (ka_add (ka_call1 rfl (fj__law_next s11 ((3 : Int))) (fun ρ e => by simp [callIn, e]) (fun _ => rfl) (fun _ _ => rfl) rfl (fun r16 => by exact (ke_cons (.inl rfl) (fun _ => (ca_g0 ag_nil (by exact (ka_add (ka_add (ka_opg (x := enc ((geti parts0 r16.1) : Str)) [ixOk parts0 r16.1] (fun h => o_ixl (by decide) h) rfl (ke_set ((geti parts0 r16.1) : Str) (.inl rfl) rfl (fun part0 => (by exact (sj_setC (ce_op (ca_cons (ce_g0 (eg_var (x := enc (s4 : (List Int))) rfl) (by exact (ke_cons (.inl rfl) (fun _ => (ca_cons (ce_call (ca_mut rfl (ca_g0 (ag_cons (eg_op (x := enc (((s4).length : Int) : Int)) (ag_cons (eg_var (x := enc (s4 : (List Int))) rfl) ag_nil (.inl rfl)) o_lenl) ag_nil (.inl rfl)) (by exact (ka_add (ka_call1 rfl (fj__law_next (r16.2) (((s4).length : Int))) (fun ρ e => by simp [callIn, e]) (fun _ => rfl) (fun _ _ => rfl) rfl (fun r17 => by exact (ke_cons (.inl rfl) (fun _ => (ca_g0 ag_nil (by exact (ka_add (ka_add (ka_opg (x := enc ((geti s4 r17.1) : Int)) [ixOk s4 r17.1] (fun h => o_ixl (by decide) h) rfl (ke_set ((geti s4 r17.1) : Int) (.inl rfl) rfl (fun first0 => (by exact (sj_setC (ce_op (ca_cons (ce_g0 (eg_var (x := enc (s4 : (List Int))) rfl) (by exact (ke_cons (.inl rfl) (fun _ => (ca_cons (ce_call (ca_mut rfl (ca_g0 (ag_cons (eg_op (x := enc (((s4).length : Int) : Int)) (ag_cons (eg_var (x := enc (s4 : (List Int))) rfl) ag_nil (.inl rfl)) o_lenl) ag_nil (.inl rfl)) (by exact (ka_add (ka_call1 rfl (fj__law_next (r17.2) (((s4).length : Int))) (fun ρ e => by simp [callIn, e]) (fun _ => rfl) (fun _ _ => rfl) rfl (fun r18 => by exact (ke_cons (.inl rfl) (fun _ => (ca_g0 ag_nil (by exact (ka_add (ka_add (ka_opg (x := enc ((geti s4 r18.1) : Int)) [ixOk s4 r18.1] (fun h => o_ixl (by decide) h) rfl (ke_set ((geti s4 r18.1) : Int) (.inl rfl) rfl (fun second0 => (by exact (sj_last (sj_ifC (ct_of (ce_op (ca_cons (ce_call (ca_g0 (ag_cons (eg_frzv0 (x := enc (s2.2 : (Dic (T3 Str Str Int) PV))) rfl) (ag_cons (eg_var (x := enc (part0 : Str)) rfl) (ag_cons (eg_var (x := enc (first0 : Int)) rfl) (ag_cons (eg_var (x := enc (second0 : Int)) rfl) ag_nil (.inl rfl)) (.inl rfl)) (.inl rfl)) (.inl rfl)) (by exact (ka_call (fj_bill_changes (s2.2) part0 first0 second0) (fun _ => rfl) rfl (fun _ => rfl) rfl (hlen rfl) (fun r19 => by exact (ke_as (y := enc ((enc (r19 : (Tup (T3 Str PV PV))) : PV) : PV)) rfl (ke_cons (.inl rfl) (fun _ => (ca_cons (ce_call (ca_g0 (ag_cons (eg_var (x := enc (before0 : (Dic (T3 Str Str Int) PV))) rfl) (ag_cons (eg_var (x := enc (part0 : Str)) rfl) (ag_cons (eg_var (x := enc (first0 : Int)) rfl) (ag_cons (eg_var (x := enc (second0 : Int)) rfl) ag_nil (.inl rfl)) (.inl rfl)) (.inl rfl)) (.inl rfl)) (by exact (ka_call (fj__law_changes before0 part0 first0 second0) (fun _ => rfl) rfl (fun _ => rfl) rfl (hlen rfl) (fun r20 => by exact (ke_as (y := enc ((enc (r20 : (Tup (T3 Str PV PV))) : PV) : PV)) rfl (ke_cons (.inl rfl) (fun _ => (ca_g0 ag_nil (by exact (ka_add (ka_add (ka_opg (x := enc ((!eqP (enc (r19 : (Tup (T3 Str PV PV))) : PV) (enc (r20 : (Tup (T3 Str PV PV))) : PV)) : Bool)) [EqP (enc (r19 : (Tup (T3 Str PV PV))) : PV) (enc (r20 : (Tup (T3 Str PV PV))) : PV)] (fun h => o_nep h) rfl (ke_of (b := (!eqP (enc (r19 : (Tup (T3 Str PV PV))) : PV) (enc (r20 : (Tup (T3 Str PV PV))) : PV))) tru_b (kt_tail rfl (by exact (sj_retC (ce_g0 (eg_c (x := enc false)) (by exact (ke_ret (.inl rfl) rfl (ok_lrt (ok_ret rfl (imp_wds rfl)))))))) (by exact (sj_nil rfl (ok_lnx (imp_c i_id (imp_c i_id (imp_c i_id (imp_c i_id (imp_c i_id (imp_c i_fr (imp_c i_id (imp_c i_id (imp_c i_id (imp_c i_id (imp_c i_id (imp_c i_id (imp_c i_fr (imp_c i_fr (imp_c i_fr (imp_c i_id (imp_c i_id (imp_c i_id imp_n))))))))))))))))))))))))))))))))))))))))))))))))))))))))))))))))))))))))))))))))))))))))))))))))))))))))))))))))))))))))))))))⟩) (fun s12 => (by exact (sj_retC (ce_g (eg_opg (x := enc ((eqDic (s2.2) (before0)) : Bool)) (ag_cons (eg_var (x := enc (s2.2 : (Dic (T3 Str Str Int) PV))) rfl) (ag_cons (eg_var (x := enc (before0 : (Dic (T3 Str Str Int) PV))) rfl) ag_nil (.inl rfl)) (.inl rfl)) [EqDic (s2.2) (before0)] (fun h => o_eqdic h)) rfl (by exact (ke_ret (.inl rfl) rfl (ok_ret rfl (imp_wds rfl))))))))))))))))))))))))))))))))))))))))))))))))))))))))))))))))))))))))))))))))))))))))))))))))))))))))))))))))))))))))))))))))))))))))))))
/-- the law's own answer, told typed -/
theorem holds_typed (h : ∀ ns : List Int, ns.length ≤ 63 → Pv.Bits ns → m_law ⟨ns⟩ = .ok true) : PySem.Challenge.rw_millbench_k20_versions.Holds := holds_of fun ns hl hb => by
  have := fj_law ⟨ns⟩
  rw [h ns hl hb] at this
  exact ⟨_, rfl, this⟩
end
end K20

set_option maxRecDepth 100000
set_option maxHeartbeats 1000000
namespace K20
open PySem PySem.Spec PyProof.Rows L2 Pv
open T
open T.Enc (enc)
abbrev Shop := Dic (T3 Str Str Int) PV
abbrev Ln := T3 Str Int (T1 Str)
abbrev five : List Str := ["s", "u", "v", "w", "x"]
abbrev kinds3 : List Str := ["drawing", "bill", "routing"]
structure LOk (t : List Ln) : Prop where
  nd : (t.map (·.a)).Nodup
  st : ∀ l ∈ t, l.a ∈ five
  ln : t.length ≤ 5
  ok : ∀ l ∈ t, PyData.strOk l.c.a = true
structure BOk (kind : Str) (x : PV) : Prop where
  dat : okB 10 x = true
  flat : x.flat = none
  non : PV.isNon x = false
  bill : kind = "bill" → ∃ t : List Ln, x = enc (Tup.mk t) ∧ LOk t
structure SOk' (d : Shop) : Prop where
  nd : d.Nd
  ln : d.l.length ≤ 20
  lot : ∀ p ∈ d.l, 1 ≤ p.1.c ∧ p.1.c ≤ 9999
  nm : ∀ p ∈ d.l, p.1.a ∈ kinds3 ∧ SOk 3 p.1.b
  bd : ∀ p ∈ d.l, BOk p.1.a p.2
theorem five_ok : ∀ x ∈ five, PyData.strOk x = true := by decide +kernel
theorem line_dat {l : Ln} (h1 : l.a ∈ five) (h2 : PyData.strOk l.c.a = true) : okB 3 (enc l) = true := by
  have := five_ok _ h1
  show [PV.str l.a, PV.int l.b, PV.tup [PV.str l.c.a]].all (okB 2) = true
  simp [okB, this, h2]
theorem suvwx {k : Int} (h0 : 0 ≤ k) (h : k < 5) : ixOk ("suvwx" : Str).cps.toList k ∧ chrAt ("suvwx" : Str) k ∈ five := by
  obtain ⟨j, rfl⟩ := Int.eq_ofNat_of_zero_le h0
  have e : (("suvwx" : Str).cps.toList.length : Int) = 5 := by decide +kernel
  refine ⟨ixOk_of h0 (by rw [e]; exact h), ?_⟩
  have : ∀ j : Fin 5, chrAt ("suvwx" : Str) ((j.val : Nat) : Int) ∈ five := by decide +kernel
  exact this ⟨j, by omega⟩
theorem sgood : PyData.strOk "a" = true ∧ PyData.strOk "b" = true ∧ PyData.strOk "d" = true ∧ PyData.strOk "cut" = true ∧ PyData.strOk "saw" = true ∧ PyData.strOk "m" = true ∧ PyData.strOk "" = true := by decide +kernel
theorem body_ok (l : List Int) {kind : Str} {parts : List Str} (hk : kind ∈ kinds3) (hl : parts.length = 3) (hp : ∀ x ∈ parts, SOk 3 x) : ∃ r, m__law_body l kind parts = .ok r ∧ BOk kind r.1 := by
  unfold m__law_body
  refine ite_ex (fun h => ?_) fun h => ite_ex (fun h => ?_) fun h2 => ?_
  · have h := of_decide_eq_true h
    subst h
    refine noexc_ex (next_ok _ (by decide)) fun r hr => ok_ex ⟨?_, rfl, rfl, fun e => absurd e (by decide)⟩
    simp [okB, Enc.enc, sgood]
  · have h := of_decide_eq_true h
    subst h
    refine noexc_ex (next_ok _ (by decide)) fun r hr => noexc_ex (next_ok _ (by decide)) fun r2 hr2 => ok_ex ⟨?_, rfl, rfl, fun e => absurd e (by decide)⟩
    simp [okB, Enc.enc, sgood]
  · refine lt_ex (noexc_ex (next_ok _ (by decide)) fun r hr => grd_ex (sm_of (by omega) (by omega)) ?_)
    refine fold_exI (fun i (x : List Int × List Ln) => LOk x.2 ∧ x.2.length ≤ i) ⟨⟨List.nodup_nil, (by intro _ h; cases h), Nat.zero_le _, by intro _ h; cases h⟩, Nat.le_refl _⟩ (fun j a x hj hx => ?_) fun y hy => ok_ex ⟨?_, rfl, rfl, fun _ => ⟨_, rfl, hy.1⟩⟩
    · obtain ⟨ox, lx⟩ := hx
      have hj5 : j < 5 := by
        have := (List.getElem?_eq_some_iff.mp hj).1
        have e : (rng 0 (1 + r.1)).length = (1 + r.1).toNat := by unfold rng; simp
        omega
      refine noexc_ex (next_ok _ (by decide)) fun r4 h4 => grd_ex (by decide +kernel) ?_
      obtain ⟨s1, s2⟩ := suvwx h4.1 h4.2
      refine grd_ex s1 (lt_ex ?_)
      generalize chrAt ("suvwx" : Str) r4.1 = seat at s2 ⊢
      refine grd_ex (fun _ _ => trivial) (grd_ex (by have := ox.ln; omega) (ite_ex (fun hn => ?_) fun _ => ok_ex ⟨ox, by show x.2.length ≤ _; omega⟩))
      refine noexc_ex (next_ok _ (by decide)) fun r5 h5 => noexc_ex (next_ok _ (by decide)) fun r6 h6 => ?_
      have i6 : ixOk parts r6.1 := ixOk_of h6.1 (by rw [hl]; exact h6.2)
      refine grd_ex i6 (grd_ex (by have := ox.ln; omega) (lt_ex (ok_ex ⟨⟨?_, ?_, ?_, ?_⟩, ?_⟩)))
      · have hn : seat ∉ x.2.map (·.a) := by simpa using hn
        show ((x.2 ++ [_]).map _).Nodup
        rw [List.map_append]
        refine List.nodup_append.mpr ⟨ox.nd, by simp, fun a ha b hb e => ?_⟩
        have hb : b = seat := List.mem_singleton.mp hb
        exact hn (by rw [← hb, ← e]; exact ha)
      · intro q hq
        rcases List.mem_append.mp hq with hq | hq
        · exact ox.st q hq
        · rw [List.mem_singleton.mp hq]; exact s2
      · show (x.2 ++ [_]).length ≤ 5
        rw [List.length_append]; show x.2.length + 1 ≤ 5; omega
      · intro q hq
        rcases List.mem_append.mp hq with hq | hq
        · exact ox.ok q hq
        · rw [List.mem_singleton.mp hq]; exact (hp _ (geti_mem i6)).1
      · show (x.2 ++ [_]).length ≤ _
        rw [List.length_append]; show x.2.length + 1 ≤ _; omega
    · show (y.2.map enc).all (okB 9) = true
      rw [List.all_eq_true]
      intro z hz
      obtain ⟨q, hq, rfl⟩ := List.mem_map.mp hz
      exact okB_le (by decide) (line_dat (hy.1.st q hq) (hy.1.ok q hq))
/-! ## the lots of a name -/
def mt (k n : Str) (a : T3 Str Str Int) : Bool := decide (a.a = k) && decide (a.b = n)
def lots (d : Shop) (k n : Str) : List Int := (d.keys.filter (mt k n)).map (·.c)
theorem lots_len (d : Shop) (k n : Str) : (lots d k n).length ≤ d.l.length := by
  unfold lots Dic.keys
  rw [List.length_map]
  exact Nat.le_trans (List.length_filter_le _ _) (by rw [List.length_map]; exact Nat.le_refl _)
theorem lots_key {d : Shop} {k n : Str} {x : Int} (h : x ∈ lots d k n) : (T3.mk k n x) ∈ d.keys := by
  obtain ⟨a, ha, rfl⟩ := List.mem_map.mp h
  obtain ⟨h1, h2⟩ := List.mem_filter.mp ha
  unfold mt at h2
  rw [Bool.and_eq_true, decide_eq_true_eq, decide_eq_true_eq] at h2
  obtain ⟨rfl, rfl⟩ := h2
  exact h1
theorem lawlots_ok {d : Shop} (h : SOk' d) (k n : Str) : m__law_lots d k n = .ok (sortI (lots d k n)) := by
  have hl := lots_len d k n
  have h2 := h.ln
  unfold m__law_lots
  refine grd_eq (by unfold Dic.keys; rw [List.length_map]; omega) (grd_eq ?_ rfl)
  show (lots d k n).length ≤ _
  omega
def rowAt (L : List Int) (k : Int) : Int × Int := (geti L k, if k + 1 < L.length then geti L (k + 1) - 1 else 9999)
theorem stretches_ok {d : Shop} (h : SOk' d) (k n : Str) : m_stretches d k n = .ok ⟨(rng 0 ((sortI (lots d k n)).length : Int)).flatMap fun j => [rowAt (sortI (lots d k n)) j]⟩ := by
  have hl := lots_len d k n
  have h2 := h.ln
  unfold m_stretches
  refine grd_eq (by unfold Dic.keys; rw [List.length_map]; omega) (grd_eq (show (lots d k n).length ≤ _ by omega) ?_)
  show lt (sortI (lots d k n)) _ = _
  have e : (sortI (lots d k n)).length = (lots d k n).length := sortI_len
  refine lt_eq' <| lt_eq' <| grd_eq (sm_of (by omega) (by omega)) (fold_eq (fold_gather (R := fun j => [rowAt (sortI (lots d k n)) j]) 16777216 (fun _ _ => Nat.le_refl _) (by show 0 + _ ≤ _; rw [rng_len]; omega) fun j hj l hl2 => ?_) rfl)
  obtain ⟨i, rfl, hi⟩ := rng_mem hj
  show (if (decide (((i : Int) + (1 : Int)) < ((sortI (lots d k n)).length : Int))) = true then _ else _) = M.ok (l ++ [rowAt (sortI (lots d k n)) (i : Int)])
  unfold rowAt
  by_cases hc : (i : Int) + 1 < ((sortI (lots d k n)).length : Int)
  · rw [if_pos (decide_eq_true hc), if_pos hc]
    exact grd_eq (ixOk_nat hi) (grd_eq (ixOk_of (by omega) (by omega)) (grd_eq hl2 (lt_eq' rfl)))
  · rw [if_neg (by simpa using hc), if_neg hc]
    exact grd_eq (ixOk_nat hi) (grd_eq hl2 (lt_eq' rfl))
theorem lawstretches_ok {d : Shop} (h : SOk' d) (k n : Str) : m__law_stretches d k n = .ok ⟨(rng 0 ((sortI (lots d k n)).length : Int)).flatMap fun j => [rowAt (sortI (lots d k n)) j]⟩ := by
  have hl := lots_len d k n
  have h2 := h.ln
  have e : (sortI (lots d k n)).length = (lots d k n).length := sortI_len
  unfold m__law_stretches
  refine bind_eq (lawlots_ok h k n) (lt_eq' (lt_eq' (grd_eq (sm_of (by omega) (by omega)) (fold_eq (fold_gather (R := fun j => [rowAt (sortI (lots d k n)) j]) 16777216 (fun _ _ => Nat.le_refl _) (by show 0 + _ ≤ _; rw [rng_len]; omega) fun j hj l hl2 => lt_eq' ?_) rfl))))
  obtain ⟨i, rfl, hi⟩ := rng_mem hj
  unfold rowAt
  by_cases hc : (i : Int) + 1 < ((sortI (lots d k n)).length : Int)
  · rw [if_pos (decide_eq_true hc), if_pos hc]
    refine bind_eq (grd_eq (ixOk_of (by omega) (by omega)) (lt_eq' rfl)) (grd_eq (ixOk_nat hi) (grd_eq hl2 (lt_eq' rfl)))
  · rw [if_neg (by simpa using hc), if_neg hc]
    refine bind_eq rfl (grd_eq (ixOk_nat hi) (grd_eq hl2 (lt_eq' rfl)))
/-! ## the version that holds -/
def below (d : Shop) (k n : Str) (m : Int) : List Int := (sortI (lots d k n)).filter fun x => decide (x ≤ m)
def best (d : Shop) (k n : Str) (m : Int) : Option (Int × PV) := match (below d k n m).getLast? with
  | none => none
  | some x => some (x, (d.get (T3.mk k n x)).getD default)
theorem below_mem {d : Shop} {k n : Str} {m x : Int} : x ∈ below d k n m ↔ x ∈ lots d k n ∧ x ≤ m := by
  unfold below
  rw [List.mem_filter, sortI_mem, decide_eq_true_eq]
theorem below_last {d : Shop} {k n : Str} {m x : Int} (h : (below d k n m).getLast? = some x) : x ∈ below d k n m ∧ ∀ y ∈ below d k n m, y ≤ x := by
  have hne : below d k n m ≠ [] := by intro e; rw [e] at h; cases h
  rw [List.getLast?_eq_some_getLast hne] at h
  cases h
  exact ⟨List.getLast_mem _, getLast_max ((sortI_sorted _).filter _) hne⟩
theorem lc_filter {α : Type} {p : α → Bool} : ∀ (l : List α), M.lc (fun a0 => (if p a0 = true then M.ok (some a0) else .ok none)) l = .ok (l.filter p)
  | [] => rfl
  | a :: l => by
    show (match (if p a = true then M.ok (some a) else .ok none) with | .ok (some y) => (M.lc _ l).bind fun ys => .ok (y :: ys) | .ok none => M.lc _ l | _ => .bad) = _
    by_cases h : p a = true
    · rw [if_pos h, List.filter_cons_of_pos h, lc_filter l]
      rfl
    · rw [if_neg h, List.filter_cons_of_neg h]
      exact lc_filter l
theorem lawbest_ok {d : Shop} (h : SOk' d) (k n : Str) (m : Int) : m__law_best d k n m = .ok (best d k n m) := by
  have hl := lots_len d k n
  have h2 := h.ln
  have e : (sortI (lots d k n)).length = (lots d k n).length := sortI_len
  unfold m__law_best
  refine bind_eq (lawlots_ok h k n) (bind_eq (lc_filter _) (grd_eq (by omega) ?_))
  show lt (below d k n m) _ = _
  refine lt_eq' ?_
  cases eb : (below d k n m).getLast? with
  | none =>
    have e0 : below d k n m = [] := List.getLast?_eq_none_iff.mp eb
    rw [e0, if_pos (show decide ((([] : List Int).length : Int) = 0) = true from rfl)]
    unfold best
    rw [eb]
  | some x =>
    have hne : below d k n m ≠ [] := by intro z; rw [z] at eb; cases eb
    have hp : 0 < (below d k n m).length := List.length_pos_iff.mpr hne
    rw [if_neg (by rw [decide_eq_true_eq]; omega)]
    have ei : ((below d k n m).length : Int) - 1 = (((below d k n m).length - 1 : Nat) : Int) := by omega
    have ix : ixOk (below d k n m) (((below d k n m).length : Int) - 1) := by rw [ei]; exact ixOk_nat (by omega)
    have eg : geti (below d k n m) (((below d k n m).length : Int) - 1) = x := by
      rw [ei, geti_nat (by omega)]
      rw [List.getLast?_eq_some_getLast hne] at eb
      cases eb
      rw [List.getLast_eq_getElem]
    refine grd_eq ix (grd_eq ix ?_)
    show grd (((d.get (T3.mk k n (geti (below d k n m) (((below d k n m).length : Int) - 1)))).isSome = true)) (.ok (some (geti (below d k n m) (((below d k n m).length : Int) - 1), (d.get (T3.mk k n (geti (below d k n m) (((below d k n m).length : Int) - 1)))).getD default))) = _
    rw [eg]
    obtain ⟨v, ev, _⟩ := Dic.get_key (lots_key (below_mem.mp (below_last eb).1).1)
    refine grd_eq (by rw [ev]; rfl) ?_
    unfold best
    rw [eb]
theorem fold_cons {α s : Type} {f : s → α → M s} {a : α} {xs : List α} {x : s} : M.fold f (a :: xs) x = (f x a).bind fun x => M.fold f xs x := rfl
theorem hold_fold (k n : Str) (m : Int) : ∀ (ks : List (T3 Str Str Int)) (s : Int), ∃ b, M.fold (fun (s0 : Int) (a0 : (T3 Str Str Int)) => (if ((decide ((a0).a = k)) && ((decide ((a0).b = n)) && (decide (s0 < (a0).c) && decide ((a0).c ≤ m)))) = true then lt (a0).c fun best1 => .ok best1 else .ok s0)) ks s = .ok b ∧ s ≤ b ∧ (b = s ∨ ∃ a ∈ ks, mt k n a = true ∧ a.c = b ∧ b ≤ m) ∧ ∀ a ∈ ks, mt k n a = true → a.c ≤ m → a.c ≤ b
  | [], s => ⟨s, rfl, Int.le_refl _, .inl rfl, by intro a h; cases h⟩
  | a :: ks, s => by
    rw [fold_cons]
    by_cases h : ((decide ((a).a = k)) && ((decide ((a).b = n)) && (decide (s < (a).c) && decide ((a).c ≤ m)))) = true
    · rw [if_pos h, lt_eq, M.bind_ok]
      obtain ⟨b, e, h1, h2, h3⟩ := hold_fold k n m ks a.c
      simp only [Bool.and_eq_true, decide_eq_true_eq] at h
      obtain ⟨e1, e2, e3, e4⟩ := h
      have hm : mt k n a = true := by unfold mt; simp [e1, e2]
      refine ⟨b, e, by omega, .inr ?_, fun x hx => ?_⟩
      · rcases h2 with h2 | ⟨y, hy, z⟩
        · exact ⟨a, List.mem_cons_self, hm, h2.symm, by omega⟩
        · exact ⟨y, List.mem_cons_of_mem _ hy, z⟩
      · rcases List.mem_cons.mp hx with rfl | hx
        · exact fun _ _ => h1
        · exact h3 x hx
    · rw [if_neg h, M.bind_ok]
      obtain ⟨b, e, h1, h2, h3⟩ := hold_fold k n m ks s
      refine ⟨b, e, h1, h2.imp id fun ⟨y, hy, z⟩ => ⟨y, List.mem_cons_of_mem _ hy, z⟩, fun x hx hm hle => ?_⟩
      rcases List.mem_cons.mp hx with rfl | hx
      · unfold mt at hm
        simp only [Bool.and_eq_true, decide_eq_true_eq] at hm h
        have : ¬ s < x.c := fun hs => h ⟨hm.1, hm.2, hs, hle⟩
        omega
      · exact h3 x hx hm hle
theorem holding_ok {d : Shop} (h : SOk' d) (k n : Str) (m : Int) : m_holding d k n m = match best d k n m with
    | none => .exc "MissingVersion" [("kind", enc k), ("name", enc n), ("number", enc m)]
    | some r => .ok r := by
  unfold m_holding
  refine lt_eq' ?_
  obtain ⟨b, e, h1, h2, h3⟩ := hold_fold k n m d.keys 0
  refine fold_eq e ?_
  have pos : ∀ x ∈ lots d k n, 1 ≤ x := fun x hx => by
    obtain ⟨p, hp, ep⟩ := List.mem_map.mp (lots_key hx)
    have := (h.lot p hp).1
    rw [ep] at this
    exact this
  cases eb : (below d k n m).getLast? with
  | none =>
    have e0 : below d k n m = [] := List.getLast?_eq_none_iff.mp eb
    have hb : b = 0 := by
      rcases h2 with h2 | ⟨a, ha, hm, ea, hle⟩
      · exact h2
      · have : b ∈ below d k n m := below_mem.mpr ⟨List.mem_map.mpr ⟨a, List.mem_filter.mpr ⟨ha, hm⟩, ea⟩, hle⟩
        rw [e0] at this
        cases this
    rw [if_pos (decide_eq_true hb)]
    unfold best
    rw [eb]
  | some x =>
    obtain ⟨hx, hmax⟩ := below_last eb
    obtain ⟨x1, x2⟩ := below_mem.mp hx
    obtain ⟨a, ha, ea⟩ := List.mem_map.mp x1
    obtain ⟨a1, a2⟩ := List.mem_filter.mp ha
    have hle : x ≤ b := by
      have := h3 a a1 a2 (by rw [ea]; exact x2)
      rw [ea] at this
      exact this
    have hx1 := pos x x1
    have hbx : b = x := by
      rcases h2 with h2 | ⟨a', ha', hm, ea', hle'⟩
      · omega
      · have : b ∈ below d k n m := below_mem.mpr ⟨List.mem_map.mpr ⟨a', List.mem_filter.mpr ⟨ha', hm⟩, ea'⟩, hle'⟩
        have := hmax b this
        omega
    subst hbx
    rw [if_neg (by rw [decide_eq_true_eq]; omega)]
    obtain ⟨v, ev, _⟩ := Dic.get_key (lots_key x1)
    refine grd_eq (by rw [ev]; rfl) ?_
    unfold best
    rw [eb]
theorem best_body {d : Shop} (h : SOk' d) {k n : Str} {m : Int} {r : Int × PV} (e : best d k n m = some r) : BOk k r.2 := by
  unfold best at e
  cases eb : (below d k n m).getLast? with
  | none => rw [eb] at e; cases e
  | some x =>
    rw [eb] at e
    obtain ⟨v, ev, hv⟩ := Dic.get_key (lots_key (below_mem.mp (below_last eb).1).1)
    cases e
    show BOk k ((d.get (T3.mk k n x)).getD default)
    rw [ev]
    exact h.bd _ hv
theorem none_ok {d : Shop} (h : SOk' d) (k n : Str) (m : Int) : m_body_or_none d k n m = .ok (match best d k n m with | none => .non | some r => r.2) := by
  unfold m_body_or_none
  rw [holding_ok h]
  cases best d k n m with
  | none => rfl
  | some r =>
    refine bind_eq (a := Fl.go r.2) ?_ rfl
    show M.tryc (lt r fun y0 => .ok (Fl.go y0.2 : Fl PV PV)) _ = _
    rw [lt_eq]
    rfl
theorem has_ok {d : Shop} (h : SOk' d) (k n : Str) (m : Int) : m_has_version d k n m = .ok (best d k n m).isSome := by
  unfold m_has_version
  refine bind_eq (none_ok h k n m) ?_
  cases e : best d k n m with
  | none => rfl
  | some r =>
    show M.ok (!PV.isNon r.2) = _
    rw [(best_body h e).non]
    rfl
theorem told_ok {d : Shop} (h : SOk' d) {k n : Str} (hk : PyData.strOk k = true) (hn : PyData.strOk n = true) (m : Int) : m__law_told d k n m = .ok (enc (best d k n m)) := by
  unfold m__law_told
  rw [holding_ok h]
  cases best d k n m with
  | none =>
    have e1 := fld_eq (α := Str) (fs := [(("kind" : Str), enc k), ("name", enc n), ("number", enc m)]) (g := "kind") (a := k) (by simp)
    have e2 := fld_eq (α := Str) (fs := [(("kind" : Str), enc k), ("name", enc n), ("number", enc m)]) (g := "name") (a := n) rfl
    have e3 := fld_eq (α := Int) (fs := [(("kind" : Str), enc k), ("name", enc n), ("number", enc m)]) (g := "number") (a := m) rfl
    show (M.noexc _) = _
    dsimp only
    rw [grd_pos e1.1, grd_pos e2.1, grd_pos e3.1, e1.2, e2.2, e3.2, grd_pos ⟨hk, hn, trivial⟩, grd_pos ⟨hk, hn, trivial⟩, if_pos (decide_eq_true rfl)]
    rfl
  | some r => rfl
end K20

set_option maxRecDepth 100000
set_option maxHeartbeats 1000000
namespace K20
open PySem PySem.Spec PyProof.Rows L2 Pv
open T
open T.Enc (enc)
/-! ## lines of a bill -/
noncomputable def lns (d : Shop) (p : Str) (m : Int) : List Ln := match best d "bill" p m with
  | none => []
  | some r => (ofPV r.2 : Tup Ln).l
theorem lns_some {d : Shop} (h : SOk' d) {p : Str} {m : Int} {r : Int × PV} (e : best d "bill" p m = some r) : r.2 = enc (Tup.mk (lns d p m)) ∧ LOk (lns d p m) := by
  obtain ⟨t, et, ht⟩ := (best_body h e).bill rfl
  have : lns d p m = t := by
    unfold lns
    rw [e]
    show (ofPV r.2 : Tup Ln).l = t
    rw [et, (ofPV_enc (a := Tup.mk t)).2]
  rw [this]
  exact ⟨et, ht⟩
theorem lns_ok {d : Shop} (h : SOk' d) (p : Str) (m : Int) : LOk (lns d p m) := by
  cases e : best d "bill" p m with
  | none =>
    have : lns d p m = [] := by unfold lns; rw [e]
    rw [this]
    exact ⟨List.nodup_nil, (by intro _ h; cases h), Nat.zero_le _, by intro _ h; cases h⟩
  | some r => exact (lns_some h e).2
def kv (l : Ln) : Str × (Int × T1 Str) := (l.a, (l.b, l.c))
theorem seatdict_ok {d : Shop} (h : SOk' d) (p : Str) (m : Int) : m_lines_by_seat d p m = .ok ⟨(lns d p m).map kv⟩ := by
  unfold m_lines_by_seat
  refine bind_eq (none_ok h _ p m) ?_
  cases e : best d "bill" p m with
  | none =>
    have e0 : lns d p m = [] := by unfold lns; rw [e]
    have o := ofPV_enc (α := Option (Tup Ln)) (a := none)
    refine grd_eq o.1 (lt_eq' ?_)
    have o2 : (ofPV PV.non : Option (Tup Ln)) = none := o.2
    show (if (ofPV PV.non : Option (Tup Ln)).isNone = true then _ else _) = _
    rw [o2, if_pos Option.isNone_none, e0]
    rfl
  | some r =>
    obtain ⟨er, hr⟩ := lns_some h e
    have o := ofPV_enc (α := Option (Tup Ln)) (a := some ⟨lns d p m⟩)
    have o2 : (ofPV (enc (Tup.mk (lns d p m)) : PV) : Option (Tup Ln)) = some ⟨lns d p m⟩ := o.2
    dsimp only
    rw [er]
    refine grd_eq o.1 (lt_eq' ?_)
    rw [o2, if_neg (fun z => nomatch z)]
    refine grd_eq rfl (grd_eq (by have := hr.ln; show (lns d p m).length ≤ _; omega) ?_)
    show M.ok (Dic.of ((lns d p m).map kv)) = _
    rw [Dic.of_nd]
    rw [List.map_map]
    exact hr.nd
def G (t : List Ln) (s : Str) : PV := match t.find? (fun l => decide (l.a = s)) with
  | some l => enc ((l.b, l.c) : Int × T1 Str)
  | none => enc (Tup.mk [] : Tup Int)
theorem G_get (t : List Ln) (s : Str) : (((⟨t.map kv⟩ : Dic Str (Int × T1 Str)).get s).elim (enc (Tup.mk [] : Tup Int)) enc : PV) = G t s := by
  unfold Dic.get G
  rw [List.find?_map]
  show (((t.find? fun l => decide (l.a = s)).map kv).map _).elim _ _ = _
  cases t.find? fun l => decide (l.a = s) <;> rfl
theorem G_dat {t : List Ln} (h : LOk t) (s : Str) : okB 3 (G t s) = true ∧ (G t s).flat = none := by
  unfold G
  cases e : t.find? fun l => decide (l.a = s) with
  | none => exact ⟨rfl, rfl⟩
  | some l =>
    have hm := List.mem_of_find?_eq_some e
    refine ⟨?_, rfl⟩
    have := h.ok l hm
    simp [okB, Enc.enc, this]
theorem G_none {t : List Ln} {s : Str} (h : s ∉ t.map (·.a)) : G t s = enc (Tup.mk [] : Tup Int) := by
  unfold G
  rw [List.find?_eq_none.mpr]
  intro l hl e
  exact h (List.mem_map.mpr ⟨l, hl, of_decide_eq_true e⟩)
theorem line_ok {d : Shop} (h : SOk' d) (p : Str) (m : Int) (s : Str) : m__law_line d p m s = .ok (G (lns d p m) s) := by
  unfold m__law_line
  refine bind_eq (lawbest_ok h _ p m) ?_
  cases e : best d "bill" p m with
  | none =>
    have e0 : lns d p m = [] := by unfold lns; rw [e]
    have o := ofPV_enc (α := Option (Int × Tup Ln)) (a := none)
    have o2 : (ofPV PV.non : Option (Int × Tup Ln)) = none := o.2
    refine grd_eq o.1 (lt_eq' ?_)
    show (if (ofPV PV.non : Option (Int × Tup Ln)).isNone = true then _ else _) = _
    rw [o2, if_pos Option.isNone_none, e0]
    rfl
  | some r =>
    obtain ⟨er, hr⟩ := lns_some h e
    have o := ofPV_enc (α := Option (Int × Tup Ln)) (a := some (r.1, ⟨lns d p m⟩))
    have o1 : (enc (some r : Option (Int × PV)) : PV) = enc (some (r.1, Tup.mk (lns d p m)) : Option (Int × Tup Ln)) := by
      show PV.tup [.int r.1, r.2] = PV.tup [.int r.1, enc (Tup.mk (lns d p m))]
      rw [er]
    rw [o1]
    refine grd_eq o.1 (lt_eq' ?_)
    rw [o.2, if_neg (fun z => nomatch z)]
    refine grd_eq rfl ?_
    show (M.loop _ (lns d p m) ()).bind _ = _
    rw [loop_find (p := fun l : Ln => decide (l.a = s)) (r := fun l => (enc ((l.b, l.c) : Int × T1 Str) : PV)) (fun a _ => rfl)]
    unfold G
    cases (lns d p m).find? fun l => decide (l.a = s) <;> rfl
noncomputable def Rr (t u : List Ln) (s : Str) : List (T3 Str PV PV) := if (!eqP (G t s) (G u s)) = true then [⟨s, G t s, G u s⟩] else []
theorem R_len (t u : List Ln) (s : Str) : (Rr t u s).length ≤ 1 := by
  unfold Rr
  split
  · exact Nat.le_refl _
  · exact Nat.zero_le _
theorem R_none {t u : List Ln} {s : Str} (h1 : s ∉ t.map (·.a)) (h2 : s ∉ u.map (·.a)) : Rr t u s = [] := by
  unfold Rr
  rw [G_none h1, G_none h2]
  have := (eqP_self (n := 1) (x := (enc (Tup.mk [] : Tup Int) : PV)) rfl (by decide)).2
  rw [this]
  rfl
theorem G_eqP {t u : List Ln} (ht : LOk t) (hu : LOk u) (s : Str) : EqP (G t s) (G u s) := EqP_tup (G_dat ht s).1 (G_dat hu s).1 (by decide) (by decide) (.inl (G_dat ht s).2)
theorem lawchanges_ok {d : Shop} (h : SOk' d) (p : Str) (m m2 : Int) : m__law_changes d p m m2 = .ok ⟨five.flatMap (Rr (lns d p m) (lns d p m2))⟩ := by
  unfold m__law_changes
  refine lt_eq' (fold_eq (fold_gather (R := Rr (lns d p m) (lns d p m2)) 16777216 (fun _ _ => R_len _ _ _) (by decide) fun s hs l hl => ?_) rfl)
  refine bind_eq (line_ok h p m s) (lt_eq' (bind_eq (line_ok h p m2 s) (lt_eq' (grd_eq (G_eqP (lns_ok h p m) (lns_ok h p m2) s) ?_))))
  unfold Rr
  by_cases hc : (!eqP (G (lns d p m) s) (G (lns d p m2) s)) = true
  · rw [if_pos hc, if_pos hc]
    exact grd_eq hl (lt_eq' rfl)
  · rw [if_neg hc, if_neg hc, List.append_nil]
def seats (t u : List Ln) : List Str := t.map (·.a) ++ (u.map (·.a)).filter fun s => decide (s ∉ t.map (·.a))
theorem seats_sorted {t u : List Ln} (ht : LOk t) (hu : LOk u) : sortS (seats t u) = five.filter fun s => decide (s ∈ seats t u) := by
  symm
  refine sortS_eq ?_ ?_
  · have n1 : (five.filter fun s => decide (s ∈ seats t u)).Nodup := List.Pairwise.filter _ (by decide +kernel)
    have n2 : (seats t u).Nodup := by
      unfold seats
      refine List.nodup_append.mpr ⟨ht.nd, List.Pairwise.filter _ hu.nd, fun a ha b hb e => ?_⟩
      have := of_decide_eq_true (List.mem_filter.mp hb).2
      exact this (e ▸ ha)
    refine (List.perm_ext_iff_of_nodup n1 n2).mpr fun a => ?_
    rw [List.mem_filter, decide_eq_true_eq]
    refine ⟨fun z => z.2, fun z => ⟨?_, z⟩⟩
    rcases List.mem_append.mp z with z | z
    · obtain ⟨l, hl, rfl⟩ := List.mem_map.mp z
      exact ht.st l hl
    · obtain ⟨l, hl, rfl⟩ := List.mem_map.mp (List.mem_filter.mp z).1
      exact hu.st l hl
  · exact List.Pairwise.filter _ (by decide +kernel)
theorem flatMap_filter {α β : Type} {f : α → List β} {p : α → Bool} : ∀ {l : List α}, (∀ a ∈ l, p a = false → f a = []) → (l.filter p).flatMap f = l.flatMap f
  | [], _ => rfl
  | a :: l, h => by
    have ih := flatMap_filter (f := f) (p := p) (l := l) fun b hb => h b (List.mem_cons_of_mem _ hb)
    cases e : p a with
    | true => rw [List.filter_cons_of_pos e, List.flatMap_cons, List.flatMap_cons, ih]
    | false => rw [List.filter_cons_of_neg (by rw [e]; decide), List.flatMap_cons, h a List.mem_cons_self e, ih]; rfl
theorem changes_ok {d : Shop} (h : SOk' d) (p : Str) (m m2 : Int) : m_bill_changes d p m m2 = .ok ⟨five.flatMap (Rr (lns d p m) (lns d p m2))⟩ := by
  have o1 := lns_ok h p m
  have o2 := lns_ok h p m2
  unfold m_bill_changes
  refine bind_eq (seatdict_ok h p m) (lt_eq' (bind_eq (seatdict_ok h p m2) (lt_eq' ?_)))
  generalize lns d p m = t at o1 ⊢
  generalize lns d p m2 = u at o2 ⊢
  have k1 : (⟨t.map kv⟩ : Dic Str (Int × T1 Str)).keys = t.map (·.a) := by unfold Dic.keys; rw [List.map_map]; rfl
  have k2 : (⟨u.map kv⟩ : Dic Str (Int × T1 Str)).keys = u.map (·.a) := by unfold Dic.keys; rw [List.map_map]; rfl
  have hf : (((⟨u.map kv⟩ : Dic Str (Int × T1 Str)).keys.filter fun a0 : Str => !(⟨t.map kv⟩ : Dic Str (Int × T1 Str)).has a0).map fun a0 : Str => a0) = (u.map (·.a)).filter fun s => decide (s ∉ t.map (·.a)) := by
    rw [k2, List.map_id']
    refine List.filter_congr fun a _ => ?_
    rw [Bool.eq_iff_iff, Bool.not_eq_true', decide_eq_true_eq, ← k1, ← Dic.has_iff, Bool.not_eq_true]
  have ef : (⟨t.map kv⟩ : Dic Str (Int × T1 Str)).keys ++ (((⟨u.map kv⟩ : Dic Str (Int × T1 Str)).keys.filter fun a0 : Str => !(⟨t.map kv⟩ : Dic Str (Int × T1 Str)).has a0).map fun a0 : Str => a0) = seats t u := by
    rw [hf, k1]; rfl
  have l1 := o1.ln
  have l2 := o2.ln
  have l3 : ((u.map (·.a)).filter fun s => decide (s ∉ t.map (·.a))).length ≤ 5 := Nat.le_trans (List.length_filter_le _ _) (by rw [List.length_map]; exact l2)
  have l4 : (seats t u).length ≤ 10 := by
    unfold seats
    rw [List.length_append, List.length_map]
    omega
  refine grd_eq (by rw [List.length_map]; omega) (grd_eq (by rw [k2, List.length_map]; omega) (grd_eq (by rw [hf, k1, List.length_map]; omega) ?_))
  rw [ef]
  refine lt_eq' (lt_eq' (grd_eq (by omega) (fold_eq (fold_gather (R := Rr t u) 16777216 (fun _ _ => R_len _ _ _) (by rw [sortS_len]; show 0 + _ ≤ _; omega) fun s hs l hl => ?_) ?_)))
  · rw [G_get t s, G_get u s]
    refine lt_eq' (lt_eq' (grd_eq (G_eqP o1 o2 s) ?_))
    unfold Rr
    by_cases hc : (!eqP (G t s) (G u s)) = true
    · rw [if_pos hc, if_pos hc]
      exact grd_eq hl (lt_eq' rfl)
    · rw [if_neg hc, if_neg hc, List.append_nil]
  · rw [seats_sorted o1 o2, flatMap_filter]
    · rfl
    · intro a ha hn
      have hn := of_decide_eq_false hn
      unfold seats at hn
      rw [List.mem_append, not_or, List.mem_filter, not_and, decide_eq_true_eq, Classical.not_not] at hn
      exact R_none hn.1 fun z => hn.1 (hn.2 z)
theorem rows_dat {t u : List Ln} (ht : LOk t) (hu : LOk u) : okB 6 (enc (Tup.mk (five.flatMap (Rr t u))) : PV) = true := by
  show ((five.flatMap (Rr t u)).map enc).all (okB 5) = true
  rw [List.all_eq_true]
  intro z hz
  obtain ⟨q, hq, rfl⟩ := List.mem_map.mp hz
  obtain ⟨s, hs, hq⟩ := List.mem_flatMap.mp hq
  unfold Rr at hq
  split at hq
  · rw [List.mem_singleton.mp hq]
    have h1 := okB_le (n := 4) (by decide) (G_dat ht s).1
    have h2 := okB_le (n := 4) (by decide) (G_dat hu s).1
    have h3 := five_ok s hs
    show [PV.str s, G t s, G u s].all (okB 4) = true
    simp [h1, h2, okB, h3]
  · cases hq
end K20

set_option maxRecDepth 100000
set_option maxHeartbeats 1000000
namespace K20
open PySem PySem.Spec PyProof.Rows L2 Pv
open T
open T.Enc (enc)
theorem copy_ok {d : Shop} (h : SOk' d) : m__law_copy d = .ok d := by
  unfold m__law_copy
  refine lt_eq' (fold_eq (Dic.copy h.nd (by have := h.ln; omega)) rfl)
theorem put_ok {d : Shop} (h : SOk' d) {k n : Str} {lot : Int} {x : PV} (hl : d.l.length < 20) (hk : k ∈ kinds3) (hn : T.SOk 3 n) (h1 : 1 ≤ lot) (h2 : lot ≤ 9999) (hx : BOk k x) : SOk' (d.put (T3.mk k n lot) x) := by
  refine ⟨Dic.nd_put h.nd _ _, Nat.le_trans Dic.len_put (by omega), fun p hp => ?_, fun p hp => ?_, fun p hp => ?_⟩
  all_goals rcases Dic.mem_put hp with hp | rfl
  · exact h.lot p hp
  · exact ⟨h1, h2⟩
  · exact h.nm p hp
  · exact ⟨hk, hn⟩
  · exact h.bd p hp
  · exact hx
theorem best_dat {d : Shop} (h : SOk' d) (k n : Str) (m : Int) : EqP (enc (best d k n m) : PV) (enc (best d k n m)) ∧ eqP (enc (best d k n m) : PV) (enc (best d k n m)) = true := by
  cases e : best d k n m with
  | none => exact eqP_self (n := 1) rfl (by decide)
  | some r =>
    have hb := (best_body h e).dat
    refine eqP_self (n := 11) ?_ (by decide)
    show [PV.int r.1, r.2].all (okB 10) = true
    simp [okB, hb]
theorem true_ (ns : List Int) : m_law ⟨ns⟩ = .ok true := by
  have main : ∃ b, m_law ⟨ns⟩ = .ok b ∧ b = true := by
    unfold m_law
    refine bind_ex (numbers_ok ⟨ns⟩ (n := 220) (by decide)) fun l hl => lt_ex (lt_ex ?_)
    refine noexc_ex (names_ok l (n := 3) (by decide)) fun r1 ⟨hp, hs⟩ => lt_ex (lt_ex ?_)
    generalize r1.1 = parts at hp hs ⊢
    refine noexc_ex (next_ok _ (by decide)) fun r2 h2 => grd_ex (sm_of (by omega) (by omega)) ?_
    refine fold_exI (fun i (x : List Int × Shop) => SOk' x.2 ∧ x.2.l.length ≤ i) ⟨⟨Dic.nd_nil, Nat.zero_le _, (by intro _ h; cases h), (by intro _ h; cases h), by intro _ h; cases h⟩, Nat.le_refl _⟩ (fun j a x hj hx => ?_) fun y hy => ?_
    · obtain ⟨ox, lx⟩ := hx
      have hj13 : j < 13 := by
        have := (List.getElem?_eq_some_iff.mp hj).1
        have e : (rng 0 r2.1).length = r2.1.toNat := by unfold rng; simp
        omega
      refine noexc_ex (next_ok _ (by decide)) fun r3 h3 => ?_
      have i3 : ixOk kinds3 r3.1 := ixOk_of h3.1 h3.2
      refine grd_ex i3 (lt_ex ?_)
      have hk : geti kinds3 r3.1 ∈ kinds3 := geti_mem i3
      show ∃ l, M.bind (M.noexc (mnext r3.2 40)) _ = M.ok l ∧ _
      refine noexc_ex (next_ok _ (by decide)) fun r4 h4 => lt_ex (noexc_ex (next_ok _ (by decide)) fun r5 h5 => ?_)
      refine bind_ex (P := fun z : List Int × Int => 1 ≤ z.2 ∧ z.2 ≤ 9999) (ite_ex (fun _ => noexc_ex (next_ok _ (by decide)) fun r6 h6 => lt_ex (ok_ex ⟨?_, ?_⟩)) fun _ => ok_ex ⟨?_, ?_⟩) fun z hz => ?_
      · show 1 ≤ 9999 - r6.1; omega
      · show 9999 - r6.1 ≤ 9999; omega
      · show 1 ≤ 1 + r4.1; omega
      · show 1 + r4.1 ≤ 9999; omega
      refine noexc_ex (next_ok _ (by decide)) fun r7 h7 => ?_
      have i7 : ixOk parts r7.1 := ixOk_of h7.1 (by rw [hp]; exact h7.2)
      refine grd_ex i7 (lt_ex (noexc_ex (body_ok _ hk hp hs) fun r8 h8 => grd_ex (by omega) (lt_ex (ok_ex ⟨put_ok ox (by omega) hk (hs _ (geti_mem i7)) hz.1 hz.2 h8, ?_⟩))))
      have := Dic.len_put (d := x.2) (k := (T3.mk (geti kinds3 r3.1) (geti parts r7.1) z.2)) (v := r8.1)
      exact Nat.le_trans this (by omega)
    obtain ⟨oy, ly⟩ := hy
    generalize y.2 = d at oy ly ⊢
    refine bind_ex (eq_ex (copy_ok oy) (R := fun x => d = x) rfl) fun c hc => lt_ex ?_
    subst hc
    refine noexc_ex (next_ok _ (by decide)) fun r10 h10 => lt_ex ?_
    refine fold_exI (fun i (x : List Int) => x.length = 3 + 3 * i) rfl (fun j a x hj hx => ?_) fun asked ha => ?_
    · have hj := (List.getElem?_eq_some_iff.mp hj).1
      have ek : (Dic.keys d).length = d.l.length := List.length_map _
      have hd := oy.ln
      refine grd_ex (by omega) (lt_ex (grd_ex (by rw [List.length_append]; show x.length + 1 < _; omega) (lt_ex (grd_ex (by rw [List.length_append, List.length_append]; show x.length + 1 + 1 < _; omega) (lt_ex (ok_ex ?_))))))
      rw [List.length_append, List.length_append, List.length_append, hx]
      show 3 + 3 * j + 1 + 1 + 1 = _
      omega
    have hal : 0 < asked.length ∧ asked.length ≤ 100 := by
      have ek : (Dic.keys d).length = d.l.length := List.length_map _
      have hd := oy.ln
      omega
    refine loop_ex' (fun _ => True) trivial (fun k x hk _ => ?_) fun _ _ => ?_
    · have hk : k ∈ kinds3 := hk
      have hks : PyData.strOk k = true := by
        have : ∀ k ∈ kinds3, PyData.strOk k = true := by decide +kernel
        exact this k hk
      refine loop_ex' (fun _ => True) trivial (fun n x hn _ => ?_) fun _ _ => nx_ex trivial
      refine bind_ex (eq_ex (stretches_ok oy k n) (R := fun x => x = _) rfl) fun r11 h11 => bind_ex (eq_ex (lawstretches_ok oy k n) (R := fun x => x = _) rfl) fun r12 h12 => ?_
      refine grd_ex (fun _ _ => ⟨trivial, trivial⟩) (grd_ex (fun _ _ => ⟨trivial, trivial⟩) ?_)
      rw [h11, h12, if_neg (by simp)]
      refine loop_ex' (fun _ => True) trivial (fun m x hm _ => ?_) fun _ _ => nx_ex trivial
      refine bind_ex (eq_ex (lawbest_ok oy k n m) (R := fun x => x = _) rfl) fun r13 h13 => lt_ex (bind_ex (eq_ex (told_ok oy hks (hs n hn).1 m) (R := fun x => x = _) rfl) fun r14 h14 => ?_)
      subst h13 h14
      have hb := best_dat oy k n m
      refine grd_ex hb.1 ?_
      rw [hb.2, if_neg (by decide)]
      refine bind_ex (eq_ex (has_ok oy k n m) (R := fun x => x = _) rfl) fun r15 h15 => lt_ex ?_
      rw [h15, if_neg (by simp)]
      exact nx_ex trivial
    · refine loop_ex' (fun _ => True) trivial (fun t x ht _ => ?_) fun x _ => ?_
      · refine noexc_ex (next_ok _ (by decide)) fun r16 h16 => ?_
        refine grd_ex (ixOk_of h16.1 (by rw [hp]; exact h16.2)) (lt_ex (noexc_ex (next_ok _ (by omega)) fun r17 h17 => grd_ex (ixOk_of h17.1 h17.2) (lt_ex (noexc_ex (next_ok _ (by omega)) fun r18 h18 => grd_ex (ixOk_of h18.1 h18.2) (lt_ex ?_)))))
        refine bind_ex (eq_ex (changes_ok oy _ _ _) (R := fun x => x = _) rfl) fun r19 h19 => bind_ex (eq_ex (lawchanges_ok oy _ _ _) (R := fun x => x = _) rfl) fun r20 h20 => ?_
        rw [h19, h20]
        have hb := eqP_self (rows_dat (lns_ok oy (geti parts r16.1) (geti asked r17.1)) (lns_ok oy (geti parts r16.1) (geti asked r18.1))) (by decide)
        refine grd_ex hb.1 ?_
        rw [hb.2, if_neg (by decide)]
        exact nx_ex trivial
      · have hb := eqDic_self (d := d) rfl oy.nd fun p hp => (okB_dp 10 _ (oy.bd p hp).dat).le (by decide)
        exact grd_ex hb.1 (ok_ex hb.2)
  obtain ⟨b, e, rfl⟩ := main
  exact e
theorem holds : PySem.Challenge.rw_millbench_k20_versions.Holds := holds_typed fun ns _ _ => true_ ns
end K20

theorem PySem.Challenge.cw_millbench_k20_versions_holds : PySem.Challenge.rw_millbench_k20_versions.Holds := by
  exact K20.holds
