import PyProof.Rows.All
import Wide.All
import OpenK.AllK
import Wide.FinOn
import HandS.ForMost
import HandS.Exc
import HandS.ExcInit
import HandS.TryMany
import HandS.DictTup
import HandS.DictComp
import HandS.IsInst
import HandS.CallSlots
import HandS.ExcField
import HandS.Wide
import HandS.TupAny
import HandS.Deep
import HandS.Flow
import HandS.Strs
import HandS.StrMore
import HandS.Replace
import HandS.SortInts
import HandS.ReplaceLit
import HandS.WordsExc
import HandS.Defaults
import HandS.HeadEnd
import HandS.HeadHook4
import HandS.Head2
import HandS.Head3
import HandS.EndBits
import HandS.ReplaceList
import PySem.Challenge.RW_millbench_k09_lines_and_words
set_option Elab.async false
set_option linter.all false
set_option maxRecDepth 100000
set_option maxHeartbeats 1000000
namespace Pv
open PySem PySem.Spec PyProof.Rows L2

/-! ## pure values -/
inductive DK where
  | k (x : Key) | t (xs : List Key)
  deriving DecidableEq
inductive PV where
  | non | bl (b : Bool) | int (i : Int) | str (s : Str)
  | tup (xs : List PV) | ctup (xs : List PV) | lst (xs : List PV)
  | dic (kvs : List (DK × PV)) | clst (xs : List PV)
  | exn (a : Addr) (d : Option Addr) (c : Str) (fs : List (Str × PV))
def PV.imm : PV → Bool
  | .lst _ | .dic _ => false
  | _ => true

inductive IsDic : HO → List (DK × V) → Prop
  | k (kv : List (Key × V)) : IsDic (.dK kv) (kv.map fun p => (DK.k p.1, p.2))
  | t (kv : List (List Key × V)) : IsDic (.dT kv) (kv.map fun p => (DK.t p.1, p.2))

abbrev Fp := Addr → Prop
def noF : Fp := fun _ => False

mutual
/-- the value v stands for the pure value: its first n levels of lists and dicts are owned, within F; all below is shared (told by H0) -/
def Own (K : PySem.W.Frag) (H0 H : Hp) : PV → Nat → V → Fp → Prop
  | .non, _, v, _ => v = .non
  | .bl b, _, v, _ => v = .bl b
  | .int i, _, v, _ => v = .int i
  | .str s, _, v, _ => v = .str s
  | .tup xs, _, v, _ => ∃ a vs, v = .ref a ∧ H0 a = some (.tup vs) ∧ OwnL K H0 H xs 0 vs noF
  | .ctup xs, _, v, _ => ∃ a vs, v = .ref a ∧ SqT K (fun _ => none) a vs ∧ OwnL K H0 H xs 0 vs noF
  | .clst xs, _, v, _ => ∃ a vs, v = .ref a ∧ SqL K H0 a vs ∧ OwnL K H0 H xs 0 vs noF
  | .lst xs, 0, v, _ => ∃ a vs, v = .ref a ∧ H0 a = some (.lst vs) ∧ OwnL K H0 H xs 0 vs noF
  | .lst xs, n + 1, v, F => ∃ a vs, v = .ref a ∧ H a = some (.lst vs) ∧ F a ∧ OwnL K H0 H xs n vs (fun b => F b ∧ b ≠ a)
  | .dic kvs, 0, v, _ => ∃ a o u l, v = .ref a ∧ H0 a = some (.frz o u) ∧ IsDic u l ∧ OwnD K H0 H kvs 0 l noF
  | .dic kvs, n + 1, v, F => ∃ a u l, v = .ref a ∧ H a = some u ∧ IsDic u l ∧ F a ∧ OwnD K H0 H kvs n l (fun b => F b ∧ b ≠ a)
  | .exn a d _ fs, _, v, _ => v = .ref a ∧ (fs = [] ∨ ∃ dd fvs, d = some dd ∧ H0 dd = some (.xd fvs) ∧ OwnF K H0 H fs fvs)
def OwnL (K : PySem.W.Frag) (H0 H : Hp) : List PV → Nat → List V → Fp → Prop
  | [], _, vs, _ => vs = []
  | x :: xs, n, vs, F => ∃ v vs', ∃ (G : Fp), vs = v :: vs' ∧ Own K H0 H x n v (fun b => F b ∧ G b) ∧ OwnL K H0 H xs n vs' (fun b => F b ∧ ¬ G b)
def OwnD (K : PySem.W.Frag) (H0 H : Hp) : List (DK × PV) → Nat → List (DK × V) → Fp → Prop
  | [], _, l, _ => l = []
  | (k, x) :: r, n, l, F => ∃ v l', ∃ (G : Fp), l = (k, v) :: l' ∧ Own K H0 H x n v (fun b => F b ∧ G b) ∧ OwnD K H0 H r n l' (fun b => F b ∧ ¬ G b)
def OwnF (K : PySem.W.Frag) (H0 H : Hp) : List (Str × PV) → List (Str × V) → Prop
  | [], _ => True
  | (f, x) :: r, l => (∃ v, l.lookup f = some v ∧ Own K H0 H x 0 v noF) ∧ OwnF K H0 H r l
end

section
variable {K : PySem.W.Frag} {H0 H0' H H' : Hp}
theorem Same.sqT (e : Same H0 H0') {a : Addr} {xs : List V} (h : SqT K H0 a xs) : SqT K H0' a xs := by
  rcases h with (h | ⟨o, h⟩) | h
  · exact .inl (.inl (e _ _ h))
  · exact .inl (.inr ⟨o, e _ _ h⟩)
  · exact .inr h
mutual
theorem own_tr (hs : Same H0 H0') : ∀ (x : PV) (n : Nat) (v : V) (F F' : Fp), Own K H0 H x n v F → (∀ a o, F a → H a = some o → H' a = some o) → (∀ a, F a → F' a) → Own K H0' H' x n v F'
  | .non, _, _, _, _, h, _, _ => h
  | .bl _, _, _, _, _, h, _, _ => h
  | .int _, _, _, _, _, h, _, _ => h
  | .str _, _, _, _, _, h, _, _ => h
  | .tup xs, _, _, _, _, ⟨a, vs, e, h1, h2⟩, _, _ => ⟨a, vs, e, hs _ _ h1, ownL_tr hs xs 0 vs noF noF h2 (fun _ _ z => z.elim) fun _ z => z⟩
  | .ctup xs, _, _, _, _, ⟨a, vs, e, h1, h2⟩, _, _ => ⟨a, vs, e, h1, ownL_tr hs xs 0 vs noF noF h2 (fun _ _ z => z.elim) fun _ z => z⟩
  | .lst xs, 0, _, _, _, ⟨a, vs, e, h1, h2⟩, _, _ => ⟨a, vs, e, hs _ _ h1, ownL_tr hs xs 0 vs noF noF h2 (fun _ _ z => z.elim) fun _ z => z⟩
  | .clst xs, _, _, _, _, ⟨a, vs, e, h1, h2⟩, _, _ => ⟨a, vs, e, L2.Same.seq hs h1, ownL_tr hs xs 0 vs noF noF h2 (fun _ _ z => z.elim) fun _ z => z⟩
  | .lst xs, n + 1, _, F, F', ⟨a, vs, e, h1, h2, h3⟩, k, m => ⟨a, vs, e, k _ _ h2 h1, m _ h2, ownL_tr hs xs n vs _ _ h3 (fun b o z => k b o z.1) fun b z => ⟨m b z.1, z.2⟩⟩
  | .dic kvs, 0, _, _, _, ⟨a, o, u, l, e, h1, h2, h3⟩, _, _ => ⟨a, o, u, l, e, hs _ _ h1, h2, ownD_tr hs kvs 0 l noF noF h3 (fun _ _ z => z.elim) fun _ z => z⟩
  | .dic kvs, n + 1, _, F, F', ⟨a, u, l, e, h1, h2, h3, h4⟩, k, m => ⟨a, u, l, e, k _ _ h3 h1, h2, m _ h3, ownD_tr hs kvs n l _ _ h4 (fun b o z => k b o z.1) fun b z => ⟨m b z.1, z.2⟩⟩
  | .exn _ _ _ fs, _, _, _, _, ⟨e, h⟩, _, _ => ⟨e, h.imp id fun ⟨dd, fvs, e1, e2, e3⟩ => ⟨dd, fvs, e1, hs _ _ e2, ownF_tr hs fs fvs e3⟩⟩
theorem ownL_tr (hs : Same H0 H0') : ∀ (xs : List PV) (n : Nat) (vs : List V) (F F' : Fp), OwnL K H0 H xs n vs F → (∀ a o, F a → H a = some o → H' a = some o) → (∀ a, F a → F' a) → OwnL K H0' H' xs n vs F'
  | [], _, _, _, _, h, _, _ => h
  | x :: xs, n, _, F, F', ⟨v, vs', G, e, h1, h2⟩, k, m => ⟨v, vs', fun b => F b ∧ G b, e, own_tr hs x n v _ _ h1 (fun b o z => k b o z.1) fun b z => ⟨m b z.1, z⟩, ownL_tr hs xs n vs' _ _ h2 (fun b o z => k b o z.1) fun b z => ⟨m b z.1, fun y => z.2 y.2⟩⟩
theorem ownD_tr (hs : Same H0 H0') : ∀ (xs : List (DK × PV)) (n : Nat) (vs : List (DK × V)) (F F' : Fp), OwnD K H0 H xs n vs F → (∀ a o, F a → H a = some o → H' a = some o) → (∀ a, F a → F' a) → OwnD K H0' H' xs n vs F'
  | [], _, _, _, _, h, _, _ => h
  | (k', x) :: xs, n, _, F, F', ⟨v, vs', G, e, h1, h2⟩, k, m => ⟨v, vs', fun b => F b ∧ G b, e, own_tr hs x n v _ _ h1 (fun b o z => k b o z.1) fun b z => ⟨m b z.1, z⟩, ownD_tr hs xs n vs' _ _ h2 (fun b o z => k b o z.1) fun b z => ⟨m b z.1, fun y => z.2 y.2⟩⟩
theorem ownF_tr (hs : Same H0 H0') : ∀ (fs : List (Str × PV)) (l : List (Str × V)), OwnF K H0 H fs l → OwnF K H0' H' fs l
  | [], _, _ => True.intro
  | (f, x) :: r, l, ⟨⟨v, e, h⟩, h2⟩ => ⟨⟨v, e, own_tr hs x 0 v noF noF h (fun _ _ z => z.elim) fun _ z => z⟩, ownF_tr hs r l h2⟩
end
mutual
theorem own0 (hs : Same H0 H0') : ∀ (x : PV) (v : V) (F F' : Fp), Own K H0 H x 0 v F → Own K H0' H' x 0 v F'
  | .non, _, _, _, h => h
  | .bl _, _, _, _, h => h
  | .int _, _, _, _, h => h
  | .str _, _, _, _, h => h
  | .tup xs, _, _, _, ⟨a, vs, e, h1, h2⟩ => ⟨a, vs, e, hs _ _ h1, ownL0 hs xs vs noF noF h2⟩
  | .ctup xs, _, _, _, ⟨a, vs, e, h1, h2⟩ => ⟨a, vs, e, h1, ownL0 hs xs vs noF noF h2⟩
  | .lst xs, _, _, _, ⟨a, vs, e, h1, h2⟩ => ⟨a, vs, e, hs _ _ h1, ownL0 hs xs vs noF noF h2⟩
  | .clst xs, _, _, _, ⟨a, vs, e, h1, h2⟩ => ⟨a, vs, e, L2.Same.seq hs h1, ownL0 hs xs vs noF noF h2⟩
  | .dic kvs, _, _, _, ⟨a, o, u, l, e, h1, h2, h3⟩ => ⟨a, o, u, l, e, hs _ _ h1, h2, ownD0 hs kvs l noF noF h3⟩
  | .exn _ _ _ fs, _, _, _, ⟨e, h⟩ => ⟨e, h.imp id fun ⟨dd, fvs, e1, e2, e3⟩ => ⟨dd, fvs, e1, hs _ _ e2, ownF0 hs fs fvs e3⟩⟩
theorem ownL0 (hs : Same H0 H0') : ∀ (xs : List PV) (vs : List V) (F F' : Fp), OwnL K H0 H xs 0 vs F → OwnL K H0' H' xs 0 vs F'
  | [], _, _, _, h => h
  | x :: xs, _, F, F', ⟨v, vs', G, e, h1, h2⟩ => ⟨v, vs', G, e, own0 hs x v _ _ h1, ownL0 hs xs vs' _ _ h2⟩
theorem ownD0 (hs : Same H0 H0') : ∀ (xs : List (DK × PV)) (vs : List (DK × V)) (F F' : Fp), OwnD K H0 H xs 0 vs F → OwnD K H0' H' xs 0 vs F'
  | [], _, _, _, h => h
  | (k, x) :: xs, _, F, F', ⟨v, vs', G, e, h1, h2⟩ => ⟨v, vs', G, e, own0 hs x v _ _ h1, ownD0 hs xs vs' _ _ h2⟩
theorem ownF0 (hs : Same H0 H0') : ∀ (fs : List (Str × PV)) (l : List (Str × V)), OwnF K H0 H fs l → OwnF K H0' H' fs l
  | [], _, _ => True.intro
  | (f, x) :: r, l, ⟨⟨v, e, h⟩, h2⟩ => ⟨⟨v, e, own0 hs x v noF noF h⟩, ownF0 hs r l h2⟩
end
/-- level 0, or a value that has no levels -/
theorem own_imm {x : PV} {n : Nat} {v : V} {F F' : Fp} (h : Own K H0 H x n v F) (c : n = 0 ∨ x.imm = true) (hs : Same H0 H0') : Own K H0' H' x 0 v F' := by
  rcases c with rfl | c
  · exact own0 hs x v _ _ h
  · cases x with
    | lst _ => cases c
    | dic _ => cases c
    | exn a d cc fs => exact own0 hs (.exn a d cc fs) v F F' (show Own K H0 H (.exn a d cc fs) 0 v F from (show _ from h))
    | non => exact own0 hs _ _ F F' (show Own K H0 H .non 0 v F from h)
    | bl b => exact own0 hs _ _ F F' (show Own K H0 H (.bl b) 0 v F from h)
    | int b => exact own0 hs _ _ F F' (show Own K H0 H (.int b) 0 v F from h)
    | str b => exact own0 hs _ _ F F' (show Own K H0 H (.str b) 0 v F from h)
    | tup xs => exact own0 hs (.tup xs) v F F' (show Own K H0 H (.tup xs) 0 v F from (show _ from h))
    | ctup xs => exact own0 hs (.ctup xs) v F F' (show Own K H0 H (.ctup xs) 0 v F from (show _ from h))
    | clst xs => exact own0 hs (.clst xs) v F F' (show Own K H0 H (.clst xs) 0 v F from (show _ from h))
theorem imm_own {x : PV} {n : Nat} {v : V} {F F' : Fp} (h : Own K H0 H x 0 v F) (c : x.imm = true) (hs : Same H0 H0') : Own K H0' H' x n v F' := by
  have h' := own0 (H' := H') hs x v F F' h
  cases x with
  | lst _ => cases c
  | dic _ => cases c
  | exn a d c fs => exact h'
  | non => exact h'
  | bl b => exact h'
  | int b => exact h'
  | str b => exact h'
  | tup xs => exact h'
  | ctup xs => exact h'
  | clst xs => exact h'
theorem ownL_len : ∀ {xs : List PV} {n : Nat} {vs : List V} {F : Fp}, OwnL K H0 H xs n vs F → vs.length = xs.length
  | [], _, _, _, h => by rw [show _ = [] from h]; rfl
  | x :: xs, n, _, _, ⟨v, vs', G, e, h1, h2⟩ => by rw [e, List.length_cons, ownL_len h2]; rfl
theorem ownL_get : ∀ {xs : List PV} {n : Nat} {vs : List V} {F : Fp} {i : Nat} {x : PV}, OwnL K H0 H xs n vs F → xs[i]? = some x → ∃ v, ∃ G : Fp, vs[i]? = some v ∧ (∀ a, G a → F a) ∧ Own K H0 H x n v G
  | [], _, _, _, _, _, _, e => by simp at e
  | x :: xs, n, _, F, 0, y, ⟨v, vs', G, e, h1, h2⟩, q => by
    have q' : x = y := by simpa using q
    subst q'
    exact ⟨v, _, by rw [e]; rfl, fun _ z => z.1, h1⟩
  | x :: xs, n, _, F, i + 1, y, ⟨v, vs', G, e, h1, h2⟩, q => by
    obtain ⟨w, G', e', m, o⟩ := ownL_get (i := i) h2 (by simpa using q)
    exact ⟨w, G', by rw [e]; simpa using e', fun a z => (m a z).1, o⟩
theorem ownL_app0 : ∀ {xs ys : List PV} {vs ws : List V} {F F' F'' : Fp}, OwnL K H0 H xs 0 vs F → OwnL K H0 H ys 0 ws F' → OwnL K H0 H (xs ++ ys) 0 (vs ++ ws) F''
  | [], ys, vs, ws, _, _, _, h, k => by
    rw [show vs = [] from h]
    exact ownL0 (fun _ _ z => z) _ _ _ _ k
  | x :: xs, ys, _, ws, _, _, F'', ⟨v, vs', G, e, h1, h2⟩, k => by
    rw [e]
    exact ⟨v, vs' ++ ws, noF, rfl, own0 (fun _ _ z => z) _ _ _ _ h1, ownL_app0 h2 k⟩
end

/-! ## results -/
/-- the slots: level and value -/
abbrev Ev := List (Option (Nat × PV))
structure Rr where
  pu : Bool
  ow : Bool
  lv : Nat
  x : PV
  ρ : Ev
inductive Res (α : Type) where
  | ok (a : α) | exc (c : Str) (fs : List (Str × PV)) (ρ : Ev) | bad
def Res.bind {α β : Type} (r : Res α) (f : α → Res β) : Res β := match r with
  | .ok a => f a
  | .exc c fs ρ => .exc c fs ρ
  | .bad => .bad
abbrev EF := Ev → Res Rr
inductive SR where
  | nx (ρ : Ev) | bk (ρ : Ev) | ct (ρ : Ev) | rt (lv : Nat) (x : PV) (ρ : Ev) | exc (c : Str) (fs : List (Str × PV)) (ρ : Ev) | bad
abbrev SF := Ev → SR
inductive FR where
  | ok (lv : Nat) (x : PV) (outs : List PV) | exc (c : Str) (fs : List (Str × PV)) (outs : List PV) | bad
abbrev FF := List PV → FR

/-! ## states -/
/-- the program's facts -/
structure Prg where
  P : Program
  w : World
  K : PySem.W.Frag
  mg : Str → Option Value
  base : Heap
  ea : Str → Addr

structure St0 (K : PySem.W.Frag) (H0 H : Hp) (O : Fp) (σ : L2.St) (ρ : Ev) : Prop where
  sub : Same H0 H
  dom : ∀ a, O a → H a ≠ none
  sep : ∀ a, O a → H0 a = none
  len : σ.length = ρ.length
  own : ∃ F : Nat → Fp, (∀ i j a, F i a → F j a → i = j) ∧ (∀ i a, F i a → O a) ∧ ∀ i n x, ρ[i]? = some (some (n, x)) → ∃ v, σ[i]? = some (some v) ∧ Own K H0 H x n v (F i)
structure Grow (H0 H : Hp) (O : Fp) (H0' H' : Hp) (O' : Fp) : Prop where
  sh : Same H0 H0'
  keep : ∀ a o, H a = some o → ¬ O a → H' a = some o
  dom : ∀ a, H a ≠ none → H' a ≠ none
  own : ∀ a, O' a → O a ∨ H a = none
  nsh : ∀ a, H0' a ≠ none → H0 a ≠ none ∨ O a ∨ H a = none
/-- a temporary's own part -/
structure Tmp (H0 H : Hp) (O B : Fp) : Prop where
  off : ∀ a, B a → ¬ O a
  dom : ∀ a, B a → H a ≠ none
  sep : ∀ a, B a → H0 a = none
abbrev Fp.or (O B : Fp) : Fp := fun a => O a ∨ B a

theorem Grow.refl {H0 H : Hp} {O : Fp} : Grow H0 H O H0 H O := ⟨fun _ _ z => z, fun _ _ z _ => z, fun _ z => z, fun _ z => .inl z, fun _ z => .inl z⟩
theorem Tmp.no {H0 H : Hp} {O : Fp} : Tmp H0 H O noF := ⟨fun _ z => z.elim, fun _ z => z.elim, fun _ z => z.elim⟩
theorem Grow.trans {H0 H : Hp} {O : Fp} {H0' H' : Hp} {O' B : Fp} {H0'' H'' : Hp} {O'' : Fp} (g : Grow H0 H O H0' H' (O'.or B)) (k : Grow H0' H' O' H0'' H'' O'') : Grow H0 H O H0'' H'' (O''.or B) where
  sh := L2.Same.trans g.sh k.sh
  keep := fun a o e n => k.keep a o (g.keep a o e n) fun z => by
    rcases g.own a (.inl z) with y | y
    · exact n y
    · rw [e] at y; cases y
  dom := fun a z => k.dom a (g.dom a z)
  own := fun a z => by
    rcases z with z | z
    · rcases k.own a z with y | y
      · exact g.own a (.inl y)
      · refine .inr ?_
        cases q : H a with
        | none => rfl
        | some o => exact absurd y (g.dom a (by rw [q]; exact Option.some_ne_none _))
    · exact g.own a (.inr z)
  nsh := fun a z => by
    rcases k.nsh a z with y | y | y
    · exact g.nsh a y
    · rcases g.own a (.inl y) with u | u
      · exact .inr (.inl u)
      · exact .inr (.inr u)
    · refine .inr (.inr ?_)
      cases q : H a with
      | none => rfl
      | some o => exact absurd y (g.dom a (by rw [q]; exact Option.some_ne_none _))
theorem Grow.mono {H0 H : Hp} {O : Fp} {H0' H' : Hp} {O' O'' : Fp} (g : Grow H0 H O H0' H' O') (h : ∀ a, O'' a → O' a) : Grow H0 H O H0' H' O'' := ⟨g.sh, g.keep, g.dom, fun a z => g.own a (h a z), g.nsh⟩
/-- no temporary -/
theorem Grow.trans0 {H0 H : Hp} {O : Fp} {H0' H' : Hp} {O' : Fp} {H0'' H'' : Hp} {O'' : Fp} (g : Grow H0 H O H0' H' O') (k : Grow H0' H' O' H0'' H'' O'') : Grow H0 H O H0'' H'' O'' :=
  (Grow.trans (B := noF) (g.mono fun a z => z.elim id False.elim) k).mono fun a z => .inl z
/-- a temporary behind further steps -/
theorem Tmp.step {H0 H : Hp} {O B : Fp} {H0' H' : Hp} {O' : Fp} (t : Tmp H0 H O B) (k : Grow H0 H O H0' H' O') : Tmp H0' H' O' B where
  off := fun a b z => by
    rcases k.own a z with y | y
    · exact t.off a b y
    · exact t.dom a b y
  dom := fun a b => k.dom a (t.dom a b)
  sep := fun a b => by
    cases q : H0' a with
    | none => rfl
    | some o =>
      rcases k.nsh a (by rw [q]; exact Option.some_ne_none _) with y | y | y
      · exact absurd (t.sep a b) y
      · exact absurd y (t.off a b)
      · exact absurd y (t.dom a b)
theorem Tmp.own {K : PySem.W.Frag} {H0 H : Hp} {O B : Fp} {H0' H' : Hp} {O' : Fp} {x : PV} {n : Nat} {v : V} (t : Tmp H0 H O B) (k : Grow H0 H O H0' H' O') (h : Own K H0 H x n v B) : Own K H0' H' x n v B :=
  own_tr k.sh x n v B B h (fun a o b e => k.keep a o e (t.off a b)) fun _ z => z

/-! ## what a reading asks -/
def ExD (K : PySem.W.Frag) (H0 H : Hp) (fs : List (Str × PV)) (d : Option Addr) : Prop :=
  fs = [] ∨ ∃ a fvs, d = some a ∧ H0 a = some (.xd fvs) ∧ OwnF K H0 H fs fvs
def PostR (K : PySem.W.Frag) (H0 H : Hp) (O : Fp) (σ : L2.St) (r : Rr) (Q : VK) : Prop :=
  ∀ v H0' H' O' B, Grow H0 H O H0' H' (O'.or B) → (r.pu = true → Same H H') → St0 K H0' H' O' σ r.ρ → Tmp H0' H' O' B →
    (if r.ow = true then Own K H0' H' r.x r.lv v B else ∃ F, Own K H0' H' r.x r.lv v F) → Q v H'
def PostX (g : Prg) (H0 H : Hp) (O : Fp) (σ : L2.St) (c : Str) (fs : List (Str × PV)) (ρ : Ev) (W : WX) : Prop :=
  ∀ H0' H' O' d, Grow H0 H O H0' H' O' → St0 g.K H0' H' O' σ ρ → ExD g.K H0' H' fs d → W (.ref (g.ea c)) d σ H'
def tF (g : Prg) (W : WX) (f : EF) : TE := fun σ H Q => ∃ H0 O ρ, St0 g.K H0 H O σ ρ ∧ match f ρ with
  | .ok r => PostR g.K H0 H O σ r Q
  | .exc c fs ρ' => PostX g H0 H O σ c fs ρ' W
  | .bad => False

/-- a def's static facts -/
structure Sx where
  N : List Str
  sc : Scope
  lv : Nat
  pn : List Nat
  hot : Bool
  blk : Bool
  xc : Option (Addr × Option Addr × Str) := none
/-- the field f of an exception of class c -/
structure XfF (g : Prg) (c f : Str) : Prop where
  xf : XfC g.K (g.ea c)
  no : PySem.W.findIn g.K (.ref (g.ea c)) f = some none
structure Fits (g : Prg) (Γ : Sx) (X : Cx) (W : WX) : Prop where
  xc : ∀ a d c, Γ.xc = some (a, d, c) → ∀ f, XfF g c f → ∀ y q te p, PE X (.Name y q) te → PE X (.Attribute (.Name y q) f p) (tXf a (.ref (g.ea c)) d (g.ea c) f te)
  prog : X.prog = g.P
  w : X.w = g.w
  K : X.K = g.K
  mg : X.mg = g.mg
  base : X.base = g.base
  N : X.N = Γ.N
  sc : X.env.scope = Γ.sc
  takes : Takes X W
  un : X.A.units + 100 < cLine
  room : Γ.hot = false → Room Γ.lv X.A
  calm : Γ.hot = false → X.calm = true
  nd : X.N.Nodup
  pas : PassesOwn (model X.prog X.w) X.A X.env X.xe
  fn : Γ.blk = false → ∀ x, X.fn x = true
  stk : Γ.blk = false → X.stack = X.env :: X.outer ∧ X.env.frame = some X.env.locals ∧ X.ex = []
theorem Fits.un64 {g : Prg} {Γ : Sx} {X : Cx} {W : WX} (F : Fits g Γ X W) : X.A.units + 64 < cLine := by have := F.un; omega
theorem Fits.un65 {g : Prg} {Γ : Sx} {X : Cx} {W : WX} (F : Fits g Γ X W) : X.A.units + 65 < cLine := by have := F.un; omega
theorem Fits.un1 {g : Prg} {Γ : Sx} {X : Cx} {W : WX} (F : Fits g Γ X W) : X.A.units + 1 < cLine := by have := F.un; omega
def EV (g : Prg) (Γ : Sx) (e : Expr) (f : EF) : Prop := ∀ X W, Fits g Γ X W → PE X e (tF g W f)

theorem PE.imp {X : Cx} {e : Expr} {t t' : TE} (h : PE X e t) (k : ∀ σ H Q, t' σ H Q → t σ H Q) : PE X e t' := ⟨fun pins s σ H Q I q => h.run pins s σ H Q I (k σ H Q q)⟩
theorem PT.imp {X : Cx} {e : Expr} {t t' : TT} (h : PT X e t) (k : ∀ σ H Q, t' σ H Q → t σ H Q) : PT X e t' := ⟨fun pins s σ H Q I q => h.run pins s σ H Q I (k σ H Q q)⟩
theorem PA.imp {X : Cx} {e : List Expr} {t t' : TA} (h : PA X e t) (k : ∀ σ H Q, t' σ H Q → t σ H Q) : PA X e t' := ⟨fun pos pins s σ H Q I q => h.run pos pins s σ H Q I (k σ H Q q)⟩
theorem PS.imp {X : Cx} {e : Stmt} {t t' : TS} (h : PS X e t) (k : ∀ D σ H, t' D σ H → t D σ H) : PS X e t' := ⟨fun pins s σ H D I q => h.run pins s σ H D I (k D σ H q)⟩
theorem PSs.imp {X : Cx} {e : List Stmt} {t t' : TS} (h : PSs X e t) (k : ∀ D σ H, t' D σ H → t D σ H) : PSs X e t' := ⟨fun pins s σ H D I q => h.run pins s σ H D I (k D σ H q)⟩

/-! ## arguments -/
structure Ar where
  pu : Bool
  vs : List (Nat × PV)
  ρ : Ev
abbrev AF := Ev → Res Ar
/-- all the arguments' values, as views of the end -/
def Views (K : PySem.W.Frag) (H0 H : Hp) : List (Nat × PV) → List V → Prop := Paired fun p v => ∃ F, Own K H0 H p.2 p.1 v F
end Pv

set_option maxRecDepth 100000
set_option maxHeartbeats 1000000
namespace Pv
open PySem PySem.Spec PyProof.Rows L2

/-! ## the arguments -/
def PostA (K : PySem.W.Frag) (H0 H : Hp) (O : Fp) (σ : L2.St) (a : Ar) (Q : List V → Hp → Prop) : Prop :=
  ∀ vs H0' H' O', Grow H0 H O H0' H' O' → (a.pu = true → Same H H') → St0 K H0' H' O' σ a.ρ → Views K H0' H' a.vs vs → Q vs H'
def tA (g : Prg) (W : WX) (f : AF) : TA := fun σ H Q => ∃ H0 O ρ, St0 g.K H0 H O σ ρ ∧ match f ρ with
  | .ok a => PostA g.K H0 H O σ a Q
  | .exc c fs ρ' => PostX g H0 H O σ c fs ρ' W
  | .bad => False
def AV (g : Prg) (Γ : Sx) (es : List Expr) (f : AF) : Prop := ∀ X W, Fits g Γ X W → PA X es (tA g W f)

/-- a view of the result may be kept through what follows -/
def stays (r : Rr) (pu : Bool) : Bool := r.ow || r.lv == 0 || r.x.imm || pu
def aNil : AF := fun ρ => .ok ⟨true, [], ρ⟩
def aCons (f : EF) (af : AF) : AF := fun ρ => (f ρ).bind fun r => (af r.ρ).bind fun a =>
  if stays r a.pu = true then .ok ⟨r.pu && a.pu, (r.lv, r.x) :: a.vs, a.ρ⟩ else .bad

def noStar : Expr → Bool
  | .Starred _ _ => false
  | _ => true
theorem star_cons {e : Expr} {es : List Expr} {env : Env} (h : noStar e = true) : starEach (e :: es) env = (false, eval e env) :: starEach es env := by
  cases e <;> first | rfl | cases h
theorem star_any {pos : Pos} {env : Env} : ∀ {es : List Expr}, (∀ e ∈ es, noStar e = true) → (backTo pos (starEach es env)).any (·.1) = false
  | [], _ => rfl
  | e :: es, h => by
    rw [star_cons (h e List.mem_cons_self)]
    show (false || (backTo pos (starEach es env)).any (·.1)) = false
    rw [star_any fun y hy => h y (List.mem_cons_of_mem _ hy)]
    rfl

section
variable {g : Prg} {Γ : Sx}
theorem PostX.step {H0 H : Hp} {O : Fp} {σ : L2.St} {c : Str} {fs : List (Str × PV)} {ρ : Ev} {W : WX} {H0' H' : Hp} {O' B : Fp} (p : PostX g H0 H O σ c fs ρ W) (k : Grow H0 H O H0' H' (O'.or B)) : PostX g H0' H' O' σ c fs ρ W :=
  fun H0'' H'' O'' d k2 s x => p H0'' H'' O'' d ((k.trans k2).mono fun a z => .inl z) s x
theorem view_stay {r : Rr} {K : PySem.W.Frag} {H0 H H0' H' : Hp} {O B : Fp} {O' : Fp} {v : V} {pu : Bool} (hs : stays r pu = true) (T : Tmp H0 H O B) (o : if r.ow = true then Own K H0 H r.x r.lv v B else ∃ F, Own K H0 H r.x r.lv v F)
    (k : Grow H0 H O H0' H' O') (hp : pu = true → Same H H') : ∃ F, Own K H0' H' r.x r.lv v F := by
  by_cases ho : r.ow = true
  · rw [if_pos ho] at o
    exact ⟨B, T.own k o⟩
  · rw [if_neg ho] at o
    obtain ⟨F, o⟩ := o
    unfold stays at hs
    simp only [Bool.or_eq_true, beq_iff_eq] at hs
    rcases hs with ((hs | hs) | hs) | hs
    · exact absurd hs ho
    · rw [hs] at o ⊢
      exact ⟨F, own0 k.sh _ _ _ _ o⟩
    · exact ⟨F, imm_own (own_imm (F' := F) o (.inr hs) k.sh) hs (H0 := H0') (H := H') (fun _ _ z => z)⟩
    · exact ⟨F, own_tr k.sh _ _ _ _ _ o (fun a o' _ e => hp hs _ _ e) fun _ z => z⟩
theorem av_nil : AV g Γ [] aNil := fun X W F => PA.imp pa_nil fun σ H Q ⟨H0, O, ρ, S, q⟩ => q [] H0 H O .refl (fun _ _ _ z => z) S .nil
theorem av_cons {e : Expr} {es : List Expr} {f : EF} {af : AF} (hn : noStar e = true) (he : EV g Γ e f) (hr : AV g Γ es af) : AV g Γ (e :: es) (aCons f af) := fun X W F => by
  refine PA.imp (pa_cons (he X W F) (hr X W F) (star_cons hn)) fun σ H Q ⟨H0, O, ρ, S, q⟩ => ⟨H0, O, ρ, S, ?_⟩
  unfold aCons at q
  cases hf : f ρ with
  | bad => rw [hf] at q; exact q
  | exc c fs ρ' => rw [hf] at q; exact q
  | ok r =>
    rw [hf] at q
    show PostR _ _ _ _ _ r _
    intro v H0' H' O' B k hpu S' T o
    refine ⟨H0', O', r.ρ, S', ?_⟩
    simp only [Res.bind] at q
    cases ha : af r.ρ with
    | bad => rw [ha] at q; exact q
    | exc c fs ρ' => rw [ha] at q; exact PostX.step q k
    | ok a =>
      rw [ha] at q
      simp only [] at q
      by_cases hs : stays r a.pu = true
      · rw [if_pos hs] at q
        intro vs H0'' H'' O'' k2 hpu2 S'' vw
        refine q (v :: vs) H0'' H'' O'' ((k.trans k2).mono fun a z => .inl z) (fun z => ?_) S'' (.cons (view_stay hs T o k2 hpu2) vw)
        have z' := Bool.and_eq_true_iff.mp z
        exact L2.Same.trans (hpu z'.1) (hpu2 z'.2)
      · rw [if_neg hs] at q
        exact q.elim
end
end Pv

set_option maxRecDepth 100000
set_option maxHeartbeats 1000000
namespace Pv
open PySem PySem.Spec PyProof.Rows L2

/-! ## operations on values -/
structure Po where
  ow : Bool
  lv : Nat
  x : PV
structure Alloc (H0 H H0' H' : Hp) (B : Fp) : Prop where
  sh : Same H0 H0'
  sm : Same H H'
  sub : Same H0' H'
  nsh : ∀ a, H0' a ≠ none → H0 a ≠ none ∨ H a = none
  bf : ∀ a, B a → H a = none ∧ H' a ≠ none ∧ H0' a = none
theorem Alloc.refl {H0 H : Hp} (h : Same H0 H) : Alloc H0 H H0 H noF := ⟨fun _ _ z => z, fun _ _ z => z, h, fun _ z => .inl z, fun _ z => z.elim⟩
def Gives (K : PySem.W.Frag) (H0 H : Hp) (o : Po) (Q : VK) : Prop :=
  ∀ v H0' H' B, Alloc H0 H H0' H' B → (if o.ow = true then Own K H0' H' o.x o.lv v B else ∃ F, Own K H0' H' o.x o.lv v F) → Q v H'

section
variable {g : Prg} {Γ : Sx} {K : PySem.W.Frag} {H0 H H0' H' : Hp} {O O' : Fp} {σ : L2.St} {ρ : Ev}
theorem Alloc.st {B : Fp} (A : Alloc H0 H H0' H' B) (S : St0 K H0 H O σ ρ) : St0 K H0' H' O σ ρ := by
  obtain ⟨s1, s2, s3, s4, F, f1, f2, f3⟩ := S
  refine ⟨A.sub, fun a z => ?_, fun a z => ?_, s4, F, f1, f2, fun i n x e => ?_⟩
  · cases q : H a with
    | none => exact absurd q (s2 a z)
    | some o => rw [A.sm _ _ q]; exact Option.some_ne_none _
  · cases q : H0' a with
    | none => rfl
    | some o =>
      rcases A.nsh a (by rw [q]; exact Option.some_ne_none _) with y | y
      · exact absurd (s3 a z) y
      · exact absurd y (s2 a z)
  · obtain ⟨v, e1, e2⟩ := f3 i n x e
    exact ⟨v, e1, own_tr A.sh _ _ _ _ _ e2 (fun a o _ q => A.sm _ _ q) fun _ z => z⟩
theorem Alloc.grow {B : Fp} (A : Alloc H0 H H0' H' B) : Grow H0 H O H0' H' (O.or B) where
  sh := A.sh
  keep := fun a o e _ => A.sm _ _ e
  dom := fun a z => by
    cases q : H a with
    | none => exact absurd q z
    | some o => rw [A.sm _ _ q]; exact Option.some_ne_none _
  own := fun a z => z.elim .inl fun z => .inr (A.bf a z).1
  nsh := fun a z => (A.nsh a z).elim .inl fun z => .inr (.inr z)
theorem Alloc.tmp {B : Fp} (A : Alloc H0 H H0' H' B) (hd : ∀ a, O a → H a ≠ none) : Tmp H0' H' O B :=
  ⟨fun a z y => hd a y (A.bf a z).1, fun a z => (A.bf a z).2.1, fun a z => (A.bf a z).2.2⟩
/-- the end of an operation on values -/
theorem fin_op {pu : Bool} {o : Po} {ρ' : Ev} {Q : VK} (q : PostR K H0 H O σ ⟨pu, o.ow, o.lv, o.x, ρ'⟩ Q) (k : Grow H0 H O H0' H' O') (hp : pu = true → Same H H') (S : St0 K H0' H' O' σ ρ') : Gives K H0' H' o Q :=
  fun v H0'' H'' B A w => q v H0'' H'' O' B (k.trans0 A.grow) (fun z => L2.Same.trans (hp z) A.sm) (A.st S) (A.tmp S.dom) w
theorem PostR.mono {r : Rr} {Q Q' : VK} (p : PostR K H0 H O σ r Q) (h : ∀ v H, Q v H → Q' v H) : PostR K H0 H O σ r Q' :=
  fun v H0' H' O' B a b c d e => h _ _ (p v H0' H' O' B a b c d e)
theorem tF.mono {W : WX} {f : EF} {Q Q' : VK} (p : tF g W f σ H Q) (h : ∀ v H, Q v H → Q' v H) : tF g W f σ H Q' := by
  obtain ⟨H0, O, ρ, S, q⟩ := p
  refine ⟨H0, O, ρ, S, ?_⟩
  cases e : f ρ with
  | ok r => rw [e] at q; exact q.mono h
  | exc c fs ρ' => rw [e] at q; exact q
  | bad => rw [e] at q; exact q
theorem tA.mono {W : WX} {f : AF} {Q Q' : List V → Hp → Prop} (p : tA g W f σ H Q) (h : ∀ v H, Q v H → Q' v H) : tA g W f σ H Q' := by
  obtain ⟨H0, O, ρ, S, q⟩ := p
  refine ⟨H0, O, ρ, S, ?_⟩
  cases e : f ρ with
  | ok r => rw [e] at q; exact fun vs H0' H' O' a b c d => h _ _ (q vs H0' H' O' a b c d)
  | exc c fs ρ' => rw [e] at q; exact q
  | bad => rw [e] at q; exact q
theorem tA_cons {W : WX} {f : EF} {af : AF} {Q : List V → Hp → Prop} (p : tA g W (aCons f af) σ H Q) : tF g W f σ H fun x H1 => tA g W af σ H1 fun xs H2 => Q (x :: xs) H2 := by
  obtain ⟨H0, O, ρ, S, q⟩ := p
  refine ⟨H0, O, ρ, S, ?_⟩
  unfold aCons at q
  cases hf : f ρ with
  | bad => rw [hf] at q; exact q
  | exc c fs ρ' => rw [hf] at q; exact q
  | ok r =>
    rw [hf] at q
    show PostR _ _ _ _ _ r _
    intro v H0' H' O' B k hpu S' T o
    refine ⟨H0', O', r.ρ, S', ?_⟩
    simp only [Res.bind] at q
    cases ha : af r.ρ with
    | bad => rw [ha] at q; exact q
    | exc c fs ρ' => rw [ha] at q; exact PostX.step q k
    | ok a =>
      rw [ha] at q
      simp only [] at q
      by_cases hs : stays r a.pu = true
      · rw [if_pos hs] at q
        intro vs H0'' H'' O'' k2 hpu2 S'' vw
        refine q (v :: vs) H0'' H'' O'' ((k.trans k2).mono fun a z => .inl z) (fun z => ?_) S'' (.cons (view_stay hs T o k2 hpu2) vw)
        have z' := Bool.and_eq_true_iff.mp z
        exact L2.Same.trans (hpu z'.1) (hpu2 z'.2)
      · rw [if_neg hs] at q
        exact q.elim
theorem tA_nil {W : WX} {Q : List V → Hp → Prop} (p : tA g W aNil σ H Q) : Q [] H := by
  obtain ⟨H0, O, ρ, S, q⟩ := p
  exact q [] H0 H O .refl (fun _ _ _ z => z) S .nil

/-! ### from arguments to a result -/
abbrev PO := List (Nat × PV) → Option Po
def eOp (op : PO) (af : AF) : EF := fun ρ => (af ρ).bind fun a => match op a.vs with
  | some o => .ok ⟨a.pu, o.ow, o.lv, o.x, a.ρ⟩
  | none => .bad
def ROk (K : PySem.W.Frag) (r : List V → Hp → VK → Prop) (op : PO) : Prop :=
  ∀ H0 H ps vs o Q, Same H0 H → Views K H0 H ps vs → op ps = some o → Gives K H0 H o Q → r vs H Q
theorem op_run {W : WX} {op : PO} {af : AF} {r : List V → Hp → VK → Prop} {Q : VK} (hr : ROk g.K r op) (p : tF g W (eOp op af) σ H Q) : tA g W af σ H fun vs H1 => r vs H1 Q := by
  obtain ⟨H0, O, ρ, S, q⟩ := p
  refine ⟨H0, O, ρ, S, ?_⟩
  unfold eOp at q
  cases e : af ρ with
  | bad => rw [e] at q; exact q
  | exc c fs ρ' => rw [e] at q; exact q
  | ok a =>
    rw [e] at q
    simp only [Res.bind] at q
    intro vs H0' H' O' k hp S' vw
    cases ho : op a.vs with
    | none => rw [ho] at q; exact q.elim
    | some o =>
      rw [ho] at q
      exact hr H0' H' a.vs vs o Q S'.sub vw ho (fin_op q k hp S')
theorem ev_op2 {a b e : Expr} {op : PO} {fa fb : EF} {r : R2} (hr : ROk g.K (fun vs H Q => ∃ x y, vs = [x, y] ∧ r x y H Q) op)
    (bd : ∀ X W, Fits g Γ X W → ∀ ta tb, PE X a ta → PE X b tb → PE X e (tOp r ta tb)) (ha : EV g Γ a fa) (hb : EV g Γ b fb) : EV g Γ e (eOp op (aCons fa (aCons fb aNil))) := fun X W F => by
  refine PE.imp (bd X W F _ _ (ha X W F) (hb X W F)) fun σ H Q p => ?_
  refine tF.mono (tA_cons (op_run hr p)) fun x H1 p1 => tF.mono (tA_cons p1) fun y H2 p2 => ?_
  obtain ⟨x', y', e, q⟩ := tA_nil p2
  cases e
  exact q
theorem ev_op1 {a e : Expr} {op : PO} {fa : EF} {r : V → Hp → VK → Prop} (hr : ROk g.K (fun vs H Q => ∃ x, vs = [x] ∧ r x H Q) op)
    (bd : ∀ X W, Fits g Γ X W → ∀ ta, PE X a ta → PE X e (tUn r ta)) (ha : EV g Γ a fa) : EV g Γ e (eOp op (aCons fa aNil)) := fun X W F => by
  refine PE.imp (bd X W F _ (ha X W F)) fun σ H Q p => ?_
  refine tF.mono (tA_cons (op_run hr p)) fun x H1 p1 => ?_
  obtain ⟨x', e, q⟩ := tA_nil p1
  cases e
  exact q
/-- a call of a built-in by its arguments -/
theorem ev_opn {es : List Expr} {e : Expr} {op : PO} {af : AF} {r : List V → Hp → VK → Prop} (hr : ROk g.K r op)
    (bd : ∀ X W, Fits g Γ X W → ∀ t, PA X es t → PE X e (fun σ H Q => t σ H fun vs H1 => r vs H1 Q)) (ha : AV g Γ es af) : EV g Γ e (eOp op af) := fun X W F => by
  refine PE.imp (bd X W F _ (ha X W F)) fun σ H Q p => op_run hr p

/-! ### names and constants -/
/-- a name, as a view -/
def eVar (i : Nat) : EF := fun ρ => match ρ[i]? with
  | some (some (n, x)) => .ok ⟨true, false, n, x, ρ⟩
  | _ => .bad
theorem ev_var {i : Nat} {x : Str} {pos : Pos} (hN : Γ.N[i]? = some x) (hv : Vis Γ.sc x) (hd : (x == ("__debug__" : Str)) = false) (hcd : (x == ("__classdict__" : Str)) = false) : EV g Γ (.Name x pos) (eVar i) := fun X W F => by
  refine PE.imp (pe_var (i := i) (by rw [F.N]; exact hN) (by rw [F.sc]; exact hv) hd hcd) fun σ H Q ⟨H0, O, ρ, S, q⟩ => ?_
  unfold eVar at q
  cases e : ρ[i]? with
  | none => rw [e] at q; exact q.elim
  | some o =>
    cases o with
    | none => rw [e] at q; exact q.elim
    | some p =>
      obtain ⟨n, y⟩ := p
      rw [e] at q
      obtain ⟨F', f1, f2, f3⟩ := S.own
      obtain ⟨v, e1, e2⟩ := f3 i n y e
      exact ⟨v, e1, q v H0 H O noF (Grow.refl.mono fun a z => z.elim id False.elim) (fun _ _ _ z => z) S .no ⟨F' i, e2⟩⟩
def eC (x : PV) : EF := fun ρ => .ok ⟨true, true, 0, x, ρ⟩
theorem ev_c {e : Expr} {v : V} {x : PV} (h : ∀ X, PE X e (tC v)) (ho : ∀ K H0 H F, Own K H0 H x 0 v F) : EV g Γ e (eC x) := fun X W F =>
  PE.imp (h X) fun σ H Q ⟨H0, O, ρ, S, q⟩ => q v H0 H O noF (Grow.refl.mono fun a z => z.elim id False.elim) (fun _ _ _ z => z) S .no (ho _ _ _ _)
theorem ev_int {i j pos} : EV g Γ (.Constant (.int i) j pos) (eC (.int i)) := ev_c (fun X => pe_int) fun _ _ _ _ => rfl
theorem ev_bl {i j pos} : EV g Γ (.Constant (.bool i) j pos) (eC (.bl i)) := ev_c (fun X => pe_bl) fun _ _ _ _ => rfl
theorem ev_non {j pos} : EV g Γ (.Constant .none j pos) (eC .non) := ev_c (fun X => pe_non) fun _ _ _ _ => rfl
theorem ev_str {i j pos} : EV g Γ (.Constant (.str i) j pos) (eC (.str i)) := ev_c (fun X => pe_str) fun _ _ _ _ => rfl
end
end Pv

set_option maxRecDepth 100000
set_option maxHeartbeats 1000000
namespace Pv
open PySem PySem.Spec PyProof.Rows L2

theorem OpR.or {X : Cx} {f : Value → Value → Sem Value} {r r' : R2} (h : OpR X f r) (h' : OpR X f r') : OpR X f (fun x y H Q => r x y H Q ∨ r' x y H Q) := by
  intro pins s σ H x y v u Q I rx ry q
  rcases q with q | q
  · exact h pins s σ H x y v u Q I rx ry q
  · exact h' pins s σ H x y v u Q I rx ry q

section
variable {g : Prg} {Γ : Sx} {K : PySem.W.Frag} {H0 H : Hp} {Q : VK}
theorem gives_imm {b : Bool} {x : PV} {v : V} (G : Gives K H0 H ⟨b, 0, x⟩ Q) (s : Same H0 H) (o : Own K H0 H x 0 v noF) : Q v H := by
  refine G v H0 H noF (.refl s) ?_
  split
  · exact o
  · exact ⟨noF, o⟩
theorem gives_view {n : Nat} {x : PV} {v : V} {F : Fp} (G : Gives K H0 H ⟨false, n, x⟩ Q) (s : Same H0 H) (o : Own K H0 H x n v F) : Q v H := by
  refine G v H0 H noF (.refl s) ?_
  exact ⟨F, o⟩
theorem same_new {p : Addr} {o : HO} (h : H p = none) : Same H (upd H p o) := fun b x e => by
  rw [upd_ne (ne_of_none e h)]
  exact e
theorem alloc_own {p : Addr} {o : HO} (s : Same H0 H) (h : H p = none) : Alloc H0 H H0 (upd H p o) (fun a => a = p) where
  sh := fun _ _ z => z
  sm := same_new h
  sub := L2.Same.trans s (same_new h)
  nsh := fun _ z => .inl z
  bf := fun a z => by
    subst z
    exact ⟨h, by rw [upd_same]; exact Option.some_ne_none _, s.free h⟩
theorem alloc_sh {p : Addr} {o : HO} (s : Same H0 H) (h : H p = none) : Alloc H0 H (upd H0 p o) (upd H p o) noF where
  sh := same_new (s.free h)
  sm := same_new h
  sub := fun b x e => by
    by_cases hb : b = p
    · subst hb; rw [upd_same] at e ⊢; exact e
    · rw [upd_ne hb] at e ⊢; exact s _ _ e
  nsh := fun a z => by
    by_cases hb : a = p
    · subst hb; exact .inr h
    · rw [upd_ne hb] at z; exact .inl z
  bf := fun a z => z.elim
theorem gives_lst {xs : List PV} {vs : List V} {F : Fp} (G : Gives K H0 H ⟨true, 1, .lst xs⟩ Q) (s : Same H0 H) (o : OwnL K H0 H xs 0 vs F) : ∀ p, H p = none → Q (.ref p) (upd H p (.lst vs)) := fun p hp =>
  G _ _ _ _ (alloc_own s hp) (show ∃ a vs', V.ref p = .ref a ∧ _ from ⟨p, vs, rfl, upd_same, rfl, ownL0 (fun _ _ z => z) _ _ _ _ o⟩)
theorem gives_tup {b : Bool} {xs : List PV} {vs : List V} {F : Fp} (G : Gives K H0 H ⟨b, 0, .tup xs⟩ Q) (s : Same H0 H) (o : OwnL K H0 H xs 0 vs F) : ∀ p, H p = none → Q (.ref p) (upd H p (.tup vs)) := fun p hp => by
  have A := alloc_sh (o := .tup vs) s hp
  refine G _ _ _ _ A ?_
  have o' : Own K (upd H0 p (.tup vs)) (upd H p (.tup vs)) (.tup xs) 0 (.ref p) noF := ⟨p, vs, rfl, upd_same, ownL0 A.sh _ _ _ _ o⟩
  split
  · exact o'
  · exact ⟨noF, o'⟩

/-! ### reading a view -/
theorem own_lst {xs : List PV} {n : Nat} {v : V} {F : Fp} (s : Same H0 H) (h : Own K H0 H (.lst xs) n v F) : ∃ a vs, ∃ G : Fp, v = .ref a ∧ H a = some (.lst vs) ∧ OwnL K H0 H xs (n - 1) vs G := by
  cases n with
  | zero =>
    obtain ⟨a, vs, e, h1, h2⟩ := h
    exact ⟨a, vs, _, e, s _ _ h1, h2⟩
  | succ n =>
    obtain ⟨a, vs, e, h1, h2, h3⟩ := h
    exact ⟨a, vs, _, e, h1, h3⟩
theorem own_tup {xs : List PV} {n : Nat} {v : V} {F : Fp} (s : Same H0 H) (h : Own K H0 H (.tup xs) n v F) : ∃ a vs, v = .ref a ∧ H a = some (.tup vs) ∧ OwnL K H0 H xs 0 vs noF := by
  obtain ⟨a, vs, e, h1, h2⟩ := h
  exact ⟨a, vs, e, s _ _ h1, h2⟩
theorem sqT_up {a : Addr} {vs : List V} (h : SqT K (fun _ => none) a vs) : SqT K H a vs := by
  rcases h with (h | ⟨o, h⟩) | h
  · cases h
  · cases h
  · exact .inr h
/-- the items of a list or tuple, and at what level they are -/
def PV.items : PV → Nat → Option (Nat × List PV)
  | .lst xs, n => some (n - 1, xs)
  | .clst xs, _ => some (0, xs)
  | .tup xs, _ => some (0, xs)
  | .ctup xs, _ => some (0, xs)
  | _, _ => none
theorem own_items {x : PV} {n m : Nat} {xs : List PV} {v : V} {F : Fp} (s : Same H0 H) (h : Own K H0 H x n v F) (e : x.items n = some (m, xs)) : ∃ a vs, ∃ G : Fp, v = .ref a ∧ (SqL K H a vs ∨ SqT K H a vs) ∧ OwnL K H0 H xs m vs G := by
  cases x with
  | lst ys =>
    cases e
    obtain ⟨a, vs, G, e, h1, h2⟩ := own_lst s h
    exact ⟨a, vs, G, e, .inl (.inl (.inl h1)), h2⟩
  | clst ys =>
    cases e
    obtain ⟨a, vs, e, h1, h2⟩ := h
    exact ⟨a, vs, _, e, .inl (s.seq h1), h2⟩
  | tup ys =>
    cases e
    obtain ⟨a, vs, e, h1, h2⟩ := own_tup s h
    exact ⟨a, vs, _, e, .inr (.inl (.inl h1)), h2⟩
  | ctup ys =>
    cases e
    obtain ⟨a, vs, e, h1, h2⟩ := h
    exact ⟨a, vs, _, e, .inr (sqT_up h1), h2⟩
  | _ => cases e
mutual
def PV.toD : PV → Option PyData
  | .non => some .none
  | .bl b => some (.bool b)
  | .int i => some (.int i)
  | .str s => some (.str s)
  | .tup xs | .ctup xs => (PV.toDs xs).map .tuple
  | .lst xs | .clst xs => (PV.toDs xs).map .list
  | .dic _ | .exn _ _ _ _ => none
def PV.toDs : List PV → Option (List PyData)
  | [] => some []
  | x :: xs => (PV.toD x).bind fun d => (PV.toDs xs).map fun ds => d :: ds
end
mutual
theorem own_dp (s : Same H0 H) : ∀ (x : PV) (n : Nat) (v : V) (F : Fp) (d : PyData), Own K H0 H x n v F → x.toD = some d → Dp K H v d
  | .non, _, _, _, _, h, e => by cases (show some _ = _ from e); cases (show _ = V.non from h); exact .non
  | .bl b, _, _, _, _, h, e => by cases (show some _ = _ from e); cases (show _ = V.bl b from h); exact .bl b
  | .int b, _, _, _, _, h, e => by cases (show some _ = _ from e); cases (show _ = V.int b from h); exact .int b
  | .str b, _, _, _, _, h, e => by cases (show some _ = _ from e); cases (show _ = V.str b from h); exact .str b
  | .tup xs, n, v, F, d, h, e => by
    obtain ⟨ds, e1, e2⟩ := Option.map_eq_some_iff.mp (show (PV.toDs xs).map PyData.tuple = some d from e)
    obtain ⟨a, vs, e3, h1, h2⟩ := own_tup s h
    subst e2 e3
    exact .tup (.inl (.inl h1)) (own_dps s xs 0 vs _ ds h2 e1)
  | .ctup xs, n, v, F, d, h, e => by
    obtain ⟨ds, e1, e2⟩ := Option.map_eq_some_iff.mp (show (PV.toDs xs).map PyData.tuple = some d from e)
    obtain ⟨a, vs, e3, h1, h2⟩ := (show ∃ a vs, v = V.ref a ∧ SqT K (fun _ => none) a vs ∧ OwnL K H0 H xs 0 vs noF from h)
    subst e2 e3
    exact .tup (sqT_up h1) (own_dps s xs 0 vs _ ds h2 e1)
  | .lst xs, n, v, F, d, h, e => by
    obtain ⟨ds, e1, e2⟩ := Option.map_eq_some_iff.mp (show (PV.toDs xs).map PyData.list = some d from e)
    obtain ⟨a, vs, G, e3, h1, h2⟩ := own_lst s h
    subst e2 e3
    exact .lst (.inl (.inl h1)) (own_dps s xs _ vs _ ds h2 e1)
  | .clst xs, n, v, F, d, h, e => by
    obtain ⟨ds, e1, e2⟩ := Option.map_eq_some_iff.mp (show (PV.toDs xs).map PyData.list = some d from e)
    obtain ⟨a, vs, e3, h1, h2⟩ := (show ∃ a vs, v = V.ref a ∧ SqL K H0 a vs ∧ OwnL K H0 H xs 0 vs noF from h)
    subst e2 e3
    exact .lst (s.seq h1) (own_dps s xs 0 vs _ ds h2 e1)
  | .dic _, _, _, _, _, _, e => by cases (show none = _ from e)
  | .exn _ _ _ _, _, _, _, _, _, e => by cases (show none = _ from e)
theorem own_dps (s : Same H0 H) : ∀ (xs : List PV) (n : Nat) (vs : List V) (F : Fp) (ds : List PyData), OwnL K H0 H xs n vs F → PV.toDs xs = some ds → DpAll K H vs ds
  | [], _, _, _, _, h, e => by cases (show some _ = _ from e); rw [show _ = ([] : List V) from h]; exact .nil
  | x :: xs, n, vs, F, ds, h, e => by
    obtain ⟨v, vs', G, e1, h1, h2⟩ := h
    obtain ⟨d, e2, e3⟩ := Option.bind_eq_some_iff.mp (show (PV.toD x).bind (fun d => (PV.toDs xs).map fun ds => d :: ds) = some ds from e)
    obtain ⟨ds', e4, e5⟩ := Option.map_eq_some_iff.mp e3
    subst e1 e5
    exact .cons (own_dp s x n v _ d h1 e2) (own_dps s xs n vs' _ ds' h2 e4)
end
theorem views1 {p : Nat × PV} {vs : List V} (h : Views K H0 H [p] vs) : ∃ v, ∃ F : Fp, vs = [v] ∧ Own K H0 H p.2 p.1 v F := by
  cases h with
  | cons h t => cases t; obtain ⟨F, h⟩ := h; exact ⟨_, F, rfl, h⟩
theorem views2 {p q : Nat × PV} {vs : List V} (h : Views K H0 H [p, q] vs) : ∃ v w, ∃ F G : Fp, vs = [v, w] ∧ Own K H0 H p.2 p.1 v F ∧ Own K H0 H q.2 q.1 w G := by
  cases h with
  | cons h t =>
    obtain ⟨w, G, rfl, h2⟩ := views1 t
    obtain ⟨F, h⟩ := h; exact ⟨_, w, F, G, rfl, h, h2⟩
theorem views3 {p q r : Nat × PV} {vs : List V} (h : Views K H0 H [p, q, r] vs) : ∃ v w u, ∃ F G J : Fp, vs = [v, w, u] ∧ Own K H0 H p.2 p.1 v F ∧ Own K H0 H q.2 q.1 w G ∧ Own K H0 H r.2 r.1 u J := by
  cases h with
  | cons h t =>
    obtain ⟨w, u, G, J, rfl, h2, h3⟩ := views2 t
    obtain ⟨F, h⟩ := h; exact ⟨_, w, u, F, G, J, rfl, h, h2, h3⟩

/-! ### arithmetic -/
def sc (x : PV) : Option Po := some ⟨true, 0, x⟩
theorem sc_gives {x : PV} {v : V} {o : Po} (e : sc x = some o) (G : Gives K H0 H o Q) (s : Same H0 H) (w : Own K H0 H x 0 v noF) : Q v H := by
  cases e
  exact gives_imm G s w
def pAdd : PO
  | [(_, .int i), (_, .int j)] => sc (.int (i + j))
  | [(_, .str i), (_, .str j)] => if i.length + j.length ≤ sizeLine then sc (.str (i ++ j)) else none
  | [(m, .lst i), (n, .lst j)] => if m ≤ 1 ∧ n ≤ 1 ∧ i.length + j.length ≤ sizeLine then some ⟨true, 1, .lst (i ++ j)⟩ else none
  | [(_, .tup i), (_, .tup j)] => if i.length + j.length ≤ sizeLine then sc (.tup (i ++ j)) else none
  | _ => none
def rAddAll (K : PySem.W.Frag) : R2 := fun x y H Q => ((rI0 fun i j => .int (i + j)) x y H Q ∨ ∃ i j, x = .str i ∧ y = .str j ∧ i.length + j.length ≤ sizeLine ∧ Q (.str (i ++ j)) H) ∨ (rCat x y H Q ∨ rCatA K x y H Q)
theorem op_addAll {X : Cx} : OpR X (binaryOp .Add) (rAddAll X.K) := OpR.or (OpR.or op_add op_add_str) (OpR.or op_cat op_catA)
theorem lst_lv {xs : List PV} {n : Nat} {v : V} {F : Fp} (s : Same H0 H) (h : Own K H0 H (.lst xs) n v F) (hn : n ≤ 1) : ∃ a vs, v = .ref a ∧ H a = some (.lst vs) ∧ OwnL K H0 H xs 0 vs noF := by
  obtain ⟨a, vs, G, e, h1, h2⟩ := own_lst s h
  have z : n - 1 = 0 := by omega
  rw [z] at h2
  exact ⟨a, vs, e, h1, ownL0 (fun _ _ z => z) _ _ _ _ h2⟩
theorem rok_add : ROk K (fun vs H Q => ∃ x y, vs = [x, y] ∧ rAddAll K x y H Q) pAdd := by
  intro H0 H ps vs o Q s w e G
  unfold pAdd at e
  split at e
  · obtain ⟨v, u, F, F', rfl, h1, h2⟩ := views2 w
    cases (show v = _ from h1); cases (show u = _ from h2)
    exact ⟨_, _, rfl, .inl (.inl ⟨_, _, rfl, rfl, sc_gives e G s rfl⟩)⟩
  · obtain ⟨v, u, F, F', rfl, h1, h2⟩ := views2 w
    cases (show v = _ from h1); cases (show u = _ from h2)
    split at e
    · exact ⟨_, _, rfl, .inl (.inr ⟨_, _, rfl, rfl, ‹_›, sc_gives e G s rfl⟩)⟩
    · cases e
  · obtain ⟨v, u, F, F', rfl, h1, h2⟩ := views2 w
    split at e
    · rename_i hc
      cases e
      obtain ⟨a, vs, rfl, g1, o1⟩ := lst_lv s h1 hc.1
      obtain ⟨b, ws, rfl, g2, o2⟩ := lst_lv s h2 hc.2.1
      exact ⟨_, _, rfl, .inr (.inl ⟨a, b, vs, ws, rfl, rfl, g1, g2, by rw [ownL_len o1, ownL_len o2]; exact hc.2.2, gives_lst G s (ownL_app0 (F'' := noF) o1 o2)⟩)⟩
    · cases e
  · rename_i m1 ii m2 jj
    obtain ⟨v, u, F, F', rfl, h1, h2⟩ := views2 w
    split at e
    · rename_i hc
      cases e
      obtain ⟨a, vs, rfl, g1, o1⟩ := own_tup s h1
      obtain ⟨b, ws, rfl, g2, o2⟩ := own_tup s h2
      refine ⟨_, _, rfl, .inr (.inr ⟨a, b, vs, ws, rfl, rfl, .inl (.inl g1), .inl (.inl g2), by rw [ownL_len o1, ownL_len o2]; exact hc, fun q => ?_, fun _ q => ?_, fun _ _ => gives_tup G s (ownL_app0 (F'' := noF) o1 o2)⟩)⟩
      · subst q
        have l := ownL_len o1
        rw [List.length_nil] at l
        cases ii with
        | nil => exact gives_imm G s (own_imm (F' := noF) h2 (.inr rfl) fun _ _ z => z)
        | cons _ _ => cases l
      · subst q
        have l := ownL_len o2
        rw [List.length_nil] at l
        cases jj with
        | nil => rw [List.append_nil] at G; exact gives_imm G s (own_imm (F' := noF) h1 (.inr rfl) fun _ _ z => z)
        | cons _ _ => cases l
    · cases e
  · cases e
/-- two ints -/
def pI2 (C : Int → Int → Bool) (f : Int → Int → PV) : PO
  | [(_, .int i), (_, .int j)] => if C i j = true then sc (f i j) else none
  | _ => none
theorem rok_I2 {C : Int → Int → Bool} {f : Int → Int → PV} {f' : Int → Int → V} {D : Int → Int → Prop} (hC : ∀ i j, C i j = true → D i j) (hf : ∀ (K : PySem.W.Frag) (H0 H : Hp) i j, Own K H0 H (f i j) 0 (f' i j) noF) :
    ROk K (fun vs H Q => ∃ x y, vs = [x, y] ∧ rI D f' x y H Q) (pI2 C f) := by
  intro H0 H ps vs o Q s w e G
  unfold pI2 at e
  split at e
  · obtain ⟨v, u, F, F', rfl, h1, h2⟩ := views2 w
    cases (show v = _ from h1); cases (show u = _ from h2)
    split at e
    · exact ⟨_, _, rfl, _, _, rfl, rfl, hC _ _ ‹_›, sc_gives e G s (hf _ _ _ _ _)⟩
    · cases e
  · cases e
def pSub : PO := pI2 (fun _ _ => true) fun i j => .int (i - j)
def pMod : PO := pI2 (fun _ j => decide (0 < j)) fun i j => .int (i % j)
def pFdiv : PO := pI2 (fun _ j => decide (0 < j) && decide (j.natAbs.log2 < 9000)) fun i j => .int (i / j)
def pPow : PO := pI2 (fun i j => decide (0 ≤ j) && decide (j ≤ 1000000) && decide (i.natAbs < 2 ^ 64)) fun i j => .int (i ^ j.toNat)
def pMul : PO
  | [(_, .int i), (_, .int j)] => if i.natAbs.log2 + j.natAbs.log2 < 1000000 then sc (.int (i * j)) else none
  | [(_, .str x), (_, .int n)] => if 0 ≤ n ∧ n ≤ 1000000 ∧ x.length * n.toNat ≤ 1000000 then sc (.str (Txt.mul x n)) else none
  | _ => none
def rMulStr : R2 := fun x y H Q => ∃ z n, x = .str z ∧ y = .int n ∧ MulOk z n ∧ Q (.str (Txt.mul z n)) H
theorem op_mulStr {X : Cx} : OpR X (binaryOp .Mult) rMulStr := by
  intro pins s σ H x y v u Q I rx ry h
  obtain ⟨z, n, rfl, rfl, hk, q⟩ := h
  obtain ⟨t, rfl⟩ := rx
  obtain ⟨t', rfl⟩ := ry
  exact SB.mul hk fun t' k => ⟨.str _, H, I.tok _, ⟨_, rfl⟩, q⟩
theorem mulOk_of {x : Str} {n : Int} (h0 : 0 ≤ n) (h1 : n ≤ 1000000) (h2 : x.length * n.toNat ≤ 1000000) : MulOk x n := by
  refine ⟨by simp; omega, fun a b => ?_, fun a b => ?_⟩
  · have hx : x.length ≤ 1000000 := by
      have h3 : 1 ≤ n.toNat := by omega
      exact Nat.le_trans (Nat.le_mul_of_pos_right _ h3) h2
    have h3 : (1000000 : Int) ≤ (2 ^ 63 - 1) / n := by
      rw [Int.le_ediv_iff_mul_le (by omega)]
      have : (1000000 : Int) * n ≤ 1000000 * 1000000 := Int.mul_le_mul_of_nonneg_left h1 (by decide)
      omega
    omega
  · unfold Builtin.Str.tooLong
    simp only [decide_eq_false_iff_not, Nat.not_lt, sizeLine_eq]
    first | omega | (simp; omega)
theorem rok_mul : ROk K (fun vs H Q => ∃ x y, vs = [x, y] ∧ ((rI CMulW fun i j => .int (i * j)) x y H Q ∨ rMulStr x y H Q)) pMul := by
  intro H0 H ps vs o Q s w e G
  unfold pMul at e
  split at e
  · obtain ⟨v, u, F, F', rfl, h1, h2⟩ := views2 w
    cases (show v = _ from h1); cases (show u = _ from h2)
    split at e
    · exact ⟨_, _, rfl, .inl ⟨_, _, rfl, rfl, ‹_›, sc_gives e G s rfl⟩⟩
    · cases e
  · obtain ⟨v, u, F, F', rfl, h1, h2⟩ := views2 w
    cases (show v = _ from h1); cases (show u = _ from h2)
    split at e
    · rename_i hc
      exact ⟨_, _, rfl, .inr ⟨_, _, rfl, rfl, mulOk_of hc.1 hc.2.1 hc.2.2, sc_gives e G s rfl⟩⟩
    · cases e
  · cases e
variable {a b c : Expr} {fa fb : EF} {pos : Pos}
theorem ev_add (ha : EV g Γ a fa) (hb : EV g Γ b fb) : EV g Γ (.BinOp a .Add b pos) (eOp pAdd (aCons fa (aCons fb aNil))) :=
  ev_op2 (r := rAddAll g.K) rok_add (fun X W F ta tb ha hb => by rw [← F.K]; exact pe_op op_addAll ha hb) ha hb
theorem ev_sub (ha : EV g Γ a fa) (hb : EV g Γ b fb) : EV g Γ (.BinOp a .Sub b pos) (eOp pSub (aCons fa (aCons fb aNil))) :=
  ev_op2 (r := rI0 fun i j => .int (i - j)) (fun H0 H ps vs o Q s w e G => by obtain ⟨x, y, e, i, j, h1, h2, _, h3⟩ := rok_I2 (D := fun _ _ => True) (f' := fun i j => .int (i - j)) (f := fun i j => .int (i - j)) (fun _ _ _ => True.intro) (fun _ _ _ _ _ => rfl) H0 H ps vs o Q s w e G; exact ⟨x, y, e, i, j, h1, h2, h3⟩) (fun X W F ta tb ha hb => pe_op op_sub ha hb) ha hb
theorem ev_mul (ha : EV g Γ a fa) (hb : EV g Γ b fb) : EV g Γ (.BinOp a .Mult b pos) (eOp pMul (aCons fa (aCons fb aNil))) :=
  ev_op2 rok_mul (fun X W F ta tb ha hb => pe_op (OpR.or op_mulW op_mulStr) ha hb) ha hb
theorem ev_mod (ha : EV g Γ a fa) (hb : EV g Γ b fb) : EV g Γ (.BinOp a .Mod b pos) (eOp pMod (aCons fa (aCons fb aNil))) :=
  ev_op2 (rok_I2 (f' := fun i j => .int (i % j)) (fun i j h => of_decide_eq_true h) fun _ _ _ _ _ => rfl) (fun X W F ta tb ha hb => pe_op op_mod ha hb) ha hb
theorem ev_fdiv (ha : EV g Γ a fa) (hb : EV g Γ b fb) : EV g Γ (.BinOp a .FloorDiv b pos) (eOp pFdiv (aCons fa (aCons fb aNil))) :=
  ev_op2 (rok_I2 (f' := fun i j => .int (i / j)) (D := CDivW) (fun i j h => by simp only [Bool.and_eq_true, decide_eq_true_eq] at h; exact h) fun _ _ _ _ _ => rfl) (fun X W F ta tb ha hb => pe_op op_fdivW ha hb) ha hb
theorem ev_pow (ha : EV g Γ a fa) (hb : EV g Γ b fb) : EV g Γ (.BinOp a .Pow b pos) (eOp pPow (aCons fa (aCons fb aNil))) :=
  ev_op2 (rok_I2 (f' := fun i j => .int (i ^ j.toNat)) (D := CPow) (fun i j h => by simp only [Bool.and_eq_true, decide_eq_true_eq] at h; exact ⟨h.1.1, h.1.2, h.2⟩) fun _ _ _ _ _ => rfl) (fun X W F ta tb ha hb => pe_op op_pow ha hb) ha hb

/-! ### comparisons -/
def PV.flat : PV → Option V
  | .non => some .non
  | .bl b => some (.bl b)
  | .int i => some (.int i)
  | .str s => some (.str s)
  | _ => none
theorem own_flat {x : PV} {n : Nat} {v u : V} {F : Fp} (h : Own K H0 H x n v F) (e : x.flat = some u) : v = u := by
  cases x <;> first | (cases e; exact h) | cases e
theorem flat_scal {x y : PV} {u v : V} (e : x.flat = some u) (e' : y.flat = some v) (h : scal u v = true) : scal u v = true := h
def eqR (b : Bool) : PO
  | [(_, x), (_, y)] => match x.flat, y.flat with
    | some u, some v => if scal u v = true then sc (.bl (b ^^ decide (u = v))) else none
    | _, _ => match x.toD, y.toD with
      | some d, some e => if SeqAt.shaped d = true ∧ SeqAt.shaped e = true then sc (.bl (b ^^ PyData.eqv d e)) else none
      | _, _ => none
  | _ => none
def pEq : PO := eqR false
def pNe : PO := eqR true
theorem rok_eq : ROk K (fun vs H Q => ∃ x y, vs = [x, y] ∧ (rEq x y H Q ∨ rEqD K x y H Q)) pEq := by
  intro H0 H ps vs o Q s w e G
  unfold pEq eqR at e
  split at e
  · rename_i n1 x n2 y
    obtain ⟨v, u, F, F', rfl, h1, h2⟩ := views2 w
    split at e
    · rename_i p q e1 e2
      split at e
      · have q1 := own_flat h1 e1
        have q2 := own_flat h2 e2
        subst q1 q2
        refine ⟨_, _, rfl, .inl ⟨‹_›, ?_⟩⟩
        rw [Bool.false_xor] at e
        exact sc_gives e G s rfl
      · cases e
    · split at e
      · rename_i p q e1 e2
        split at e
        · rename_i hc
          refine ⟨_, _, rfl, .inr ⟨_, _, own_dp s _ _ _ _ _ h1 e1, own_dp s _ _ _ _ _ h2 e2, hc.1, hc.2, ?_⟩⟩
          rw [Bool.false_xor] at e
          exact sc_gives e G s rfl
        · cases e
      · cases e
  · cases e
theorem rok_ne : ROk K (fun vs H Q => ∃ x y, vs = [x, y] ∧ (rNe x y H Q ∨ rNeD K x y H Q)) pNe := by
  intro H0 H ps vs o Q s w e G
  unfold pNe eqR at e
  split at e
  · rename_i n1 x n2 y
    obtain ⟨v, u, F, F', rfl, h1, h2⟩ := views2 w
    split at e
    · rename_i p q e1 e2
      split at e
      · have q1 := own_flat h1 e1
        have q2 := own_flat h2 e2
        subst q1 q2
        refine ⟨_, _, rfl, .inl ⟨‹_›, ?_⟩⟩
        rw [Bool.true_xor] at e
        exact sc_gives e G s rfl
      · cases e
    · split at e
      · rename_i p q e1 e2
        split at e
        · rename_i hc
          refine ⟨_, _, rfl, .inr ⟨_, _, own_dp s _ _ _ _ _ h1 e1, own_dp s _ _ _ _ _ h2 e2, hc.1, hc.2, ?_⟩⟩
          rw [Bool.true_xor] at e
          exact sc_gives e G s rfl
        · cases e
      · cases e
  · cases e
def noSet : Expr → Bool
  | .Set _ _ _ => false
  | _ => true
theorem marks_no {op : CmpOp} {b : Expr} (h : noSet b = true) : behindInMarks op b = false := by
  cases b <;> first | rfl | cases h
theorem ev_eq (ha : EV g Γ a fa) (hb : EV g Γ b fb) : EV g Γ (.Compare a [.Eq] [b] pos) (eOp pEq (aCons fa (aCons fb aNil))) :=
  ev_op2 (r := fun x y H Q => rEq x y H Q ∨ rEqD g.K x y H Q) rok_eq (fun X W F ta tb ha hb => by rw [← F.K]; exact pe_cmpR (OpR.or op_eq (op_eqD F.un64)) ha hb (nomark _)) ha hb
theorem ev_ne (ha : EV g Γ a fa) (hb : EV g Γ b fb) : EV g Γ (.Compare a [.NotEq] [b] pos) (eOp pNe (aCons fa (aCons fb aNil))) :=
  ev_op2 (r := fun x y H Q => rNe x y H Q ∨ rNeD g.K x y H Q) rok_ne (fun X W F ta tb ha hb => by rw [← F.K]; exact pe_cmpR (OpR.or op_ne (op_neD F.un64)) ha hb (nomark _)) ha hb
/-- order: ints, texts -/
def pOrd (f : Int → Int → Bool) (h : Str → Str → Bool) : PO
  | [(_, .int i), (_, .int j)] => sc (.bl (f i j))
  | [(_, .str i), (_, .str j)] => sc (.bl (h i j))
  | _ => none
theorem rok_ord {f : Int → Int → Bool} {h : Str → Str → Bool} : ROk K (fun vs H Q => ∃ x y, vs = [x, y] ∧ ((rI0 fun i j => .bl (f i j)) x y H Q ∨ ∃ i j, x = .str i ∧ y = .str j ∧ Q (.bl (h i j)) H)) (pOrd f h) := by
  intro H0 H ps vs o Q s w e G
  unfold pOrd at e
  split at e
  · obtain ⟨v, u, F, F', rfl, h1, h2⟩ := views2 w
    cases (show v = _ from h1); cases (show u = _ from h2)
    exact ⟨_, _, rfl, .inl ⟨_, _, rfl, rfl, sc_gives e G s rfl⟩⟩
  · obtain ⟨v, u, F, F', rfl, h1, h2⟩ := views2 w
    cases (show v = _ from h1); cases (show u = _ from h2)
    exact ⟨_, _, rfl, .inr ⟨_, _, rfl, rfl, sc_gives e G s rfl⟩⟩
  · cases e
def pLt : PO := pOrd (fun i j => decide (i < j)) fun i j => decide (i.cps.toList < j.cps.toList)
def pLe : PO := pOrd (fun i j => decide (i ≤ j)) fun i j => !decide (j.cps.toList < i.cps.toList)
def pGt : PO := pOrd (fun i j => decide (j < i)) fun i j => decide (j.cps.toList < i.cps.toList)
def pGe : PO := pOrd (fun i j => decide (j ≤ i)) fun i j => !decide (i.cps.toList < j.cps.toList)
def cmpOf : CmpOp → PO
  | .Lt => pLt
  | .LtE => pLe
  | .Gt => pGt
  | .GtE => pGe
  | .Eq => pEq
  | .NotEq => pNe
  | _ => fun _ => none
theorem op_ltA {X : Cx} : OpR X (compareOp .Lt) (fun x y H Q => (rI0 fun i j => .bl (decide (i < j))) x y H Q ∨ ∃ i j, x = .str i ∧ y = .str j ∧ Q (.bl (decide (i.cps.toList < j.cps.toList))) H) := OpR.or op_lt op_lt_str
theorem op_leA {X : Cx} : OpR X (compareOp .LtE) (fun x y H Q => (rI0 fun i j => .bl (decide (i ≤ j))) x y H Q ∨ ∃ i j, x = .str i ∧ y = .str j ∧ Q (.bl (!decide (j.cps.toList < i.cps.toList))) H) := OpR.or op_le op_le_str
theorem op_gtA {X : Cx} : OpR X (compareOp .Gt) (fun x y H Q => (rI0 fun i j => .bl (decide (j < i))) x y H Q ∨ ∃ i j, x = .str i ∧ y = .str j ∧ Q (.bl (decide (j.cps.toList < i.cps.toList))) H) := OpR.or op_gt op_gt_str
theorem op_geA {X : Cx} : OpR X (compareOp .GtE) (fun x y H Q => (rI0 fun i j => .bl (decide (j ≤ i))) x y H Q ∨ ∃ i j, x = .str i ∧ y = .str j ∧ Q (.bl (!decide (i.cps.toList < j.cps.toList))) H) := OpR.or op_ge op_ge_str
theorem ev_lt (ha : EV g Γ a fa) (hb : EV g Γ b fb) : EV g Γ (.Compare a [.Lt] [b] pos) (eOp pLt (aCons fa (aCons fb aNil))) :=
  ev_op2 rok_ord (fun X W F ta tb ha hb => pe_cmpR op_ltA ha hb (nomark _)) ha hb
theorem ev_le (ha : EV g Γ a fa) (hb : EV g Γ b fb) : EV g Γ (.Compare a [.LtE] [b] pos) (eOp pLe (aCons fa (aCons fb aNil))) :=
  ev_op2 rok_ord (fun X W F ta tb ha hb => pe_cmpR op_leA ha hb (nomark _)) ha hb
theorem ev_gt (ha : EV g Γ a fa) (hb : EV g Γ b fb) : EV g Γ (.Compare a [.Gt] [b] pos) (eOp pGt (aCons fa (aCons fb aNil))) :=
  ev_op2 rok_ord (fun X W F ta tb ha hb => pe_cmpR op_gtA ha hb (nomark _)) ha hb
theorem ev_ge (ha : EV g Γ a fa) (hb : EV g Γ b fb) : EV g Γ (.Compare a [.GtE] [b] pos) (eOp pGe (aCons fa (aCons fb aNil))) :=
  ev_op2 rok_ord (fun X W F ta tb ha hb => pe_cmpR op_geA ha hb (nomark _)) ha hb
/-- is None, is not None -/
def PV.isNon : PV → Bool
  | .non => true
  | _ => false
def pIsN (b : Bool) : PO
  | [(_, x), (_, .non)] => sc (.bl (b ^^ x.isNon))
  | _ => none
theorem own_non {x : PV} {n : Nat} {v : V} {F : Fp} (h : Own K H0 H x n v F) : decide (v = .non) = x.isNon := by
  cases x with
  | non => cases (show v = _ from h); rfl
  | bl b => cases (show v = _ from h); rfl
  | int b => cases (show v = _ from h); rfl
  | str b => cases (show v = _ from h); rfl
  | tup xs => obtain ⟨a, vs, rfl, _⟩ := h; rfl
  | ctup xs => obtain ⟨a, vs, rfl, _⟩ := h; rfl
  | clst xs => obtain ⟨a, vs, rfl, _⟩ := h; rfl
  | lst xs => cases n with | zero => obtain ⟨a, vs, rfl, _⟩ := h; rfl | succ n => obtain ⟨a, vs, rfl, _⟩ := h; rfl
  | dic xs => cases n with | zero => obtain ⟨a, _, _, _, rfl, _⟩ := h; rfl | succ n => obtain ⟨a, _, _, rfl, _⟩ := h; rfl
  | exn _ _ _ _ => obtain ⟨rfl, _⟩ := h; rfl
theorem rok_isN : ROk K (fun vs H Q => ∃ x y, vs = [x, y] ∧ (y = .non ∧ Q (.bl (decide (x = .non))) H)) (pIsN false) := by
  intro H0 H ps vs o Q s w e G
  unfold pIsN at e
  split at e
  · obtain ⟨v, u, F, F', rfl, h1, h2⟩ := views2 w
    cases (show u = _ from h2)
    refine ⟨_, _, rfl, rfl, ?_⟩
    rw [own_non h1]
    rw [Bool.false_xor] at e
    exact sc_gives e G s rfl
  · cases e
theorem rok_notN : ROk K (fun vs H Q => ∃ x y, vs = [x, y] ∧ (y = .non ∧ Q (.bl (!decide (x = .non))) H)) (pIsN true) := by
  intro H0 H ps vs o Q s w e G
  unfold pIsN at e
  split at e
  · obtain ⟨v, u, F, F', rfl, h1, h2⟩ := views2 w
    cases (show u = _ from h2)
    refine ⟨_, _, rfl, rfl, ?_⟩
    rw [own_non h1]
    rw [Bool.true_xor] at e
    exact sc_gives e G s rfl
  · cases e
theorem ev_isN (ha : EV g Γ a fa) (hb : EV g Γ b fb) : EV g Γ (.Compare a [.Is] [b] pos) (eOp (pIsN false) (aCons fa (aCons fb aNil))) :=
  ev_op2 rok_isN (fun X W F ta tb ha hb => pe_cmpR op_isN ha hb (nomark _)) ha hb
theorem ev_notN (ha : EV g Γ a fa) (hb : EV g Γ b fb) : EV g Γ (.Compare a [.IsNot] [b] pos) (eOp (pIsN true) (aCons fa (aCons fb aNil))) :=
  ev_op2 rok_notN (fun X W F ta tb ha hb => pe_cmpR op_notN ha hb (nomark _)) ha hb
def pNeg : PO
  | [(_, .int i)] => sc (.int (-i))
  | _ => none
theorem ev_neg (ha : EV g Γ a fa) : EV g Γ (.UnaryOp .USub a pos) (eOp pNeg (aCons fa aNil)) :=
  ev_op1 (r := rU fun i => .int (-i)) (fun H0 H ps vs o Q s w e G => by
    unfold pNeg at e
    split at e
    · obtain ⟨v, F, rfl, h1⟩ := views1 w
      cases (show v = _ from h1)
      exact ⟨_, rfl, _, rfl, sc_gives e G s rfl⟩
    · cases e) (fun X W F ta ha => pe_un un_neg ha) ha
end
end Pv

set_option maxRecDepth 100000
set_option maxHeartbeats 1000000
namespace Pv
open PySem PySem.Spec PyProof.Rows L2

/-! ## truth, tests -/
def PV.tru : PV → Option Bool
  | .non => some false
  | .bl b => some b
  | .int i => some (i != 0)
  | .str s => if s.length ≤ sizeLine then some ((s.length : Int) != 0) else none
  | .tup xs | .ctup xs | .lst xs | .clst xs => some (!xs.isEmpty)
  | .dic _ | .exn _ _ _ _ => none
section
variable {g : Prg} {Γ : Sx} {K : PySem.W.Frag} {H0 H : Hp}
theorem empty_ownL {xs : List PV} {n : Nat} {vs : List V} {F : Fp} (h : OwnL K H0 H xs n vs F) : (!xs.isEmpty) = !vs.isEmpty := by
  have l := ownL_len h
  cases xs <;> cases vs <;> first | rfl | cases l
theorem own_tru (s : Same H0 H) {x : PV} {n : Nat} {v : V} {F : Fp} {b : Bool} (h : Own K H0 H x n v F) (e : x.tru = some b) : TruV K v H b := by
  cases x with
  | non => cases (show v = _ from h); cases e; exact rfl
  | bl c => cases (show v = _ from h); cases e; exact rfl
  | int i => cases (show v = _ from h); cases e; exact rfl
  | str z =>
    cases (show v = _ from h)
    have e' : (if z.length ≤ sizeLine then some ((z.length : Int) != 0) else none) = some b := e
    split at e'
    · cases e'; exact ⟨‹_›, rfl⟩
    · cases e'
  | tup xs =>
    cases e
    obtain ⟨a, vs, rfl, h1, h2⟩ := own_tup s h
    exact .inr (.inl ⟨vs, .inl (.inl h1), empty_ownL h2⟩)
  | ctup xs =>
    cases e
    obtain ⟨a, vs, rfl, h1, h2⟩ := h
    exact .inr (.inl ⟨vs, sqT_up h1, empty_ownL h2⟩)
  | lst xs =>
    cases e
    obtain ⟨a, vs, G, rfl, h1, h2⟩ := own_lst s h
    exact .inl ⟨vs, .inl (.inl h1), empty_ownL h2⟩
  | clst xs =>
    cases e
    obtain ⟨a, vs, rfl, h1, h2⟩ := h
    exact .inl ⟨vs, s.seq h1, empty_ownL h2⟩
  | dic _ => cases e
  | exn _ _ _ _ => cases e

/-- a test's result -/
structure Tr where
  pu : Bool
  b : Bool
  ρ : Ev
abbrev TFn := Ev → Res Tr
def PostT (K : PySem.W.Frag) (H0 H : Hp) (O : Fp) (σ : L2.St) (r : Tr) (Q : Bool → Hp → Prop) : Prop :=
  ∀ H0' H' O', Grow H0 H O H0' H' O' → (r.pu = true → Same H H') → St0 K H0' H' O' σ r.ρ → Q r.b H'
def tT (g : Prg) (W : WX) (f : TFn) : TT := fun σ H Q => ∃ H0 O ρ, St0 g.K H0 H O σ ρ ∧ match f ρ with
  | .ok r => PostT g.K H0 H O σ r Q
  | .exc c fs ρ' => PostX g H0 H O σ c fs ρ' W
  | .bad => False
def TV (g : Prg) (Γ : Sx) (e : Expr) (f : TFn) : Prop := ∀ X W, Fits g Γ X W → PT X e (tT g W f)
/-- .. whatever its whole -/
def TW (g : Prg) (Γ : Sx) (e : Expr) (f : TFn) : Prop := ∀ X W, Fits g Γ X W → PW X e (tT g W f)
theorem TW.tv {e : Expr} {f : TFn} (h : TW g Γ e f) : TV g Γ e f := fun X W F => (h X W F).pt
theorem PW.imp {X : Cx} {e : Expr} {t t' : TT} (h : PW X e t) (k : ∀ σ H Q, t' σ H Q → t σ H Q) : PW X e t' := ⟨fun w pins s σ H Q I q => h.run w pins s σ H Q I (k σ H Q q)⟩
def tOf (f : EF) : TFn := fun ρ => (f ρ).bind fun r => match r.x.tru with
  | some b => .ok ⟨r.pu, b, r.ρ⟩
  | none => .bad
theorem tOf_run {W : WX} {f : EF} {σ : L2.St} {Q : Bool → Hp → Prop} (p : tT g W (tOf f) σ H Q) : tF g W f σ H fun x H1 => ∃ k, TruV g.K x H1 k ∧ Q k H1 := by
  obtain ⟨H0, O, ρ, S, q⟩ := p
  refine ⟨H0, O, ρ, S, ?_⟩
  unfold tOf at q
  cases e : f ρ with
  | bad => rw [e] at q; exact q
  | exc c fs ρ' => rw [e] at q; exact q
  | ok r =>
    rw [e] at q
    simp only [Res.bind] at q
    intro v H0' H' O' B k hp S' T w
    cases ht : r.x.tru with
    | none => rw [ht] at q; exact q.elim
    | some b =>
      rw [ht] at q
      have z : ∃ F, Own g.K H0' H' r.x r.lv v F := by
        split at w
        · exact ⟨_, w⟩
        · exact w
      obtain ⟨F, z⟩ := z
      exact ⟨b, own_tru S'.sub z ht, q H0' H' O' (k.mono fun a z => .inl z) hp S'⟩
/-- an expression whose test is its value's truth -/
def plainTest : Expr → Bool
  | .Name _ _ | .Call _ _ _ _ | .Subscript _ _ _ | .Attribute _ _ _ | .Constant _ _ _ | .BinOp _ _ _ _ | .List _ _ | .Tuple _ _ _ => true
  | _ => false
theorem tv_plain {e : Expr} {f : EF} (h : EV g Γ e f) (hp : plainTest e = true) : TV g Γ e (tOf f) := fun X W F => by
  refine PT.imp (pt_truth (h X W F) ?_) fun σ H Q p => ?_
  · intro w
    cases e <;> first | rfl | cases hp
  · have p' := tOf_run p
    rw [← F.K] at p'
    exact p'
variable {a b c : Expr} {fa fb fc : EF} {pos : Pos}
/-- comparisons as tests -/
def BoolPO (po : PO) : Prop := ∀ ps o, po ps = some o → ∃ k, o = ⟨true, 0, .bl k⟩
theorem op_runB {W : WX} {op : PO} {af : AF} {r : List V → Hp → VK → Prop} {σ : L2.St} {Q : Bool → Hp → Prop} (hr : ROk g.K r op) (hb : BoolPO op) (p : tT g W (tOf (eOp op af)) σ H Q) :
    tA g W af σ H fun vs H1 => r vs H1 fun x H' => ∃ k, x = .bl k ∧ Q k H' := by
  obtain ⟨H0, O, ρ, S, q⟩ := p
  refine ⟨H0, O, ρ, S, ?_⟩
  unfold tOf eOp at q
  cases e : af ρ with
  | bad => rw [e] at q; exact q
  | exc c fs ρ' => rw [e] at q; exact q
  | ok a =>
    rw [e] at q
    simp only [Res.bind] at q
    intro vs H0' H' O' k hp S' vw
    cases ho : op a.vs with
    | none => rw [ho] at q; exact q.elim
    | some o =>
      rw [ho] at q
      obtain ⟨b, rfl⟩ := hb _ _ ho
      refine hr H0' H' a.vs vs _ _ S'.sub vw ho fun v H0'' H'' B A w => ⟨b, w, ?_⟩
      exact q H0'' H'' O' ((k.trans0 A.grow).mono fun a z => .inl z) (fun z => L2.Same.trans (hp z) A.sm) (A.st S')
theorem tv_cmp {op : CmpOp} {po : PO} {r : R2} (hr : ROk g.K (fun vs H Q => ∃ x y, vs = [x, y] ∧ r x y H Q) po) (hb' : BoolPO po) (ho : ∀ X W, Fits g Γ X W → OpR X (compareOp op) r) (hm : ∀ (b : Expr), noSet b = true → behindInMarks op b = false) (hs : noSet b = true) (ha : EV g Γ a fa) (hb : EV g Γ b fb) :
    TV g Γ (.Compare a [op] [b] pos) (tOf (eOp po (aCons fa (aCons fb aNil)))) := fun X W F => by
  refine PT.imp (pt_cmpR (ho X W F) (ha X W F) (hb X W F) (hm b hs)) fun σ H Q p => ?_
  have p1 := op_runB hr hb' p
  refine tF.mono (tA_cons p1) fun x H1 p1 => tF.mono (tA_cons p1) fun y H2 p2 => ?_
  obtain ⟨x', y', e, q⟩ := tA_nil p2
  cases e
  exact q
theorem bool_eqR (c : Bool) : BoolPO (eqR c) := fun ps o e => by
  unfold eqR at e
  split at e
  · split at e
    · split at e
      · cases e; exact ⟨_, rfl⟩
      · cases e
    · split at e
      · split at e
        · cases e; exact ⟨_, rfl⟩
        · cases e
      · cases e
  · cases e
theorem bool_ord (f h) : BoolPO (pOrd f h) := fun ps o e => by
  unfold pOrd at e
  split at e
  · cases e; exact ⟨_, rfl⟩
  · cases e; exact ⟨_, rfl⟩
  · cases e
theorem bool_isN (b) : BoolPO (pIsN b) := fun ps o e => by
  unfold pIsN at e
  split at e
  · cases e; exact ⟨_, rfl⟩
  · cases e
theorem tv_eq (hs : noSet b = true) (ha : EV g Γ a fa) (hb : EV g Γ b fb) : TV g Γ (.Compare a [.Eq] [b] pos) (tOf (eOp pEq (aCons fa (aCons fb aNil)))) :=
  tv_cmp (r := fun x y H Q => rEq x y H Q ∨ rEqD g.K x y H Q) rok_eq (bool_eqR _) (fun X W F => by rw [← F.K]; exact OpR.or op_eq (op_eqD F.un64)) (fun _ => marks_no) hs ha hb
theorem tv_ne (hs : noSet b = true) (ha : EV g Γ a fa) (hb : EV g Γ b fb) : TV g Γ (.Compare a [.NotEq] [b] pos) (tOf (eOp pNe (aCons fa (aCons fb aNil)))) :=
  tv_cmp (r := fun x y H Q => rNe x y H Q ∨ rNeD g.K x y H Q) rok_ne (bool_eqR _) (fun X W F => by rw [← F.K]; exact OpR.or op_ne (op_neD F.un64)) (fun _ => marks_no) hs ha hb
theorem tv_lt (hs : noSet b = true) (ha : EV g Γ a fa) (hb : EV g Γ b fb) : TV g Γ (.Compare a [.Lt] [b] pos) (tOf (eOp pLt (aCons fa (aCons fb aNil)))) := tv_cmp rok_ord (bool_ord _ _) (fun _ _ _ => op_ltA) (fun _ => marks_no) hs ha hb
theorem tv_le (hs : noSet b = true) (ha : EV g Γ a fa) (hb : EV g Γ b fb) : TV g Γ (.Compare a [.LtE] [b] pos) (tOf (eOp pLe (aCons fa (aCons fb aNil)))) := tv_cmp rok_ord (bool_ord _ _) (fun _ _ _ => op_leA) (fun _ => marks_no) hs ha hb
theorem tv_gt (hs : noSet b = true) (ha : EV g Γ a fa) (hb : EV g Γ b fb) : TV g Γ (.Compare a [.Gt] [b] pos) (tOf (eOp pGt (aCons fa (aCons fb aNil)))) := tv_cmp rok_ord (bool_ord _ _) (fun _ _ _ => op_gtA) (fun _ => marks_no) hs ha hb
theorem tv_ge (hs : noSet b = true) (ha : EV g Γ a fa) (hb : EV g Γ b fb) : TV g Γ (.Compare a [.GtE] [b] pos) (tOf (eOp pGe (aCons fa (aCons fb aNil)))) := tv_cmp rok_ord (bool_ord _ _) (fun _ _ _ => op_geA) (fun _ => marks_no) hs ha hb
theorem tv_isN (hs : noSet b = true) (ha : EV g Γ a fa) (hb : EV g Γ b fb) : TV g Γ (.Compare a [.Is] [b] pos) (tOf (eOp (pIsN false) (aCons fa (aCons fb aNil)))) := tv_cmp rok_isN (bool_isN _) (fun _ _ _ => op_isN) (fun _ => marks_no) hs ha hb
theorem tv_notN (hs : noSet b = true) (ha : EV g Γ a fa) (hb : EV g Γ b fb) : TV g Γ (.Compare a [.IsNot] [b] pos) (tOf (eOp (pIsN true) (aCons fa (aCons fb aNil)))) := tv_cmp rok_notN (bool_isN _) (fun _ _ _ => op_notN) (fun _ => marks_no) hs ha hb

/-! ### not, and, or as tests -/
variable {ta tb : TFn} {rest : List Expr}
theorem PostT.of_grow {O O' : Fp} {σ : L2.St} {H0' H' : Hp} {pu : Bool} {b : Bool} {ρ : Ev} {Q : Bool → Hp → Prop} {pu' : Bool} (p : PostT K H0 H O σ ⟨pu' && pu, b, ρ⟩ Q) (k : Grow H0 H O H0' H' O') (hp : pu' = true → Same H H') : PostT K H0' H' O' σ ⟨pu, b, ρ⟩ Q :=
  fun H0'' H'' O'' k2 hp2 S => p H0'' H'' O'' (k.trans0 k2) (fun z => by have z' := Bool.and_eq_true_iff.mp z; exact L2.Same.trans (hp z'.1) (hp2 z'.2)) S
theorem PostX.of_grow {O O' : Fp} {σ : L2.St} {H0' H' : Hp} {c : Str} {fs : List (Str × PV)} {ρ : Ev} {W : WX} (p : PostX g H0 H O σ c fs ρ W) (k : Grow H0 H O H0' H' O') : PostX g H0' H' O' σ c fs ρ W :=
  fun H0'' H'' O'' d k2 s x => p H0'' H'' O'' d (k.trans0 k2) s x
theorem PostR.of_grow {O O' : Fp} {σ : L2.St} {H0' H' : Hp} {r : Rr} {pu' : Bool} {Q : VK} (p : PostR K H0 H O σ ⟨pu' && r.pu, r.ow, r.lv, r.x, r.ρ⟩ Q) (k : Grow H0 H O H0' H' O') (hp : pu' = true → Same H H') : PostR K H0' H' O' σ r Q :=
  fun v H0'' H'' O'' B k2 hp2 S T w => p v H0'' H'' O'' B (k.trans0 k2) (fun z => by have z' := Bool.and_eq_true_iff.mp z; exact L2.Same.trans (hp z'.1) (hp2 z'.2)) S T w
def tNotF (f : TFn) : TFn := fun ρ => (f ρ).bind fun r => .ok ⟨r.pu, !r.b, r.ρ⟩
def tSeqF (c : Bool) (f h : TFn) : TFn := fun ρ => (f ρ).bind fun r => if r.b = c then (h r.ρ).bind fun r' => .ok ⟨r.pu && r'.pu, r'.b, r'.ρ⟩ else .ok r
theorem tv_not (ha : TV g Γ a ta) : TV g Γ (.UnaryOp .Not a pos) (tNotF ta) := fun X W F => by
  refine PT.imp (L2.pt_not (ha X W F)) fun σ H Q ⟨H0, O, ρ, S, q⟩ => ⟨H0, O, ρ, S, ?_⟩
  unfold tNotF at q
  cases e : ta ρ with
  | bad => rw [e] at q; exact q
  | exc c fs ρ' => rw [e] at q; exact q
  | ok r => rw [e] at q; exact fun H0' H' O' k hp S' => q H0' H' O' k hp S'
theorem seq_run {W : WX} {c : Bool} {σ : L2.St} {Q : Bool → Hp → Prop} (p : tT g W (tSeqF c ta tb) σ H Q) : tT g W ta σ H fun b H1 => if b = c then tT g W tb σ H1 Q else Q b H1 := by
  obtain ⟨H0, O, ρ, S, q⟩ := p
  refine ⟨H0, O, ρ, S, ?_⟩
  unfold tSeqF at q
  cases e : ta ρ with
  | bad => rw [e] at q; exact q
  | exc c fs ρ' => rw [e] at q; exact q
  | ok r =>
    rw [e] at q
    simp only [Res.bind] at q
    intro H0' H' O' k hp S'
    by_cases hb : r.b = c
    · rw [if_pos hb] at q ⊢
      refine ⟨H0', O', r.ρ, S', ?_⟩
      cases e2 : tb r.ρ with
      | bad => rw [e2] at q; exact q
      | exc c fs ρ' => rw [e2] at q; exact PostX.of_grow q k
      | ok r' => rw [e2] at q; exact PostT.of_grow q k hp
    · rw [if_neg hb] at q ⊢
      exact q H0' H' O' k hp S'
theorem tT.mono {W : WX} {f : TFn} {σ : L2.St} {Q Q' : Bool → Hp → Prop} (p : tT g W f σ H Q) (h : ∀ v H, Q v H → Q' v H) : tT g W f σ H Q' := by
  obtain ⟨H0, O, ρ, S, q⟩ := p
  refine ⟨H0, O, ρ, S, ?_⟩
  cases e : f ρ with
  | ok r => rw [e] at q; exact fun H0' H' O' a b c => h _ _ (q H0' H' O' a b c)
  | exc c fs ρ' => rw [e] at q; exact q
  | bad => rw [e] at q; exact q
theorem tw_and (ha : TV g Γ a ta) (hb : TW g Γ (.BoolOp .And (b :: rest) pos) tb) : TW g Γ (.BoolOp .And (a :: b :: rest) pos) (tSeqF true ta tb) := fun X W F =>
  PW.imp (pw_and (ha X W F) (hb X W F)) fun σ H Q p => seq_run p |> fun p => tT.mono p fun v H q => by
    cases v with
    | true => exact q
    | false => rw [if_neg (by decide)] at q ⊢; exact q
theorem tw_or (ha : TV g Γ a ta) (hb : TW g Γ (.BoolOp .Or (b :: rest) pos) tb) : TW g Γ (.BoolOp .Or (a :: b :: rest) pos) (tSeqF false ta tb) := fun X W F =>
  PW.imp (pw_or (ha X W F) (hb X W F)) fun σ H Q p => seq_run p |> fun p => tT.mono p fun v H q => by
    cases v with
    | true => rw [if_pos rfl]; rw [if_neg (by decide)] at q; exact q
    | false => rw [if_neg (by decide)]; rw [if_pos rfl] at q; exact q
theorem tw_and1 (ha : TV g Γ a ta) : TW g Γ (.BoolOp .And [a] pos) ta := fun X W F => pw_and1 (ha X W F)
theorem tw_or1 (ha : TV g Γ a ta) : TW g Γ (.BoolOp .Or [a] pos) ta := fun X W F => pw_or1 (ha X W F)

/-! ### the same as values -/
def eSeqF (c : Bool) (f h : EF) : EF := fun ρ => (f ρ).bind fun r => match r.x.tru with
  | none => .bad
  | some b => if b = c then (h r.ρ).bind fun r' => .ok ⟨r.pu && r'.pu, r'.ow, r'.lv, r'.x, r'.ρ⟩ else .ok r
def eNotF (f : TFn) : EF := fun ρ => (f ρ).bind fun r => .ok ⟨r.pu, true, 0, .bl (!r.b), r.ρ⟩
def eIf (t : TFn) (f h : EF) : EF := fun ρ => (t ρ).bind fun r => ((if r.b = true then f r.ρ else h r.ρ)).bind fun r' => .ok ⟨r.pu && r'.pu, r'.ow, r'.lv, r'.x, r'.ρ⟩
theorem vseq_run {W : WX} {c : Bool} {σ : L2.St} {Q : VK} (p : tF g W (eSeqF c fa fb) σ H Q) : tF g W fa σ H fun x H1 => ∃ k, TruV g.K x H1 k ∧ if k = c then tF g W fb σ H1 Q else Q x H1 := by
  obtain ⟨H0, O, ρ, S, q⟩ := p
  refine ⟨H0, O, ρ, S, ?_⟩
  unfold eSeqF at q
  cases e : fa ρ with
  | bad => rw [e] at q; exact q
  | exc c fs ρ' => rw [e] at q; exact q
  | ok r =>
    rw [e] at q
    simp only [Res.bind] at q
    intro v H0' H' O' B k hp S' T w
    have k0 : Grow H0 H O H0' H' O' := k.mono fun a z => .inl z
    cases ht : r.x.tru with
    | none => rw [ht] at q; exact q.elim
    | some b =>
      rw [ht] at q
      have z : ∃ F, Own g.K H0' H' r.x r.lv v F := by
        split at w
        · exact ⟨_, w⟩
        · exact w
      obtain ⟨F, z⟩ := z
      refine ⟨b, own_tru S'.sub z ht, ?_⟩
      by_cases hb : b = c
      · simp only [hb, ↓reduceIte] at q ⊢
        refine ⟨H0', O', r.ρ, S', ?_⟩
        cases e2 : fb r.ρ with
        | bad => rw [e2] at q; exact q
        | exc c fs ρ' => rw [e2] at q; exact PostX.of_grow q k0
        | ok r' => rw [e2] at q; exact PostR.of_grow q k0 hp
      · simp only [hb, ↓reduceIte] at q ⊢
        exact q v H0' H' O' B k hp S' T w
theorem ev_and (ha : EV g Γ a fa) (hb : EV g Γ (.BoolOp .And (b :: rest) pos) fb) : EV g Γ (.BoolOp .And (a :: b :: rest) pos) (eSeqF true fa fb) := fun X W F =>
  PE.imp (pe_andT (ha X W F) (hb X W F)) fun σ H Q p => tF.mono (vseq_run p) fun x H1 ⟨k, z, q⟩ => ⟨k, by rw [F.K]; exact z, q⟩
theorem ev_or (ha : EV g Γ a fa) (hb : EV g Γ (.BoolOp .Or (b :: rest) pos) fb) : EV g Γ (.BoolOp .Or (a :: b :: rest) pos) (eSeqF false fa fb) := fun X W F =>
  PE.imp (pe_orT (ha X W F) (hb X W F)) fun σ H Q p => tF.mono (vseq_run p) fun x H1 ⟨k, z, q⟩ => ⟨k, by rw [F.K]; exact z, by
    cases k with
    | true => rw [if_pos rfl]; rw [if_neg (by decide)] at q; exact q
    | false => rw [if_neg (by decide)]; rw [if_pos rfl] at q; exact q⟩
theorem if_run {W : WX} {t : TFn} {σ : L2.St} {Q : VK} (p : tF g W (eIf t fa fb) σ H Q) : tT g W t σ H fun k H1 => if k = true then tF g W fa σ H1 Q else tF g W fb σ H1 Q := by
  obtain ⟨H0, O, ρ, S, q⟩ := p
  refine ⟨H0, O, ρ, S, ?_⟩
  unfold eIf at q
  cases e : t ρ with
  | bad => rw [e] at q; exact q
  | exc c fs ρ' => rw [e] at q; exact q
  | ok r =>
    rw [e] at q
    simp only [Res.bind] at q
    intro H0' H' O' k hp S'
    by_cases hb : r.b = true
    · simp only [hb, ↓reduceIte] at q ⊢
      refine ⟨H0', O', r.ρ, S', ?_⟩
      cases e2 : fa r.ρ with
      | bad => rw [e2] at q; exact q
      | exc c fs ρ' => rw [e2] at q; exact PostX.of_grow q k
      | ok r' => rw [e2] at q; exact PostR.of_grow q k hp
    · simp only [hb, ↓reduceIte] at q ⊢
      refine ⟨H0', O', r.ρ, S', ?_⟩
      cases e2 : fb r.ρ with
      | bad => rw [e2] at q; exact q
      | exc c fs ρ' => rw [e2] at q; exact PostX.of_grow q k
      | ok r' => rw [e2] at q; exact PostR.of_grow q k hp
theorem ev_ifx (hc : TV g Γ c ta) (ha : EV g Γ a fa) (hb : EV g Γ b fb) : EV g Γ (.IfExp c a b pos) (eIf ta fa fb) := fun X W F =>
  PE.imp (pe_ifExp (hc X W F) (ha X W F) (hb X W F)) fun σ H Q p => if_run p
theorem notv_run {W : WX} {σ : L2.St} {Q : VK} (p : tF g W (eNotF (tOf fa)) σ H Q) : tF g W fa σ H fun x H1 => ∃ k, TruV g.K x H1 k ∧ Q (.bl (!k)) H1 := by
  refine tOf_run ?_
  obtain ⟨H0, O, ρ, S, q⟩ := p
  refine ⟨H0, O, ρ, S, ?_⟩
  unfold eNotF at q
  cases e : tOf fa ρ with
  | bad => rw [e] at q; exact q
  | exc c fs ρ' => rw [e] at q; exact q
  | ok r =>
    rw [e] at q
    simp only [Res.bind] at q
    exact fun H0' H' O' k hp S' => q _ H0' H' O' noF (k.mono fun a z => z.elim id False.elim) hp S' .no rfl
theorem ev_not (ha : EV g Γ a fa) : EV g Γ (.UnaryOp .Not a pos) (eNotF (tOf fa)) := fun X W F =>
  PE.imp (pe_notT (ha X W F)) fun σ H Q p => tF.mono (notv_run p) fun x H1 ⟨k, z, q⟩ => ⟨k, by rw [F.K]; exact z, q⟩
theorem ev_one {op} (ha : EV g Γ a fa) : EV g Γ (.BoolOp op [a] pos) fa := fun X W F => L2.pe_one (ha X W F)
end
end Pv

set_option maxRecDepth 100000
set_option maxHeartbeats 1000000
namespace Pv
open PySem PySem.Spec PyProof.Rows L2

section
variable {g : Prg} {Γ : Sx} {K : PySem.W.Frag} {H0 H : Hp}
/-! ## lists of shared values -/
abbrev Sh (K : PySem.W.Frag) (H0 H : Hp) : List PV → List V → Prop := Paired fun x v => Own K H0 H x 0 v noF
theorem own_pair : ∀ {xs : List PV} {vs : List V} {F : Fp}, OwnL K H0 H xs 0 vs F → Sh K H0 H xs vs
  | [], _, _, h => by rw [show _ = ([] : List V) from h]; exact .nil
  | x :: xs, _, F, ⟨v, vs', G, e, h1, h2⟩ => by rw [e]; exact .cons (own0 (fun _ _ z => z) _ _ _ _ h1) (own_pair h2)
theorem pair_own : ∀ {xs : List PV} {vs : List V} {F : Fp}, Sh K H0 H xs vs → OwnL K H0 H xs 0 vs F
  | [], _, _, .nil => rfl
  | x :: xs, _, F, .cons h t => ⟨_, _, noF, rfl, own0 (fun _ _ z => z) _ _ _ _ h, pair_own t⟩
theorem Paired.drop {α β : Type} {R : α → β → Prop} : ∀ {xs : List α} {ys : List β} (n : Nat), Paired R xs ys → Paired R (xs.drop n) (ys.drop n)
  | _, _, 0, h => h
  | _, _, _ + 1, .nil => .nil
  | _, _, n + 1, .cons _ t => Paired.drop n t
theorem Paired.take {α β : Type} {R : α → β → Prop} : ∀ {xs : List α} {ys : List β} (n : Nat), Paired R xs ys → Paired R (xs.take n) (ys.take n)
  | _, _, 0, _ => .nil
  | _, _, _ + 1, .nil => .nil
  | _, _, n + 1, .cons h t => .cons h (Paired.take n t)
theorem Paired.app {α β : Type} {R : α → β → Prop} : ∀ {xs xs' : List α} {ys ys' : List β}, Paired R xs ys → Paired R xs' ys' → Paired R (xs ++ xs') (ys ++ ys')
  | _, _, _, _, .nil, k => k
  | _, _, _, _, .cons h t, k => .cons h (Paired.app t k)
theorem Paired.gets {α β : Type} {R : α → β → Prop} : ∀ {xs : List α} {ys : List β} {i : Nat} {x : α}, Paired R xs ys → xs[i]? = some x → ∃ y, ys[i]? = some y ∧ R x y
  | _, _, _, _, .nil, e => by simp at e
  | _, _, 0, _, .cons h t, e => by simp at e; subst e; exact ⟨_, rfl, h⟩
  | _, _, i + 1, _, .cons h t, e => by
    obtain ⟨y, a, b⟩ := Paired.gets (i := i) t (by simpa using e)
    exact ⟨y, by simpa using a, b⟩
theorem Paired.gets' {α β : Type} {R : α → β → Prop} : ∀ {xs : List α} {ys : List β} {i : Nat} {y : β}, Paired R xs ys → ys[i]? = some y → ∃ x, xs[i]? = some x ∧ R x y
  | _, _, _, _, .nil, e => by simp at e
  | _, _, 0, _, .cons h t, e => by simp at e; subst e; exact ⟨_, rfl, h⟩
  | _, _, i + 1, _, .cons h t, e => by
    obtain ⟨y, a, b⟩ := Paired.gets' (i := i) t (by simpa using e)
    exact ⟨y, by simpa using a, b⟩
theorem sh_tr {H0' H' : Hp} (hs : Same H0 H0') : ∀ {xs : List PV} {vs : List V}, Sh K H0 H xs vs → Sh K H0' H' xs vs
  | _, _, .nil => .nil
  | _, _, .cons h t => .cons (own0 hs _ _ _ _ h) (sh_tr hs t)
/-- arguments that may be put away -/
def shOk (p : Nat × PV) : Bool := p.1 == 0 || p.2.imm
theorem views_sh : ∀ {ps : List (Nat × PV)} {vs : List V}, Views K H0 H ps vs → ps.all shOk = true → Sh K H0 H (ps.map (·.2)) vs
  | _, _, .nil, _ => .nil
  | p :: ps, _, .cons h t, e => by
    rw [List.all_cons, Bool.and_eq_true] at e
    obtain ⟨F, h⟩ := h
    have c : p.1 = 0 ∨ p.2.imm = true := by
      have := e.1
      unfold shOk at this
      simpa using this
    exact .cons (own_imm h c fun _ _ z => z) (views_sh t e.2)

/-! ## displays -/
def pTup : PO := fun ps => if ps.all shOk = true ∧ ps.length ≤ sizeLine then sc (.tup (ps.map (·.2))) else none
def pLst : PO := fun ps => if ps.all shOk = true ∧ ps.length ≤ sizeLine then some ⟨true, 1, .lst (ps.map (·.2))⟩ else none
theorem views_len {ps : List (Nat × PV)} {vs : List V} (h : Views K H0 H ps vs) : vs.length = ps.length := (Paired.length h).symm
variable {es : List Expr} {af : AF} {pos : Pos}
theorem ev_tup {x1} (ha : AV g Γ es af) : EV g Γ (.Tuple es x1 pos) (eOp pTup af) :=
  ev_opn (r := fun xs H1 Q => xs.length ≤ sizeLine ∧ ∀ p, H1 p = none → Q (.ref p) (upd H1 p (.tup xs))) (fun H0 H ps vs o Q s w e G => by
    unfold pTup at e
    split at e
    · rename_i hc
      cases e
      exact ⟨by rw [views_len w]; exact hc.2, gives_tup (F := noF) G s (pair_own (views_sh w hc.1))⟩
    · cases e) (fun X W F t ht => pe_tup ht) ha
theorem ev_lst (ha : AV g Γ es af) : EV g Γ (.List es pos) (eOp pLst af) :=
  ev_opn (r := fun xs H1 Q => xs.length ≤ sizeLine ∧ ∀ p, H1 p = none → Q (.ref p) (upd H1 p (.lst xs))) (fun H0 H ps vs o Q s w e G => by
    unfold pLst at e
    split at e
    · rename_i hc
      cases e
      exact ⟨by rw [views_len w]; exact hc.2, gives_lst (F := noF) G s (pair_own (views_sh w hc.1))⟩
    · cases e) (fun X W F t ht => pe_lst ht) ha

/-! ## subscripts -/
/-- an item of a list, a tuple, a text -/
def pIx : PO
  | [(n, x), (_, .int i)] => match x with
    | .str z => if z.length ≤ sizeLine then (atI z.cps.toList i).bind fun c => sc (.str ⟨#[c]⟩) else none
    | _ => (x.items n).bind fun q => (atI q.2 i).bind fun y => some ⟨q.1 == 0 || y.imm, if y.imm = true then 0 else q.1, y⟩
  | _ => none
theorem ixN_len {xs : List PV} {vs : List V} {n : Nat} {F : Fp} (h : OwnL K H0 H xs n vs F) (i : Int) : ixN vs.length i = ixN xs.length i := by rw [ownL_len h]
theorem rok_ix : ROk K (fun vs H Q => ∃ x y, vs = [x, y] ∧ rIx K x y H Q) pIx := by
  intro H0 H ps vs o Q s w e G
  unfold pIx at e
  split at e
  · rename_i n x m i
    obtain ⟨v, u, F, F', rfl, h1, h2⟩ := views2 w
    cases (show u = _ from h2)
    split at e
    · cases (show v = _ from h1)
      split at e
      · obtain ⟨c, e1, e2⟩ := Option.bind_eq_some_iff.mp e
        exact ⟨_, _, rfl, .inr (.inr ⟨_, _, c, rfl, rfl, ‹_›, e1, sc_gives e2 G s rfl⟩)⟩
      · cases e
    · obtain ⟨⟨m, xs⟩, e1, e2⟩ := Option.bind_eq_some_iff.mp e
      obtain ⟨y, e3, e4⟩ := Option.bind_eq_some_iff.mp e2
      obtain ⟨a, vs, G', rfl, hs, ho⟩ := own_items s h1 e1
      have e5 : (ixN xs.length i).bind (fun j => xs[j]?) = some y := e3
      obtain ⟨j, e6, e7⟩ := Option.bind_eq_some_iff.mp e5
      obtain ⟨u, G'', e8, _, oy⟩ := ownL_get ho e7
      have e9 : atI vs i = some u := by
        unfold atI
        rw [ixN_len ho, e6]
        exact e8
      have q : Q u H := by
        cases e4
        refine G u H0 H noF (.refl s) ?_
        by_cases c : m = 0 ∨ y.imm = true
        · have z := own_imm (F' := noF) oy c (H' := H) fun _ _ z => z
          have z' : Own K H0 H y (if y.imm = true then 0 else m) u noF := by
            rcases c with c | c
            · subst c; rw [ite_self]; exact z
            · rw [if_pos c]; exact z
          show if (m == 0 || y.imm) = true then _ else _
          rw [if_pos (by rcases c with c | c <;> simp [c])]
          exact z'
        · show if (m == 0 || y.imm) = true then _ else _
          have c1 : ¬ m = 0 := fun z => c (.inl z)
          have c2 : ¬ y.imm = true := fun z => c (.inr z)
          rw [if_neg (by simp [c1, c2])]
          exact ⟨G'', by show Own K H0 H y (if y.imm = true then 0 else m) u G''; rw [if_neg c2]; exact oy⟩
      rcases hs with hs | hs
      · exact ⟨_, _, rfl, .inl ⟨a, vs, i, u, rfl, rfl, hs, e9, q⟩⟩
      · exact ⟨_, _, rfl, .inr (.inl ⟨a, vs, i, u, rfl, rfl, hs, e9, q⟩)⟩
  · cases e
def noSlice : Expr → Bool
  | .Slice _ _ _ _ => false
  | _ => true
theorem plain_ix {b : Expr} (h : noSlice b = true) : PlainIx b := fun o i => by
  cases b <;> first | rfl | cases h
variable {a b c : Expr} {fa fb fc : EF}
theorem ev_ix (hs : noSlice b = true) (ha : EV g Γ a fa) (hb : EV g Γ b fb) : EV g Γ (.Subscript a b pos) (eOp pIx (aCons fa (aCons fb aNil))) :=
  ev_op2 rok_ix (fun X W F ta tb ha hb => by rw [← F.K]; exact pe_ix ix_seq ha hb (plain_ix hs)) ha hb

/-! ## slices -/
def cutL {α : Type} (xs : List α) (lo hi : Option Int) : List α := (xs.drop (HT.sIx xs.length 0 lo)).take (HT.sIx xs.length xs.length hi - HT.sIx xs.length 0 lo)
def pSl (x : Nat × PV) (lo hi : Option Int) : Option Po := match x with
  | (n, .lst xs) => if n ≤ 1 then some ⟨true, 1, .lst (cutL xs lo hi)⟩ else none
  | (_, .clst xs) => some ⟨true, 1, .lst (cutL xs lo hi)⟩
  | (_, .tup xs) => sc (.tup (cutL xs lo hi))
  | (_, .str z) => if z.length ≤ sizeLine then sc (.str (cutS z lo hi)) else none
  | _ => none
def rSlAll (K : PySem.W.Frag) : V → Option Int → Option Int → Hp → VK → Prop := fun x lo hi H Q => rSlL K x lo hi H Q ∨ (rSlA K x lo hi H Q ∨ rSlS x lo hi H Q)
theorem sl_all {X : Cx} : SlR X (rSlAll X.K) := SlR.or sl_list (SlR.or sl_tupA sl_str)
theorem cut_sh {xs : List PV} {vs : List V} {lo hi : Option Int} (h : Sh K H0 H xs vs) : Sh K H0 H (cutL xs lo hi) (cutV vs lo hi) := by
  unfold cutL cutV
  rw [Paired.length h]
  exact Paired.take _ (Paired.drop _ h)
theorem cut_whole {α : Type} {xs : List α} {lo hi : Option Int} (h : HT.sIx xs.length 0 lo = 0 ∧ HT.sIx xs.length xs.length hi = xs.length) : cutL xs lo hi = xs := by
  unfold cutL
  rw [h.1, h.2, Nat.sub_zero, List.drop_zero, List.take_length]
theorem rok_sl {x : Nat × PV} {lo hi : Option Int} {v : V} {F : Fp} {o : Po} {Q : VK} (s : Same H0 H) (w : Own K H0 H x.2 x.1 v F) (e : pSl x lo hi = some o) (G : Gives K H0 H o Q) : rSlAll K v lo hi H Q := by
  obtain ⟨n, x⟩ := x
  unfold pSl at e
  split at e
  · rename_i m xs q
    cases q
    split at e
    · cases e
      obtain ⟨a, vs, rfl, h1, h2⟩ := lst_lv s w ‹_›
      exact .inl ⟨a, vs, rfl, .inl (.inl h1), gives_lst (F := noF) G s (pair_own (cut_sh (own_pair h2)))⟩
    · cases e
  · rename_i m xs q
    cases q
    cases e
    obtain ⟨a, vs, rfl, h1, h2⟩ := w
    exact .inl ⟨a, vs, rfl, s.seq h1, gives_lst (F := noF) G s (pair_own (cut_sh (own_pair h2)))⟩
  · rename_i m xs q
    cases q
    cases e
    obtain ⟨a, vs, rfl, h1, h2⟩ := own_tup s w
    refine .inr (.inl ⟨a, vs, rfl, .inl (.inl h1), fun q => ?_, fun _ => gives_tup (F := noF) G s (pair_own (cut_sh (own_pair h2)))⟩)
    rw [ownL_len h2] at q
    rw [cut_whole q] at G
    exact gives_imm G s (own_imm (F' := noF) (H' := H) w (.inr rfl) fun _ _ z => z)
  · rename_i m z q
    cases q
    cases (show v = _ from w)
    split at e
    · exact .inr (.inr ⟨_, rfl, ‹_›, sc_gives e G s rfl⟩)
    · cases e
  · cases e
/-- as aCons, the first one's kind looked at once -/
def aConsT (ty : PV → Bool) (f : EF) (af : AF) : AF := fun ρ => (f ρ).bind fun r => if ty r.x = true then (af r.ρ).bind fun a =>
  if stays r a.pu = true then .ok ⟨r.pu && a.pu, (r.lv, r.x) :: a.vs, a.ρ⟩ else .bad else .bad
theorem tA_consT {W : WX} {ty : PV → Bool} {f : EF} {af : AF} {σ : L2.St} {Q : List V → Hp → Prop} (p : tA g W (aConsT ty f af) σ H Q) :
    tF g W f σ H fun x H1 => (∃ H0 n y F, Same H0 H1 ∧ Own g.K H0 H1 y n x F ∧ ty y = true) ∧ tA g W af σ H1 fun xs H2 => Q (x :: xs) H2 := by
  obtain ⟨H0, O, ρ, S, q⟩ := p
  refine ⟨H0, O, ρ, S, ?_⟩
  unfold aConsT at q
  cases hf : f ρ with
  | bad => rw [hf] at q; exact q
  | exc c fs ρ' => rw [hf] at q; exact q
  | ok r =>
    rw [hf] at q
    show PostR _ _ _ _ _ r _
    intro v H0' H' O' B k hpu S' T o
    simp only [Res.bind] at q
    by_cases ht : ty r.x = true
    · rw [if_pos ht] at q
      have z : ∃ F, Own g.K H0' H' r.x r.lv v F := by
        split at o
        · exact ⟨_, o⟩
        · exact o
      obtain ⟨F, z⟩ := z
      refine ⟨⟨H0', _, _, F, S'.sub, z, ht⟩, H0', O', r.ρ, S', ?_⟩
      cases ha : af r.ρ with
      | bad => rw [ha] at q; exact q
      | exc c fs ρ' => rw [ha] at q; exact PostX.step q k
      | ok a =>
        rw [ha] at q
        simp only [] at q
        by_cases hs : stays r a.pu = true
        · rw [if_pos hs] at q
          intro vs H0'' H'' O'' k2 hpu2 S'' vw
          refine q (v :: vs) H0'' H'' O'' ((k.trans k2).mono fun a z => .inl z) (fun z => ?_) S'' (.cons (view_stay hs T o k2 hpu2) vw)
          have z' := Bool.and_eq_true_iff.mp z
          exact L2.Same.trans (hpu z'.1) (hpu2 z'.2)
        · rw [if_neg hs] at q
          exact q.elim
    · rw [if_neg ht] at q
      exact q.elim
def PV.isInt : PV → Bool
  | .int _ => true
  | _ => false
theorem own_isInt {x : PV} {n : Nat} {v : V} {F : Fp} (h : Own K H0 H x n v F) (e : x.isInt = true) : ∃ i, v = .int i := by
  cases x <;> first | exact ⟨_, h⟩ | cases e
def pSlc (lo hi : Bool) : PO := fun ps => match lo, hi, ps with
  | false, false, [x] => pSl x none none
  | true, false, [x, (_, .int i)] => pSl x (some i) none
  | false, true, [x, (_, .int j)] => pSl x none (some j)
  | true, true, [x, (_, .int i), (_, .int j)] => pSl x (some i) (some j)
  | _, _, _ => none
def rSlc (K : PySem.W.Frag) (lo hi : Bool) : List V → Hp → VK → Prop := fun vs H Q => match lo, hi with
  | false, false => ∃ x, vs = [x] ∧ rSlAll K x none none H Q
  | true, false => ∃ x i, vs = [x, .int i] ∧ rSlAll K x (some i) none H Q
  | false, true => ∃ x j, vs = [x, .int j] ∧ rSlAll K x none (some j) H Q
  | true, true => ∃ x i j, vs = [x, .int i, .int j] ∧ rSlAll K x (some i) (some j) H Q
theorem rok_slc (lo hi : Bool) : ROk K (rSlc K lo hi) (pSlc lo hi) := by
  intro H0 H ps vs o Q s w e G
  unfold pSlc at e
  split at e
  · obtain ⟨v, F, rfl, h1⟩ := views1 w
    exact ⟨v, rfl, rok_sl s h1 e G⟩
  · obtain ⟨v, u, F, F', rfl, h1, h2⟩ := views2 w
    cases (show u = _ from h2)
    exact ⟨v, _, rfl, rok_sl s h1 e G⟩
  · obtain ⟨v, u, F, F', rfl, h1, h2⟩ := views2 w
    cases (show u = _ from h2)
    exact ⟨v, _, rfl, rok_sl s h1 e G⟩
  · obtain ⟨v, u, t, F, F', F'', rfl, h1, h2, h3⟩ := views3 w
    cases (show u = _ from h2)
    cases (show t = _ from h3)
    exact ⟨v, _, _, rfl, rok_sl s h1 e G⟩
  · cases e
variable {p2 : Pos}
theorem sl_fit {X : Cx} {W : WX} (F : Fits g Γ X W) : SlR X (rSlAll g.K) := by
  rw [← F.K]
  exact sl_all
theorem ev_sl00 (ha : EV g Γ a fa) : EV g Γ (.Subscript a (.Slice none none none p2) pos) (eOp (pSlc false false) (aCons fa aNil)) := fun X W F => by
  refine PE.imp (pe_slice (sl_fit F) (ha X W F) po_none po_none) fun σ H Q p => ?_
  refine tF.mono (tA_cons (op_run (rok_slc _ _) p)) fun x H1 p1 => ?_
  obtain ⟨x', e, q⟩ := tA_nil p1
  cases e
  exact q
theorem ev_sl10 (ha : EV g Γ a fa) (hb : EV g Γ b fb) : EV g Γ (.Subscript a (.Slice (some b) none none p2) pos) (eOp (pSlc true false) (aCons fa (aConsT PV.isInt fb aNil))) := fun X W F => by
  refine PE.imp (pe_slice (sl_fit F) (ha X W F) (po_some (hb X W F)) po_none) fun σ H Q p => ?_
  refine tF.mono (tA_cons (op_run (rok_slc _ _) p)) fun x H1 p1 => tF.mono (tA_consT p1) fun y H2 p2 => ?_
  obtain ⟨x', i, e, q⟩ := tA_nil p2.2
  cases e
  exact ⟨i, rfl, q⟩
theorem ev_sl01 (ha : EV g Γ a fa) (hb : EV g Γ b fb) : EV g Γ (.Subscript a (.Slice none (some b) none p2) pos) (eOp (pSlc false true) (aCons fa (aConsT PV.isInt fb aNil))) := fun X W F => by
  refine PE.imp (pe_slice (sl_fit F) (ha X W F) po_none (po_some (hb X W F))) fun σ H Q p => ?_
  refine tF.mono (tA_cons (op_run (rok_slc _ _) p)) fun x H1 p1 => tF.mono (tA_consT p1) fun y H2 p2 => ?_
  obtain ⟨x', i, e, q⟩ := tA_nil p2.2
  cases e
  exact ⟨i, rfl, q⟩
theorem ev_sl11 (ha : EV g Γ a fa) (hb : EV g Γ b fb) (hc : EV g Γ c fc) : EV g Γ (.Subscript a (.Slice (some b) (some c) none p2) pos) (eOp (pSlc true true) (aCons fa (aConsT PV.isInt fb (aConsT PV.isInt fc aNil)))) := fun X W F => by
  refine PE.imp (pe_slice (sl_fit F) (ha X W F) (po_some (hb X W F)) (po_some (hc X W F))) fun σ H Q p => ?_
  refine tF.mono (tA_cons (op_run (rok_slc _ _) p)) fun x H1 p1 => tF.mono (tA_consT p1) fun y H2 p2 => ?_
  obtain ⟨⟨_, _, _, _, _, o, t⟩, p2⟩ := p2
  obtain ⟨i, rfl⟩ := own_isInt o t
  refine ⟨i, rfl, tF.mono (tA_consT p2) fun z H3 p3 => ?_⟩
  obtain ⟨⟨_, _, _, _, _, o, t⟩, p3⟩ := p3
  obtain ⟨j, rfl⟩ := own_isInt o t
  obtain ⟨_, _, _, e, q⟩ := tA_nil p3
  cases e
  exact ⟨_, rfl, q⟩

/-! ## a chain of two comparisons -/
def eChain (po po' : PO) (fa fb fc : EF) : EF := fun ρ => (aCons fa (aCons fb aNil) ρ).bind fun a => match a.vs with
  | [p, q] => match po [p, q] with
    | some ⟨_, _, .bl k⟩ => if k = true then (if shOk q = true then (fc a.ρ).bind fun r => match po' [q, (r.lv, r.x)] with
        | some o => .ok ⟨a.pu && r.pu, o.ow, o.lv, o.x, r.ρ⟩
        | none => .bad else .bad) else .ok ⟨a.pu, true, 0, .bl false, a.ρ⟩
    | _ => .bad
  | _ => .bad
theorem rpair {r : R2} {po : PO} {p q : Nat × PV} {v u : V} {o : Po} (hr : ROk K (fun vs H Q => ∃ x y, vs = [x, y] ∧ r x y H Q) po) (s : Same H0 H) (w : Views K H0 H [p, q] [v, u]) (ho : po [p, q] = some o) {P : V → V → VK} (Qf : VK) (hP : P v u = Qf) (G : Gives K H0 H o Qf) :
    ∃ x y, [v, u] = [x, y] ∧ r x y H (P x y) := by
  obtain ⟨x, y, e, z⟩ := hr H0 H [p, q] [v, u] o Qf s w ho G
  cases e
  exact ⟨v, u, rfl, by rw [hP]; exact z⟩
theorem chain_run {W : WX} {po po' : PO} {r r' : R2} {σ : L2.St} {Q : VK} (hr : ROk g.K (fun vs H Q => ∃ x y, vs = [x, y] ∧ r x y H Q) po) (hr' : ROk g.K (fun vs H Q => ∃ x y, vs = [x, y] ∧ r' x y H Q) po') (hb : BoolPO po) (hb' : BoolPO po')
    (p : tF g W (eChain po po' fa fb fc) σ H Q) : tChain r r' (tF g W fa) (tF g W fb) (tF g W fc) σ H Q := by
  have key : tA g W (aCons fa (aCons fb aNil)) σ H fun vs H2 => ∃ x y, vs = [x, y] ∧ r x y H2 fun z H3 => ∃ k, z = V.bl k ∧ (if k = true then tF g W fc σ H3 fun w' H4 => r' y w' H4 Q else Q (.bl false) H3) := by
    obtain ⟨H0, O, ρ, S, q⟩ := p
    refine ⟨H0, O, ρ, S, ?_⟩
    unfold eChain at q
    cases e : aCons fa (aCons fb aNil) ρ with
    | bad => rw [e] at q; exact q
    | exc c fs ρ' => rw [e] at q; exact q
    | ok a =>
      rw [e] at q
      simp only [Res.bind] at q
      intro vs H0' H' O' k hp S' vw
      cases hv : a.vs with
      | nil => rw [hv] at q; exact q.elim
      | cons p1 l =>
        cases l with
        | nil => rw [hv] at q; exact q.elim
        | cons p2 l2 =>
          cases l2 with
          | cons _ _ => rw [hv] at q; exact q.elim
          | nil =>
            rw [hv] at q vw
            simp only [] at q
            cases ho : po [p1, p2] with
            | none => rw [ho] at q; exact q.elim
            | some o =>
              obtain ⟨b, rfl⟩ := hb _ _ ho
              rw [ho] at q
              simp only [] at q
              obtain ⟨v, u, F, F', rfl, h1, h2⟩ := views2 vw
              refine rpair hr S'.sub vw ho (fun z H3 => ∃ k, z = V.bl k ∧ (if k = true then tF g W fc σ H3 fun w' H4 => r' u w' H4 Q else Q (V.bl false) H3)) rfl fun z H0'' H'' B A w => ⟨b, w, ?_⟩
              --refine hr H0' H' [p1, p2] [v, u] _ (fun z H3 => ∃ k, z = V.bl k ∧ (if k = true then tF g W fc σ H3 fun w' H4 => r' u w' H4 Q else Q (V.bl false) H3)) S'.sub vw ho fun z H0'' H'' B A w => ⟨b, w, ?_⟩
              have k2 : Grow H0 H O H0'' H'' O' := (k.trans0 A.grow).mono fun a z => .inl z
              have S2 := A.st S'
              have hp2 : a.pu = true → Same H H'' := fun z => L2.Same.trans (hp z) A.sm
              by_cases hbb : b = true
              · simp only [hbb, ↓reduceIte] at q ⊢
                by_cases hs : shOk p2 = true
                · simp only [hs, ↓reduceIte] at q
                  refine ⟨H0'', O', a.ρ, S2, ?_⟩
                  cases e2 : fc a.ρ with
                  | bad => rw [e2] at q; exact q
                  | exc c fs ρ' => rw [e2] at q; exact PostX.of_grow q k2
                  | ok r1 =>
                    rw [e2] at q
                    simp only [] at q
                    intro y H03 H3 O3 B3 k3 hp3 S3 T3 w3
                    cases ho' : po' [p2, (r1.lv, r1.x)] with
                    | none => rw [ho'] at q; exact q.elim
                    | some o' =>
                      rw [ho'] at q
                      simp only [] at q
                      have c : p2.1 = 0 ∨ p2.2.imm = true := by
                        unfold shOk at hs
                        simpa using hs
                      have h2' : Own g.K H03 H3 p2.2 0 u noF := own_imm h2 c (L2.Same.trans A.sh k3.sh)
                      have v2 : ∃ F, Own g.K H03 H3 p2.2 p2.1 u F := by
                        rcases c with c | c
                        · rw [c]; exact ⟨noF, h2'⟩
                        · exact ⟨noF, imm_own h2' c fun _ _ z => z⟩
                      have v3 : ∃ F, Own g.K H03 H3 r1.x r1.lv y F := by
                        split at w3
                        · exact ⟨_, w3⟩
                        · exact w3
                      have z := hr' H03 H3 [p2, (r1.lv, r1.x)] [u, y] o' Q S3.sub (.cons v2 (.cons v3 .nil)) ho' (fin_op q (k2.trans0 (k3.mono fun a z => .inl z)) (fun z => by
                        have z' := Bool.and_eq_true_iff.mp z
                        exact L2.Same.trans (hp2 z'.1) (hp3 z'.2)) S3)
                      obtain ⟨x', y', e3, z⟩ := z
                      cases e3
                      exact z
                · simp only [hs, ↓reduceIte] at q
                  exact q.elim
              · simp only [hbb, ↓reduceIte] at q ⊢
                exact q _ H0'' H'' O' noF (k2.mono fun a z => z.elim id False.elim) hp2 S2 .no rfl
  refine tF.mono (tA_cons key) fun x H1 p1 => tF.mono (tA_cons p1) fun y H2 p2 => ?_
  obtain ⟨x', y', e, q⟩ := tA_nil p2
  cases e
  exact q
end
end Pv

set_option maxRecDepth 100000
set_option maxHeartbeats 1000000
namespace Pv
open PySem PySem.Spec PyProof.Rows L2

section
variable {g : Prg} {Γ : Sx} {K : PySem.W.Frag} {H0 H : Hp}
variable {a b c e : Expr} {es : List Expr} {fa fb fc : EF} {af : AF} {pos p p2 apos cpos : Pos} {x : Str} {v : V} {u : Value}
theorem ev_chain {op op' : CmpOp} {po po' : PO} {r r' : R2} (hr : ROk g.K (fun vs H Q => ∃ x y, vs = [x, y] ∧ r x y H Q) po) (hr' : ROk g.K (fun vs H Q => ∃ x y, vs = [x, y] ∧ r' x y H Q) po') (hb : BoolPO po) (hb' : BoolPO po')
    (ho : ∀ X W, Fits g Γ X W → OpR X (compareOp op) r) (ho' : ∀ X W, Fits g Γ X W → OpR X (compareOp op') r') (hs : noSet c = true) (ha : EV g Γ a fa) (hbb : EV g Γ b fb) (hc : EV g Γ c fc) :
    EV g Γ (.Compare a [op, op'] [b, c] pos) (eChain po po' fa fb fc) := fun X W F =>
  PE.imp (pe_chain (ho X W F) (ho' X W F) (ha X W F) (hbb X W F) (hc X W F) (show behindInMarks op' c = false from marks_no hs)) fun σ H Q p => chain_run hr hr' hb hb' p
/-- .. as a test -/
theorem tchain_run {W : WX} {po po' : PO} {r r' : R2} {σ : L2.St} {Q : Bool → Hp → Prop} (hr : ROk g.K (fun vs H Q => ∃ x y, vs = [x, y] ∧ r x y H Q) po) (hr' : ROk g.K (fun vs H Q => ∃ x y, vs = [x, y] ∧ r' x y H Q) po') (hb : BoolPO po) (hb' : BoolPO po')
    (q : tT g W (tOf (eChain po po' fa fb fc)) σ H Q) : tTest (tChain r r' (tF g W fa) (tF g W fb) (tF g W fc)) σ H Q := by
  refine chain_run hr hr' hb hb' ?_
  obtain ⟨H0, O, ρ, S, q⟩ := q
  refine ⟨H0, O, ρ, S, ?_⟩
  unfold tOf at q
  cases ee : eChain po po' fa fb fc ρ with
  | bad => rw [ee] at q; exact q
  | exc c fs ρ' => rw [ee] at q; exact q
  | ok r =>
    rw [ee] at q
    have hbl : ∃ k, r.x = .bl k := by
      unfold eChain at ee
      cases ea : aCons fa (aCons fb aNil) ρ with
      | bad => rw [ea] at ee; cases ee
      | exc c fs ρ' => rw [ea] at ee; cases ee
      | ok a =>
        rw [ea] at ee
        simp only [Res.bind] at ee
        split at ee
        · split at ee
          · split at ee
            · split at ee
              · rename_i a1 p1 p2 _ o1 o2 o3 k _ _ _
                cases ec : fc a.ρ with
                | bad => rw [ec] at ee; cases ee
                | exc c fs ρ' => rw [ec] at ee; cases ee
                | ok r1 =>
                  rw [ec] at ee
                  simp only [] at ee
                  split at ee
                  · rename_i o ho
                    obtain ⟨k, rfl⟩ := hb' _ _ ho
                    cases ee
                    exact ⟨k, rfl⟩
                  · cases ee
              · cases ee
            · cases ee
              exact ⟨false, rfl⟩
          · cases ee
        · cases ee
    obtain ⟨k, hk⟩ := hbl
    obtain ⟨pu, ow, lv, x, ρ'⟩ := r
    simp only at hk
    subst hk
    intro v H0' H' O' B kk hp S' T w
    have hv : v = .bl k := by
      split at w
      · exact w
      · obtain ⟨F, w⟩ := w; exact w
    exact ⟨k, hv, q H0' H' O' (kk.mono fun a z => .inl z) hp S'⟩
theorem tv_chain {op op' : CmpOp} {po po' : PO} {r r' : R2} (hr : ROk g.K (fun vs H Q => ∃ x y, vs = [x, y] ∧ r x y H Q) po) (hr' : ROk g.K (fun vs H Q => ∃ x y, vs = [x, y] ∧ r' x y H Q) po') (hb : BoolPO po) (hb' : BoolPO po')
    (ho : ∀ X W, Fits g Γ X W → OpR X (compareOp op) r) (ho' : ∀ X W, Fits g Γ X W → OpR X (compareOp op') r') (hs : noSet c = true) (ha : EV g Γ a fa) (hbb : EV g Γ b fb) (hc : EV g Γ c fc) :
    TV g Γ (.Compare a [op, op'] [b, c] pos) (tOf (eChain po po' fa fb fc)) := fun X W F =>
  PT.imp (pt_chain (ho X W F) (ho' X W F) (ha X W F) (hbb X W F) (hc X W F) (show behindInMarks op' c = false from marks_no hs)) fun σ H Q p => tchain_run hr hr' hb hb' p
section
variable (hs : noSet c = true) (ha : EV g Γ a fa) (hbb : EV g Γ b fb) (hc : EV g Γ c fc)
include hs ha hbb hc
theorem ev_lt_le : EV g Γ (.Compare a [.Lt, .LtE] [b, c] pos) (eChain pLt pLe fa fb fc) := ev_chain rok_ord rok_ord (bool_ord _ _) (bool_ord _ _) (fun _ _ _ => op_ltA) (fun _ _ _ => op_leA) hs ha hbb hc
theorem tv_lt_le : TV g Γ (.Compare a [.Lt, .LtE] [b, c] pos) (tOf (eChain pLt pLe fa fb fc)) := tv_chain rok_ord rok_ord (bool_ord _ _) (bool_ord _ _) (fun _ _ _ => op_ltA) (fun _ _ _ => op_leA) hs ha hbb hc
theorem ev_le_lt : EV g Γ (.Compare a [.LtE, .Lt] [b, c] pos) (eChain pLe pLt fa fb fc) := ev_chain rok_ord rok_ord (bool_ord _ _) (bool_ord _ _) (fun _ _ _ => op_leA) (fun _ _ _ => op_ltA) hs ha hbb hc
theorem tv_le_lt : TV g Γ (.Compare a [.LtE, .Lt] [b, c] pos) (tOf (eChain pLe pLt fa fb fc)) := tv_chain rok_ord rok_ord (bool_ord _ _) (bool_ord _ _) (fun _ _ _ => op_leA) (fun _ _ _ => op_ltA) hs ha hbb hc
theorem ev_le_le : EV g Γ (.Compare a [.LtE, .LtE] [b, c] pos) (eChain pLe pLe fa fb fc) := ev_chain rok_ord rok_ord (bool_ord _ _) (bool_ord _ _) (fun _ _ _ => op_leA) (fun _ _ _ => op_leA) hs ha hbb hc
theorem tv_le_le : TV g Γ (.Compare a [.LtE, .LtE] [b, c] pos) (tOf (eChain pLe pLe fa fb fc)) := tv_chain rok_ord rok_ord (bool_ord _ _) (bool_ord _ _) (fun _ _ _ => op_leA) (fun _ _ _ => op_leA) hs ha hbb hc
theorem ev_lt_lt : EV g Γ (.Compare a [.Lt, .Lt] [b, c] pos) (eChain pLt pLt fa fb fc) := ev_chain rok_ord rok_ord (bool_ord _ _) (bool_ord _ _) (fun _ _ _ => op_ltA) (fun _ _ _ => op_ltA) hs ha hbb hc
theorem tv_lt_lt : TV g Γ (.Compare a [.Lt, .Lt] [b, c] pos) (tOf (eChain pLt pLt fa fb fc)) := tv_chain rok_ord rok_ord (bool_ord _ _) (bool_ord _ _) (fun _ _ _ => op_ltA) (fun _ _ _ => op_ltA) hs ha hbb hc
end

/-! ## in, not in -/
/-- texts; flat items of a list or tuple; data in a list -/
def inOp (neg : Bool) : PO
  | [(_, .str i), (_, .str j)] => sc (.bl (neg ^^ !(Builtin.Str.occurrences j i 0 j.length 1).isEmpty))
  | [(_, x), (n, y)] => match y.items n with
    | none => none
    | some q => match x.flat, q.2.mapM PV.flat with
      | some w, some ws => sc (.bl (neg ^^ inV w ws))
      | _, _ => match x.toD, PV.toDs q.2, y with
        | some d, some ds, .lst _ => if SeqAt.shaped d = true ∧ SeqAt.shaped (.list ds) = true then sc (.bl (neg ^^ ds.any fun z => PyData.eqv z d)) else none
        | _, _, _ => none
  | _ => none
theorem flat_flatV {x : PV} {u : V} (e : x.flat = some u) : flatV u = true := by
  cases x <;> cases e <;> rfl
theorem own_flats : ∀ {xs : List PV} {n : Nat} {vs ws : List V} {F : Fp}, OwnL K H0 H xs n vs F → xs.mapM PV.flat = some ws → vs = ws ∧ ws.all flatV = true
  | [], _, _, _, _, h, e => by
    rw [show _ = ([] : List V) from h]
    cases (show some [] = some _ from e)
    exact ⟨rfl, rfl⟩
  | x :: xs, n, vs, ws, F, ⟨v, vs', G, e1, h1, h2⟩, e => by
    rw [List.mapM_cons] at e
    cases e2 : x.flat with
    | none => rw [e2] at e; cases e
    | some u =>
      cases e3 : xs.mapM PV.flat with
      | none => rw [e2, e3] at e; cases e
      | some us =>
        rw [e2, e3] at e
        cases e
        obtain ⟨q1, q2⟩ := own_flats h2 e3
        rw [e1, own_flat h1 e2, q1]
        exact ⟨rfl, by rw [List.all_cons, flat_flatV e2, q2]; rfl⟩
def rInAll (K : PySem.W.Frag) (neg : Bool) : R2 := fun x y H Q => (∃ i j, x = .str i ∧ y = .str j ∧ Q (.bl (neg ^^ !(Builtin.Str.occurrences j i 0 j.length 1).isEmpty)) H) ∨ (rIn K neg x y H Q ∨
  ∃ d ds, Dp K H x d ∧ Dp K H y (.list ds) ∧ SeqAt.shaped d = true ∧ SeqAt.shaped (.list ds) = true ∧ Q (.bl (neg ^^ ds.any fun z => PyData.eqv z d)) H)
theorem rok_in (neg : Bool) : ROk K (fun vs H Q => ∃ x y, vs = [x, y] ∧ rInAll K neg x y H Q) (inOp neg) := by
  intro H0 H ps vs o Q s w e G
  unfold inOp at e
  split at e
  · obtain ⟨v, u, F, F', rfl, h1, h2⟩ := views2 w
    cases (show v = _ from h1); cases (show u = _ from h2)
    exact ⟨_, _, rfl, .inl ⟨_, _, rfl, rfl, sc_gives e G s rfl⟩⟩
  · rename_i n1 x n y _
    obtain ⟨v, u, F, F', rfl, h1, h2⟩ := views2 w
    split at e
    · cases e
    · rename_i q hq
      obtain ⟨m, xs⟩ := q
      split at e
      · rename_i w1 ws e1 e2
        obtain ⟨a, us, G', rfl, hs, ho⟩ := own_items s h2 hq
        obtain ⟨q1, q2⟩ := own_flats ho e2
        subst q1
        have q3 := own_flat h1 e1
        subst q3
        refine ⟨_, _, rfl, .inr (.inl ⟨a, us, rfl, hs, flat_flatV e1, q2, ?_⟩)⟩
        cases neg with
        | true => rw [if_pos rfl]; rw [Bool.true_xor] at e; exact sc_gives e G s rfl
        | false => rw [if_neg (by decide)]; rw [Bool.false_xor] at e; exact sc_gives e G s rfl
      · split at e
        · rename_i d ds ys e1 e2 _
          split at e
          · rename_i hc
            have hq' : (n - 1, ys) = (m, xs) := Option.some.inj hq
            obtain ⟨_, rfl⟩ := Prod.mk.inj hq'
            refine ⟨_, _, rfl, .inr (.inr ⟨d, ds, own_dp s _ _ _ _ _ h1 e1, own_dp s (.lst ys) _ _ _ _ h2 ?_, hc.1, hc.2, sc_gives e G s rfl⟩)⟩
            show (PV.toDs ys).map PyData.list = some _
            rw [show PV.toDs ys = some ds from e2]
            rfl
          · cases e
        · cases e
  · cases e
theorem bool_in (neg : Bool) : BoolPO (inOp neg) := fun ps o e => by
  unfold inOp at e
  split at e
  · cases e; exact ⟨_, rfl⟩
  · split at e
    · cases e
    · split at e
      · cases e; exact ⟨_, rfl⟩
      · split at e
        · split at e
          · cases e; exact ⟨_, rfl⟩
          · cases e
        · cases e
  · cases e
theorem op_inAll {X : Cx} (hu : X.A.units + 65 < cLine) : OpR X (compareOp .In) (rInAll X.K false) := by
  refine OpR.or (fun pins s σ H x y v u Q I rx ry q => ?_) (OpR.or op_in_seq fun pins s σ H x y v u Q I rx ry q => ?_)
  · obtain ⟨i, j, rfl, rfl, q⟩ := q
    rw [Bool.false_xor] at q
    exact op_in_str pins s σ H _ _ v u Q I rx ry ⟨i, j, rfl, rfl, q⟩
  · obtain ⟨d, ds, h1, h2, h3, h4, q⟩ := q
    rw [Bool.false_xor] at q
    exact op_inD hu pins s σ H _ _ v u Q I rx ry ⟨d, ds, h1, h2, h3, h4, q⟩
theorem op_notInAll {X : Cx} (hu : X.A.units + 65 < cLine) : OpR X (compareOp .NotIn) (rInAll X.K true) := by
  refine OpR.or (fun pins s σ H x y v u Q I rx ry q => ?_) (OpR.or op_notIn_seq fun pins s σ H x y v u Q I rx ry q => ?_)
  · obtain ⟨i, j, rfl, rfl, q⟩ := q
    rw [Bool.true_xor] at q
    exact op_notIn_str pins s σ H _ _ v u Q I rx ry ⟨i, j, rfl, rfl, q⟩
  · obtain ⟨d, ds, h1, h2, h3, h4, q⟩ := q
    rw [Bool.true_xor] at q
    exact op_notInD hu pins s σ H _ _ v u Q I rx ry ⟨d, ds, h1, h2, h3, h4, q⟩
theorem ev_in (hs : noSet b = true) (ha : EV g Γ a fa) (hb : EV g Γ b fb) : EV g Γ (.Compare a [.In] [b] pos) (eOp (inOp false) (aCons fa (aCons fb aNil))) :=
  ev_op2 (rok_in false) (fun X W F ta tb ha hb => by rw [← F.K]; exact pe_cmpR (op_inAll F.un65) ha hb (marks_no hs)) ha hb
theorem ev_notIn (hs : noSet b = true) (ha : EV g Γ a fa) (hb : EV g Γ b fb) : EV g Γ (.Compare a [.NotIn] [b] pos) (eOp (inOp true) (aCons fa (aCons fb aNil))) :=
  ev_op2 (rok_in true) (fun X W F ta tb ha hb => by rw [← F.K]; exact pe_cmpR (op_notInAll F.un65) ha hb (marks_no hs)) ha hb
theorem tv_in (hs : noSet b = true) (ha : EV g Γ a fa) (hb : EV g Γ b fb) : TV g Γ (.Compare a [.In] [b] pos) (tOf (eOp (inOp false) (aCons fa (aCons fb aNil)))) :=
  tv_cmp (rok_in false) (bool_in _) (fun X W F => by rw [← F.K]; exact op_inAll F.un65) (fun _ => marks_no) hs ha hb
theorem tv_notIn (hs : noSet b = true) (ha : EV g Γ a fa) (hb : EV g Γ b fb) : TV g Γ (.Compare a [.NotIn] [b] pos) (tOf (eOp (inOp true) (aCons fa (aCons fb aNil)))) :=
  tv_cmp (rok_in true) (bool_in _) (fun X W F => by rw [← F.K]; exact op_notInAll F.un65) (fun _ => marks_no) hs ha hb

/-! ## global names -/
/-- how a global name is read -/
structure IsGl (Γ : Sx) (x : Str) : Prop where
  gl : Γ.sc.names.lookup x = some .globalImplicit
  db : (x == ("__debug__" : Str)) = false
theorem IsGl.of {X : Cx} {W : WX} (F : Fits g Γ X W) (h : IsGl Γ x) : Gl X x := by
  show X.env.scope.names.lookup x = some .globalImplicit
  rw [F.sc]
  exact h.gl
/-- a module's constant -/
structure GC (g : Prg) (x : Str) (y : PV) : Prop where
  c : ∃ (v : V) (u : Value), g.mg x = some u ∧ RelV v u ∧ ∀ H0 H F, Own g.K H0 H y 0 v F
theorem ev_glob {y : PV} (hg : IsGl Γ x) (h : GC g x y) : EV g Γ (.Name x pos) (eC y) := fun X W F => by
  obtain ⟨v, u, hm, r, o⟩ := h.c
  refine PE.imp (pe_glob (v := v) (IsGl.of F hg) (by rw [F.mg]; exact hm) r hg.db) fun σ H Q ⟨H0, O, ρ, S, q⟩ => ?_
  exact q v H0 H O noF (Grow.refl.mono fun a z => z.elim id False.elim) (fun _ _ _ z => z) S .no (o _ _ _)
theorem GC.int {i : Int} {t : Tok} (h : g.mg x = some (.int i t)) : GC g x (.int i) := ⟨.int i, _, h, ⟨t, rfl⟩, fun _ _ _ => rfl⟩
theorem GC.str {i : Str} {t : Tok} (h : g.mg x = some (.str i t)) : GC g x (.str i) := ⟨.str i, _, h, ⟨t, rfl⟩, fun _ _ _ => rfl⟩

/-! ## calls of built-ins -/
def noStars : List Expr → Bool
  | [] => true
  | e :: es => noStar e && noStars es
theorem noStars_all : ∀ {es : List Expr}, noStars es = true → ∀ e ∈ es, noStar e = true
  | e :: es, h, e', m => by
    have h' := Bool.and_eq_true_iff.mp h
    rcases List.mem_cons.mp m with rfl | m
    · exact h'.1
    · exact noStars_all h'.2 _ m
theorem ev_callB {id : String} {op : PO} {r : List V → Hp → VK → Prop} (hr : ROk g.K r op) (hc : ∀ X W, Fits g Γ X W → CallR X (.builtin id) r) (hg : IsGl Γ x) (hm : g.mg x = none) (hv : bootBuiltins x = some (.builtin id)) (hn : x ≠ "__name__") (hs : noStars (e :: es) = true) (ha : AV g Γ (e :: es) af) :
    EV g Γ (.Call (.Name x p) (e :: es) [] pos) (eOp op af) :=
  ev_opn hr (fun X W F t ht => pe_callB (hc X W F) (IsGl.of F hg) (by rw [F.mg]; exact hm) hv ht hn hg.db (star_cons (noStars_all hs _ List.mem_cons_self)) (star_any fun y hy => noStars_all hs _ (List.mem_cons_of_mem _ hy))) ha
theorem ev_callTy {T : String} {op : PO} {r : List V → Hp → VK → Prop} (hr : ROk g.K r op) (hc : ∀ X W, Fits g Γ X W → CallR X (.type T) r) (hg : IsGl Γ x) (hm : g.mg x = none) (hv : bootBuiltins x = some (.type T)) (hn : x ≠ "__name__") (hs : noStars (e :: es) = true) (ha : AV g Γ (e :: es) af) :
    EV g Γ (.Call (.Name x p) (e :: es) [] pos) (eOp op af) :=
  ev_opn hr (fun X W F t ht => pe_callTy (hc X W F) (IsGl.of F hg) (by rw [F.mg]; exact hm) hv ht hn hg.db (star_cons (noStars_all hs _ List.mem_cons_self)) (star_any fun y hy => noStars_all hs _ (List.mem_cons_of_mem _ hy))) ha

def pLen : PO
  | [(n, x)] => match x with
    | .str z => if z.length ≤ sizeLine then sc (.int z.length) else none
    | _ => (x.items n).bind fun q => sc (.int q.2.length)
  | _ => none
theorem rok_len : ROk K (fun vs H Q => (∃ p ys, vs = [.ref p] ∧ (SqL K H p ys ∨ SqT K H p ys) ∧ Q (.int ys.length) H) ∨ ∃ z, vs = [.str z] ∧ z.length ≤ sizeLine ∧ Q (.int z.length) H) pLen := by
  intro H0 H ps vs o Q s w e G
  unfold pLen at e
  split at e
  · obtain ⟨v, F, rfl, h1⟩ := views1 w
    split at e
    · cases (show v = _ from h1)
      split at e
      · exact .inr ⟨_, rfl, ‹_›, sc_gives e G s rfl⟩
      · cases e
    · obtain ⟨⟨m, xs⟩, e1, e2⟩ := Option.bind_eq_some_iff.mp e
      obtain ⟨a, vs, G', rfl, hs, ho⟩ := own_items s h1 e1
      refine .inl ⟨a, vs, rfl, hs, ?_⟩
      rw [ownL_len ho]
      exact sc_gives e2 G s rfl
  · cases e
def pTuple : PO
  | [(n, .lst xs)] => if n ≤ 1 then sc (.tup xs) else none
  | [(_, .clst xs)] => sc (.tup xs)
  | [(_, .tup xs)] => sc (.tup xs)
  | [(_, .ctup xs)] => sc (.ctup xs)
  | _ => none
theorem rok_tuple : ROk K (fun xs H Q => ∃ p ys, xs = [.ref p] ∧ ((SqL K H p ys ∧ ∀ l, H l = none → Q (.ref l) (upd H l (.tup ys))) ∨ (SqT K H p ys ∧ Q (.ref p) H))) pTuple := by
  intro H0 H ps vs o Q s w e G
  unfold pTuple at e
  split at e
  · obtain ⟨v, F, rfl, h1⟩ := views1 w
    split at e
    · cases e
      obtain ⟨a, vs, rfl, g1, o1⟩ := lst_lv s h1 ‹_›
      exact ⟨a, vs, rfl, .inl ⟨.inl (.inl g1), gives_tup G s o1⟩⟩
    · cases e
  · obtain ⟨v, F, rfl, h1⟩ := views1 w
    cases e
    obtain ⟨a, vs, rfl, g1, o1⟩ := h1
    exact ⟨a, vs, rfl, .inl ⟨s.seq g1, gives_tup G s o1⟩⟩
  · obtain ⟨v, F, rfl, h1⟩ := views1 w
    cases e
    obtain ⟨a, vs, e1, g1, o1⟩ := own_tup s h1
    subst e1
    exact ⟨a, vs, rfl, .inr ⟨.inl (.inl g1), gives_imm G s (own_imm (F' := noF) (H' := H) h1 (.inr rfl) fun _ _ z => z)⟩⟩
  · obtain ⟨v, F, rfl, h1⟩ := views1 w
    cases e
    obtain ⟨a, vs, e1, g1, o1⟩ := id h1
    subst e1
    exact ⟨a, vs, rfl, .inr ⟨sqT_up g1, gives_imm G s (own_imm (F' := noF) (H' := H) h1 (.inr rfl) fun _ _ z => z)⟩⟩
  · cases e
def pList : PO
  | [(n, x)] => (x.items n).bind fun q => if q.1 = 0 ∨ q.2.all PV.imm = true then some ⟨true, 1, .lst q.2⟩ else none
  | _ => none
theorem ownL_imm : ∀ {xs : List PV} {n : Nat} {vs : List V} {F : Fp}, OwnL K H0 H xs n vs F → xs.all PV.imm = true → OwnL K H0 H xs 0 vs noF
  | [], _, _, _, h, _ => h
  | x :: xs, n, _, F, ⟨v, vs', G, e1, h1, h2⟩, e => by
    rw [List.all_cons, Bool.and_eq_true] at e
    exact ⟨v, vs', noF, e1, own_imm h1 (.inr e.1) (fun _ _ z => z), ownL0 (fun _ _ z => z) _ _ _ _ (ownL_imm h2 e.2)⟩
theorem rok_list : ROk K (fun xs H Q => ∃ p ys, xs = [.ref p] ∧ (SqL K H p ys ∨ SqT K H p ys) ∧ ∀ l, H l = none → Q (.ref l) (upd H l (.lst ys))) pList := by
  intro H0 H ps vs o Q s w e G
  unfold pList at e
  split at e
  · obtain ⟨v, F, rfl, h1⟩ := views1 w
    obtain ⟨⟨m, xs⟩, e1, e2⟩ := Option.bind_eq_some_iff.mp e
    obtain ⟨a, vs, G', rfl, hs, ho⟩ := own_items s h1 e1
    split at e2
    · rename_i hc
      cases e2
      refine ⟨a, vs, rfl, hs, gives_lst (F := noF) G s ?_⟩
      rcases hc with hc | hc
      · cases (show m = 0 from hc)
        exact ownL0 (fun _ _ z => z) _ _ _ _ ho
      · exact ownL_imm ho hc
    · cases e2
  · cases e
def pInt : PO
  | [(_, .int i)] => sc (.int i)
  | [(_, .bl k)] => sc (.int (if k then 1 else 0))
  | [(_, .str s)] => if s.length ≤ 640 then (PySem.intText? s).bind fun n => sc (.int n) else none
  | _ => none
theorem rok_int : ROk K (fun xs H Q => ((∃ i, xs = [.int i] ∧ Q (.int i) H) ∨ ∃ k, xs = [.bl k] ∧ Q (.int (if k then 1 else 0)) H) ∨ ∃ a n, xs = [.str a] ∧ PySem.intText? a = some n ∧ a.length ≤ 640 ∧ Q (.int n) H) pInt := by
  intro H0 H ps vs o Q s w e G
  unfold pInt at e
  split at e
  · obtain ⟨v, F, rfl, h1⟩ := views1 w
    cases (show v = _ from h1)
    exact .inl (.inl ⟨_, rfl, sc_gives e G s rfl⟩)
  · obtain ⟨v, F, rfl, h1⟩ := views1 w
    cases (show v = _ from h1)
    exact .inl (.inr ⟨_, rfl, sc_gives e G s rfl⟩)
  · obtain ⟨v, F, rfl, h1⟩ := views1 w
    cases (show v = _ from h1)
    split at e
    · obtain ⟨n, e1, e2⟩ := Option.bind_eq_some_iff.mp e
      exact .inr ⟨_, n, rfl, e1, ‹_›, sc_gives e2 G s rfl⟩
    · cases e
  · cases e
def pAbs : PO
  | [(_, .int i)] => sc (.int (if i < 0 then -i else i))
  | _ => none
theorem rok_abs : ROk K (fun xs H Q => ∃ i, xs = [.int i] ∧ Q (.int (if i < 0 then -i else i)) H) pAbs := by
  intro H0 H ps vs o Q s w e G
  unfold pAbs at e
  split at e
  · obtain ⟨v, F, rfl, h1⟩ := views1 w
    cases (show v = _ from h1)
    exact ⟨_, rfl, sc_gives e G s rfl⟩
  · cases e
def pStr : PO
  | [(_, .int i)] => if i.natAbs.log2 < 1920 then sc (.str (Str.ofString (toString i))) else none
  | _ => none
theorem rok_str : ROk K (fun xs H Q => ∃ i, xs = [.int i] ∧ i.natAbs.log2 < 1920 ∧ Q (.str (toString i)) H) pStr := by
  intro H0 H ps vs o Q s w e G
  unfold pStr at e
  split at e
  · obtain ⟨v, F, rfl, h1⟩ := views1 w
    cases (show v = _ from h1)
    split at e
    · exact ⟨_, rfl, ‹_›, sc_gives e G s rfl⟩
    · cases e
  · cases e
def pMax2 : PO
  | [(_, .int i), (_, .int j)] => sc (.int (if j > i then j else i))
  | _ => none
def pMin2 : PO
  | [(_, .int i), (_, .int j)] => sc (.int (if j < i then j else i))
  | _ => none
theorem rok_max2 : ROk K (fun xs H Q => ∃ i j, xs = [.int i, .int j] ∧ Q (.int (if j > i then j else i)) H) pMax2 := by
  intro H0 H ps vs o Q s w e G
  unfold pMax2 at e
  split at e
  · obtain ⟨v, u, F, F', rfl, h1, h2⟩ := views2 w
    cases (show v = _ from h1); cases (show u = _ from h2)
    exact ⟨_, _, rfl, sc_gives e G s rfl⟩
  · cases e
theorem rok_min2 : ROk K (fun xs H Q => ∃ i j, xs = [.int i, .int j] ∧ Q (.int (if j < i then j else i)) H) pMin2 := by
  intro H0 H ps vs o Q s w e G
  unfold pMin2 at e
  split at e
  · obtain ⟨v, u, F, F', rfl, h1, h2⟩ := views2 w
    cases (show v = _ from h1); cases (show u = _ from h2)
    exact ⟨_, _, rfl, sc_gives e G s rfl⟩
  · cases e
section
variable (hs : noStars (e :: es) = true) (ha : AV g Γ (e :: es) af)
include hs ha
theorem ev_len (hg : IsGl Γ "len") (hm : g.mg "len" = none) : EV g Γ (.Call (.Name "len" p) (e :: es) [] pos) (eOp pLen af) :=
  ev_callB rok_len (fun X W F => by rw [← F.K]; exact CallR.or call_len_seq call_len_str) hg hm PySem.boot_len (by decide) hs ha
theorem ev_tuple (hg : IsGl Γ "tuple") (hm : g.mg "tuple" = none) : EV g Γ (.Call (.Name "tuple" p) (e :: es) [] pos) (eOp pTuple af) :=
  ev_callTy rok_tuple (fun X W F => by rw [← F.K]; exact call_tuple_of) hg hm (by decide +kernel) (by decide) hs ha
theorem ev_list (hg : IsGl Γ "list") (hm : g.mg "list" = none) : EV g Γ (.Call (.Name "list" p) (e :: es) [] pos) (eOp pList af) :=
  ev_callTy rok_list (fun X W F => by rw [← F.K]; exact call_list_of) hg hm (by decide +kernel) (by decide) hs ha
theorem ev_intc (hg : IsGl Γ "int") (hm : g.mg "int" = none) : EV g Γ (.Call (.Name "int" p) (e :: es) [] pos) (eOp pInt af) :=
  ev_callTy rok_int (fun X W F => CallR.or call_int1 call_int_str) hg hm (by decide +kernel) (by decide) hs ha
theorem ev_abs (hg : IsGl Γ "abs") (hm : g.mg "abs" = none) : EV g Γ (.Call (.Name "abs" p) (e :: es) [] pos) (eOp pAbs af) :=
  ev_callB rok_abs (fun X W F => call_abs) hg hm (by decide +kernel) (by decide) hs ha
theorem ev_strc (hg : IsGl Γ "str") (hm : g.mg "str" = none) : EV g Γ (.Call (.Name "str" p) (e :: es) [] pos) (eOp pStr af) :=
  ev_callTy rok_str (fun X W F => call_str_int) hg hm (by decide +kernel) (by decide) hs ha
theorem ev_max2 (hh : Γ.hot = false) (hg : IsGl Γ "max") (hm : g.mg "max" = none) : EV g Γ (.Call (.Name "max" p) (e :: es) [] pos) (eOp pMax2 af) :=
  ev_callB rok_max2 (fun X W F => call_max2 (F.calm hh)) hg hm (by decide +kernel) (by decide) hs ha
theorem ev_min2 (hh : Γ.hot = false) (hg : IsGl Γ "min") (hm : g.mg "min" = none) : EV g Γ (.Call (.Name "min" p) (e :: es) [] pos) (eOp pMin2 af) :=
  ev_callB rok_min2 (fun X W F => call_min2 (F.calm hh)) hg hm (by decide +kernel) (by decide) hs ha
end

/-! ## isinstance(e, T), T a built-in class by its name -/
def PV.tyName : PV → Option String
  | .non => some "NoneType"
  | .bl _ => some "bool"
  | .int _ => some "int"
  | .str _ => some "str"
  | .tup _ | .ctup _ => some "tuple"
  | .lst _ | .clst _ => some "list"
  | .dic _ => some "dict"
  | .exn _ _ _ _ => none
def eIsi (T : String) (f : EF) : EF := fun ρ => (f ρ).bind fun r => match (r.x.tyName).bind fun t => kitB t T with
  | some b => .ok ⟨r.pu, true, 0, .bl b, r.ρ⟩
  | none => .bad
/-- a value's type, frozen dicts too -/
def TyY (K : PySem.W.Frag) (H : Hp) (v : V) (t : Value) : Prop := TyX K H v t ∨ ∃ a o kvs, v = .ref a ∧ H a = some (.frz o (.dT kvs)) ∧ t = .type "dict"
theorem own_ty (s : Same H0 H) {x : PV} {n : Nat} {v : V} {F : Fp} {t : String} (h : Own K H0 H x n v F) (e : x.tyName = some t) : TyY K H v (.type t) := by
  cases x with
  | non => cases (show v = _ from h); cases e; exact .inl (.base .non)
  | bl b => cases (show v = _ from h); cases e; exact .inl (.base (.bl _))
  | int b => cases (show v = _ from h); cases e; exact .inl (.base (.int _))
  | str b => cases (show v = _ from h); cases e; exact .inl (.base (.str _))
  | tup xs =>
    cases e
    obtain ⟨a, vs, rfl, h1, h2⟩ := own_tup s h
    exact .inl (.base (.tup h1))
  | ctup xs =>
    cases e
    obtain ⟨a, vs, rfl, h1, h2⟩ := h
    rcases h1 with (h1 | ⟨o, h1⟩) | ⟨o, its, n, h1, h2, _⟩
    · cases h1
    · cases h1
    · exact .inl (.kTuple h1 h2)
  | lst xs =>
    cases e
    obtain ⟨a, vs, G, rfl, h1, h2⟩ := own_lst s h
    exact .inl (.base (.lst h1))
  | clst xs =>
    cases e
    obtain ⟨a, vs, rfl, h1, h2⟩ := h
    rcases h1 with (h1 | ⟨o, h1⟩) | ⟨o, its, n, h1, h2, _⟩
    · exact .inl (.base (.lst (s _ _ h1)))
    · exact .inl (.base (.frz (s _ _ h1)))
    · exact .inl (.kList h1 h2)
  | dic kvs =>
    cases e
    cases n with
    | zero =>
      obtain ⟨a, o, u, l, rfl, h1, h2, _⟩ := h
      cases h2 with
      | k kv => exact .inl (.fDict (s _ _ h1))
      | t kv => exact .inr ⟨a, o, kv, rfl, s _ _ h1, rfl⟩
    | succ n =>
      obtain ⟨a, u, l, rfl, h1, h2, _⟩ := h
      cases h2 with
      | k kv => exact .inl (.base (.dK h1))
      | t kv => exact .inl (.base (.dT h1))
  | exn _ _ _ _ => cases e
def rIsiY (K : PySem.W.Frag) : List V → Hp → VK → Prop := fun xs H Q => ∃ (x c : V) (t u : Value) (b : Bool), xs = [x, c] ∧ ClsV c u ∧ TyY K H x t ∧ PySem.W.kitOne K t u = some b ∧ Q (.bl b) H
theorem call_isiY {X : Cx} : CallR X (.builtin "isinstance") (rIsiY X.K) := by
  intro pins s σ H xs us Q I r h
  obtain ⟨x, c, t, u, b, rfl, k, ty, e, q⟩ := h
  rcases ty with ty | ⟨a, o, kvs, rfl, ha, rfl⟩
  · exact call_isi pins s σ H _ us Q I r ⟨x, c, t, u, b, rfl, k, ty, e, q⟩
  · obtain ⟨u1, u2, rfl, r1, r2⟩ := vals2 r
    have e2 := k.eq r2
    subst e2
    cases (show u1 = Value.ref a from r1)
    obtain ⟨_, _, xs, _, dd⟩ := dt_rd I.hok (.inr ⟨o, ha⟩)
    obtain ⟨od, es, ep, h1, h2, _⟩ := dd
    exact PySem.W.kia_one PySem.W.kitx_dict I.kIn ⟨od, h1, h2.1⟩ e (fun z => nomatch z) fun tk => ⟨.bl b, H, I.tok tk, rfl, q⟩
theorem isi_run {W : WX} {T : String} {σ : L2.St} {Q : VK} (q : tF g W (eIsi T fa) σ H Q) : tF g W fa σ H fun x H1 => rIsiY g.K [x, .ty T] H1 Q := by
  obtain ⟨H0, O, ρ, S, q⟩ := q
  refine ⟨H0, O, ρ, S, ?_⟩
  unfold eIsi at q
  cases ee : fa ρ with
  | bad => rw [ee] at q; exact q
  | exc c fs ρ' => rw [ee] at q; exact q
  | ok r =>
    rw [ee] at q
    simp only [Res.bind] at q
    intro v H0' H' O' B kk hp S' T' w
    have z : ∃ F, Own g.K H0' H' r.x r.lv v F := by
      split at w
      · exact ⟨_, w⟩
      · exact w
    obtain ⟨F, z⟩ := z
    cases ht : (r.x.tyName).bind fun t => kitB t T with
    | none => simp only [Res.bind, ht] at q
    | some b =>
      simp only [Res.bind, ht] at q
      obtain ⟨t, h1, h2⟩ := Option.bind_eq_some_iff.mp ht
      exact ⟨v, .ty T, _, _, b, rfl, .ty T, own_ty S'.sub z h1, kit_ty h2, q _ H0' H' O' noF (kk.mono fun a z => .inl (z.elim id False.elim)) hp S' .no rfl⟩
theorem ev_isi {T : String} {t : Str} (hs : noStar a = true) (hg : IsGl Γ "isinstance") (hm : g.mg "isinstance" = none) (hgt : IsGl Γ t) (hmt : g.mg t = none) (hv : bootBuiltins t = some (.type T)) (hn : t ≠ "__name__") (ha : EV g Γ a fa) :
    EV g Γ (.Call (.Name "isinstance" p) [a, .Name t p2] [] pos) (eIsi T fa) := fun X W F => by
  refine PE.imp (pe_callB (t := tCons (tF g W fa) (tCons (tC (.ty T)) tNil)) (r := rIsiY g.K) (by rw [← F.K]; exact call_isiY) (IsGl.of F hg) (by rw [F.mg]; exact hm) (by decide +kernel) (pa_cons (ha X W F) (pa_cons (pe_bltn (v := .ty T) (IsGl.of F hgt) (by rw [F.mg]; exact hmt) hv rfl hn hgt.db) pa_nil rfl) (star_cons hs)) (by decide) hg.db (star_cons hs) (star_any fun y hy => ?_)) fun σ H Q q => isi_run q
  rcases List.mem_cons.mp hy with rfl | hy
  · rfl
  · cases hy
end
end Pv

set_option maxRecDepth 100000
set_option maxHeartbeats 1000000
namespace Pv
open PySem PySem.Spec PyProof.Rows L2

section
variable {g : Prg} {Γ : Sx} {K : PySem.W.Frag} {H0 H : Hp}
variable {o e : Expr} {es : List Expr} {fo fe : EF} {af : AF} {pos p apos cpos : Pos}
/-! ## methods of built-in types -/
def noSup : Expr → Bool
  | .Call (.Name _ _) [] [] _ => false
  | _ => true
theorem base_ok {name : Str} {env : Env} {w : Sem Value} (h : noSup o = true) : attributeBase o name env w = w := by
  unfold attributeBase
  split
  · cases h
  · rfl
theorem star_all {env : Env} : ∀ {es : List Expr}, noStars es = true → (backTo pos (starEach es env)).all (fun x => !x.1) = true
  | [], _ => rfl
  | e :: es, h => by
    have h' := Bool.and_eq_true_iff.mp h
    rw [star_cons h'.1]
    show (true && (backTo pos (starEach es env)).all (fun x => !x.1)) = true
    rw [star_all h'.2]
    rfl
def PV.isStr : PV → Bool
  | .str _ => true
  | _ => false
def PV.isLst : PV → Bool
  | .lst _ | .clst _ => true
  | _ => false
theorem own_isStr {x : PV} {n : Nat} {v : V} {F : Fp} (h : Own K H0 H x n v F) (e : x.isStr = true) : ∃ i, v = .str i := by
  cases x <;> first | exact ⟨_, h⟩ | cases e
theorem ty_str {x : PV} {n : Nat} {v : V} {F : Fp} (s : Same H0 H) (h : Own K H0 H x n v F) (e : x.isStr = true) : tyV K "str" v H := by
  obtain ⟨i, rfl⟩ := own_isStr h e
  rfl
theorem ty_lst {x : PV} {n : Nat} {v : V} {F : Fp} (s : Same H0 H) (h : Own K H0 H x n v F) (e : x.isLst = true) : tyV K "list" v H := by
  cases x with
  | lst xs =>
    obtain ⟨a, vs, G, rfl, h1, h2⟩ := own_lst s h
    exact .inl ⟨rfl, vs, .inl (.inl h1)⟩
  | clst xs =>
    obtain ⟨a, vs, rfl, h1, h2⟩ := h
    exact .inl ⟨rfl, vs, s.seq h1⟩
  | _ => cases e
theorem ev_meth {T id : String} {name : Str} {op : PO} {r : V → List V → Hp → VK → Prop} {ty : PV → Bool} (pa : PlainAttrs T) (slot : Slot T name id) (hty : typeOf (.builtin id) = pure (.type "method_descriptor"))
    (hm : ∀ X W, Fits g Γ X W → MtR X id r) (hr : ROk g.K (fun vs H Q => ∃ x xs, vs = x :: xs ∧ r x xs H Q) op) (hk : ∀ {H0 H : Hp} {x : PV} {n : Nat} {v : V} {F : Fp}, Same H0 H → Own g.K H0 H x n v F → ty x = true → tyV g.K T v H)
    (hn : noSup o = true) (hs : noStars (e :: es) = true) (hl : (apos.endLine == cpos.line) = true) (hlen : (e :: es).length < 29) (ho : EV g Γ o fo) (ha : AV g Γ (e :: es) af) :
    EV g Γ (.Call (.Attribute o name apos) (e :: es) [] cpos) (eOp op (aConsT ty fo af)) := fun X W F => by
  refine PE.imp (pe_bm pa slot hty (hm X W F) (ho X W F) (ha X W F) (base_ok hn) ?_ hl (star_cons (noStars_all hs _ List.mem_cons_self)) (star_any fun y hy => noStars_all hs _ (List.mem_cons_of_mem _ hy))) fun σ H Q q => ?_
  · rw [star_all hs]
    show (true && true && decide ((e :: es).length + 0 + 0 < 30)) = true
    rw [decide_eq_true (by omega)]
    rfl
  · refine tF.mono (tA_consT (op_run hr q)) fun x H1 ⟨⟨H0, n, y, F', s, w, t⟩, q1⟩ => ⟨by rw [F.K]; exact hk s w t, tA.mono q1 fun xs H2 ⟨x', xs', e, q2⟩ => ?_⟩
    cases e
    exact q2
theorem ev_meth0 {T id : String} {name : Str} {op : PO} {r : V → List V → Hp → VK → Prop} {ty : PV → Bool} (pa : PlainAttrs T) (slot : Slot T name id) (hty : typeOf (.builtin id) = pure (.type "method_descriptor"))
    (hm : ∀ X W, Fits g Γ X W → MtR X id r) (hr : ROk g.K (fun vs H Q => ∃ x xs, vs = x :: xs ∧ r x xs H Q) op) (hk : ∀ {H0 H : Hp} {x : PV} {n : Nat} {v : V} {F : Fp}, Same H0 H → Own g.K H0 H x n v F → ty x = true → tyV g.K T v H)
    (hn : noSup o = true) (hl : (apos.endLine == cpos.line) = true) (ho : EV g Γ o fo) :
    EV g Γ (.Call (.Attribute o name apos) [] [] cpos) (eOp op (aConsT ty fo aNil)) := fun X W F => by
  refine PE.imp (pe_bm0 pa slot hty (hm X W F) (ho X W F) (base_ok hn) hl) fun σ H Q q => ?_
  refine tF.mono (tA_consT (op_run hr q)) fun x H1 ⟨⟨H0, n, y, F', s, w, t⟩, q1⟩ => ⟨by rw [F.K]; exact hk s w t, ?_⟩
  obtain ⟨x', xs', e, q2⟩ := tA_nil q1
  cases e
  exact q2

/-- a new list of texts -/
def newStrs (ys : List Str) : Option Po := some ⟨true, 1, .lst (ys.map .str)⟩
theorem strs_own : ∀ (ys : List Str) (F : Fp), OwnL K H0 H (ys.map PV.str) 0 (ys.map V.str) F
  | [], _ => rfl
  | y :: ys, F => ⟨_, _, noF, rfl, rfl, strs_own ys _⟩
theorem newStrs_gives {ys : List Str} {o : Po} {Q : VK} (e : newStrs ys = some o) (s : Same H0 H) (G : Gives K H0 H o Q) : rNewStrs ys H Q := by
  cases e
  exact gives_lst (F := noF) G s (strs_own ys _)
def pSplit : PO
  | [(_, .str a), (_, .str b)] => if (b.length == 0) = false ∧ a.length + 2 ≤ sizeLine then newStrs (Txt.split a b) else none
  | _ => none
theorem rok_split : ROk K (fun vs H Q => ∃ x xs, vs = x :: xs ∧ ∃ a b, x = .str a ∧ xs = [.str b] ∧ (b.length == 0) = false ∧ a.length + 2 ≤ sizeLine ∧ rNewStrs (Txt.split a b) H Q) pSplit := by
  intro H0 H ps vs o Q s w e G
  unfold pSplit at e
  split at e
  · obtain ⟨v, u, F, F', rfl, h1, h2⟩ := views2 w
    cases (show v = _ from h1); cases (show u = _ from h2)
    split at e
    · rename_i hc
      exact ⟨_, _, rfl, _, _, rfl, rfl, hc.1, hc.2, newStrs_gives e s G⟩
    · cases e
  · cases e
def pPart : PO
  | [(_, .str a), (_, .str b)] => if (b.length == 0) = false ∧ a.length ≤ sizeLine then sc (.tup [.str (Txt.partition a b).1, .str (Txt.partition a b).2.1, .str (Txt.partition a b).2.2]) else none
  | _ => none
theorem rok_part : ROk K (fun vs H Q => ∃ x xs, vs = x :: xs ∧ ∃ a b, x = .str a ∧ xs = [.str b] ∧ (b.length == 0) = false ∧ a.length ≤ sizeLine ∧
      ∀ p, H p = none → Q (.ref p) (upd H p (.tup [.str (Txt.partition a b).1, .str (Txt.partition a b).2.1, .str (Txt.partition a b).2.2]))) pPart := by
  intro H0 H ps vs o Q s w e G
  unfold pPart at e
  split at e
  · obtain ⟨v, u, F, F', rfl, h1, h2⟩ := views2 w
    cases (show v = _ from h1); cases (show u = _ from h2)
    split at e
    · rename_i hc
      cases e
      exact ⟨_, _, rfl, _, _, rfl, rfl, hc.1, hc.2, gives_tup (F := noF) G s (strs_own [_, _, _] _)⟩
    · cases e
  · cases e
def PV.strOf : PV → Option Str
  | .str s => some s
  | _ => none
theorem own_strs : ∀ {xs : List PV} {n : Nat} {vs : List V} {ss : List Str} {F : Fp}, OwnL K H0 H xs n vs F → xs.mapM PV.strOf = some ss → vs = ss.map V.str
  | [], _, _, _, _, h, e => by
    rw [show _ = ([] : List V) from h]
    cases (show some [] = some _ from e)
    rfl
  | x :: xs, n, vs, ss, F, ⟨v, vs', G, e1, h1, h2⟩, e => by
    rw [List.mapM_cons] at e
    cases x <;> first | cases e | skip
    rename_i z
    cases e3 : xs.mapM PV.strOf with
    | none => rw [e3] at e; cases e
    | some us =>
      rw [e3] at e
      cases e
      rw [e1, own_strs h2 e3, show v = V.str z from h1]
      rfl
def pJoin : PO
  | [(_, .str a), (n, y)] => (y.items n).bind fun q => (q.2.mapM PV.strOf).bind fun ys => if (ys.map (·.length)).sum + ys.length * a.length ≤ 16777216 then sc (.str (Txt.join a ys)) else none
  | _ => none
theorem rok_join : ROk K (fun vs H Q => ∃ x xs, vs = x :: xs ∧ ∃ a p, ∃ ys : List Str, x = .str a ∧ xs = [.ref p] ∧ (SqL K H p (ys.map V.str) ∨ SqT K H p (ys.map V.str)) ∧
    (ys.map (·.length)).sum + ys.length * a.length ≤ 16777216 ∧ Q (.str (Txt.join a ys)) H) pJoin := by
  intro H0 H ps vs o Q s w e G
  unfold pJoin at e
  split at e
  · obtain ⟨v, u, F, F', rfl, h1, h2⟩ := views2 w
    cases (show v = _ from h1)
    obtain ⟨⟨m, xs⟩, e1, e2⟩ := Option.bind_eq_some_iff.mp e
    obtain ⟨ys, e3, e4⟩ := Option.bind_eq_some_iff.mp e2
    obtain ⟨a, vs, G', rfl, hs, ho⟩ := own_items s h2 e1
    have q := own_strs ho e3
    subst q
    split at e4
    · exact ⟨_, _, rfl, _, a, ys, rfl, rfl, hs, ‹_›, sc_gives e4 G s rfl⟩
    · cases e4
  · cases e
def pStarts : PO
  | [(_, .str a), (_, .str b)] => sc (.bl (Txt.startswith a b))
  | _ => none
theorem rok_starts : ROk K (fun vs H Q => ∃ x xs, vs = x :: xs ∧ ∃ a b, x = .str a ∧ xs = [.str b] ∧ Q (.bl (Txt.startswith a b)) H) pStarts := by
  intro H0 H ps vs o Q s w e G
  unfold pStarts at e
  split at e
  · obtain ⟨v, u, F, F', rfl, h1, h2⟩ := views2 w
    cases (show v = _ from h1); cases (show u = _ from h2)
    exact ⟨_, _, rfl, _, _, rfl, rfl, sc_gives e G s rfl⟩
  · cases e
section
variable (hn : noSup o = true) (hs : noStars [e] = true) (hl : (apos.endLine == cpos.line) = true) (ho : EV g Γ o fo) (ha : AV g Γ [e] af)
include hn hs hl ho ha
theorem ev_split : EV g Γ (.Call (.Attribute o "split" apos) [e] [] cpos) (eOp pSplit (aConsT PV.isStr fo af)) :=
  ev_meth F.plainAttrs_str F.slot_str_split F.type_str_split (fun _ _ _ => mt_split) rok_split ty_str hn hs hl (show 1 < 29 by decide) ho ha
theorem ev_part : EV g Γ (.Call (.Attribute o "partition" apos) [e] [] cpos) (eOp pPart (aConsT PV.isStr fo af)) :=
  ev_meth F.plainAttrs_str F.slot_str_partition F.type_str_partition (fun _ _ _ => mt_partition) rok_part ty_str hn hs hl (show 1 < 29 by decide) ho ha
theorem ev_join : EV g Γ (.Call (.Attribute o "join" apos) [e] [] cpos) (eOp pJoin (aConsT PV.isStr fo af)) :=
  ev_meth F.plainAttrs_str F.slot_str_join F.type_str_join (fun X W F => by rw [← F.K]; exact mt_join) rok_join ty_str hn hs hl (show 1 < 29 by decide) ho ha
theorem ev_starts : EV g Γ (.Call (.Attribute o "startswith" apos) [e] [] cpos) (eOp pStarts (aConsT PV.isStr fo af)) :=
  ev_meth F.plainAttrs_str F.slot_str_startswith F.type_str_startswith (fun _ _ _ => mt_startswith) rok_starts ty_str hn hs hl (show 1 < 29 by decide) ho ha
end

/-! ## what is walked -/
/-- the items (each at its turn, as the iterator hands it out) -/
structure Src (K : PySem.W.Frag) (xs : List PV) (J : It) (R : Hp → Hp → Prop) (B : Fp) : Prop where
  go : ∀ {H0 H i}, Same H0 H → R H0 H → i < xs.length → J.go i H
  stop : ∀ {H0 H i}, Same H0 H → R H0 H → xs.length ≤ i → J.stop i H
  yld : ∀ {H0 H i x H'}, Same H0 H → R H0 H → J.yld i H x H' → ∀ y, xs[i]? = some y → ∃ H0', Alloc H0 H H0' H' noF ∧ Own K H0' H' y 0 x noF
  keep : ∀ {H0 H H0' H'}, R H0 H → Same H0 H0' → (∀ a o, B a → H a = some o → H' a = some o) → R H0' H'
structure Ir where
  pu : Bool
  xs : List PV
  ρ : Ev
abbrev IF' := Ev → Res Ir
def tI (g : Prg) (W : WX) (s : IF') : TI := fun σ H R => ∃ H0 O ρ, St0 g.K H0 H O σ ρ ∧ match s ρ with
  | .ok r => ∀ J RR H0' H' O' B, Grow H0 H O H0' H' (O'.or B) → (r.pu = true → Same H H') → St0 g.K H0' H' O' σ r.ρ → Tmp H0' H' O' B → Src g.K r.xs J RR B → RR H0' H' → R J H'
  | .exc c fs ρ' => PostX g H0 H O σ c fs ρ' W
  | .bad => False
def IV (g : Prg) (Γ : Sx) (tg iter : Expr) (s : IF') : Prop := ∀ X W, Fits g Γ X W → PI X tg iter (tI g W s)
theorem PI.imp {X : Cx} {tg e : Expr} {t t' : TI} (h : PI X tg e t) (k : ∀ σ H Q, t' σ H Q → t σ H Q) : PI X tg e t' := ⟨fun pins s σ H Q I q => h.run pins s σ H Q I (k σ H Q q)⟩
/-- a list or a tuple: shared, or just made -/
def seqIt (lst : Bool) (r : Rr) : Option (List PV) := match r.x with
  | .lst xs => if lst = true ∧ (r.lv = 0 ∨ (r.ow = true ∧ r.lv = 1)) then some xs else none
  | .clst xs => if lst = true then some xs else none
  | .tup xs => if lst = false then some xs else none
  | .ctup xs => if lst = false then some xs else none
  | _ => none
def iSeq (lst : Bool) (f : EF) : IF' := fun ρ => (f ρ).bind fun r => match seqIt lst r with
  | some xs => .ok ⟨r.pu, xs, r.ρ⟩
  | none => .bad
def RSeq (K : PySem.W.Frag) (a : Addr) (xs : List PV) (B : Fp) (l : Bool) : Hp → Hp → Prop := fun H0 H => ∃ vs, ((if l = true then SqL K H0 a vs else SqT K H0 a vs) ∨ (l = true ∧ B a ∧ H a = some (.lst vs))) ∧ Sh K H0 H xs vs
theorem RSeq.lst {a : Addr} {xs : List PV} {B : Fp} (s : Same H0 H) (h : RSeq K a xs B true H0 H) : ∃ vs, SqL K H a vs ∧ Sh K H0 H xs vs := by
  obtain ⟨vs, q, sh⟩ := h
  rcases q with q | q
  · rw [if_pos rfl] at q
    exact ⟨vs, s.seq q, sh⟩
  · exact ⟨vs, .inl (.inl q.2.2), sh⟩
theorem RSeq.tup {a : Addr} {xs : List PV} {B : Fp} (s : Same H0 H) (h : RSeq K a xs B false H0 H) : ∃ vs, SqT K H a vs ∧ Sh K H0 H xs vs := by
  obtain ⟨vs, q, sh⟩ := h
  rcases q with q | q
  · rw [if_neg (by decide)] at q
    exact ⟨vs, Same.sqT s q, sh⟩
  · cases q.1
theorem RSeq.keep {H0' H' : Hp} {a : Addr} {xs : List PV} {B : Fp} {l : Bool} (h : RSeq K a xs B l H0 H) (s : Same H0 H0') (k : ∀ a o, B a → H a = some o → H' a = some o) : RSeq K a xs B l H0' H' := by
  obtain ⟨vs, q, sh⟩ := h
  refine ⟨vs, ?_, sh_tr s sh⟩
  rcases q with q | ⟨h1, h2, h3⟩
  · refine .inl ?_
    cases l with
    | true => rw [if_pos rfl] at q ⊢; exact s.seq q
    | false => rw [if_neg (by decide)] at q ⊢; exact Same.sqT s q
  · exact .inr ⟨h1, h2, k _ _ h2 h3⟩
theorem src_list {a : Addr} {xs : List PV} {B : Fp} : Src K xs (Itl K a) (RSeq K a xs B true) B where
  go := fun {H0 H i} s r hi => by
    obtain ⟨vs, hq, sh⟩ := r.lst s
    have hl := Paired.length sh
    exact ⟨vs, vs[i]'(by omega), hq, List.getElem?_eq_getElem _⟩
  stop := fun {H0 H i} s r hi => by
    obtain ⟨vs, hq, sh⟩ := r.lst s
    have hl := Paired.length sh
    exact ⟨vs, hq, by omega⟩
  yld := fun {H0 H i x H'} s r hy y hx => by
    obtain ⟨vs, hq, sh⟩ := r.lst s
    obtain ⟨e, hy⟩ := hy
    subst e
    obtain ⟨v, e1, e2⟩ := Paired.gets sh hx
    rw [hy vs hq] at e1
    cases e1
    exact ⟨H0, .refl s, e2⟩
  keep := fun r s k => r.keep s k
theorem src_tup {a : Addr} {xs : List PV} {B : Fp} : Src K xs (Itt K a) (RSeq K a xs B false) B where
  go := fun {H0 H i} s r hi => by
    obtain ⟨vs, hq, sh⟩ := r.tup s
    have hl := Paired.length sh
    exact ⟨vs, vs[i]'(by omega), hq, List.getElem?_eq_getElem _⟩
  stop := fun {H0 H i} s r hi => by
    obtain ⟨vs, hq, sh⟩ := r.tup s
    have hl := Paired.length sh
    exact ⟨vs, hq, by omega⟩
  yld := fun {H0 H i x H'} s r hy y hx => by
    obtain ⟨vs, hq, sh⟩ := r.tup s
    obtain ⟨e, hy⟩ := hy
    subst e
    obtain ⟨v, e1, e2⟩ := Paired.gets sh hx
    rw [hy vs hq] at e1
    cases e1
    exact ⟨H0, .refl s, e2⟩
  keep := fun r s k => r.keep s k
variable {tg a : Expr} {fa : EF}
theorem rseq_of {r : Rr} {lst : Bool} {xs : List PV} {v : V} {B : Fp} (e : seqIt lst r = some xs) (w : if r.ow = true then Own K H0 H r.x r.lv v B else ∃ F, Own K H0 H r.x r.lv v F) : ∃ a, v = .ref a ∧ RSeq K a xs B lst H0 H := by
  have z : ∃ F, Own K H0 H r.x r.lv v F := by
    split at w
    · exact ⟨_, w⟩
    · exact w
  obtain ⟨F, z⟩ := z
  unfold seqIt at e
  split at e
  · rename_i ys hx
    split at e
    · rename_i hc
      cases e
      obtain ⟨hl, hc⟩ := hc
      subst hl
      rcases hc with hc | ⟨ho, hc⟩
      · rw [hx, hc] at z
        obtain ⟨a, vs, rfl, h1, h2⟩ := z
        exact ⟨a, rfl, vs, .inl (by rw [if_pos rfl]; exact .inl (.inl h1)), own_pair h2⟩
      · rw [if_pos ho, hx, hc] at w
        obtain ⟨a, vs, rfl, h1, h2, h3⟩ := w
        exact ⟨a, rfl, vs, .inr ⟨rfl, h2, h1⟩, own_pair h3⟩
    · cases e
  · rename_i ys hx
    split at e
    · rename_i hc
      cases e
      subst hc
      rw [hx] at z
      obtain ⟨a, vs, rfl, h1, h2⟩ := z
      exact ⟨a, rfl, vs, .inl (by rw [if_pos rfl]; exact h1), own_pair h2⟩
    · cases e
  · rename_i ys hx
    split at e
    · rename_i hc
      cases e
      subst hc
      rw [hx] at z
      obtain ⟨a, vs, rfl, h1, h2⟩ := z
      exact ⟨a, rfl, vs, .inl (by rw [if_neg (by decide)]; exact .inl (.inl h1)), own_pair h2⟩
    · cases e
  · rename_i ys hx
    split at e
    · rename_i hc
      cases e
      subst hc
      rw [hx] at z
      obtain ⟨a, vs, rfl, h1, h2⟩ := z
      exact ⟨a, rfl, vs, .inl (by rw [if_neg (by decide)]; exact sqT_up h1), own_pair h2⟩
    · cases e
  · cases e
theorem seq_iter {W : WX} {σ : L2.St} {R : It → Hp → Prop} {lst : Bool} (q : tI g W (iSeq lst fa) σ H R) : tF g W fa σ H fun x H1 => ∃ a, x = .ref a ∧ (∃ H0 xs B, Same H0 H1 ∧ RSeq g.K a xs B lst H0 H1) ∧ R (if lst = true then Itl g.K a else Itt g.K a) H1 := by
  obtain ⟨H0, O, ρ, S, q⟩ := q
  refine ⟨H0, O, ρ, S, ?_⟩
  unfold iSeq at q
  cases ee : fa ρ with
  | bad => rw [ee] at q; exact q
  | exc c fs ρ' => rw [ee] at q; exact q
  | ok r =>
    rw [ee] at q
    simp only [Res.bind] at q
    intro v H0' H' O' B kk hp S' T w
    cases he : seqIt lst r with
    | none => rw [he] at q; exact q.elim
    | some xs =>
      rw [he] at q
      obtain ⟨a, rfl, rs⟩ := rseq_of he w
      refine ⟨a, rfl, ⟨H0', xs, B, S'.sub, rs⟩, ?_⟩
      cases lst with
      | true => exact q _ _ H0' H' O' B kk hp S' T src_list rs
      | false => exact q _ _ H0' H' O' B kk hp S' T src_tup rs
theorem iv_list (ha : EV g Γ a fa) : IV g Γ tg a (iSeq true fa) := fun X W F => by
  refine PI.imp (pi_list (ha X W F)) fun σ H R q => tF.mono (seq_iter q) fun x H1 ⟨a, e, ⟨H0, xs, B, s, r⟩, q⟩ => ?_
  obtain ⟨vs, h1, _⟩ := r.lst s
  exact ⟨a, e, ⟨vs, by rw [F.K]; exact h1⟩, by rw [F.K]; exact q⟩
theorem iv_tup (ha : EV g Γ a fa) : IV g Γ tg a (iSeq false fa) := fun X W F => by
  refine PI.imp (pi_tup (ha X W F)) fun σ H R q => tF.mono (seq_iter q) fun x H1 ⟨a, e, ⟨H0, xs, B, s, r⟩, q⟩ => ?_
  obtain ⟨vs, h1, _⟩ := r.tup s
  exact ⟨a, e, ⟨vs, by rw [F.K]; exact h1⟩, by rw [F.K]; exact q⟩
end
end Pv

set_option maxRecDepth 100000
set_option maxHeartbeats 1000000
namespace Pv
open PySem PySem.Spec PyProof.Rows L2

section
variable {g : Prg} {Γ : Sx} {K : PySem.W.Frag} {H0 H : Hp}
variable {tg a b c : Expr} {fa fb fc : EF} {es : List Expr} {af : AF} {p pos : Pos}
/-! ## more sources -/
theorem PI.or {X : Cx} {tg e : Expr} {t t' : TI} (h : PI X tg e t) (h' : PI X tg e t') : PI X tg e (fun σ H Q => t σ H Q ∨ t' σ H Q) := ⟨fun pins s σ H Q I q => q.elim (h.run pins s σ H Q I) (h'.run pins s σ H Q I)⟩
def strIt (s : Str) : List PV := s.cps.toList.map fun c => .str ⟨#[c]⟩
def iStrF (f : EF) : IF' := fun ρ => (f ρ).bind fun r => match r.x with
  | .str s => .ok ⟨r.pu, strIt s, r.ρ⟩
  | _ => .bad
theorem src_str {s : Str} : Src K (strIt s) (Its s) (fun _ _ => True) noF where
  go := fun {H0 H i} _ _ hi => by
    have : i < s.cps.size := by simpa [strIt] using hi
    exact this
  stop := fun {H0 H i} _ _ hi => by
    have : s.cps.size ≤ i := by simpa [strIt] using hi
    exact this
  yld := fun {H0 H i x H'} s' _ hy y hx => by
    obtain ⟨e, c, h1, h2⟩ := hy
    subst e h2
    have h3 : s.cps.toList[i]? = some c := by simpa using h1
    unfold strIt at hx
    rw [List.getElem?_map, h3] at hx
    cases hx
    exact ⟨H0, .refl s', rfl⟩
  keep := fun _ _ _ => True.intro
theorem str_iter {W : WX} {σ : L2.St} {R : It → Hp → Prop} (q : tI g W (iStrF fa) σ H R) : tF g W fa σ H fun x H1 => ∃ z, x = .str z ∧ R (Its z) H1 := by
  obtain ⟨H0, O, ρ, S, q⟩ := q
  refine ⟨H0, O, ρ, S, ?_⟩
  unfold iStrF at q
  cases ee : fa ρ with
  | bad => rw [ee] at q; exact q
  | exc c fs ρ' => rw [ee] at q; exact q
  | ok r =>
    rw [ee] at q
    simp only [Res.bind] at q
    intro v H0' H' O' B kk hp S' T w
    have z : ∃ F, Own g.K H0' H' r.x r.lv v F := by
      split at w
      · exact ⟨_, w⟩
      · exact w
    obtain ⟨F, z⟩ := z
    cases hx : r.x <;> rw [hx] at q <;> first | exact q.elim | skip
    rename_i z'
    rw [hx] at z
    exact ⟨z', z, q (Its z') (fun _ _ => True) H0' H' O' noF (kk.mono fun a z => .inl (z.elim id False.elim)) hp S' .no src_str True.intro⟩
/-- a list, a tuple or a text -/
def iAny (f : EF) : IF' := fun ρ => (f ρ).bind fun r => match r.x with
  | .str s => .ok ⟨r.pu, strIt s, r.ρ⟩
  | .tup xs => .ok ⟨r.pu, xs, r.ρ⟩
  | .ctup xs => .ok ⟨r.pu, xs, r.ρ⟩
  | .clst xs => .ok ⟨r.pu, xs, r.ρ⟩
  | .lst xs => if r.lv = 0 ∨ (r.ow = true ∧ r.lv = 1) then .ok ⟨r.pu, xs, r.ρ⟩ else .bad
  | _ => .bad
theorem any_iter {W : WX} {σ : L2.St} {R : It → Hp → Prop} (q : tI g W (iAny fa) σ H R) : tI g W (iSeq true fa) σ H R ∨ (tI g W (iSeq false fa) σ H R ∨ tI g W (iStrF fa) σ H R) := by
  obtain ⟨H0, O, ρ, S, q⟩ := q
  unfold iAny at q
  cases ee : fa ρ with
  | bad => rw [ee] at q; exact q.elim
  | exc c fs ρ' =>
    rw [ee] at q
    refine .inl ⟨H0, O, ρ, S, ?_⟩
    unfold iSeq
    rw [ee]
    exact q
  | ok r =>
    rw [ee] at q
    simp only [Res.bind] at q
    cases hx : r.x with
    | str s =>
      refine .inr (.inr ⟨H0, O, ρ, S, ?_⟩)
      unfold iStrF
      rw [ee]
      simp only [Res.bind, hx] at q ⊢
      exact q
    | tup xs =>
      refine .inr (.inl ⟨H0, O, ρ, S, ?_⟩)
      unfold iSeq
      rw [ee]
      simp only [Res.bind, hx, seqIt, ↓reduceIte] at q ⊢
      exact q
    | ctup xs =>
      refine .inr (.inl ⟨H0, O, ρ, S, ?_⟩)
      unfold iSeq
      rw [ee]
      simp only [Res.bind, hx, seqIt, ↓reduceIte] at q ⊢
      exact q
    | clst xs =>
      refine .inl ⟨H0, O, ρ, S, ?_⟩
      unfold iSeq
      rw [ee]
      simp only [Res.bind, hx, seqIt, ↓reduceIte] at q ⊢
      exact q
    | lst xs =>
      refine .inl ⟨H0, O, ρ, S, ?_⟩
      unfold iSeq
      rw [ee]
      simp only [Res.bind, hx, seqIt, true_and] at q ⊢
      by_cases hc : r.lv = 0 ∨ (r.ow = true ∧ r.lv = 1)
      · rw [if_pos hc] at q ⊢
        exact q
      · rw [if_neg hc] at q
        exact q.elim
    | _ => rw [hx] at q; exact q.elim
theorem iv_any (ha : EV g Γ a fa) : IV g Γ tg a (iAny fa) := fun X W F => by
  refine PI.imp (PI.or (iv_list ha X W F) (PI.or (iv_tup ha X W F) (PI.imp (pi_str (ha X W F)) fun σ H R q => str_iter q))) fun σ H R q => any_iter q
/-! ### ranges -/
def rngL (lo : Int) (n : Nat) (c : Int) : List PV := (List.range n).map fun (k : Nat) => .int (lo + (k : Int) * c)
/-- what a range takes; not for the kernel to reckon -/
def R62 (j : Int) : Prop := -(2 ^ 62) ≤ j ∧ j < 2 ^ 62
noncomputable def r62 (j : Int) : Bool := @decide (R62 j) (Classical.propDecidable _)
theorem r62_iff {j : Int} : r62 j = true ↔ -(2 ^ 62) ≤ j ∧ j < 2 ^ 62 := by
  unfold r62
  rw [@decide_eq_true_iff _ (Classical.propDecidable _)]
  exact Iff.rfl
noncomputable def rngA1 : List (Nat × PV) → Option (List PV)
  | [(_, .int j)] => if r62 j = true then some (rngL 0 j.toNat 1) else none
  | _ => none
noncomputable def rngA2 : List (Nat × PV) → Option (List PV)
  | [(_, .int i), (_, .int j)] => if r62 i = true ∧ r62 j = true then some (rngL i (j - i).toNat 1) else none
  | _ => none
noncomputable def rngA3 : List (Nat × PV) → Option (List PV)
  | [(_, .int i), (_, .int j), (_, .int (-1))] => if r62 i = true ∧ r62 j = true then some (rngL i (i - j).toNat (-1)) else none
  | _ => none
def iRange (rngA : List (Nat × PV) → Option (List PV)) (af : AF) : IF' := fun ρ => (af ρ).bind fun a => match rngA a.vs with
  | some xs => .ok ⟨a.pu, xs, a.ρ⟩
  | none => .bad
theorem src_rng {lo : Int} {n : Nat} : Src K (rngL lo n 1) (Itr lo n) (fun _ _ => True) noF where
  go := fun {H0 H i} _ _ hi => by
    have : i < n := by simpa [rngL] using hi
    exact this
  stop := fun {H0 H i} _ _ hi => by
    have : n ≤ i := by simpa [rngL] using hi
    exact this
  yld := fun {H0 H i x H'} s' _ hy y hx => by
    obtain ⟨e, h2⟩ := hy
    subst e h2
    unfold rngL at hx
    rw [List.getElem?_map] at hx
    cases h : (List.range n)[i]? with
    | none => rw [h] at hx; cases hx
    | some k =>
      rw [h] at hx
      cases hx
      obtain ⟨h1, h2⟩ := List.getElem?_eq_some_iff.mp h
      rw [List.getElem_range] at h2
      subst h2
      exact ⟨H0, .refl s', by show V.int _ = V.int _; rw [Int.mul_one]⟩
  keep := fun _ _ _ => True.intro
theorem src_rngC {lo c : Int} {n : Nat} : Src K (rngL lo n c) (Itc lo c n) (fun _ _ => True) noF where
  go := fun {H0 H i} _ _ hi => by
    have : i < n := by simpa [rngL] using hi
    exact this
  stop := fun {H0 H i} _ _ hi => by
    have : n ≤ i := by simpa [rngL] using hi
    exact this
  yld := fun {H0 H i x H'} s' _ hy y hx => by
    obtain ⟨e, h2⟩ := hy
    subst e h2
    unfold rngL at hx
    rw [List.getElem?_map] at hx
    cases h : (List.range n)[i]? with
    | none => rw [h] at hx; cases hx
    | some k =>
      rw [h] at hx
      cases hx
      obtain ⟨h1, h2⟩ := List.getElem?_eq_some_iff.mp h
      rw [List.getElem_range] at h2
      subst h2
      exact ⟨H0, .refl s', rfl⟩
  keep := fun _ _ _ => True.intro
theorem rng_run {W : WX} {σ : L2.St} {R : It → Hp → Prop} {rngA : List (Nat × PV) → Option (List PV)} {T : List V → It → Prop} (h : ∀ {H0 H ps vs xs}, Views g.K H0 H ps vs → rngA ps = some xs → ∃ J, Src g.K xs J (fun _ _ => True) noF ∧ T vs J) (q : tI g W (iRange rngA af) σ H R) : tA g W af σ H fun vs H1 => ∃ J, T vs J ∧ R J H1 := by
  obtain ⟨H0, O, ρ, S, q⟩ := q
  refine ⟨H0, O, ρ, S, ?_⟩
  unfold iRange at q
  cases ee : af ρ with
  | bad => rw [ee] at q; exact q
  | exc c fs ρ' => rw [ee] at q; exact q
  | ok a =>
    rw [ee] at q
    simp only [Res.bind] at q
    intro vs H0' H' O' kk hp S' w
    cases hr : rngA a.vs with
    | none => rw [hr] at q; exact q.elim
    | some xs =>
      rw [hr] at q
      obtain ⟨J, h1, h2⟩ := h w hr
      exact ⟨J, h2, q J (fun _ _ => True) H0' H' O' noF (kk.mono fun a z => z.elim id False.elim) hp S' .no h1 True.intro⟩
theorem rngT1 {H0 H : Hp} {ps : List (Nat × PV)} {vs : List V} {xs : List PV} (w : Views K H0 H ps vs) (hr : rngA1 ps = some xs) : ∃ J, Src K xs J (fun _ _ => True) noF ∧ ∃ j : Int, vs = [.int j] ∧ (-(2 ^ 62) ≤ j ∧ j < 2 ^ 62) ∧ J = Itr 0 j.toNat := by
  unfold rngA1 at hr
  split at hr
  · split at hr
    · rename_i hc
      cases hr
      obtain ⟨v, F, rfl, h1⟩ := views1 w
      cases (show v = _ from h1)
      exact ⟨_, src_rng, _, rfl, r62_iff.mp hc, rfl⟩
    · cases hr
  · cases hr
theorem rngT2 {H0 H : Hp} {ps : List (Nat × PV)} {vs : List V} {xs : List PV} (w : Views K H0 H ps vs) (hr : rngA2 ps = some xs) : ∃ J, Src K xs J (fun _ _ => True) noF ∧ ∃ i j : Int, vs = [.int i, .int j] ∧ (-(2 ^ 62) ≤ i ∧ i < 2 ^ 62 ∧ -(2 ^ 62) ≤ j ∧ j < 2 ^ 62) ∧ J = Itr i (j - i).toNat := by
  unfold rngA2 at hr
  split at hr
  · split at hr
    · rename_i hc
      cases hr
      obtain ⟨v, u, F, F', rfl, h1, h2⟩ := views2 w
      cases (show v = _ from h1); cases (show u = _ from h2)
      exact ⟨_, src_rng, _, _, rfl, ⟨(r62_iff.mp hc.1).1, (r62_iff.mp hc.1).2, r62_iff.mp hc.2⟩, rfl⟩
    · cases hr
  · cases hr
theorem rngT3 {H0 H : Hp} {ps : List (Nat × PV)} {vs : List V} {xs : List PV} (w : Views K H0 H ps vs) (hr : rngA3 ps = some xs) : ∃ J, Src K xs J (fun _ _ => True) noF ∧ ∃ (i j c : Int) (n : Nat), vs = [.int i, .int j, .int c] ∧ RgC i j c n ∧ J = Itc i c n := by
  unfold rngA3 at hr
  split at hr
  · split at hr
    · rename_i hc
      cases hr
      obtain ⟨v, u, t, F, F', F'', rfl, h1, h2, h3⟩ := views3 w
      cases (show v = _ from h1); cases (show u = _ from h2); cases (show t = _ from h3)
      exact ⟨_, src_rngC, _, _, _, _, rfl, RgC.neg (r62_iff.mp hc.1).1 (r62_iff.mp hc.1).2 (r62_iff.mp hc.2).1 (r62_iff.mp hc.2).2, rfl⟩
    · cases hr
  · cases hr
theorem iv_rng1 (hs : noStar a = true) (hg : IsGl Γ "range") (hm : g.mg "range" = none) (ha : AV g Γ [a] af) : IV g Γ tg (.Call (.Name "range" p) [a] [] pos) (iRange rngA1 af) := fun X W F =>
  PI.imp (pi_range1 (IsGl.of F hg) (by rw [F.mg]; exact hm) (ha X W F) (star_cons hs)) fun σ H R q => tA.mono (rng_run rngT1 q) fun vs H1 ⟨J, ⟨j, e, c, h⟩, r⟩ => ⟨j, e, c.1, c.2, by rw [← h]; exact r⟩
theorem iv_rng2 (hs : noStar a = true) (hs2 : noStar b = true) (hg : IsGl Γ "range") (hm : g.mg "range" = none) (ha : AV g Γ [a, b] af) : IV g Γ tg (.Call (.Name "range" p) [a, b] [] pos) (iRange rngA2 af) := fun X W F =>
  PI.imp (pi_range2 (IsGl.of F hg) (by rw [F.mg]; exact hm) (ha X W F) (by rw [star_cons hs, star_cons hs2]; rfl) (star_cons hs2)) fun σ H R q => tA.mono (rng_run rngT2 q) fun vs H1 ⟨J, ⟨i, j, e, c, h⟩, r⟩ => ⟨i, j, e, c, by rw [← h]; exact r⟩
theorem iv_rng3 (hs : noStars [a, b, c] = true) (hg : IsGl Γ "range") (hm : g.mg "range" = none) (ha : AV g Γ [a, b, c] af) : IV g Γ tg (.Call (.Name "range" p) [a, b, c] [] pos) (iRange rngA3 af) := fun X W F =>
  PI.imp (pi_range3 (IsGl.of F hg) (by rw [F.mg]; exact hm) (ha X W F) (star_cons (noStars_all hs _ List.mem_cons_self)) (star_any fun y hy => noStars_all hs _ (List.mem_cons_of_mem _ hy))) fun σ H R q => tA.mono (rng_run rngT3 q) fun vs H1 ⟨J, ⟨i, j, c, n, e, r1, h⟩, r⟩ => ⟨i, j, c, n, e, r1, by rw [← h]; exact r⟩

/-! ## targets -/
abbrev BF := PV → Ev → Option Ev
/-- the target binds: only the slots sl change -/
def gF (g : Prg) (sl : List Nat) (bf : BF) : TG := fun v σ H Q => ∃ H0 O ρ x ρ', St0 g.K H0 H O σ ρ ∧ Own g.K H0 H x 0 v noF ∧ bf x ρ = some ρ' ∧
  ∀ σ' O', (∀ a, O' a → O a) → St0 g.K H0 H O' σ' ρ' → (∀ j, j ∉ sl → σ'[j]? = σ[j]?) → σ'.length = σ.length → Q σ' H
def GV (g : Prg) (Γ : Sx) (tg : Expr) (sl : List Nat) (bf : BF) : Prop := ∀ X W, Fits g Γ X W → L2.PG X tg (gF g sl bf)
theorem LG.imp {X : Cx} {e : Expr} {t t' : TG} (h : L2.PG X e t) (k : ∀ v σ H Q, t' v σ H Q → t v σ H Q) : L2.PG X e t' := ⟨fun pins s σ H v u Q I r q => h.run pins s σ H v u Q I r (k v σ H Q q)⟩
theorem St0.sub_O {O O' : Fp} {σ : L2.St} {ρ : Ev} (S : St0 K H0 H O σ ρ) {F : Nat → Fp} (h : ∀ i j a, F i a → F j a → i = j) (h2 : ∀ i a, F i a → O' a) (h4 : ∀ a, O' a → O a) (h3 : ∀ i n x, ρ[i]? = some (some (n, x)) → ∃ v, σ[i]? = some (some v) ∧ Own K H0 H x n v (F i)) : St0 K H0 H O' σ ρ :=
  ⟨S.sub, fun a z => S.dom a (h4 a z), fun a z => S.sep a (h4 a z), S.len, F, h, h2, h3⟩
/-- a slot takes a value -/
theorem St0.set {O B : Fp} {σ : L2.St} {ρ : Ev} {i n : Nat} {x : PV} {v : V} (S : St0 K H0 H O σ ρ) (T : Tmp H0 H O B) (o : Own K H0 H x n v B) (hi : i < σ.length) : St0 K H0 H (O.or B) (σ.set i (some v)) (ρ.set i (some (n, x))) := by
  obtain ⟨F, f1, f2, f3⟩ := S.own
  refine ⟨S.sub, fun a z => z.elim (S.dom a) (T.dom a), fun a z => z.elim (S.sep a) (T.sep a), by rw [List.length_set, List.length_set]; exact S.len, fun j a => if j = i then B a else F j a, fun j k a h1 h2 => ?_, fun j a h => ?_, fun j m y e => ?_⟩
  · by_cases hj : j = i
    · by_cases hk : k = i
      · rw [hj, hk]
      · simp only [hj, ↓reduceIte, hk] at h1 h2
        exact absurd (f2 _ _ h2) (T.off a h1)
    · by_cases hk : k = i
      · simp only [hj, ↓reduceIte, hk] at h1 h2
        exact absurd (f2 _ _ h1) (T.off a h2)
      · simp only [hj, ↓reduceIte, hk] at h1 h2
        exact f1 j k a h1 h2
  · by_cases hj : j = i
    · simp only [hj, ↓reduceIte] at h
      exact .inr h
    · simp only [hj, ↓reduceIte] at h
      exact .inl (f2 j a h)
  · by_cases hj : j = i
    · subst hj
      rw [List.getElem?_set_self (by rw [← S.len]; exact hi)] at e
      cases e
      refine ⟨v, List.getElem?_set_self hi, ?_⟩
      simp only [↓reduceIte]
      exact o
    · rw [List.getElem?_set_ne (Ne.symm hj)] at e
      obtain ⟨v', e1, e2⟩ := f3 j m y e
      refine ⟨v', by rw [List.getElem?_set_ne (Ne.symm hj)]; exact e1, ?_⟩
      simp only [hj, ↓reduceIte]
      exact e2
/-- a slot is forgotten -/
theorem St0.drop {O : Fp} {σ : L2.St} {ρ : Ev} {i : Nat} {o : Option V} (S : St0 K H0 H O σ ρ) : St0 K H0 H O (σ.set i o) (ρ.set i none) := by
  obtain ⟨F, f1, f2, f3⟩ := S.own
  refine ⟨S.sub, S.dom, S.sep, by rw [List.length_set, List.length_set]; exact S.len, F, f1, f2, fun j m y e => ?_⟩
  by_cases hj : j = i
  · subst hj
    by_cases hl : j < ρ.length
    · rw [List.getElem?_set_self hl] at e; cases e
    · rw [List.getElem?_eq_none (by rw [List.length_set]; omega)] at e; cases e
  · rw [List.getElem?_set_ne (Ne.symm hj)] at e
    obtain ⟨v', e1, e2⟩ := f3 j m y e
    exact ⟨v', by rw [List.getElem?_set_ne (Ne.symm hj)]; exact e1, e2⟩
def bName (i : Nat) : BF := fun x ρ => some (ρ.set i (some (0, x)))
def bNames : List Nat → List PV → Ev → Option Ev
  | [], [], ρ => some ρ
  | i :: is, x :: xs, ρ => bNames is xs (ρ.set i (some (0, x)))
  | _, _, _ => none
def bTup (is : List Nat) : BF := fun x ρ => match x with
  | .tup xs => bNames is xs ρ
  | .ctup xs => bNames is xs ρ
  | _ => none
/-- the name may be stored -/
def locOk (Γ : Sx) (x : Str) : Bool := match Γ.sc.names.lookup x with
  | some .local => true
  | some .cell => !Γ.blk
  | _ => false
theorem pg_name' {X : Cx} {W : WX} {i : Nat} {x : Str} {pos : Pos} (F : Fits g Γ X W) (hi : Γ.N[i]? = some x) (hl : locOk Γ x = true) : L2.PG X (.Name x pos) (gName i) := by
  refine pg_name F.nd (by rw [F.N]; exact hi) ?_ ?_
  · unfold locOk at hl
    unfold L2.Loc
    rw [F.sc]
    split at hl
    · exact .inl ‹_›
    · exact .inr ‹_›
    · cases hl
  · unfold locOk at hl
    rw [F.sc]
    split at hl
    · exact .inr ‹_›
    · exact .inl (F.fn (by cases h : Γ.blk with | false => rfl | true => rw [h] at hl; cases hl) x)
    · cases hl
/-- slots' numbers and names go together -/
theorem len_of {X : Cx} {pins : List (Addr × Obj)} {σ : L2.St} {s : Shared} (I : Inv X pins σ H s) {i : Nat} {x : Str} (h : X.N[i]? = some x) : i < σ.length := by
  rw [I.len]
  exact (List.getElem?_eq_some_iff.mp h).1
theorem gv_name {i : Nat} {x : Str} (hi : Γ.N[i]? = some x) (hl : locOk Γ x = true) : GV g Γ (.Name x pos) [i] (bName i) := fun X W F => by
  refine ⟨fun pins s σ H v u Q I r q => (pg_name' F hi hl).run pins s σ H v u Q I r ?_⟩
  obtain ⟨H0, O, ρ, x, ρ', S, o, e, q⟩ := q
  cases e
  refine q _ O (fun _ z => z) ?_ (fun j hj => by rw [List.getElem?_set_ne (fun e => hj (by rw [e]; exact List.mem_singleton.mpr rfl))]) (by rw [List.length_set])
  have z := S.set .no o (len_of I (by rw [F.N]; exact hi))
  obtain ⟨F', f1, f2, f3⟩ := z.own
  exact z.sub_O f1 (fun i a h => (f2 i a h).elim id False.elim) (fun a z => .inl z) f3
theorem St0.set0 {O : Fp} {σ : L2.St} {ρ : Ev} {i : Nat} {x : PV} {v : V} (S : St0 K H0 H O σ ρ) (o : Own K H0 H x 0 v noF) (hi : i < σ.length) : St0 K H0 H O (σ.set i (some v)) (ρ.set i (some (0, x))) := by
  have z := S.set .no o hi
  obtain ⟨F', f1, f2, f3⟩ := z.own
  exact z.sub_O f1 (fun i a h => (f2 i a h).elim id False.elim) (fun a z => .inl z) f3
/-- names of slots -/
inductive GN (Γ : Sx) : List Expr → List Nat → Prop
  | nil : GN Γ [] []
  | cons {x : Str} {pos : Pos} {i : Nat} {es : List Expr} {is : List Nat} (hi : Γ.N[i]? = some x) (hl : locOk Γ x = true) (t : GN Γ es is) : GN Γ (.Name x pos :: es) (i :: is)
def gNs : List Nat → TGs
  | [] => gNil
  | i :: is => gCons (gName i) (gNs is)
theorem gn_pgs {X : Cx} {W : WX} (F : Fits g Γ X W) : ∀ {es : List Expr} {is : List Nat}, GN Γ es is → PGs X es (gNs is)
  | _, _, .nil => pgs_nil
  | _, _, .cons hi hl t => pgs_cons (pg_name' F hi hl) (gn_pgs F t) rfl
theorem gn_len : ∀ {es : List Expr} {is : List Nat}, GN Γ es is → es.length = is.length
  | _, _, .nil => rfl
  | _, _, .cons _ _ t => by rw [List.length_cons, List.length_cons, gn_len t]
theorem gn_ix : ∀ {es : List Expr} {is : List Nat}, GN Γ es is → ∀ i ∈ is, i < Γ.N.length
  | _, _, .nil, _, h => by cases h
  | _, _, .cons hi _ t, j, h => by
    rcases List.mem_cons.mp h with rfl | h
    · exact (List.getElem?_eq_some_iff.mp hi).1
    · exact gn_ix t j h
theorem gn_each {X : Cx} : ∀ {es : List Expr} {is : List Nat}, GN Γ es is → (assignEach es X.env).length = es.length ∧ List.findIdx? (fun x => x.1) (assignEach es X.env) = none
  | _, _, .nil => ⟨rfl, rfl⟩
  | _, _, .cons (es := es) _ _ t => by
    obtain ⟨h1, h2⟩ := gn_each (X := X) t
    refine ⟨?_, ?_⟩
    · show (assignEach es X.env).length + 1 = es.length + 1
      rw [h1]
    · show List.findIdx? (fun x => x.1) ((false, _) :: assignEach es X.env) = none
      rw [List.findIdx?_cons]
      rw [if_neg (show ¬ (false = true) from Bool.false_ne_true), h2]
      rfl
theorem bn_run {O : Fp} {n : Nat} : ∀ {is : List Nat} {xs : List PV} {vs : List V} {σ : L2.St} {ρ ρ' : Ev} {Q : L2.St → Hp → Prop}, bNames is xs ρ = some ρ' → Sh K H0 H xs vs → St0 K H0 H O σ ρ → (∀ i ∈ is, i < n) → σ.length = n →
    (∀ σ', St0 K H0 H O σ' ρ' → (∀ j, j ∉ is → σ'[j]? = σ[j]?) → σ'.length = n → Q σ' H) → gNs is vs σ H Q
  | [], [], vs, σ, ρ, ρ', Q, e, sh, S, hl, hn, q => by
    cases sh
    cases e
    exact ⟨rfl, q σ S (fun _ _ => rfl) hn⟩
  | i :: is, x :: xs, vs, σ, ρ, ρ', Q, e, sh, S, hl, hn, q => by
    cases sh with
    | cons h t =>
      rename_i v vs
      refine ⟨v, vs, rfl, ?_⟩
      show gNs is vs (σ.set i (some v)) H Q
      refine bn_run (n := n) e t (S.set0 h (by rw [hn]; exact hl i List.mem_cons_self)) (fun j hj => hl j (List.mem_cons_of_mem _ hj)) (by rw [List.length_set]; exact hn) fun σ' S' hj hl => q σ' S' (fun j hm => ?_) hl
      rw [hj j fun z => hm (List.mem_cons_of_mem _ z)]
      rw [List.getElem?_set_ne fun z => hm (by rw [z]; exact List.mem_cons_self)]
  | [], x :: xs, _, _, _, _, _, e, _, _, _, _, _ => by cases e
  | i :: is, [], _, _, _, _, _, e, _, _, _, _, _ => by cases e
theorem bn_len : ∀ {is : List Nat} {xs : List PV} {ρ ρ' : Ev}, bNames is xs ρ = some ρ' → is.length = xs.length
  | [], [], _, _, _ => rfl
  | i :: is, x :: xs, _, _, e => by rw [List.length_cons, List.length_cons, bn_len (is := is) (xs := xs) e]
  | [], x :: xs, _, _, e => by cases e
  | i :: is, [], _, _, e => by cases e
theorem gv_tup {es : List Expr} {is : List Nat} {k : Nat} (hh : Γ.hot = false) (h : GN Γ es is) : GV g Γ (.Tuple es k pos) is (bTup is) := fun X W F => by
  obtain ⟨h1, h2⟩ := gn_each (X := X) h
  refine ⟨fun pins s σ H v u Q I r q => (pg_tup (F.calm hh) (gn_pgs F h) rfl h2).run pins s σ H v u Q I r ?_⟩
  obtain ⟨H0, O, ρ, x, ρ', S, o, e, q⟩ := q
  have hn : σ.length = Γ.N.length := by rw [I.len, F.N]
  rw [h1, F.K]
  unfold bTup at e
  have fin : ∀ {xs : List PV} {a : Addr} {vs : List V}, bNames is xs ρ = some ρ' → v = .ref a → SqT g.K H a vs → OwnL g.K H0 H xs 0 vs noF → gTup g.K es.length (gNs is) v σ H Q := fun {xs a vs} e ev sq ow => by
    have lx : is.length = xs.length := bn_len e
    exact ⟨a, vs, ev, sq, by rw [ownL_len ow, gn_len h, lx], bn_run e (own_pair ow) S (gn_ix h) hn fun σ' S' hj hl => q σ' O (fun _ z => z) S' hj (by rw [hl, hn])⟩
  split at e
  · obtain ⟨a, vs, ev, g1, o1⟩ := own_tup S.sub o
    exact fin e ev (.inl (.inl g1)) o1
  · obtain ⟨a, vs, ev, g1, o1⟩ := o
    exact fin e ev (sqT_up g1) o1
  · cases e
end
end Pv

set_option maxRecDepth 100000
set_option maxHeartbeats 1000000
namespace Pv
open PySem PySem.Spec PyProof.Rows L2

/-! ## statements -/
def Pin (pn : List Nat) (σ σ' : L2.St) : Prop := ∀ i ∈ pn, σ'[i]? = σ[i]?
def SPost (K : PySem.W.Frag) (H0 H : Hp) (O : Fp) (σ : L2.St) (pn : List Nat) (ρ' : Ev) (T : L2.St → Hp → Prop) : Prop :=
  ∀ σ' H0' H' O', Grow H0 H O H0' H' O' → St0 K H0' H' O' σ' ρ' → Pin pn σ σ' → T σ' H'
def SPostR (K : PySem.W.Frag) (H0 H : Hp) (O : Fp) (σ : L2.St) (pn : List Nat) (lv : Nat) (x : PV) (ρ' : Ev) (T : VK) : Prop :=
  ∀ v σ' H0' H' O' B, Grow H0 H O H0' H' (O'.or B) → St0 K H0' H' O' σ' ρ' → Tmp H0' H' O' B → Own K H0' H' x lv v B → Pin pn σ σ' → T v H'
def SPostX (g : Prg) (H0 H : Hp) (O : Fp) (σ : L2.St) (pn : List Nat) (c : Str) (fs : List (Str × PV)) (ρ' : Ev) (W : WX) : Prop :=
  ∀ σ' H0' H' O' d, Grow H0 H O H0' H' O' → St0 g.K H0' H' O' σ' ρ' → ExD g.K H0' H' fs d → Pin pn σ σ' → W (.ref (g.ea c)) d σ' H'
def SQ (g : Prg) (pn : List Nat) (W : WX) (H0 H : Hp) (O : Fp) (σ : L2.St) (D : Ends) : SR → Prop
  | .nx ρ' => SPost g.K H0 H O σ pn ρ' D.nx
  | .bk ρ' => SPost g.K H0 H O σ pn ρ' D.bk
  | .ct ρ' => SPost g.K H0 H O σ pn ρ' D.ct
  | .rt lv x ρ' => SPostR g.K H0 H O σ pn lv x ρ' D.rt
  | .exc c fs ρ' => SPostX g H0 H O σ pn c fs ρ' W
  | .bad => False
def tS (g : Prg) (pn : List Nat) (W : WX) (F : SF) : TS := fun D σ H => ∃ H0 O ρ, St0 g.K H0 H O σ ρ ∧ SQ g pn W H0 H O σ D (F ρ)
def SV (g : Prg) (Γ : Sx) (st : Stmt) (F : SF) : Prop := ∀ X W, Fits g Γ X W → PS X st (tS g Γ.pn W F)
def SVs (g : Prg) (Γ : Sx) (st : List Stmt) (F : SF) : Prop := ∀ X W, Fits g Γ X W → PSs X st (tS g Γ.pn W F)

section
variable {g : Prg} {Γ : Sx} {K : PySem.W.Frag} {H0 H : Hp} {pn : List Nat} {W : WX} {O : Fp} {σ : L2.St} {D : Ends}
variable {a b c : Expr} {fa fb fc : EF} {pos p : Pos} {st : Stmt} {rest body : List Stmt} {F G : SF}
theorem Pin.refl : Pin pn σ σ := fun _ _ => rfl
theorem Pin.trans {σ1 σ2 : L2.St} (a : Pin pn σ σ1) (b : Pin pn σ1 σ2) : Pin pn σ σ2 := fun i h => (b i h).trans (a i h)
theorem SQ.of_grow {H0' H' : Hp} {O' : Fp} {σ' : L2.St} {r : SR} (q : SQ g pn W H0 H O σ D r) (k : Grow H0 H O H0' H' O') (P : Pin pn σ σ') : SQ g pn W H0' H' O' σ' D r := by
  cases r with
  | nx ρ' => exact fun σ2 H02 H2 O2 k2 S p2 => q σ2 H02 H2 O2 (k.trans0 k2) S (P.trans p2)
  | bk ρ' => exact fun σ2 H02 H2 O2 k2 S p2 => q σ2 H02 H2 O2 (k.trans0 k2) S (P.trans p2)
  | ct ρ' => exact fun σ2 H02 H2 O2 k2 S p2 => q σ2 H02 H2 O2 (k.trans0 k2) S (P.trans p2)
  | rt lv x ρ' => exact fun v σ2 H02 H2 O2 B k2 S T w p2 => q v σ2 H02 H2 O2 B (k.trans0 k2) S T w (P.trans p2)
  | exc c fs ρ' => exact fun σ2 H02 H2 O2 d k2 S e p2 => q σ2 H02 H2 O2 d (k.trans0 k2) S e (P.trans p2)
  | bad => exact q
def sNil : SF := fun ρ => .nx ρ
def SR.bind (r : SR) (f : Ev → SR) : SR := match r with
  | .nx ρ => f ρ
  | r => r
def sSeq (F G : SF) : SF := fun ρ => (F ρ).bind G
theorem svs_nil : SVs g Γ [] sNil := fun X W F => PSs.imp pss_nil fun D σ H ⟨H0, O, ρ, S, q⟩ => q σ H0 H O .refl S .refl
theorem seq_q {r : SR} (q : SQ g pn W H0 H O σ D (r.bind G)) : SQ g pn W H0 H O σ { D with nx := tS g pn W G D } r := by
  cases r with
  | nx ρ' => exact fun σ2 H02 H2 O2 k2 S p2 => ⟨H02, O2, ρ', S, SQ.of_grow (show SQ g pn W H0 H O σ D (G ρ') from q) k2 p2⟩
  | bk ρ' => exact q
  | ct ρ' => exact q
  | rt lv x ρ' => exact q
  | exc c fs ρ' => exact q
  | bad => exact q
theorem svs_cons (h : SV g Γ st F) (hr : SVs g Γ rest G) : SVs g Γ (st :: rest) (sSeq F G) := fun X W Fi =>
  PSs.imp (pss_cons (h X W Fi) (hr X W Fi)) fun D σ H ⟨H0, O, ρ, S, q⟩ => ⟨H0, O, ρ, S, seq_q q⟩
theorem svs_one (h : SV g Γ st F) : SVs g Γ [st] F := fun X W Fi => pss_one (h X W Fi)
theorem sv_pass : SV g Γ (.Pass pos) sNil := fun X W F => PS.imp ps_pass fun D σ H ⟨H0, O, ρ, S, q⟩ => q σ H0 H O .refl S .refl
theorem sv_break : SV g Γ (.Break pos) (fun ρ => .bk ρ) := fun X W F => PS.imp ps_break fun D σ H ⟨H0, O, ρ, S, q⟩ => q σ H0 H O .refl S .refl
theorem sv_continue : SV g Γ (.Continue pos) (fun ρ => .ct ρ) := fun X W F => PS.imp ps_continue fun D σ H ⟨H0, O, ρ, S, q⟩ => q σ H0 H O .refl S .refl
/-! ### from expressions -/
def ofE (r : Res Rr) (k : Rr → SR) : SR := match r with
  | .ok r => k r
  | .exc c fs ρ => .exc c fs ρ
  | .bad => .bad
def ofT (r : Res Tr) (k : Tr → SR) : SR := match r with
  | .ok r => k r
  | .exc c fs ρ => .exc c fs ρ
  | .bad => .bad
theorem sx_of {ρ' : Ev} {c : Str} {fs : List (Str × PV)} (q : SPostX g H0 H O σ pn c fs ρ' W) : PostX g H0 H O σ c fs ρ' W := fun H0' H' O' d k S e => q σ H0' H' O' d k S e .refl
theorem ofE_run {k : Rr → SR} (q : tS g pn W (fun ρ => ofE (fa ρ) k) D σ H) {Q : VK} (h : ∀ {H0 O ρ r}, St0 g.K H0 H O σ ρ → fa ρ = .ok r → SQ g pn W H0 H O σ D (k r) → PostR g.K H0 H O σ r Q) : tF g W fa σ H Q := by
  obtain ⟨H0, O, ρ, S, q⟩ := q
  refine ⟨H0, O, ρ, S, ?_⟩
  cases e : fa ρ with
  | bad => simp only [ofE, e] at q; exact q
  | exc c fs ρ' => simp only [ofE, e] at q; exact sx_of q
  | ok r => simp only [ofE, e] at q; exact h S e q
theorem ofT_run {t : TFn} {k : Tr → SR} (q : tS g pn W (fun ρ => ofT (t ρ) k) D σ H) {Q : Bool → Hp → Prop} (h : ∀ {H0 O ρ r}, St0 g.K H0 H O σ ρ → t ρ = .ok r → SQ g pn W H0 H O σ D (k r) → PostT g.K H0 H O σ r Q) : tT g W t σ H Q := by
  obtain ⟨H0, O, ρ, S, q⟩ := q
  refine ⟨H0, O, ρ, S, ?_⟩
  cases e : t ρ with
  | bad => simp only [ofT, e] at q; exact q
  | exc c fs ρ' => simp only [ofT, e] at q; exact sx_of q
  | ok r => simp only [ofT, e] at q; exact h S e q
/-- what is put away: at which level -/
def matL (r : Rr) : Option Nat := if r.ow = true then some r.lv else if r.lv = 0 ∨ r.x.imm = true then some 0 else none
theorem mat_own {r : Rr} {n : Nat} {v : V} {B : Fp} (e : matL r = some n) (w : if r.ow = true then Own K H0 H r.x r.lv v B else ∃ F, Own K H0 H r.x r.lv v F) : Own K H0 H r.x n v B := by
  unfold matL at e
  split at e
  · rename_i h
    cases e
    rw [if_pos h] at w
    exact w
  · rename_i h
    rw [if_neg h] at w
    split at e
    · rename_i hc
      cases e
      obtain ⟨F, w⟩ := w
      exact own_imm w hc fun _ _ z => z
    · cases e
def sExpr (f : EF) : SF := fun ρ => ofE (f ρ) fun r => .nx r.ρ
def sRet (f : EF) : SF := fun ρ => ofE (f ρ) fun r => match matL r with
  | some n => .rt n r.x r.ρ
  | none => .bad
def sRetN : SF := fun ρ => .rt 0 .non ρ
def sSet (i : Nat) (f : EF) : SF := fun ρ => ofE (f ρ) fun r => match matL r with
  | some n => .nx (r.ρ.set i (some (n, r.x)))
  | none => .bad
def sIf (t : TFn) (F G : SF) : SF := fun ρ => ofT (t ρ) fun r => if r.b = true then F r.ρ else G r.ρ
def noComp : Expr → Bool
  | .ListComp _ _ _ _ | .SetComp _ _ _ _ | .DictComp _ _ _ _ _ => false
  | _ => true
theorem swaps_no {e : Expr} {o : Option Expr} {n : Nat} {env : Env} (h : noComp e = true) : swapsWith e o n env = pure false := by
  cases e <;> first | rfl | cases h
theorem sv_expr (hn : noComp a = true) (ha : EV g Γ a fa) : SV g Γ (.Expr a pos) (sExpr fa) := fun X W F =>
  PS.imp (ps_expr (ha X W F) (swaps_no hn)) fun D σ H q => ofE_run q fun S e q v H0' H' O' B k hp S' T w => q σ H0' H' O' (k.mono fun a z => .inl z) S' .refl
theorem sv_ret (ha : EV g Γ a fa) : SV g Γ (.Return (some a) pos) (sRet fa) := fun X W F =>
  PS.imp (ps_ret (ha X W F)) fun D σ H q => ofE_run q fun {H0 O ρ r} S e q v H0' H' O' B k hp S' T w => by
    cases hm : matL r with
    | none => rw [hm] at q; exact q.elim
    | some n => rw [hm] at q; exact q v σ H0' H' O' B k S' T (mat_own hm w) .refl
theorem sv_retN : SV g Γ (.Return none pos) sRetN := fun X W F =>
  PS.imp ps_retN fun D σ H ⟨H0, O, ρ, S, q⟩ => q _ σ H0 H O noF (Grow.refl.mono fun a z => z.elim id False.elim) S .no rfl .refl
theorem pin_set {i : Nat} {o : Option V} (h : i ∉ pn) : Pin pn σ (σ.set i o) := fun j hj => by rw [List.getElem?_set_ne fun e => h (by rw [e]; exact hj)]
theorem set_end {i : Nat} {r : Rr} {H0' H' : Hp} {O' B : Fp} {v : V} (hi : i < σ.length) (hpn : i ∉ pn) (q : SQ g pn W H0 H O σ D (match matL r with | some n => .nx (r.ρ.set i (some (n, r.x))) | none => .bad))
    (k : Grow H0 H O H0' H' (O'.or B)) (S : St0 g.K H0' H' O' σ r.ρ) (T : Tmp H0' H' O' B) (w : if r.ow = true then Own g.K H0' H' r.x r.lv v B else ∃ F, Own g.K H0' H' r.x r.lv v F) : D.nx (σ.set i (some v)) H' := by
  cases hm : matL r with
  | none => rw [hm] at q; exact q.elim
  | some n =>
    rw [hm] at q
    exact q _ H0' H' (O'.or B) k (S.set T (mat_own hm w) hi) (pin_set hpn)
/-- the slot of a name -/
theorem sv_set {i : Nat} {x : Str} (hi : Γ.N[i]? = some x) (hl : locOk Γ x = true) (hpn : i ∉ Γ.pn) (hn : noComp a = true) (ha : EV g Γ a fa) : SV g Γ (.Assign [.Name x p] a pos) (sSet i fa) := fun X W F => by
  refine ⟨fun pins s σ H D I q => (ps_set F.nd (by rw [F.N]; exact hi) ?_ (ha X W F) (swaps_no hn) ?_).run pins s σ H D I ?_⟩
  · unfold locOk at hl
    unfold L2.Loc
    rw [F.sc]
    split at hl
    · exact .inl ‹_›
    · exact .inr ‹_›
    · cases hl
  · unfold locOk at hl
    rw [F.sc]
    split at hl
    · exact .inr ‹_›
    · exact .inl (F.fn (by cases h : Γ.blk with | false => rfl | true => rw [h] at hl; cases hl) x)
    · cases hl
  · have hls : i < σ.length := len_of I (by rw [F.N]; exact hi)
    exact ofE_run q fun {H0 O ρ r} S e q v H0' H' O' B k hp S' T w => set_end hls hpn q k S' T w
theorem sv_if {t : TFn} {b1 b2 : List Stmt} (hc : TV g Γ c t) (h1 : SVs g Γ b1 F) (h2 : SVs g Γ b2 G) : SV g Γ (.If c b1 b2 pos) (sIf t F G) := fun X W Fi =>
  PS.imp (ps_if (hc X W Fi) (h1 X W Fi) (h2 X W Fi)) fun D σ H q => ofT_run q fun {H0 O ρ r} S e q H0' H' O' k hp S' => by
    by_cases hb : r.b = true
    · rw [if_pos hb] at q ⊢
      exact ⟨H0', O', r.ρ, S', q.of_grow k .refl⟩
    · rw [if_neg hb] at q ⊢
      exact ⟨H0', O', r.ρ, S', q.of_grow k .refl⟩
/-- target = value, a tuple of names -/
def sTgt (bf : BF) (f : EF) : SF := fun ρ => ofE (f ρ) fun r => if r.lv = 0 ∨ r.x.imm = true then match bf r.x r.ρ with
  | some ρ' => .nx ρ'
  | none => .bad else .bad
theorem sv_tgt {es : List Expr} {is : List Nat} {k : Nat} {p2 : Pos} {bf : BF} (hg : GV g Γ (.Tuple es k p2) is bf) (hpn : ∀ i ∈ is, i ∉ Γ.pn) (hn : noComp a = true) (hw : ∀ env, swappedStores [.Tuple es k p2] a env = pure none) (ha : EV g Γ a fa) :
    SV g Γ (.Assign [.Tuple es k p2] a pos) (sTgt bf fa) := fun X W F => by
  refine PS.imp (ps_asg (ha X W F) (hg X W F) (by unfold swapsWithSole; exact swaps_no hn) (hw _)) fun D σ H q => ofE_run q fun {H0 O ρ r} S e q v H0' H' O' B k hp S' T w => ?_
  by_cases hc : r.lv = 0 ∨ r.x.imm = true
  · rw [if_pos hc] at q
    cases hb : bf r.x r.ρ with
    | none => rw [hb] at q; exact q.elim
    | some ρ' =>
      rw [hb] at q
      have z : ∃ F, Own g.K H0' H' r.x r.lv v F := by
        split at w
        · exact ⟨_, w⟩
        · exact w
      obtain ⟨F, z⟩ := z
      refine ⟨H0', O', r.ρ, r.x, ρ', S', own_imm z hc fun _ _ z => z, hb, fun σ' O'' ho S'' hj _ => ?_⟩
      exact q σ' H0' H' O'' (k.mono fun a z => .inl (ho a z)) S'' fun i hi => hj i fun z => hpn i z hi
  · rw [if_neg hc] at q
    exact q.elim
/-! ### x op= e -/
def pAug : Operator → PO
  | .Add => pI2 (fun _ _ => true) fun i j => .int (i + j)
  | .Sub => pI2 (fun _ _ => true) fun i j => .int (i - j)
  | _ => fun _ => none
def sAug (i : Nat) (op : Operator) (f : EF) : SF := fun ρ => match ρ[i]? with
  | some (some (n, .int k)) => ofE (f ρ) fun r => match r.x with
    | .int j => match op with
      | .Add => .nx (r.ρ.set i (some (0, .int (k + j))))
      | .Sub => .nx (r.ρ.set i (some (0, .int (k - j))))
      | _ => .bad
    | _ => .bad
  | _ => .bad
theorem own_slot {ρ : Ev} {i n : Nat} {x : PV} (S : St0 K H0 H O σ ρ) (e : ρ[i]? = some (some (n, x))) : ∃ v, ∃ F : Fp, σ[i]? = some (some v) ∧ Own K H0 H x n v F := by
  obtain ⟨F, f1, f2, f3⟩ := S.own
  obtain ⟨v, e1, e2⟩ := f3 i n x e
  exact ⟨v, F i, e1, e2⟩
theorem sv_aug {i : Nat} {x : Str} {op : Operator} (hop : op = .Add ∨ op = .Sub) (hi : Γ.N[i]? = some x) (hl : locOk Γ x = true) (hpn : i ∉ Γ.pn) (ha : EV g Γ a fa) : SV g Γ (.AugAssign (.Name x p) op a pos) (sAug i op fa) := fun X W F => by
  have hx : L2.Loc X.env.scope x := by
    unfold locOk at hl
    unfold L2.Loc
    rw [F.sc]
    split at hl
    · exact .inl ‹_›
    · exact .inr ‹_›
    · cases hl
  have hf : X.fn x = true ∨ X.env.scope.names.lookup x = some .local := by
    unfold locOk at hl
    rw [F.sc]
    split at hl
    · exact .inr ‹_›
    · exact .inl (F.fn (by cases h : Γ.blk with | false => rfl | true => rw [h] at hl; cases hl) x)
    · cases hl
  have key : ∀ {f : Int → Int → Int} {D : Ends} {σ : L2.St} {H : Hp}, i < σ.length → (∀ k j : Int, ∀ ρ : Ev, (match op with | .Add => SR.nx (ρ.set i (some (0, .int (k + j)))) | .Sub => .nx (ρ.set i (some (0, .int (k - j)))) | _ => .bad) = .nx (ρ.set i (some (0, .int (f k j))))) →
      tS g Γ.pn W (sAug i op fa) D σ H → tAug i (tF g W fa) (ipI f) D σ H := by
    intro f D σ H hls hf2 ⟨H0, O, ρ, S, q⟩
    unfold sAug at q
    cases e : ρ[i]? with
    | none => rw [e] at q; exact q.elim
    | some o =>
      cases o with
      | none => rw [e] at q; exact q.elim
      | some pp =>
        obtain ⟨n, y⟩ := pp
        rw [e] at q
        cases y <;> first | exact q.elim | skip
        rename_i k
        obtain ⟨v, F', e1, o⟩ := own_slot S e
        cases (show v = _ from o)
        refine ⟨_, e1, H0, O, ρ, S, ?_⟩
        cases e2 : fa ρ with
        | bad => simp only [ofE, e2] at q; exact q
        | exc c fs ρ' => simp only [ofE, e2] at q; exact sx_of q
        | ok r =>
          simp only [ofE, e2] at q
          intro v H0' H' O' B kk hp S' T w
          cases hx : r.x <;> rw [hx] at q <;> first | exact q.elim | skip
          rename_i j
          have hv : v = .int j := by
            rw [hx] at w
            split at w
            · exact w
            · obtain ⟨F, w⟩ := w; exact w
          refine ⟨k, j, rfl, hv, ?_⟩
          simp only [hf2] at q
          exact q _ H0' H' O' (kk.mono fun a z => .inl z) (S'.set0 rfl hls) (pin_set hpn)
  refine ⟨fun pins s σ H D I q => ?_⟩
  have hls : i < σ.length := len_of I (by rw [F.N]; exact hi)
  rcases hop with rfl | rfl
  · exact (ps_aug F.nd (by rw [F.N]; exact hi) hx (ha X W F) ip_add hf).run pins s σ H D I (key hls (fun _ _ _ => rfl) q)
  · exact (ps_aug F.nd (by rw [F.N]; exact hi) hx (ha X W F) ip_sub hf).run pins s σ H D I (key hls (fun _ _ _ => rfl) q)
end
end Pv

set_option maxRecDepth 100000
set_option maxHeartbeats 1000000
namespace Pv
open PySem PySem.Spec PyProof.Rows L2

section
variable {g : Prg} {Γ : Sx} {K : PySem.W.Frag} {H0 H : Hp} {pn : List Nat} {W : WX} {O : Fp} {σ : L2.St} {D : Ends}
variable {a b c tg iter elt : Expr} {fa fb fc : EF} {pos p : Pos} {st : Stmt} {rest body : List Stmt} {F G : SF} {s : IF'} {bf : BF}
/-! ## for -/
def forL (bf : BF) (F : SF) : List PV → Ev → SR
  | [], ρ => .nx ρ
  | x :: xs, ρ => match bf x ρ with
    | none => .bad
    | some ρ1 => match F ρ1 with
      | .nx ρ2 => forL bf F xs ρ2
      | .ct ρ2 => forL bf F xs ρ2
      | .bk ρ2 => .nx ρ2
      | r => r
def ofI (r : Res Ir) (k : Ir → SR) : SR := match r with
  | .ok r => k r
  | .exc c fs ρ => .exc c fs ρ
  | .bad => .bad
def sFor (s : IF') (bf : BF) (F : SF) : SF := fun ρ => ofI (s ρ) fun r => forL bf F r.xs r.ρ
theorem drop_cons {α : Type} {xs : List α} {i : Nat} (h : i < xs.length) : xs.drop i = xs[i] :: xs.drop (i + 1) := List.drop_eq_getElem_cons h
theorem fold_no {iter : Expr} (h : noSet iter = true) (env : Env) (x : Value) : foldedSetIterable iter env x = pure x := by
  cases iter <;> first | rfl | cases h
theorem sv_for {sl : List Nat} (hh : Γ.hot = false) (hns : noSet iter = true) (hs : IV g Γ tg iter s) (hg : GV g Γ tg sl bf) (hpn : ∀ i ∈ sl, i ∉ Γ.pn) (hb : SVs g Γ body F) : SV g Γ (.For tg iter body [] pos) (sFor s bf F) := fun X W Fi => by
  refine PS.imp (ps_for Fi.pas (Fi.calm hh) (hs X W Fi) (hg X W Fi) (hb X W Fi) (fold_no hns _)) fun D σ H ⟨H0, O, ρ, S, q⟩ => ⟨H0, O, ρ, S, ?_⟩
  unfold sFor at q
  cases e : s ρ with
  | bad => simp only [ofI, e] at q; exact q
  | exc c fs ρ' => simp only [ofI, e] at q; exact sx_of q
  | ok r =>
    simp only [ofI, e] at q
    intro J RR Ha Hb Oa B ka _ Sa Ta src r0
    have q0 : SQ g Γ.pn W Ha Hb Oa σ D (forL bf F r.xs r.ρ) := q.of_grow (ka.mono fun a z => .inl z) .refl
    refine ⟨fun i m σ1 H1 => ∃ H01 O1 ρ1, m = r.xs.length - i ∧ St0 g.K H01 H1 O1 σ1 ρ1 ∧ Grow Ha Hb Oa H01 H1 O1 ∧ Pin Γ.pn σ σ1 ∧ RR H01 H1 ∧ SQ g Γ.pn W H01 H1 O1 σ1 D (forL bf F (r.xs.drop i) ρ1), ⟨_, Ha, Oa, r.ρ, rfl, Sa, .refl, .refl, r0, q0⟩, ?_⟩
    rintro i m σ1 H1 ⟨H01, O1, ρ1, em, S1, k1, P1, rr, q1⟩
    by_cases hi : i < r.xs.length
    · refine .inr ⟨src.go S1.sub rr hi, ?_⟩
      rw [drop_cons hi] at q1
      unfold forL at q1
      cases eb : bf r.xs[i] ρ1 with
      | none => rw [eb] at q1; exact q1.elim
      | some ρ2 =>
        rw [eb] at q1
        simp only [] at q1
        let Nn : L2.St → Hp → Prop := fun σ3 H3 => ∃ H03 O3 ρ3, St0 g.K H03 H3 O3 σ3 ρ3 ∧ Grow H01 H1 O1 H03 H3 O3 ∧ Pin Γ.pn σ1 σ3 ∧ SQ g Γ.pn W H03 H3 O3 σ3 D (forL bf F (r.xs.drop (i + 1)) ρ3)
        have hN : ∀ σ' H', Nn σ' H' → ∃ m', m' < m ∧ ∃ H01 O1 ρ1, m' = r.xs.length - (i + 1) ∧ St0 g.K H01 H' O1 σ' ρ1 ∧ Grow Ha Hb Oa H01 H' O1 ∧ Pin Γ.pn σ σ' ∧ RR H01 H' ∧ SQ g Γ.pn W H01 H' O1 σ' D (forL bf F (r.xs.drop (i + 1)) ρ1) := by
          rintro σ3 H3 ⟨H03, O3, ρ3, S3, k3, P3, q3⟩
          have T1 := Ta.step k1
          exact ⟨r.xs.length - (i + 1), by omega, H03, O3, ρ3, rfl, S3, k1.trans0 k3, P1.trans P3, src.keep rr k3.sh fun a o hb e => k3.keep a o e (T1.off a hb), q3⟩
        refine ⟨Nn, hN, fun x H2 hy => ?_⟩
        obtain ⟨H02, A, ow⟩ := src.yld S1.sub rr hy _ (List.getElem?_eq_getElem hi)
        have k2 : Grow H01 H1 O1 H02 H2 O1 := A.grow.mono fun a z => .inl z
        refine ⟨H02, O1, ρ1, _, ρ2, A.st S1, ow, eb, fun σ' O' ho S' hj _ => ?_⟩
        have P2 : Pin Γ.pn σ1 σ' := fun j hj' => hj j fun z => hpn j z hj'
        have k2' : Grow H01 H1 O1 H02 H2 O' := k2.mono ho
        refine ⟨H02, O', ρ2, S', ?_⟩
        cases er : F ρ2 with
        | nx ρ3 =>
          rw [er] at q1
          exact fun σ3 H03 H3 O3 k3 S3 P3 => ⟨H03, O3, ρ3, S3, k2'.trans0 k3, P2.trans P3, q1.of_grow (k2'.trans0 k3) (P2.trans P3)⟩
        | ct ρ3 =>
          rw [er] at q1
          exact fun σ3 H03 H3 O3 k3 S3 P3 => ⟨H03, O3, ρ3, S3, k2'.trans0 k3, P2.trans P3, q1.of_grow (k2'.trans0 k3) (P2.trans P3)⟩
        | bk ρ3 =>
          rw [er] at q1
          exact fun σ3 H03 H3 O3 k3 S3 P3 => q1 σ3 H03 H3 O3 (k2'.trans0 k3) S3 (P2.trans P3)
        | rt lv y ρ3 =>
          rw [er] at q1
          exact SQ.of_grow (show SQ g Γ.pn W H01 H1 O1 σ1 D (.rt lv y ρ3) from q1) k2' P2
        | exc c fs ρ3 =>
          rw [er] at q1
          exact SQ.of_grow (show SQ g Γ.pn W H01 H1 O1 σ1 D (.exc c fs ρ3) from q1) k2' P2
        | bad => rw [er] at q1; exact q1
    · refine .inl ⟨src.stop S1.sub rr (by omega), ?_⟩
      rw [List.drop_eq_nil_of_le (by omega)] at q1
      exact q1 σ1 H01 H1 O1 .refl S1 .refl

/-! ## while -/
def whileN (t : TFn) (F : SF) : Nat → Ev → Option SR
  | 0, _ => none
  | n + 1, ρ => match t ρ with
    | .bad => some .bad
    | .exc c fs ρ' => some (.exc c fs ρ')
    | .ok r => if r.b = true then match F r.ρ with
        | .nx ρ2 => whileN t F n ρ2
        | .ct ρ2 => whileN t F n ρ2
        | .bk ρ2 => some (.nx ρ2)
        | x => some x
      else some (.nx r.ρ)
open Classical in
noncomputable def sWhile (t : TFn) (F : SF) : SF := fun ρ => if h : ∃ n r, whileN t F n ρ = some r then (Classical.choose (Classical.choose_spec h)) else .bad
theorem whileN_mono (t : TFn) (F : SF) : ∀ (n m : Nat) (ρ : Ev) (r : SR), whileN t F n ρ = some r → n ≤ m → whileN t F m ρ = some r
  | 0, _, _, _, h, _ => by cases h
  | n + 1, 0, _, _, _, h => by omega
  | n + 1, m + 1, ρ, r, h, hm => by
    unfold whileN at h ⊢
    cases e : t ρ with
    | bad => rw [e] at h; exact h
    | exc c fs ρ' => rw [e] at h; exact h
    | ok q =>
      rw [e] at h
      simp only [] at h ⊢
      by_cases hb : q.b = true
      · rw [if_pos hb] at h ⊢
        cases e2 : F q.ρ with
        | nx ρ2 => rw [e2] at h; exact whileN_mono t F n m ρ2 r h (by omega)
        | ct ρ2 => rw [e2] at h; exact whileN_mono t F n m ρ2 r h (by omega)
        | bk ρ2 => rw [e2] at h; exact h
        | rt _ _ _ => rw [e2] at h; exact h
        | exc _ _ _ => rw [e2] at h; exact h
        | bad => rw [e2] at h; exact h
      · rw [if_neg hb] at h ⊢
        exact h
theorem sWhile_eq {t : TFn} {F : SF} {n : Nat} {ρ : Ev} {r : SR} (h : whileN t F n ρ = some r) : sWhile t F ρ = r := by
  have hx : ∃ n r, whileN t F n ρ = some r := ⟨n, r, h⟩
  unfold sWhile
  rw [dif_pos hx]
  have e := Classical.choose_spec (Classical.choose_spec hx)
  have e1 := whileN_mono t F _ (max n (Classical.choose hx)) ρ _ e (Nat.le_max_right _ _)
  have e2 := whileN_mono t F _ (max n (Classical.choose hx)) ρ _ h (Nat.le_max_left _ _)
  exact Option.some.inj (e1.symm.trans e2)
theorem sv_while {t : TFn} (hc : TV g Γ a t) (hb : SVs g Γ body F) : SV g Γ (.While a body [] pos) (sWhile t F) := fun X W Fi => by
  refine PS.imp (ps_while Fi.pas (hc X W Fi) (hb X W Fi)) fun D σ H ⟨H0, O, ρ, S, q⟩ => ?_
  by_cases hx : ∃ n r, whileN t F n ρ = some r
  · obtain ⟨n, r, hn⟩ := hx
    rw [sWhile_eq hn] at q
    refine ⟨fun m σ1 H1 => ∃ H01 O1 ρ1, St0 g.K H01 H1 O1 σ1 ρ1 ∧ Grow H0 H O H01 H1 O1 ∧ Pin Γ.pn σ σ1 ∧ whileN t F m ρ1 = some r ∧ SQ g Γ.pn W H01 H1 O1 σ1 D r, ⟨n, H0, O, ρ, S, .refl, .refl, hn, q⟩, ?_⟩
    rintro m σ1 H1 ⟨H01, O1, ρ1, S1, k1, P1, w1, q1⟩
    cases m with
    | zero => cases w1
    | succ m =>
      unfold whileN at w1
      refine ⟨H01, O1, ρ1, S1, ?_⟩
      cases e : t ρ1 with
      | bad => rw [e] at w1; cases w1; exact q1
      | exc c fs ρ' => rw [e] at w1; cases w1; exact sx_of q1
      | ok z =>
        rw [e] at w1
        simp only [] at w1
        intro H02 H2 O2 k2 _ S2
        by_cases hb : z.b = true
        · rw [if_pos hb] at w1 ⊢
          refine ⟨fun σ3 H3 => ∃ H03 O3 ρ3, St0 g.K H03 H3 O3 σ3 ρ3 ∧ Grow H0 H O H03 H3 O3 ∧ Pin Γ.pn σ σ3 ∧ whileN t F m ρ3 = some r ∧ SQ g Γ.pn W H03 H3 O3 σ3 D r, fun σ3 H3 h => ⟨m, by omega, h⟩, H02, O2, z.ρ, S2, ?_⟩
          cases e2 : F z.ρ with
          | nx ρ3 => rw [e2] at w1; exact fun σ3 H03 H3 O3 k3 S3 P3 => ⟨H03, O3, ρ3, S3, (k1.trans0 k2).trans0 k3, P1.trans P3, w1, q1.of_grow (k2.trans0 k3) P3⟩
          | ct ρ3 => rw [e2] at w1; exact fun σ3 H03 H3 O3 k3 S3 P3 => ⟨H03, O3, ρ3, S3, (k1.trans0 k2).trans0 k3, P1.trans P3, w1, q1.of_grow (k2.trans0 k3) P3⟩
          | bk ρ3 => rw [e2] at w1; cases w1; exact fun σ3 H03 H3 O3 k3 S3 P3 => q1 σ3 H03 H3 O3 (k2.trans0 k3) S3 P3
          | rt lv y ρ3 => rw [e2] at w1; cases w1; exact q1.of_grow k2 .refl
          | exc c fs ρ3 => rw [e2] at w1; cases w1; exact q1.of_grow k2 .refl
          | bad => rw [e2] at w1; cases w1; exact q1
        · rw [if_neg hb] at w1 ⊢
          cases w1
          exact q1 σ1 H02 H2 O2 k2 S2 .refl
  · unfold sWhile at q
    rw [dif_neg hx] at q
    exact q.elim
end
end Pv

set_option maxRecDepth 100000
set_option maxHeartbeats 1000000
namespace Pv
open PySem PySem.Spec PyProof.Rows L2

section
variable {g : Prg} {Γ : Sx} {K : PySem.W.Frag} {H0 H : Hp} {O : Fp} {σ : L2.St}
variable {tg iter elt : Expr} {f : EF} {t : TFn} {pos p : Pos} {s : IF'} {bf : BF}
/-! ## list comprehensions -/
def wipeE (ρ : Ev) : List Nat → Ev
  | [] => ρ
  | v :: vs => (wipeE ρ vs).set v none
def backE (ρ ρ3 : Ev) : List Nat → Ev
  | [] => ρ3
  | v :: vs => (backE ρ ρ3 vs).set v (ρ.getD v none)
/-- no ownership at the block's own slots -/
def freeS (ρ : Ev) (v : Nat) : Bool := match ρ.getD v none with
  | some (n, x) => n == 0 || x.imm
  | none => true
def lcLoop (own : List Nat) (bf : BF) (t : TFn) (f : EF) : List PV → Ev → Option (List PV × Ev × Bool)
  | [], ρ => some ([], ρ, true)
  | x :: xs, ρ => match bf x ρ with
    | none => none
    | some ρ1 => match t ρ1 with
      | .ok r => if r.b = true then match f r.ρ with
          | .ok q => if shOk (q.lv, q.x) = true then (lcLoop own bf t f xs (wipeE q.ρ own)).map fun z => (q.x :: z.1, z.2.1, r.pu && q.pu && z.2.2) else none
          | _ => none
        else (lcLoop own bf t f xs (wipeE r.ρ own)).map fun z => (z.1, z.2.1, r.pu && z.2.2)
      | _ => none
def eLc (own : List Nat) (s : IF') (bf : BF) (t : TFn) (f : EF) : EF := fun ρ => match s ρ with
  | .ok r => if (own.all fun v => freeS r.ρ v) = true then match lcLoop own bf t f r.xs (wipeE r.ρ own) with
      | some (ys, ρ3, pu) => if ys.length ≤ sizeLine then .ok ⟨r.pu && pu, true, 1, .lst ys, backE r.ρ ρ3 own⟩ else .bad
      | none => .bad
    else .bad
  | .exc c fs ρ' => .exc c fs ρ'
  | .bad => .bad
theorem St0.wipe {ρ : Ev} (S : St0 K H0 H O σ ρ) : ∀ vs : List Nat, St0 K H0 H O (L2.wipe σ vs) (wipeE ρ vs)
  | [] => S
  | v :: vs => (St0.wipe S vs).drop
theorem wipe_ne {σ : L2.St} {j : Nat} : ∀ {vs : List Nat}, j ∉ vs → (L2.wipe σ vs)[j]? = σ[j]?
  | [], _ => rfl
  | v :: vs, h => by
    show ((L2.wipe σ vs).set v none)[j]? = _
    rw [List.getElem?_set_ne fun e => h (by rw [e]; exact List.mem_cons_self)]
    exact wipe_ne fun z => h (List.mem_cons_of_mem _ z)
theorem wipe_same {σ σ' : L2.St} (hl : σ'.length = σ.length) : ∀ {vs sl : List Nat}, (∀ j ∈ sl, j ∈ vs) → (∀ j, j ∉ sl → σ'[j]? = (L2.wipe σ vs)[j]?) → L2.wipe σ' vs = L2.wipe σ vs := fun {vs sl} hsl hj => by
  have key : ∀ (vs' : List Nat) (τ : L2.St) (j : Nat), j ∈ vs' → j < τ.length → (L2.wipe τ vs')[j]? = some none := by
    intro vs'
    induction vs' with
    | nil => intro τ j h; cases h
    | cons v r ih =>
      intro τ j h hlt
      show ((L2.wipe τ r).set v none)[j]? = _
      by_cases e : v = j
      · subst e
        rw [List.getElem?_set_self (by rw [wipe_length]; exact hlt)]
      · rw [List.getElem?_set_ne e]
        rcases List.mem_cons.mp h with z | z
        · exact absurd z.symm e
        · exact ih τ j z hlt
  refine List.ext_getElem? fun j => ?_
  by_cases hm : j ∈ vs
  · by_cases hlt : j < σ.length
    · rw [key vs σ' j hm (by rw [hl]; exact hlt), key vs σ j hm hlt]
    · rw [List.getElem?_eq_none (by rw [wipe_length, hl]; omega), List.getElem?_eq_none (by rw [wipe_length]; omega)]
  · rw [wipe_ne hm, hj j fun z => hm (hsl j z)]
theorem St0.back {H0' H' : Hp} {O' : Fp} {ρ ρ3 : Ev} (S : St0 K H0 H O σ ρ) (sh : Same H0 H0') : ∀ {vs : List Nat}, (vs.all fun v => freeS ρ v) = true → St0 K H0' H' O' (L2.wipe σ vs) ρ3 → St0 K H0' H' O' σ (backE ρ ρ3 vs) := fun {vs} hf S3 => by
  have hlen : ∀ vs' : List Nat, (backE ρ ρ3 vs').length = ρ3.length := by
    intro vs'
    induction vs' with
    | nil => rfl
    | cons v r ih => show ((backE ρ ρ3 r).set v _).length = _; rw [List.length_set, ih]
  have hin : ∀ (vs' : List Nat) (j : Nat), j ∈ vs' → j < ρ3.length → (backE ρ ρ3 vs')[j]? = some (ρ.getD j none) := by
    intro vs'
    induction vs' with
    | nil => intro j h; cases h
    | cons v r ih =>
      intro j h hlt
      show ((backE ρ ρ3 r).set v (ρ.getD v none))[j]? = _
      by_cases e : v = j
      · subst e
        rw [List.getElem?_set_self (by rw [hlen]; exact hlt)]
      · rw [List.getElem?_set_ne e]
        rcases List.mem_cons.mp h with z | z
        · exact absurd z.symm e
        · exact ih j z hlt
  have hout : ∀ (vs' : List Nat) (j : Nat), j ∉ vs' → (backE ρ ρ3 vs')[j]? = ρ3[j]? := by
    intro vs'
    induction vs' with
    | nil => intro j _; rfl
    | cons v r ih =>
      intro j h
      show ((backE ρ ρ3 r).set v (ρ.getD v none))[j]? = _
      rw [List.getElem?_set_ne fun e => h (by rw [e]; exact List.mem_cons_self)]
      exact ih j fun z => h (List.mem_cons_of_mem _ z)
  obtain ⟨F3, f1, f2, f3⟩ := S3.own
  have hl3 : σ.length = ρ3.length := by rw [← wipe_length σ vs]; exact S3.len
  refine ⟨S3.sub, S3.dom, S3.sep, by rw [hlen]; exact hl3, fun i a => if i ∈ vs then False else F3 i a, fun i j a h1 h2 => ?_, fun i a h => ?_, fun i n x e => ?_⟩
  · by_cases hi : i ∈ vs
    · simp only [hi, ↓reduceIte] at h1
    · by_cases hj : j ∈ vs
      · simp only [hj, ↓reduceIte] at h2
      · simp only [hi, ↓reduceIte] at h1
        simp only [hj, ↓reduceIte] at h2
        exact f1 i j a h1 h2
  · by_cases hi : i ∈ vs
    · simp only [hi, ↓reduceIte] at h
    · simp only [hi, ↓reduceIte] at h
      exact f2 i a h
  · by_cases hi : i ∈ vs
    · have hlt : i < ρ3.length := by
        rw [← hlen vs]
        exact (List.getElem?_eq_some_iff.mp e).1
      rw [hin vs i hi hlt] at e
      have hg : ρ.getD i none = some (n, x) := Option.some.inj e
      have hr : ρ[i]? = some (some (n, x)) := by
        rw [List.getD_eq_getElem?_getD] at hg
        cases hq : ρ[i]? with
        | none => rw [hq] at hg; cases hg
        | some o => rw [hq] at hg; exact congrArg some hg
      obtain ⟨F, g1, g2, g3⟩ := S.own
      obtain ⟨v, e1, e2⟩ := g3 i n x hr
      have hfr := List.all_eq_true.mp hf i hi
      unfold freeS at hfr
      rw [hg] at hfr
      simp only [Bool.or_eq_true, beq_iff_eq] at hfr
      refine ⟨v, e1, ?_⟩
      have z := own_imm (H' := H') (F' := noF) e2 hfr sh
      rcases hfr with h | h
      · rw [h]; exact own0 (fun _ _ z => z) _ _ _ _ z
      · exact imm_own z h fun _ _ z => z
    · rw [hout vs i hi] at e
      obtain ⟨v, e1, e2⟩ := f3 i n x e
      rw [wipe_ne hi] at e1
      refine ⟨v, e1, ?_⟩
      have : (fun a => if i ∈ vs then False else F3 i a) = F3 i := by
        funext a
        simp only [hi, ↓reduceIte]
      show Own K H0' H' x n v (fun a => if i ∈ vs then False else F3 i a)
      rw [this]
      exact e2
/-- a thing that is not owned by the slots changes -/
theorem St0.other {ρ : Ev} {D : Addr} {o : HO} (S : St0 K H0 H O σ ρ) (hD : ¬ O D) (h0 : H0 D = none) : St0 K H0 (upd H D o) O σ ρ := by
  obtain ⟨s1, s2, s3, s4, F, f1, f2, f3⟩ := S
  refine ⟨fun b x e => ?_, fun a z => ?_, s3, s4, F, f1, f2, fun i n x e => ?_⟩
  · rw [upd_ne fun z => by rw [z, h0] at e; cases e]
    exact s1 _ _ e
  · by_cases ha : a = D
    · exact absurd (by rw [← ha]; exact z) hD
    · rw [upd_ne ha]; exact s2 a z
  · obtain ⟨v, e1, e2⟩ := f3 i n x e
    refine ⟨v, e1, own_tr (fun _ _ z => z) _ _ _ _ _ e2 (fun a o' hF e => ?_) fun _ z => z⟩
    rw [upd_ne fun z => hD (by rw [← z]; exact f2 i a hF)]
    exact e
def Γblk (Γ : Sx) (sc : Scope) : Sx := { Γ with sc := relS sc Γ.sc, blk := true, xc := none }
theorem fits_blk {X : Cx} {W : WX} (F : Fits g Γ X W) (s : Shared) (H : Hp) (scope : Scope) (cl : List (Str × Addr)) (C : Addr) (fp : List Addr) : Fits g (Γblk Γ scope) (X.blk s H scope (compEnvC scope cl C X.env) fp) (fun _ _ _ _ => False) where
  xc := fun _ _ _ z => by cases z
  prog := F.prog
  w := F.w
  K := F.K
  mg := F.mg
  base := F.base
  N := F.N
  sc := by
    show relS scope X.env.scope = relS scope Γ.sc
    rw [F.sc]
  takes := takes_none5
  un := F.un
  room := F.room
  calm := F.calm
  nd := F.nd
  pas := PassesOwn.never
  fn := fun h => by cases h
  stk := fun h => by cases h
/-- the tests -/
inductive TsV (g : Prg) (Γ : Sx) : List Expr → TFn → Prop
  | nil : TsV g Γ [] (fun ρ => .ok ⟨true, true, ρ⟩)
  | one {c : Expr} {t : TFn} (h : TV g Γ c t) : TsV g Γ [c] t
theorem tsv_pts {X : Cx} {W : WX} {ifs : List Expr} (F : Fits g Γ X W) (h : TsV g Γ ifs t) : PTs X ifs (tT g W t) := by
  cases h with
  | nil => exact ⟨fun pins s σ H Q I ⟨H0, O, ρ, S, q⟩ => pts_nil.run pins s σ H Q I (q H0 H O .refl (fun _ _ _ z => z) S)⟩
  | one h => exact pts_one (h X W F)
theorem lc_run {own : List (Str × Nat)} {sl : List Nat} {scope : Scope} {W : WX} {Q : VK} (hsl : ∀ j ∈ sl, j ∈ own.map (·.2)) (q : tF g W (eLc (own.map (·.2)) s bf t f) σ H Q) :
    tLc (tI g W s) (gF g sl bf) (tT g (fun _ _ _ _ => False) t) (tF g (fun _ _ _ _ => False) f) (own.map (·.2)) σ H Q := by
  obtain ⟨H0, O, ρ, S, q⟩ := q
  refine ⟨H0, O, ρ, S, ?_⟩
  generalize own.map (·.2) = vs at hsl q ⊢
  unfold eLc at q
  cases e : s ρ with
  | bad => rw [e] at q; exact q
  | exc c fs ρ' => rw [e] at q; exact q
  | ok r =>
    rw [e] at q
    simp only [] at q
    intro J RR Ha Hb Oa B ka hpa Sa Ta src r0 D hD
    by_cases hfr : (vs.all fun v => freeS r.ρ v) = true
    case neg => rw [if_neg hfr] at q; exact q.elim
    rw [if_pos hfr] at q
    cases el : lcLoop vs bf t f r.xs (wipeE r.ρ vs) with
    | none => rw [el] at q; exact q.elim
    | some z =>
      obtain ⟨ys, ρ3, pu⟩ := z
      rw [el] at q
      simp only [] at q
      by_cases hys : ys.length ≤ sizeLine
      case neg => rw [if_neg hys] at q; exact q.elim
      rw [if_pos hys] at q
      have ka0 : Grow H0 H O Ha Hb Oa := ka.mono fun a z => .inl z
      refine ⟨fun i m H1 => ∃ H01 O1 ρ1 acc vacc rest pu1 pu2, m = r.xs.length - i ∧ Grow Ha Hb Oa H01 H1 O1 ∧ (pu1 = true → Same Hb H1) ∧ St0 g.K H01 H1 O1 (L2.wipe σ vs) ρ1 ∧ H1 D = some (.lst vacc) ∧ Sh g.K H01 H1 acc vacc ∧ ¬ O1 D ∧ H01 D = none ∧ RR H01 H1 ∧
        lcLoop vs bf t f (r.xs.drop i) ρ1 = some (rest, ρ3, pu2) ∧ acc ++ rest = ys ∧ (pu1 && pu2) = pu, ⟨r.xs.length, Ha, Oa, wipeE r.ρ vs, [], [], ys, true, pu, rfl, ?_, fun _ => same_new hD, (Sa.wipe vs).other (fun z => Sa.dom D z hD) (Sa.sub.free hD), upd_same, .nil, fun z => Sa.dom D z hD, Sa.sub.free hD, ?_, el, rfl, rfl⟩, ?_⟩
      · exact (alloc_own Sa.sub hD).grow.mono fun a z => .inl z
      · exact src.keep r0 (fun _ _ z => z) fun a o hb e => by rw [upd_ne fun z => Ta.dom a hb (by rw [z]; exact hD)]; exact e
      rintro i m H1 ⟨H01, O1, ρ1, acc, vacc, rest, pu1, pu2, em, k1, hp1, S1, hD1, sh1, nO1, n01, rr, el1, ey, ep⟩
      by_cases hi : i < r.xs.length
      · refine .inr ⟨src.go S1.sub rr hi, ?_⟩
        rw [drop_cons hi] at el1
        unfold lcLoop at el1
        cases eb : bf r.xs[i] ρ1 with
        | none => rw [eb] at el1; cases el1
        | some ρ2 =>
          rw [eb] at el1
          simp only [] at el1
          cases et : t ρ2 with
          | bad => rw [et] at el1; cases el1
          | exc c fs ρ' => rw [et] at el1; cases el1
          | ok rt =>
            rw [et] at el1
            simp only [] at el1
            let Nx : Hp → Prop := fun H3 => ∃ H03 O3 ρ4 acc' vacc' rest' pu1' pu2', Grow Ha Hb Oa H03 H3 O3 ∧ (pu1' = true → Same Hb H3) ∧ St0 g.K H03 H3 O3 (L2.wipe σ vs) ρ4 ∧ H3 D = some (.lst vacc') ∧ Sh g.K H03 H3 acc' vacc' ∧ ¬ O3 D ∧ H03 D = none ∧ RR H03 H3 ∧
              lcLoop vs bf t f (r.xs.drop (i + 1)) ρ4 = some (rest', ρ3, pu2') ∧ acc' ++ rest' = ys ∧ (pu1' && pu2') = pu
            refine ⟨Nx, fun H3 ⟨H03, O3, ρ4, acc', vacc', rest', pu1', pu2', h1, h2, h3, h4, h5, h6, h7, h8, h9, h10, h11⟩ => ⟨r.xs.length - (i + 1), by omega, H03, O3, ρ4, acc', vacc', rest', pu1', pu2', rfl, h1, h2, h3, h4, h5, h6, h7, h8, h9, h10, h11⟩, fun x H2 hy => ?_⟩
            obtain ⟨H02, A, ow⟩ := src.yld S1.sub rr hy _ (List.getElem?_eq_getElem hi)
            refine ⟨H02, O1, ρ1, _, ρ2, A.st S1, ow, eb, fun σ2 O' ho S' hj hl2 => ?_⟩
            have hw2 : L2.wipe σ2 vs = L2.wipe σ vs := wipe_same (by rw [hl2, wipe_length]) hsl hj
            have k2 : Grow Ha Hb Oa H02 H2 O' := (k1.trans0 A.grow).mono fun a z => .inl (ho a z)
            have hD2 : H2 D = some (.lst vacc) := A.sm _ _ hD1
            have n02 : H02 D = none := by
              cases q0 : H02 D with
              | none => rfl
              | some o =>
                rcases A.nsh D (by rw [q0]; exact Option.some_ne_none _) with z | z
                · exact absurd n01 z
                · rw [hD1] at z; cases z
            have nO2 : ¬ O' D := fun z => nO1 (ho D z)
            have rr2 : RR H02 H2 := src.keep rr A.sh fun a o _ e => A.sm _ _ e
            refine ⟨hw2, H02, O', ρ2, S', ?_⟩
            rw [et]
            intro H03 H3 O3 k3 hp3 S3
            have k13 : Grow Ha Hb Oa H03 H3 O3 := k2.trans0 k3
            have hD3 : H3 D = some (.lst vacc) := k3.keep _ _ hD2 nO2
            have n03 : H03 D = none := by
              cases q0 : H03 D with
              | none => rfl
              | some o =>
                rcases k3.nsh D (by rw [q0]; exact Option.some_ne_none _) with z | z | z
                · exact absurd n02 z
                · exact absurd z nO2
                · rw [hD2] at z; cases z
            have nO3 : ¬ O3 D := fun z => by
              rcases k3.own D z with y | y
              · exact nO2 y
              · rw [hD2] at y; cases y
            have T2 : Tmp H02 H2 O' B := by
              have z := (Ta.step k1)
              exact ⟨fun a b y => z.off a b (ho a y), fun a b => (Ta.step (k1.trans0 (A.grow.mono fun a z => .inl z))).dom a b, fun a b => (Ta.step (k1.trans0 (A.grow.mono fun a z => .inl z))).sep a b⟩
            have rr3 : RR H03 H3 := src.keep rr2 k3.sh fun a o hb e => k3.keep a o e (T2.off a hb)
            have nDB : ¬ B D := fun z => Ta.dom D z hD
            by_cases hb : rt.b = true
            · rw [if_pos hb] at el1 ⊢
              cases ef : f rt.ρ with
              | bad => rw [ef] at el1; cases el1
              | exc c fs ρ' => rw [ef] at el1; cases el1
              | ok rq =>
                rw [ef] at el1
                simp only [] at el1
                by_cases hok : shOk (rq.lv, rq.x) = true
                case neg => rw [if_neg hok] at el1; cases el1
                rw [if_pos hok] at el1
                obtain ⟨⟨rest', ρ3', pu3⟩, el2, e3⟩ := Option.map_eq_some_iff.mp el1
                simp only [Prod.mk.injEq] at e3
                obtain ⟨e3a, e3b, e3c⟩ := e3
                subst e3a e3b
                refine ⟨H03, O3, rt.ρ, S3, ?_⟩
                rw [ef]
                intro y H04 H4 O4 B4 k4 hp4 S4 T4 w4
                have k4' : Grow H03 H3 O3 H04 H4 O4 := k4.mono fun a z => .inl z
                have hD4 : H4 D = some (.lst vacc) := k4.keep _ _ hD3 nO3
                have n04 : H04 D = none := by
                  cases q0 : H04 D with
                  | none => rfl
                  | some o =>
                    rcases k4.nsh D (by rw [q0]; exact Option.some_ne_none _) with z | z | z
                    · exact absurd n03 z
                    · exact absurd z nO3
                    · rw [hD3] at z; cases z
                have nO4 : ¬ O4 D := fun z => by
                  rcases k4'.own D z with y | y
                  · exact nO3 y
                  · rw [hD3] at y; cases y
                have T3 : Tmp H03 H3 O3 B := T2.step k3
                have hv : Own g.K H04 H4 rq.x 0 y noF := by
                  have z : ∃ F, Own g.K H04 H4 rq.x rq.lv y F := by
                    split at w4
                    · exact ⟨_, w4⟩
                    · exact w4
                  obtain ⟨F, z⟩ := z
                  have c : rq.lv = 0 ∨ rq.x.imm = true := by
                    unfold shOk at hok
                    simpa using hok
                  exact own_imm z c fun _ _ z => z
                have sh4 : Sh g.K H04 (upd H4 D (.lst (vacc ++ [y]))) (acc ++ [rq.x]) (vacc ++ [y]) := Paired.app (sh_tr (A.sh.trans (k3.sh.trans k4.sh)) sh1) (.cons (own0 (fun _ _ z => z) _ _ _ _ hv) .nil)
                have lv : vacc.length < sizeLine := by
                  have h1 : acc.length < ys.length := by
                    rw [← ey, List.length_append, List.length_cons]
                    omega
                  rw [← Paired.length sh1]
                  omega
                refine ⟨vacc, hD4, lv, H04, O4, wipeE rq.ρ vs, acc ++ [rq.x], vacc ++ [y], rest', pu1 && (rt.pu && rq.pu), pu3, ?_, fun z => ?_, ?_, upd_same, sh4, nO4, n04, ?_, el2, by rw [← ey, List.append_assoc]; rfl, ?_⟩
                · have k14 : Grow Ha Hb Oa H04 H4 O4 := k13.trans0 k4'
                  exact ⟨k14.sh, fun a o e n => by rw [upd_ne fun z => by rw [z, hD] at e; cases e]; exact k14.keep a o e n, fun a z => by
                    by_cases ha : a = D
                    · rw [ha, upd_same]; exact Option.some_ne_none _
                    · rw [upd_ne ha]; exact k14.dom a z, k14.own, k14.nsh⟩
                · simp only [Bool.and_eq_true] at z
                  intro a o e
                  rw [upd_ne fun z => by rw [z, hD] at e; cases e]
                  exact hp4 z.2.2 _ _ (hp3 z.2.1 _ _ (A.sm _ _ (hp1 z.1 _ _ e)))
                · have z := S4.wipe vs
                  rw [hw2] at z
                  exact z.other nO4 n04
                · refine src.keep rr3 k4.sh fun a o hb e => ?_
                  rw [upd_ne fun z => nDB (by rw [← z]; exact hb)]
                  exact k4.keep a o e (T3.off a hb)
                · rw [← ep, ← e3c]
                  simp only [Bool.and_assoc]
            · rw [if_neg hb] at el1 ⊢
              obtain ⟨⟨rest', ρ3', pu3⟩, el2, e3⟩ := Option.map_eq_some_iff.mp el1
              simp only [Prod.mk.injEq] at e3
              obtain ⟨e3a, e3b, e3c⟩ := e3
              subst e3a e3b
              refine ⟨H03, O3, wipeE rt.ρ vs, acc, vacc, rest', pu1 && rt.pu, pu3, k13, fun z => ?_, ?_, hD3, sh_tr (A.sh.trans k3.sh) sh1, nO3, n03, rr3, el2, ey, ?_⟩
              · simp only [Bool.and_eq_true] at z
                exact fun a o e => hp3 z.2 _ _ (A.sm _ _ (hp1 z.1 _ _ e))
              · have z := S3.wipe vs
                rw [hw2] at z
                exact z
              · rw [← ep, ← e3c]
                simp only [Bool.and_assoc]
      · refine .inl ⟨src.stop S1.sub rr (by omega), ?_⟩
        rw [List.drop_eq_nil_of_le (by omega)] at el1
        cases el1
        rw [List.append_nil] at ey
        subst ey
        have k0 : Grow H0 H O H01 H1 O1 := ka0.trans0 k1
        refine q (.ref D) H01 H1 O1 (fun a => a = D) ⟨k0.sh, k0.keep, k0.dom, fun a z => ?_, k0.nsh⟩ (fun z => ?_) (Sa.back k1.sh hfr S1) ⟨fun a z y => nO1 (by rw [← z]; exact y), fun a z => by rw [z, hD1]; exact Option.some_ne_none _, fun a z => by rw [z]; exact n01⟩ ?_
        · rcases z with z | z
          · exact k0.own a z
          · rw [z]
            refine .inr ?_
            cases q0 : H D with
            | none => rfl
            | some o => exact absurd hD (ka0.dom D (by rw [q0]; exact Option.some_ne_none _))
        · simp only [Bool.and_eq_true] at z
          have z1 : pu1 = true := by
            have : (pu1 && true) = pu := ep
            rw [Bool.and_true] at this
            rw [this]
            exact z.2
          exact L2.Same.trans (hpa z.1) (hp1 z1)
        · show if true = true then Own g.K H01 H1 (.lst acc) 1 (.ref D) (fun a => a = D) else _
          rw [if_pos rfl]
          exact ⟨D, vacc, rfl, hD1, rfl, pair_own sh1⟩
theorem ev_lc {own : List (Str × Nat)} {sl : List Nat} {scope : Scope} {ifs : List Expr} (hh : Γ.hot = false) (hns : noSet iter = true) (hok : blkC Γ.N Γ.sc scope own = true) (hsl : ∀ j ∈ sl, j ∈ own.map (·.2)) (hi : IV g Γ tg iter s) (hg : GV g (Γblk Γ scope) tg sl bf) (ht : TsV g (Γblk Γ scope) ifs t) (he : EV g (Γblk Γ scope) elt f) :
    EV g Γ (.ListComp elt [⟨tg, iter, ifs, 0⟩] scope pos) (eLc (own.map (·.2)) s bf t f) := fun X W F =>
  PE.imp (pe_lc (own := own) (F.calm hh) F.nd (hi X W F) (by rw [F.N, F.sc]; exact blkOk_by hok) (fun s H C cl fp => hg _ _ (fits_blk F s H scope cl C fp)) (fun s H C cl fp => tsv_pts (fits_blk F s H scope cl C fp) ht) (fun s H C cl fp => he _ _ (fits_blk F s H scope cl C fp)) (fold_no hns _)) fun σ H Q q => lc_run (scope := scope) hsl q
/-- x = [..], x a local name, on one line -/
theorem sv_lc {own : List (Str × Nat)} {sl : List Nat} {scope : Scope} {ifs : List Expr} {i : Nat} {x : Str} {py spos : Pos} (hh : Γ.hot = false) (hx : Γ.N[i]? = some x) (hxl : Γ.sc.names.lookup x = some .local) (hpn : i ∉ Γ.pn)
    (hsw : ∀ env : Env, env.scope = Γ.sc → swapsWith (.ListComp elt [⟨tg, iter, ifs, 0⟩] scope pos) (some (.Name x py)) spos.line env = pure true)
    (hns : noSet iter = true) (hok : blkC Γ.N Γ.sc scope own = true) (hsl : ∀ j ∈ sl, j ∈ own.map (·.2)) (hi : IV g Γ tg iter s) (hg : GV g (Γblk Γ scope) tg sl bf) (ht : TsV g (Γblk Γ scope) ifs t) (he : EV g (Γblk Γ scope) elt f) :
    SV g Γ (.Assign [.Name x py] (.ListComp elt [⟨tg, iter, ifs, 0⟩] scope pos) spos) (sSet i (eLc (own.map (·.2)) s bf t f)) := fun X W F => by
  refine ⟨fun pins st σ H D I q => (ps_setLc (own := own) (F.calm hh) F.nd (by rw [F.N]; exact hx) (by rw [F.sc]; exact hxl) (hsw _ F.sc) (hi X W F) (by rw [F.N, F.sc]; exact blkOk_by hok) (fun s H C cl fp => hg _ _ (fits_blk F s H scope cl C fp)) (fun s H C cl fp => tsv_pts (fits_blk F s H scope cl C fp) ht) (fun s H C cl fp => he _ _ (fits_blk F s H scope cl C fp)) (fold_no hns _)).run pins st σ H D I ?_⟩
  have hls : i < σ.length := len_of I (by rw [F.N]; exact hx)
  exact lc_run (scope := scope) hsl (ofE_run q fun {H0 O ρ r} S e q v H0' H' O' B k hp S' T w => set_end hls hpn q k S' T w)
end
end Pv

set_option maxRecDepth 100000
set_option maxHeartbeats 1000000
namespace Pv
open PySem PySem.Spec PyProof.Rows L2

section
variable {g : Prg} {Γ : Sx} {K : PySem.W.Frag} {H0 H : Hp} {O : Fp} {σ : L2.St} {X : Cx}
/-! ## steps that only say more of the heap -/
def Gh (X : Cx) (σ : L2.St) (H : Hp) (P : Hp → Prop) : Prop := ∀ pins s, Inv X pins σ H s → ∃ H', P H' ∧ Inv X pins σ H' s
theorem Gh.ret {P : Hp → Prop} (h : P H) : Gh X σ H P := fun pins s I => ⟨H, h, I⟩
theorem Gh.bind {P P' : Hp → Prop} (h : Gh X σ H P) (k : ∀ H', P H' → Gh X σ H' P') : Gh X σ H P' := fun pins s I => by
  obtain ⟨H', p, I'⟩ := h pins s I
  exact k H' p pins s I'
theorem PE.ghost {e : Expr} {t : TE} (h : PE X e t) : PE X e (fun σ H Q => t σ H fun v H1 => ∃ P, Gh X σ H1 P ∧ ∀ H2, P H2 → Q v H2) := by
  refine ⟨fun pins s σ H Q I q => thn (h.run pins s σ H _ I q) fun u s1 ⟨v, H1, I1, r, P, gh, q1⟩ => ?_⟩
  obtain ⟨H2, p, I2⟩ := gh pins s1 I1
  exact ⟨v, H2, I2, r, q1 H2 p⟩
structure Frozen (H0 H : Hp) (F : Fp) (H0' H' : Hp) : Prop where
  sh : Same H0 H0'
  sub : Same H0' H'
  off : ∀ a, ¬ F a → H' a = H a
  dom : ∀ a, H a ≠ none → H' a ≠ none
  nsh : ∀ a, H0' a ≠ none → H0 a ≠ none ∨ F a
theorem Frozen.refl {F : Fp} (s : Same H0 H) : Frozen H0 H F H0 H := ⟨fun _ _ z => z, s, fun _ _ => rfl, fun _ z => z, fun _ z => .inl z⟩
theorem Frozen.trans {F G : Fp} {H1 H1' H2 H2' : Hp} (a : Frozen H0 H F H1 H1') (b : Frozen H1 H1' G H2 H2') : Frozen H0 H (fun x => F x ∨ G x) H2 H2' where
  sh := L2.Same.trans a.sh b.sh
  sub := b.sub
  off := fun x n => (b.off x fun z => n (.inr z)).trans (a.off x fun z => n (.inl z))
  dom := fun x z => b.dom x (a.dom x z)
  nsh := fun x z => (b.nsh x z).elim (fun y => (a.nsh x y).elim .inl fun y => .inr (.inl y)) fun y => .inr (.inr y)
theorem Frozen.mono {F G : Fp} {H1 H1' : Hp} (a : Frozen H0 H F H1 H1') (h : ∀ x, F x → G x) : Frozen H0 H G H1 H1' :=
  ⟨a.sh, a.sub, fun x n => a.off x fun z => n (h x z), a.dom, fun x z => (a.nsh x z).imp id (h x)⟩
theorem mut_dic {u : HO} {l : List (DK × V)} (h : IsDic u l) : Mut (some u) := by cases h <;> exact True.intro
mutual
theorem frz_own : ∀ (x : PV) (n : Nat) (v : V) (F : Fp) (H0 H : Hp), Own K H0 H x n v F → (∀ a, F a → H0 a = none) → Same H0 H → Gh X σ H fun H' => ∃ H0', Frozen H0 H F H0' H' ∧ Own K H0' H' x 0 v noF
  | .non, n, v, F, H0, H, h, hF, s => .ret ⟨H0, .refl s, h⟩
  | .bl b, n, v, F, H0, H, h, hF, s => .ret ⟨H0, .refl s, h⟩
  | .int b, n, v, F, H0, H, h, hF, s => .ret ⟨H0, .refl s, h⟩
  | .str b, n, v, F, H0, H, h, hF, s => .ret ⟨H0, .refl s, h⟩
  | .tup xs, n, v, F, H0, H, h, hF, s => .ret ⟨H0, .refl s, h⟩
  | .ctup xs, n, v, F, H0, H, h, hF, s => .ret ⟨H0, .refl s, h⟩
  | .clst xs, n, v, F, H0, H, h, hF, s => .ret ⟨H0, .refl s, h⟩
  | .lst xs, 0, v, F, H0, H, h, hF, s => .ret ⟨H0, .refl s, h⟩
  | .dic xs, 0, v, F, H0, H, h, hF, s => .ret ⟨H0, .refl s, h⟩
  | .lst xs, n + 1, v, F, H0, H, ⟨a, vs, e, h1, h2, h3⟩, hF, s => by
    refine Gh.bind (frz_ownL xs n vs _ H0 H h3 (fun b z => hF b z.1) s) fun H' ⟨H0', fz, o⟩ => .ret ?_
    have ha : H' a = some (.lst vs) := (fz.off a fun z => z.2 rfl).trans h1
    have h0 : H0' a = none := by
      cases q : H0' a with
      | none => rfl
      | some o =>
        rcases fz.nsh a (by rw [q]; exact Option.some_ne_none _) with z | z
        · exact absurd (hF a h2) z
        · exact absurd rfl z.2
    refine ⟨upd H0' a (.lst vs), ⟨L2.Same.trans fz.sh (same_new h0), fun b x e => ?_, fun b n => fz.off b fun z => n z.1, fz.dom, fun b z => ?_⟩, a, vs, e, upd_same, ownL0 (same_new h0) _ _ _ _ o⟩
    · by_cases hb : b = a
      · rw [hb, upd_same] at e; rw [hb, ha]; exact e
      · rw [upd_ne hb] at e; exact fz.sub _ _ e
    · by_cases hb : b = a
      · rw [hb]; exact .inr h2
      · rw [upd_ne hb] at z; exact (fz.nsh b z).imp id fun y => y.1
  | .dic kvs, n + 1, v, F, H0, H, ⟨a, u, l, e, h1, h2, h3, h4⟩, hF, s => by
    refine Gh.bind (frz_ownD kvs n l _ H0 H h4 (fun b z => hF b z.1) s) fun H' ⟨H0', fz, o⟩ => ?_
    have ha : H' a = some u := (fz.off a fun z => z.2 rfl).trans h1
    have h0 : H0' a = none := by
      cases q : H0' a with
      | none => rfl
      | some o =>
        rcases fz.nsh a (by rw [q]; exact Option.some_ne_none _) with z | z
        · exact absurd (hF a h3) z
        · exact absurd rfl z.2
    intro pins st I
    obtain ⟨od, I2⟩ := I.lock ha (mut_dic h2)
    refine ⟨_, ⟨upd H0' a (.frz od u), ⟨L2.Same.trans fz.sh (same_new h0), fun b x e => ?_, fun b n => ?_, fun b z => ?_, fun b z => ?_⟩, a, od, u, l, e, upd_same, h2, ownD0 (same_new h0) _ _ _ _ o⟩, I2⟩
    · by_cases hb : b = a
      · rw [hb, upd_same] at e ⊢; exact e
      · rw [upd_ne hb] at e ⊢; exact fz.sub _ _ e
    · have hb : b ≠ a := fun z => n (by rw [z]; exact h3)
      rw [upd_ne hb]
      exact fz.off b fun z => n z.1
    · by_cases hb : b = a
      · rw [hb, upd_same]; exact Option.some_ne_none _
      · rw [upd_ne hb]; exact fz.dom b z
    · by_cases hb : b = a
      · rw [hb]; exact .inr h3
      · rw [upd_ne hb] at z; exact (fz.nsh b z).imp id fun y => y.1
  | .exn a d c fs, n, v, F, H0, H, h, hF, s => .ret ⟨H0, .refl s, own0 (fun _ _ z => z) (.exn a d c fs) v F noF (show Own K H0 H (.exn a d c fs) 0 v F from h)⟩
theorem frz_ownL : ∀ (xs : List PV) (n : Nat) (vs : List V) (F : Fp) (H0 H : Hp), OwnL K H0 H xs n vs F → (∀ a, F a → H0 a = none) → Same H0 H → Gh X σ H fun H' => ∃ H0', Frozen H0 H F H0' H' ∧ OwnL K H0' H' xs 0 vs noF
  | [], n, vs, F, H0, H, h, hF, s => .ret ⟨H0, .refl s, h⟩
  | x :: xs, n, _, F, H0, H, ⟨v, vs', G, e, h1, h2⟩, hF, s => by
    refine Gh.bind (frz_own x n v _ H0 H h1 (fun b z => hF b z.1) s) fun H' ⟨H0', fz, o⟩ => ?_
    have h2' : OwnL K H0' H' xs n vs' (fun b => F b ∧ ¬ G b) := ownL_tr fz.sh _ _ _ _ _ h2 (fun a o z e => (fz.off a fun y => z.2 y.2).trans e) fun _ z => z
    refine Gh.bind (frz_ownL xs n vs' _ H0' H' h2' (fun b z => ?_) fz.sub) fun H'' ⟨H0'', fz2, o2⟩ => .ret ?_
    · cases q : H0' b with
      | none => rfl
      | some o =>
        rcases fz.nsh b (by rw [q]; exact Option.some_ne_none _) with y | y
        · exact absurd (hF b z.1) y
        · exact absurd y.2 z.2
    · exact ⟨H0'', (fz.trans fz2).mono fun b z => z.elim (fun y => y.1) fun y => y.1, v, vs', noF, e, own0 fz2.sh _ _ _ _ o, ownL0 (fun _ _ z => z) _ _ _ _ o2⟩
theorem frz_ownD : ∀ (xs : List (DK × PV)) (n : Nat) (vs : List (DK × V)) (F : Fp) (H0 H : Hp), OwnD K H0 H xs n vs F → (∀ a, F a → H0 a = none) → Same H0 H → Gh X σ H fun H' => ∃ H0', Frozen H0 H F H0' H' ∧ OwnD K H0' H' xs 0 vs noF
  | [], n, vs, F, H0, H, h, hF, s => .ret ⟨H0, .refl s, h⟩
  | (k, x) :: xs, n, _, F, H0, H, ⟨v, vs', G, e, h1, h2⟩, hF, s => by
    refine Gh.bind (frz_own x n v _ H0 H h1 (fun b z => hF b z.1) s) fun H' ⟨H0', fz, o⟩ => ?_
    have h2' : OwnD K H0' H' xs n vs' (fun b => F b ∧ ¬ G b) := ownD_tr fz.sh _ _ _ _ _ h2 (fun a o z e => (fz.off a fun y => z.2 y.2).trans e) fun _ z => z
    refine Gh.bind (frz_ownD xs n vs' _ H0' H' h2' (fun b z => ?_) fz.sub) fun H'' ⟨H0'', fz2, o2⟩ => .ret ?_
    · cases q : H0' b with
      | none => rfl
      | some o =>
        rcases fz.nsh b (by rw [q]; exact Option.some_ne_none _) with y | y
        · exact absurd (hF b z.1) y
        · exact absurd y.2 z.2
    · exact ⟨H0'', (fz.trans fz2).mono fun b z => z.elim (fun y => y.1) fun y => y.1, v, vs', noF, e, own0 fz2.sh _ _ _ _ o, ownD0 (fun _ _ z => z) _ _ _ _ o2⟩
end
/-- the slots' state when something outside of the rest of them is frozen -/
theorem Frozen.st {F : Fp} {H0' H' : Hp} {ρ : Ev} {O' : Fp} (fz : Frozen H0 H F H0' H') (S : St0 K H0 H O' σ ρ) (hd : ∀ a, O' a → ¬ F a) : St0 K H0' H' O' σ ρ := by
  obtain ⟨s1, s2, s3, s4, G, f1, f2, f3⟩ := S
  refine ⟨fz.sub, fun a z => fz.dom a (s2 a z), fun a z => ?_, s4, G, f1, f2, fun i n x e => ?_⟩
  · cases q : H0' a with
    | none => rfl
    | some o =>
      rcases fz.nsh a (by rw [q]; exact Option.some_ne_none _) with y | y
      · exact absurd (s3 a z) y
      · exact absurd y (hd a z)
  · obtain ⟨v, e1, e2⟩ := f3 i n x e
    exact ⟨v, e1, own_tr fz.sh _ _ _ _ _ e2 (fun a o hF e => (fz.off a (hd a (f2 i a hF))).trans e) fun _ z => z⟩
/-- a slot is taken out -/
theorem St0.take {ρ : Ev} {i n : Nat} {x : PV} (S : St0 K H0 H O σ ρ) (e : ρ[i]? = some (some (n, x))) :
    ∃ v, ∃ F : Fp, σ[i]? = some (some v) ∧ Own K H0 H x n v F ∧ (∀ a, F a → O a) ∧ St0 K H0 H (fun a => O a ∧ ¬ F a) σ (ρ.set i none) ∧ Tmp H0 H (fun a => O a ∧ ¬ F a) F := by
  obtain ⟨G, f1, f2, f3⟩ := S.own
  obtain ⟨v, e1, e2⟩ := f3 i n x e
  refine ⟨v, G i, e1, e2, f2 i, ⟨S.sub, fun a z => S.dom a z.1, fun a z => S.sep a z.1, by rw [List.length_set]; exact S.len, fun j a => j ≠ i ∧ G j a, fun j k a h1 h2 => f1 j k a h1.2 h2.2, fun j a h => ⟨f2 j a h.2, fun z => h.1 (f1 j i a h.2 z)⟩, fun j m y ej => ?_⟩, ⟨fun a z y => y.2 z, fun a z => S.dom a (f2 i a z), fun a z => S.sep a (f2 i a z)⟩⟩
  by_cases hj : j = i
  · subst hj
    by_cases hl : j < ρ.length
    · rw [List.getElem?_set_self hl] at ej; cases ej
    · rw [List.getElem?_eq_none (by rw [List.length_set]; omega)] at ej; cases ej
  · rw [List.getElem?_set_ne (Ne.symm hj)] at ej
    obtain ⟨w, g1, g2⟩ := f3 j m y ej
    exact ⟨w, g1, own_tr (fun _ _ z => z) _ _ _ _ _ g2 (fun _ _ _ e => e) fun a z => ⟨hj, z⟩⟩
/-- .. and put in, the very value -/
theorem St0.put {ρ : Ev} {B : Fp} {i n : Nat} {x : PV} {v : V} (S : St0 K H0 H O σ (ρ.set i none)) (T : Tmp H0 H O B) (o : Own K H0 H x n v B) (e : σ[i]? = some (some v)) : St0 K H0 H (O.or B) σ (ρ.set i (some (n, x))) := by
  have hi : i < σ.length := (List.getElem?_eq_some_iff.mp e).1
  have z := S.set T o hi
  rw [List.set_set] at z
  have hs : σ.set i (some v) = σ := List.ext_getElem? fun j => by
    by_cases hj : i = j
    · subst hj
      rw [List.getElem?_set_self hi, e]
    · rw [List.getElem?_set_ne hj]
  rw [hs] at z
  exact z
theorem Grow.frozen {F O' : Fp} {H0' H' : Hp} (fz : Frozen H0 H F H0' H') (hF : ∀ a, F a → O a) (hO : ∀ a, O' a → O a) : Grow H0 H O H0' H' O' :=
  ⟨fz.sh, fun a o e n => (fz.off a fun z => n (hF a z)).trans e, fz.dom, fun a z => .inl (hO a z), fun a z => (fz.nsh a z).elim .inl fun y => .inr (.inl (hF a y))⟩

/-! ## a name, frozen; a name, moved -/
def eFrzV (i : Nat) : EF := fun ρ => match ρ[i]? with
  | some (some (n, x)) => .ok ⟨n == 0, true, 0, x, ρ.set i (some (0, x))⟩
  | _ => .bad
def eMove (i : Nat) : EF := fun ρ => match ρ[i]? with
  | some (some (n, x)) => .ok ⟨true, true, n, x, ρ.set i none⟩
  | _ => .bad
variable {i : Nat} {x : Str} {pos : Pos}
theorem ev_move (hN : Γ.N[i]? = some x) (hv : Vis Γ.sc x) (hd : (x == ("__debug__" : Str)) = false) (hcd : (x == ("__classdict__" : Str)) = false) : EV g Γ (.Name x pos) (eMove i) := fun X W F => by
  refine PE.imp (pe_var (i := i) (by rw [F.N]; exact hN) (by rw [F.sc]; exact hv) hd hcd) fun σ H Q ⟨H0, O, ρ, S, q⟩ => ?_
  unfold eMove at q
  cases e : ρ[i]? with
  | none => rw [e] at q; exact q.elim
  | some o =>
    cases o with
    | none => rw [e] at q; exact q.elim
    | some p =>
      obtain ⟨n, y⟩ := p
      rw [e] at q
      obtain ⟨v, F', e1, o, hF, S', T⟩ := S.take e
      exact ⟨v, e1, q v H0 H _ F' (Grow.refl.mono fun a z => z.elim (fun y => y.1) (hF a)) (fun _ _ _ z => z) S' T o⟩
theorem ev_frz (hN : Γ.N[i]? = some x) (hv : Vis Γ.sc x) (hd : (x == ("__debug__" : Str)) = false) (hcd : (x == ("__classdict__" : Str)) = false) : EV g Γ (.Name x pos) (eFrzV i) := fun X W F => by
  refine PE.imp (PE.ghost (pe_var (i := i) (by rw [F.N]; exact hN) (by rw [F.sc]; exact hv) hd hcd)) fun σ H Q ⟨H0, O, ρ, S, q⟩ => ?_
  unfold eFrzV at q
  cases e : ρ[i]? with
  | none => rw [e] at q; exact q.elim
  | some o =>
    cases o with
    | none => rw [e] at q; exact q.elim
    | some p =>
      obtain ⟨n, y⟩ := p
      rw [e] at q
      obtain ⟨v, F', e1, o, hF, S', T⟩ := S.take e
      refine ⟨v, e1, ?_⟩
      by_cases hn : n = 0
      · subst hn
        refine ⟨fun H2 => H2 = H, .ret rfl, fun H2 e2 => ?_⟩
        subst e2
        refine q v H0 _ (fun a => (O a ∧ ¬ F' a) ∨ noF a) noF (Grow.refl.mono fun a z => z.elim (fun y => y.elim (fun z => z.1) False.elim) False.elim) (fun _ _ _ z => z) (S'.put .no (own0 (fun _ _ z => z) _ _ _ _ o) e1) .no ?_
        exact own0 (fun _ _ z => z) _ _ _ _ o
      · refine ⟨_, frz_own y n v F' H0 H o (fun a z => S.sep a (hF a z)) S.sub, fun H2 ⟨H02, fz, o2⟩ => ?_⟩
        have S2 := fz.st S' fun a z => z.2
        refine q v H02 H2 (fun a => (O a ∧ ¬ F' a) ∨ noF a) noF ((Grow.frozen fz hF fun a z => z.elim (fun y => y.1) False.elim).mono fun a z => z.elim id False.elim) (fun z => ?_) (S2.put .no o2 e1) .no o2
        simp only [beq_iff_eq] at z
        exact absurd z hn
/-- a temporary, frozen -/
def eFrz (f : EF) : EF := fun ρ => (f ρ).bind fun r => if r.ow = true then .ok ⟨r.pu && r.lv == 0, true, 0, r.x, r.ρ⟩ else .ok r
theorem ev_frzT {e : Expr} {f : EF} (he : EV g Γ e f) : EV g Γ e (eFrz f) := fun X W F => by
  refine PE.imp (PE.ghost (he X W F)) fun σ H Q ⟨H0, O, ρ, S, q⟩ => ⟨H0, O, ρ, S, ?_⟩
  unfold eFrz at q
  cases e : f ρ with
  | bad => rw [e] at q; exact q
  | exc c fs ρ' => rw [e] at q; exact q
  | ok r =>
    rw [e] at q
    simp only [Res.bind] at q
    intro v H0' H' O' B k hp S' T w
    by_cases ho : r.ow = true
    · rw [if_pos ho] at q w
      by_cases hn : r.lv = 0
      · refine ⟨fun H2 => H2 = H', .ret rfl, fun H2 e2 => ?_⟩
        subst e2
        refine q v H0' _ O' noF (k.mono fun a z => .inl (z.elim id False.elim)) (fun z => hp (by simp only [Bool.and_eq_true] at z; exact z.1)) S' .no ?_
        rw [hn] at w
        exact own0 (fun _ _ z => z) _ _ _ _ w
      · refine ⟨_, frz_own r.x r.lv v B H0' H' w T.sep S'.sub, fun H2 ⟨H02, fz, o2⟩ => ?_⟩
        have S2 := fz.st S' fun a z y => T.off a y z
        have k2 : Grow H0 H O H02 H2 O' := k.trans0 (Grow.frozen (O := O'.or B) fz (fun a z => .inr z) fun a z => .inl z)
        refine q v H02 H2 O' noF (k2.mono fun a z => z.elim id False.elim) (fun z => ?_) S2 .no o2
        simp only [Bool.and_eq_true, beq_iff_eq] at z
        exact absurd z.2 hn
    · rw [if_neg ho] at q w
      refine ⟨fun H2 => H2 = H', .ret rfl, fun H2 e2 => ?_⟩
      subst e2
      refine q v H0' _ O' B k hp S' T ?_
      rw [if_neg ho]
      exact w

/-! ## x.append(e) -/
/-- fits into the items of an owned list of level n + 1 -/
def fitL (n : Nat) (r : Rr) : Bool := (r.lv == n && (r.ow || n == 0)) || r.x.imm
theorem fit_own {n : Nat} {r : Rr} {v : V} {B : Fp} (h : fitL n r = true) (w : if r.ow = true then Own K H0 H r.x r.lv v B else ∃ F, Own K H0 H r.x r.lv v F) : Own K H0 H r.x n v B := by
  unfold fitL at h
  simp only [Bool.or_eq_true, Bool.and_eq_true, beq_iff_eq] at h
  rcases h with ⟨h1, h2 | h2⟩ | h
  · rw [if_pos h2, h1] at w
    exact w
  · subst h2
    split at w
    · rw [h1] at w; exact w
    · obtain ⟨F, w⟩ := w
      rw [h1] at w
      exact own0 (fun _ _ z => z) _ _ _ _ w
  · have z : ∃ F, Own K H0 H r.x r.lv v F := by
      split at w
      · exact ⟨_, w⟩
      · exact w
    obtain ⟨F, z⟩ := z
    exact imm_own (own_imm (F' := B) (H' := H) z (.inr h) fun _ _ z => z) h fun _ _ z => z
theorem ownL_snoc : ∀ {xs : List PV} {n : Nat} {vs : List V} {F B : Fp} {x : PV} {v : V}, OwnL K H0 H xs n vs F → Own K H0 H x n v B → (∀ a, B a → ¬ F a) → OwnL K H0 H (xs ++ [x]) n (vs ++ [v]) (fun a => F a ∨ B a)
  | [], n, vs, F, B, x, v, h, o, hd => by
    rw [show vs = [] from h]
    exact ⟨v, [], B, rfl, own_tr (fun _ _ z => z) _ _ _ _ _ o (fun _ _ _ e => e) fun a z => ⟨.inr z, z⟩, rfl⟩
  | y :: ys, n, _, F, B, x, v, ⟨w, ws, G, e, h1, h2⟩, o, hd => by
    rw [e]
    refine ⟨w, ws ++ [v], fun a => F a ∧ G a, rfl, own_tr (fun _ _ z => z) _ _ _ _ _ h1 (fun _ _ _ e => e) fun a z => ⟨.inl z.1, z⟩, ?_⟩
    refine ownL_tr (fun _ _ z => z) _ _ _ _ _ (ownL_snoc h2 o fun a z y => hd a z y.1) (fun _ _ _ e => e) fun a z => ?_
    rcases z with z | z
    · exact ⟨.inl z.1, fun y => z.2 y.2⟩
    · exact ⟨.inr z, fun y => hd a z y.1⟩
def eAppend (i : Nat) (f : EF) : EF := fun ρ => match ρ[i]? with
  | some (some (_ + 1, .lst _)) => (f ρ).bind fun r => match r.ρ[i]? with
    | some (some (n + 1, .lst xs)) => if fitL n r = true ∧ xs.length < sizeLine then .ok ⟨false, true, 0, .non, r.ρ.set i (some (n + 1, .lst (xs ++ [r.x])))⟩ else .bad
    | _ => .bad
  | _ => .bad
/-- the object at a, owned by the slot i, is changed -/
theorem mut_slot {ρ : Ev} {i n' : Nat} {x' : PV} {v : V} {F B : Fp} {a : Addr} {o' : HO} (S' : St0 K H0 H (fun a => O a ∧ ¬ F a) σ (ρ.set i none)) (T : Tmp H0 H (fun a => O a ∧ ¬ F a) F) (hF : ∀ a, F a → O a) (TB : Tmp H0 H O B) (e1 : σ[i]? = some (some v)) (ha : F a) (ow : Own K H0 (upd H a o') x' n' v (F.or B)) :
    St0 K H0 (upd H a o') (O.or B) σ (ρ.set i (some (n', x'))) ∧ Grow H0 H O H0 (upd H a o') O := by
  have S2 : St0 K H0 (upd H a o') (fun a => O a ∧ ¬ F a) σ (ρ.set i none) := S'.other (fun z => z.2 ha) (T.sep a ha)
  have T2 : Tmp H0 (upd H a o') (fun a => O a ∧ ¬ F a) (F.or B) := ⟨fun b z y => z.elim (fun z => y.2 z) fun z => TB.off b z y.1, fun b z => by
    by_cases hb : b = a
    · rw [hb, upd_same]; exact Option.some_ne_none _
    · rw [upd_ne hb]; exact z.elim (T.dom b) (TB.dom b), fun b z => z.elim (T.sep b) (TB.sep b)⟩
  have z := S2.put T2 ow e1
  refine ⟨?_, ⟨fun _ _ z => z, fun b o e n => ?_, fun b z => ?_, fun b z => .inl z, fun b z => .inl z⟩⟩
  · obtain ⟨G, f1, f2, f3⟩ := z.own
    exact ⟨z.sub, fun b y => by
      by_cases hb : F b
      · exact z.dom b (.inr (.inl hb))
      · exact y.elim (fun y => z.dom b (.inl ⟨y, hb⟩)) fun y => z.dom b (.inr (.inr y)), fun b y => by
      by_cases hb : F b
      · exact z.sep b (.inr (.inl hb))
      · exact y.elim (fun y => z.sep b (.inl ⟨y, hb⟩)) fun y => z.sep b (.inr (.inr y)), z.len, G, f1, fun j b h => (f2 j b h).elim (fun y => .inl y.1) fun y => y.elim (fun y => .inl (hF b y)) .inr, f3⟩
  · rw [upd_ne fun z => n (by rw [z]; exact hF a ha)]
    exact e
  · by_cases hb : b = a
    · rw [hb, upd_same]; exact Option.some_ne_none _
    · rw [upd_ne hb]; exact z
theorem ev_append {e : Expr} {f : EF} {p apos cpos : Pos} (hN : Γ.N[i]? = some x) (hv : Vis Γ.sc x) (hd : (x == ("__debug__" : Str)) = false) (hcd : (x == ("__classdict__" : Str)) = false) (hs : noStar e = true) (hl : (apos.endLine == cpos.line) = true) (he : EV g Γ e f) :
    EV g Γ (.Call (.Attribute (.Name x p) "append" apos) [e] [] cpos) (eAppend i f) := fun X W Fi => by
  have hss : noStars [e] = true := by show (noStar e && true) = true; rw [hs]; rfl
  refine PE.imp (pe_bm (t := tCons (tF g W f) tNil) PySem.F.plainAttrs_list PySem.F.slot_list_append PySem.F.type_list_append mt_append (pe_var (i := i) (by rw [Fi.N]; exact hN) (by rw [Fi.sc]; exact hv) hd hcd) (pa_cons (he X W Fi) pa_nil (star_cons hs)) (base_ok rfl) ?_ hl (star_cons hs) rfl) fun σ H Q ⟨H0, O, ρ, S, q⟩ => ?_
  · rw [star_all hss]
    rfl
  · unfold eAppend at q
    cases e0 : ρ[i]? with
    | none => rw [e0] at q; exact q.elim
    | some o =>
      cases o with
      | none => rw [e0] at q; exact q.elim
      | some p0 =>
        obtain ⟨n0, y0⟩ := p0
        rw [e0] at q
        cases n0 with
        | zero => exact q.elim
        | succ n0 =>
          cases y0 <;> first | exact q.elim | skip
          rename_i xs0
          obtain ⟨v, F0, e1, o1⟩ := own_slot S e0
          refine ⟨v, e1, by rw [Fi.K]; exact ty_lst S.sub o1 rfl, H0, O, ρ, S, ?_⟩
          simp only [] at q
          cases ef : f ρ with
          | bad => rw [ef] at q; exact q
          | exc c fs ρ' => rw [ef] at q; exact q
          | ok r =>
            rw [ef] at q
            simp only [Res.bind] at q
            intro w H0' H' O' B k hp S' T ow
            cases er : r.ρ[i]? with
            | none => rw [er] at q; exact q.elim
            | some o =>
              cases o with
              | none => rw [er] at q; exact q.elim
              | some p1 =>
                obtain ⟨n1, y1⟩ := p1
                rw [er] at q
                cases n1 with
                | zero => exact q.elim
                | succ n =>
                  cases y1 <;> first | exact q.elim | skip
                  rename_i xs
                  simp only [] at q
                  by_cases hc : fitL n r = true ∧ xs.length < sizeLine
                  case neg => rw [if_neg hc] at q; exact q.elim
                  rw [if_pos hc] at q
                  obtain ⟨v', F, e2, o2, hF, S2, T2⟩ := S'.take er
                  rw [e1] at e2
                  cases e2
                  obtain ⟨a, vs, rfl, ha, hFa, ol⟩ := o2
                  have oy := fit_own hc.1 ow
                  have hlen := ownL_len ol
                  refine ⟨a, vs, w, rfl, rfl, ha, by rw [hlen]; exact hc.2, ?_⟩
                  have hBF : ∀ b, B b → ¬ F b := fun b z y => T.off b z (hF b y)
                  have ol2 : OwnL g.K H0' (upd H' a (.lst (vs ++ [w]))) (xs ++ [r.x]) n (vs ++ [w]) (fun b => (F.or B) b ∧ b ≠ a) := by
                    refine ownL_tr (H := H') (fun _ _ z => z) _ _ _ _ _ (ownL_snoc ol oy fun b z y => hBF b z y.1) (fun b o z e => ?_) fun b z => ?_
                    · rw [upd_ne fun y => by
                        rcases z with z | z
                        · exact z.2 y
                        · exact hBF b z (by rw [y]; exact hFa)]
                      exact e
                    · rcases z with z | z
                      · exact ⟨.inl z.1, z.2⟩
                      · exact ⟨.inr z, fun y => hBF b z (by rw [y]; exact hFa)⟩
                  obtain ⟨S3, k3⟩ := mut_slot (n' := n + 1) (x' := .lst (xs ++ [r.x])) (v := .ref a) (o' := .lst (vs ++ [w])) S2 T2 hF T e1 hFa ⟨a, _, rfl, upd_same, .inl hFa, ol2⟩
                  refine q .non H0' _ (O'.or B) noF ?_ (fun z => by cases z) S3 .no rfl
                  have k4 : Grow H0' H' (O'.or B) H0' (upd H' a (.lst (vs ++ [w]))) (O'.or B) := ⟨k3.sh, fun b o e n => k3.keep b o e fun z => n (.inl z), k3.dom, fun b z => .inl z, fun b z => .inl z⟩
                  exact (k.trans0 k4).mono fun b z => z.elim id False.elim
end
end Pv

set_option maxRecDepth 100000
set_option maxHeartbeats 1000000
namespace Pv
open PySem PySem.Spec PyProof.Rows L2

/-! ## defs -/
def argsE (ms : List Nat) (pvs : List PV) : Ev := (ms.zip pvs).map some
def spF (g : Prg) (ms : List Nat) (f : FF) : Sp := fun vs H Q E => ∃ H0 O pvs, vs.length = ms.length ∧ pvs.length = ms.length ∧ St0 g.K H0 H O (vs.map some) (argsE ms pvs) ∧ match f pvs with
  | .ok lv x outs => outs.length = ms.length ∧ ∀ v H0' H' O' B, Grow H0 H O H0' H' (O'.or B) → St0 g.K H0' H' O' (vs.map some) (argsE ms outs) → Tmp H0' H' O' B → Own g.K H0' H' x lv v B → Q v H'
  | .exc c fs outs => outs.length = ms.length ∧ ∀ H0' H' O' d, Grow H0 H O H0' H' O' → St0 g.K H0' H' O' (vs.map some) (argsE ms outs) → ExD g.K H0' H' fs d → E (.ref (g.ea c)) d H'
  | .bad => False
def outsOf : List Nat → List PV → Ev → Option (List PV)
  | 0 :: ms, x :: xs, _ :: ρ => (outsOf ms xs ρ).map (x :: ·)
  | (m + 1) :: ms, _ :: xs, some (k, y) :: ρ => if k = m + 1 then (outsOf ms xs ρ).map (y :: ·) else none
  | [], [], _ => some []
  | _, _, _ => none
def fnF (ms : List Nat) (n : Nat) (body : SF) : FF := fun pvs => if pvs.length = ms.length then match body (argsE ms pvs ++ List.replicate (n - ms.length) none) with
    | .nx ρ' => match outsOf ms pvs ρ' with
      | some o => .ok 0 .non o
      | none => .bad
    | .rt lv x ρ' => match outsOf ms pvs ρ' with
      | some o => .ok lv x o
      | none => .bad
    | .exc c fs ρ' => match outsOf ms pvs ρ' with
      | some o => .exc c fs o
      | none => .bad
    | _ => .bad
  else .bad
def pnOf (ms : List Nat) : List Nat := (List.range ms.length).filter fun i => ms[i]? != some 0

section
variable {g : Prg} {Γ : Sx} {K : PySem.W.Frag} {H0 H : Hp} {O : Fp} {σ : L2.St} {X : Cx}
theorem argsE_get {ms : List Nat} {pvs : List PV} {i n : Nat} {x : PV} (h : (argsE ms pvs)[i]? = some (some (n, x))) : ms[i]? = some n ∧ pvs[i]? = some x := by
  unfold argsE at h
  rw [List.getElem?_map] at h
  cases e : (ms.zip pvs)[i]? with
  | none => rw [e] at h; cases h
  | some p =>
    rw [e] at h
    cases h
    exact List.getElem?_zip_eq_some.mp e
theorem argsE_len {ms : List Nat} {pvs : List PV} (h : pvs.length = ms.length) : (argsE ms pvs).length = ms.length := by
  unfold argsE
  rw [List.length_map, List.length_zip, h, Nat.min_self]
theorem argsE_at {ms : List Nat} {pvs : List PV} {i n : Nat} {x : PV} (h1 : ms[i]? = some n) (h2 : pvs[i]? = some x) : (argsE ms pvs)[i]? = some (some (n, x)) := by
  unfold argsE
  rw [List.getElem?_map, show (ms.zip pvs)[i]? = some (n, x) from List.getElem?_zip_eq_some.mpr ⟨h1, h2⟩]
  rfl
theorem outs_get : ∀ {ms : List Nat} {pvs : List PV} {ρ : Ev} {outs : List PV} {i n : Nat} {x : PV}, outsOf ms pvs ρ = some outs → ms[i]? = some n → outs[i]? = some x → (n = 0 ∧ pvs[i]? = some x) ∨ (n ≠ 0 ∧ ρ[i]? = some (some (n, x)))
  | 0 :: ms, x :: xs, o :: ρ, outs, i, n, y, h, h1, h2 => by
    obtain ⟨r, e1, e2⟩ := Option.map_eq_some_iff.mp (show (outsOf ms xs ρ).map (x :: ·) = some outs from h)
    subst e2
    cases i with
    | zero => simp at h1 h2; exact .inl ⟨h1.symm, by simp [h2]⟩
    | succ i => simpa using outs_get (i := i) e1 (by simpa using h1) (by simpa using h2)
  | (m + 1) :: ms, x :: xs, some (k, z) :: ρ, outs, i, n, y, h, h1, h2 => by
    have h' : (if k = m + 1 then (outsOf ms xs ρ).map (z :: ·) else none) = some outs := h
    split at h'
    · rename_i hk
      obtain ⟨r, e1, e2⟩ := Option.map_eq_some_iff.mp h'
      subst e2
      cases i with
      | zero => simp at h1 h2; subst h1 h2 hk; exact .inr ⟨by omega, rfl⟩
      | succ i => simpa using outs_get (i := i) e1 (by simpa using h1) (by simpa using h2)
    · cases h'
  | [], _, _, _, _, _, _, _, h1, _ => by simp at h1
  | 0 :: _, [], _, _, _, _, _, h, _, _ => by cases h
  | (_ + 1) :: _, [], _, _, _, _, _, h, _, _ => by cases h
  | 0 :: _, _ :: _, [], _, _, _, _, h, _, _ => by cases h
  | (_ + 1) :: _, _ :: _, [], _, _, _, _, h, _, _ => by cases h
  | (_ + 1) :: _, _ :: _, none :: _, _, _, _, _, h, _, _ => by cases h
theorem outs_len : ∀ {ms : List Nat} {pvs : List PV} {ρ : Ev} {outs : List PV}, outsOf ms pvs ρ = some outs → outs.length = ms.length
  | 0 :: ms, x :: xs, o :: ρ, outs, h => by
    obtain ⟨r, e1, e2⟩ := Option.map_eq_some_iff.mp (show (outsOf ms xs ρ).map (x :: ·) = some outs from h)
    subst e2
    rw [List.length_cons, List.length_cons, outs_len e1]
  | (m + 1) :: ms, x :: xs, some (k, z) :: ρ, outs, h => by
    have h' : (if k = m + 1 then (outsOf ms xs ρ).map (z :: ·) else none) = some outs := h
    split at h'
    · obtain ⟨r, e1, e2⟩ := Option.map_eq_some_iff.mp h'
      subst e2
      rw [List.length_cons, List.length_cons, outs_len e1]
    · cases h'
  | [], [], _, _, h => by cases h; rfl
  | [], _ :: _, _, _, h => by cases h
  | 0 :: _, [], _, _, h => by cases h
  | (_ + 1) :: _, [], _, _, h => by cases h
  | 0 :: _, _ :: _, [], _, h => by cases h
  | (_ + 1) :: _, _ :: _, [], _, h => by cases h
  | (_ + 1) :: _, _ :: _, none :: _, _, h => by cases h
theorem start_get {N : List Str} {vs : List V} {i : Nat} {v : V} (h : vs[i]? = some v) : (L2.start N vs)[i]? = some (some v) := by
  unfold L2.start
  have hi : i < vs.length := (List.getElem?_eq_some_iff.mp h).1
  rw [List.getElem?_append_left (by rw [List.length_map]; exact hi), List.getElem?_map, h]
  rfl
/-- the body begins -/
theorem St0.begin {N : List Str} {ms : List Nat} {vs : List V} {pvs : List PV} (hv : vs.length = ms.length) (hp : pvs.length = ms.length) (S : St0 K H0 H O (vs.map some) (argsE ms pvs)) : St0 K H0 H O (L2.start N vs) (argsE ms pvs ++ List.replicate (N.length - ms.length) none) := by
  obtain ⟨F, f1, f2, f3⟩ := S.own
  refine ⟨S.sub, S.dom, S.sep, ?_, F, f1, f2, fun i n x e => ?_⟩
  · unfold L2.start
    rw [List.length_append, List.length_append, List.length_map, List.length_replicate, List.length_replicate, argsE_len hp, hv]
  · by_cases hi : i < (argsE ms pvs).length
    · rw [List.getElem?_append_left hi] at e
      obtain ⟨v, e1, e2⟩ := f3 i n x e
      rw [List.getElem?_map] at e1
      cases q : vs[i]? with
      | none => rw [q] at e1; cases e1
      | some w =>
        rw [q] at e1
        cases e1
        exact ⟨v, start_get q, e2⟩
    · rw [List.getElem?_append_right (by omega), List.getElem?_replicate] at e
      split at e <;> cases e
/-- the body has ended: the parameters -/
theorem St0.fin {H0' H' : Hp} {O' : Fp} {N : List Str} {ms : List Nat} {vs : List V} {pvs outs : List PV} {σ' : L2.St} {ρ' : Ev} (hv : vs.length = ms.length) (hp : pvs.length = ms.length) (S : St0 K H0 H O (vs.map some) (argsE ms pvs)) (sh : Same H0 H0') (S' : St0 K H0' H' O' σ' ρ')
    (P : Pin (pnOf ms) (L2.start N vs) σ') (h : outsOf ms pvs ρ' = some outs) : St0 K H0' H' O' (vs.map some) (argsE ms outs) := by
  obtain ⟨F, f1, f2, f3⟩ := S.own
  obtain ⟨G, g1, g2, g3⟩ := S'.own
  refine ⟨S'.sub, S'.dom, S'.sep, by rw [List.length_map, argsE_len (outs_len h), hv], fun i a => if ms[i]? = some 0 then False else G i a, fun i j a h1 h2 => ?_, fun i a h1 => ?_, fun i n x e => ?_⟩
  · by_cases hi : ms[i]? = some 0
    · simp only [hi, ↓reduceIte] at h1
    · by_cases hj : ms[j]? = some 0
      · simp only [hj, ↓reduceIte] at h2
      · simp only [hi, ↓reduceIte] at h1
        simp only [hj, ↓reduceIte] at h2
        exact g1 i j a h1 h2
  · by_cases hi : ms[i]? = some 0
    · simp only [hi, ↓reduceIte] at h1
    · simp only [hi, ↓reduceIte] at h1
      exact g2 i a h1
  · obtain ⟨e1, e2⟩ := argsE_get e
    rcases outs_get h e1 e2 with ⟨rfl, q⟩ | ⟨hn, q⟩
    · obtain ⟨v, k1, k2⟩ := f3 i 0 x (argsE_at e1 q)
      exact ⟨v, k1, own0 sh _ _ _ _ k2⟩
    · obtain ⟨v, k1, k2⟩ := g3 i n x q
      have hil : i < ms.length := (List.getElem?_eq_some_iff.mp e1).1
      have hm : i ∈ pnOf ms := List.mem_filter.mpr ⟨List.mem_range.mpr hil, by
        rw [e1]
        simp [hn]⟩
      have hvi : vs[i]? = some (vs[i]'(by omega)) := List.getElem?_eq_getElem (by omega)
      rw [P i hm, start_get hvi] at k1
      cases k1
      refine ⟨_, by rw [List.getElem?_map, hvi]; rfl, ?_⟩
      have hne : ¬ ms[i]? = some 0 := by rw [e1]; simp [hn]
      show Own K H0' H' x n _ (fun a => if ms[i]? = some 0 then False else G i a)
      simp only [hne, ↓reduceIte]
      exact k2
theorem fits_def {qual : Str} {N : List Str} {sc : Scope} {f : Addr} {cdv : Value} {A : Around} {outer : List Env} {s : Shared} {E : XK} {k : Nat} {ms : List Nat} (hr : Room k (A.deeper (envOfC qual sc s.heap.objs.size f cdv))) (nd : N.Nodup) :
    Fits g ⟨N, sc, k, pnOf ms, false, false, none⟩ (cxOf (L2.CX g.P g.w) g.P g.w g.K g.mg g.base N qual sc f cdv A outer s H E) (fun cls d _ H => E cls d H) where
  xc := fun _ _ _ z => by cases z
  prog := rfl
  w := rfl
  K := rfl
  mg := rfl
  base := rfl
  N := rfl
  sc := rfl
  takes := takes_of rfl rfl rfl rfl
  un := by have := hr.un; show (A.deeper _).units + 100 < cLine; omega
  room := fun _ => hr
  calm := fun _ => rfl
  nd := nd
  pas := passes_of rfl
  fn := fun _ _ => rfl
  stk := fun _ => ⟨rfl, rfl, rfl⟩
/-- THE RULE for a def -/
theorem fn_ok {x qual : Str} {params : Arguments} {bd : List Stmt} {scope : Scope} {dvs : List V} {kws : List (Str × V)} {f : Addr} {fd : FuncData} {N ps : List Str} {k : Nat} {ms : List Nat} {body : SF} (Fn : FunD g.K x qual params bd scope dvs kws f fd) (S : FnScope N ps scope) (hm : ms.length = ps.length)
    (hb : SVs g ⟨N, scope, k, pnOf ms, false, false, none⟩ bd body) : FnOk g.P g.w g.K g.mg g.base (L2.CX g.P g.w) (k + 1) f fd ps (spF g ms (fnF ms N.length body)) := by
  refine Fn.ok S (fun vs H Q E ⟨H0, O, pvs, h1, h2, _⟩ => by rw [h1, hm]) fun cdv A outer s H vs Q E hr ⟨H0, O, pvs, hv, hp, S0, q⟩ => ?_
  refine ⟨_, hb _ _ (fits_def (E := E) hr S.nd), H0, O, _, S0.begin hv hp, ?_⟩
  unfold fnF at q
  rw [if_pos hp] at q
  cases e : body (argsE ms pvs ++ List.replicate (N.length - ms.length) none) with
  | nx ρ' =>
    rw [e] at q
    simp only [] at q
    intro σ' H0' H' O' k2 S2 P2
    cases eo : outsOf ms pvs ρ' with
    | none => rw [eo] at q; exact q.elim
    | some outs =>
      rw [eo] at q
      exact q.2 .non H0' H' O' noF (k2.mono fun a z => z.elim id False.elim) (S0.fin hv hp k2.sh S2 P2 eo) .no rfl
  | rt lv y ρ' =>
    rw [e] at q
    simp only [] at q
    intro v σ' H0' H' O' B k2 S2 T2 w P2
    cases eo : outsOf ms pvs ρ' with
    | none => rw [eo] at q; exact q.elim
    | some outs =>
      rw [eo] at q
      exact q.2 v H0' H' O' B k2 (S0.fin hv hp k2.sh S2 P2 eo) T2 w
  | exc c fs ρ' =>
    rw [e] at q
    simp only [] at q
    intro σ' H0' H' O' d k2 S2 ex P2
    cases eo : outsOf ms pvs ρ' with
    | none => rw [eo] at q; exact q.elim
    | some outs =>
      rw [eo] at q
      exact q.2 H0' H' O' d k2 (S0.fin hv hp k2.sh S2 P2 eo) ex
  | bk ρ' => rw [e] at q; exact q.elim
  | ct ρ' => rw [e] at q; exact q.elim
  | bad => rw [e] at q; exact q.elim

/-! ## calls -/
structure Callee (g : Prg) (x : Str) (ms : List Nat) (f : FF) (k : Nat) : Prop where
  db : (x == ("__debug__" : Str)) = false
  ex : ∃ (a : Addr) (fd : FuncData) (ps : List Str), g.mg x = some (.ref a) ∧ PySem.W.keepIn g.K (.ref a) = true ∧ Binds g.K fd ps [] ∧ FnOk g.P g.w g.K g.mg g.base (L2.CX g.P g.w) k a fd ps (spF g ms f)
/-- the arguments' values: a view, or a slot that is handed on -/
def ViewsM (K : PySem.W.Frag) (H0 H : Hp) (σ : L2.St) : List (Option Nat) → List (Nat × PV) → List V → Prop
  | [], [], [] => True
  | none :: sl, p :: ps, v :: vs => (∃ F, Own K H0 H p.2 p.1 v F) ∧ ViewsM K H0 H σ sl ps vs
  | some i :: sl, _ :: ps, v :: vs => σ[i]? = some (some v) ∧ ViewsM K H0 H σ sl ps vs
  | _, _, _ => False
def PostM (K : PySem.W.Frag) (H0 H : Hp) (O : Fp) (σ : L2.St) (sl : List (Option Nat)) (a : Ar) (Q : List V → Hp → Prop) : Prop :=
  ∀ vs H0' H' O', Grow H0 H O H0' H' O' → (a.pu = true → Same H H') → St0 K H0' H' O' σ a.ρ → ViewsM K H0' H' σ sl a.vs vs → Q vs H'
def tM (g : Prg) (W : WX) (sl : List (Option Nat)) (f : AF) : TA := fun σ H Q => ∃ H0 O ρ, St0 g.K H0 H O σ ρ ∧ match f ρ with
  | .ok a => PostM g.K H0 H O σ sl a Q
  | .exc c fs ρ' => PostX g H0 H O σ c fs ρ' W
  | .bad => False
def AM (g : Prg) (Γ : Sx) (es : List Expr) (sl : List (Option Nat)) (f : AF) : Prop := ∀ X W, Fits g Γ X W → PA X es (tM g W sl f)
def aMut (i : Nat) (af : AF) : AF := fun ρ => match ρ[i]? with
  | some (some _) => (af ρ).bind fun a => .ok ⟨a.pu, (0, .non) :: a.vs, a.ρ⟩
  | _ => .bad
theorem am_nil : AM g Γ [] [] aNil := fun X W F => PA.imp pa_nil fun σ H Q ⟨H0, O, ρ, S, q⟩ => q [] H0 H O .refl (fun _ _ _ z => z) S True.intro
theorem am_cons {e : Expr} {es : List Expr} {sl : List (Option Nat)} {f : EF} {af : AF} (hn : noStar e = true) (he : EV g Γ e f) (hr : AM g Γ es sl af) : AM g Γ (e :: es) (none :: sl) (aCons f af) := fun X W F => by
  refine PA.imp (pa_cons (he X W F) (hr X W F) (star_cons hn)) fun σ H Q ⟨H0, O, ρ, S, q⟩ => ⟨H0, O, ρ, S, ?_⟩
  unfold aCons at q
  cases hf : f ρ with
  | bad => rw [hf] at q; exact q
  | exc c fs ρ' => rw [hf] at q; exact q
  | ok r =>
    rw [hf] at q
    show PostR _ _ _ _ _ r _
    intro v H0' H' O' B k hpu S' T o
    refine ⟨H0', O', r.ρ, S', ?_⟩
    simp only [Res.bind] at q
    cases ha : af r.ρ with
    | bad => rw [ha] at q; exact q
    | exc c fs ρ' => rw [ha] at q; exact PostX.step q k
    | ok a =>
      rw [ha] at q
      simp only [] at q
      by_cases hs : stays r a.pu = true
      · rw [if_pos hs] at q
        intro vs H0'' H'' O'' k2 hpu2 S'' vw
        refine q (v :: vs) H0'' H'' O'' ((k.trans k2).mono fun a z => .inl z) (fun z => ?_) S'' ⟨view_stay hs T o k2 hpu2, vw⟩
        have z' := Bool.and_eq_true_iff.mp z
        exact L2.Same.trans (hpu z'.1) (hpu2 z'.2)
      · rw [if_neg hs] at q
        exact q.elim
theorem am_mut {x : Str} {pos : Pos} {i : Nat} {es : List Expr} {sl : List (Option Nat)} {af : AF} (hN : Γ.N[i]? = some x) (hv : Vis Γ.sc x) (hd : (x == ("__debug__" : Str)) = false) (hcd : (x == ("__classdict__" : Str)) = false) (hr : AM g Γ es sl af) : AM g Γ (.Name x pos :: es) (some i :: sl) (aMut i af) := fun X W F => by
  refine PA.imp (pa_cons (pe_var (i := i) (by rw [F.N]; exact hN) (by rw [F.sc]; exact hv) hd hcd) (hr X W F) (star_cons rfl)) fun σ H Q ⟨H0, O, ρ, S, q⟩ => ?_
  unfold aMut at q
  cases e : ρ[i]? with
  | none => rw [e] at q; exact q.elim
  | some o =>
    cases o with
    | none => rw [e] at q; exact q.elim
    | some p =>
      obtain ⟨n, y⟩ := p
      rw [e] at q
      obtain ⟨v, F', e1, _⟩ := own_slot S e
      refine ⟨v, e1, H0, O, ρ, S, ?_⟩
      simp only [] at q
      cases ha : af ρ with
      | bad => rw [ha] at q; exact q
      | exc c fs ρ' => rw [ha] at q; exact q
      | ok a =>
        rw [ha] at q
        intro vs H0'' H'' O'' k2 hpu2 S'' vw
        exact q (v :: vs) H0'' H'' O'' k2 hpu2 S'' ⟨e1, vw⟩
/-- the arguments as the callee has them; the slots that are handed on are taken out -/
def callIn : List Nat → List (Option Nat) → List (Nat × PV) → Ev → Option (List PV × Ev)
  | [], [], [], ρ => some ([], ρ)
  | 0 :: ms, none :: sl, p :: ps, ρ => if shOk p = true then (callIn ms sl ps ρ).map fun z => (p.2 :: z.1, z.2) else none
  | (m + 1) :: ms, some i :: sl, _ :: ps, ρ => match ρ[i]? with
    | some (some (n, y)) => if n = m + 1 then (callIn ms sl ps (ρ.set i none)).map fun z => (y :: z.1, z.2) else none
    | _ => none
  | _, _, _, _ => none
def callOut : List Nat → List (Option Nat) → List PV → Ev → Ev
  | m :: ms, some i :: sl, y :: ys, ρ => callOut ms sl ys (ρ.set i (some (m, y)))
  | _ :: ms, none :: sl, _ :: ys, ρ => callOut ms sl ys ρ
  | _, _, _, ρ => ρ
def eCall (ms : List Nat) (sl : List (Option Nat)) (f : FF) (af : AF) : EF := fun ρ => (af ρ).bind fun a => match callIn ms sl a.vs a.ρ with
  | none => .bad
  | some (pvs, ρ') => match f pvs with
    | .ok lv x outs => if outs.length = ms.length then .ok ⟨a.pu && ms.all (· == 0), true, lv, x, callOut ms sl outs ρ'⟩ else .bad
    | .exc c fs outs => if outs.length = ms.length then .exc c fs (callOut ms sl outs ρ') else .bad
    | .bad => .bad
theorem St0.consA {O' F : Fp} {n : Nat} {ms : List Nat} {x : PV} {pvs : List PV} {v : V} {vs : List V} (S : St0 K H0 H O' (vs.map some) (argsE ms pvs)) (o : Own K H0 H x n v F) (hF : ∀ a, F a → ¬ O' a) (hd : ∀ a, F a → H a ≠ none) (h0 : ∀ a, F a → H0 a = none) :
    St0 K H0 H (F.or O') ((v :: vs).map some) (argsE (n :: ms) (x :: pvs)) := by
  obtain ⟨G, g1, g2, g3⟩ := S.own
  refine ⟨S.sub, fun a z => z.elim (hd a) (S.dom a), fun a z => z.elim (h0 a) (S.sep a), by have := S.len; simpa [argsE] using this, fun i a => match i with | 0 => F a | i + 1 => G i a, fun i j a h1 h2 => ?_, fun i a h => ?_, fun i m y e => ?_⟩
  · cases i with
    | zero => cases j with
      | zero => rfl
      | succ j => exact absurd (g2 j a h2) (hF a h1)
    | succ i => cases j with
      | zero => exact absurd (g2 i a h1) (hF a h2)
      | succ j => exact congrArg (· + 1) (g1 i j a h1 h2)
  · cases i with
    | zero => exact .inl h
    | succ i => exact .inr (g2 i a h)
  · cases i with
    | zero => 
      have e' : some (some (n, x)) = some (some (m, y)) := e
      cases e'
      exact ⟨v, rfl, o⟩
    | succ i =>
      obtain ⟨w, k1, k2⟩ := g3 i m y (by simpa [argsE] using e)
      exact ⟨w, by simpa using k1, k2⟩
theorem St0.unconsA {n : Nat} {ms : List Nat} {x : PV} {pvs : List PV} {v : V} {vs : List V} (S : St0 K H0 H O ((v :: vs).map some) (argsE (n :: ms) (x :: pvs))) :
    ∃ F : Fp, Own K H0 H x n v F ∧ (∀ a, F a → O a) ∧ St0 K H0 H (fun a => O a ∧ ¬ F a) (vs.map some) (argsE ms pvs) := by
  obtain ⟨G, g1, g2, g3⟩ := S.own
  obtain ⟨w, k1, k2⟩ := g3 0 n x rfl
  have hw : w = v := by
    have : some (some v) = some (some w) := k1
    cases this
    rfl
  subst hw
  refine ⟨G 0, k2, g2 0, S.sub, fun a z => S.dom a z.1, fun a z => S.sep a z.1, by have := S.len; simpa [argsE] using this, fun i a => G (i + 1) a, fun i j a h1 h2 => by have := g1 _ _ a h1 h2; omega, fun i a h => ⟨g2 _ a h, fun z => by have := g1 _ _ a h z; omega⟩, fun i m y e => ?_⟩
  obtain ⟨u, j1, j2⟩ := g3 (i + 1) m y (by simpa [argsE] using e)
  exact ⟨u, by simpa using j1, j2⟩
theorem call_in : ∀ {ms : List Nat} {sl : List (Option Nat)} {ps : List (Nat × PV)} {vs : List V} {ρ ρ' : Ev} {pvs : List PV} {O : Fp}, St0 K H0 H O σ ρ → callIn ms sl ps ρ = some (pvs, ρ') → ViewsM K H0 H σ sl ps vs →
    ∃ Oc Or : Fp, (∀ a, Oc a → O a) ∧ (∀ a, Or a → O a ∧ ¬ Oc a) ∧ St0 K H0 H Or σ ρ' ∧ St0 K H0 H Oc (vs.map some) (argsE ms pvs) ∧ vs.length = ms.length ∧ pvs.length = ms.length ∧ (ms.all (· == 0) = true → ∀ a, ¬ Oc a)
  | [], [], [], vs, ρ, ρ', pvs, O, S, e, w => by
    cases e
    cases vs with
    | cons _ _ => exact w.elim
    | nil => exact ⟨noF, O, fun _ z => z.elim, fun a z => ⟨z, id⟩, S, ⟨S.sub, fun _ z => z.elim, fun _ z => z.elim, rfl, fun _ => noF, fun _ _ _ z => z.elim, fun _ _ z => z.elim, fun i n x e => by cases e⟩, rfl, rfl, fun _ _ z => z⟩
  | 0 :: ms, none :: sl, p :: ps, vs, ρ, ρ', pvs, O, S, e, w => by
    have e' : (if shOk p = true then (callIn ms sl ps ρ).map fun z => (p.2 :: z.1, z.2) else none) = some (pvs, ρ') := e
    split at e'
    · rename_i hk
      obtain ⟨⟨q1, q2⟩, e1, e2⟩ := Option.map_eq_some_iff.mp e'
      cases e2
      cases vs with
      | nil => exact w.elim
      | cons v vs =>
        obtain ⟨⟨F, o⟩, w⟩ := w
        obtain ⟨Oc, Or, c1, c2, c3, c4, c5, c6, c7⟩ := call_in S e1 w
        have o0 : Own K H0 H p.2 0 v noF := own_imm o (by unfold shOk at hk; simpa using hk) fun _ _ z => z
        have z := c4.consA (F := noF) o0 (fun _ z => z.elim) (fun _ z => z.elim) fun _ z => z.elim
        refine ⟨noF.or Oc, Or, fun a z => z.elim False.elim (c1 a), fun a z => ⟨(c2 a z).1, fun y => y.elim False.elim (c2 a z).2⟩, c3, z, by rw [List.length_cons, List.length_cons, c5], by rw [List.length_cons, List.length_cons, c6], fun z a y => y.elim id (c7 (by simpa using z) a)⟩
    · cases e'
  | (m + 1) :: ms, some i :: sl, p :: ps, vs, ρ, ρ', pvs, O, S, e, w => by
    cases vs with
    | nil => exact w.elim
    | cons v vs =>
      obtain ⟨ev, w⟩ := w
      unfold callIn at e
      split at e
      · rename_i n y er
        split at e
        · rename_i hn
          subst hn
          obtain ⟨⟨q1, q2⟩, e1, e2⟩ := Option.map_eq_some_iff.mp e
          cases e2
          obtain ⟨v', F, f1, f2, f3, f4, f5⟩ := S.take er
          rw [ev] at f1
          cases f1
          obtain ⟨Oc, Or, c1, c2, c3, c4, c5, c6, c7⟩ := call_in f4 e1 w
          have z := c4.consA f2 (fun a z y => (c1 a y).2 z) (fun a z => S.dom a (f3 a z)) fun a z => S.sep a (f3 a z)
          exact ⟨F.or Oc, Or, fun a z => z.elim (f3 a) fun y => (c1 a y).1, fun a z => ⟨(c2 a z).1.1, fun y => y.elim (c2 a z).1.2 (c2 a z).2⟩, c3, z, by rw [List.length_cons, List.length_cons, c5], by rw [List.length_cons, List.length_cons, c6], fun z => by simp at z⟩
        · cases e
      · cases e
  | [], [], _ :: _, _, _, _, _, _, _, e, _ => by cases e
  | [], _ :: _, _, _, _, _, _, _, _, e, _ => by cases e
  | 0 :: _, [], _, _, _, _, _, _, _, e, _ => by cases e
  | (_ + 1) :: _, [], _, _, _, _, _, _, _, e, _ => by cases e
  | 0 :: _, none :: _, [], _, _, _, _, _, _, e, _ => by cases e
  | 0 :: _, some _ :: _, _, _, _, _, _, _, _, e, _ => by cases e
  | (_ + 1) :: _, none :: _, _, _, _, _, _, _, _, e, _ => by cases e
  | (_ + 1) :: _, some _ :: _, [], _, _, _, _, _, _, e, _ => by cases e
theorem call_out : ∀ {ms : List Nat} {sl : List (Option Nat)} {ps : List (Nat × PV)} {vs : List V} {ρ : Ev} {outs : List PV} {Or Oc : Fp} {H00 Hx : Hp}, ViewsM K H00 Hx σ sl ps vs → outs.length = ms.length → vs.length = ms.length → St0 K H0 H Or σ ρ → St0 K H0 H Oc (vs.map some) (argsE ms outs) → (∀ a, Oc a → ¬ Or a) →
    St0 K H0 H (Or.or Oc) σ (callOut ms sl outs ρ)
  | [], sl, ps, vs, ρ, outs, Or, Oc, H00, Hx, w, ho, hv, S, Sc, hd => by
    have e : callOut [] sl outs ρ = ρ := by cases sl <;> rfl
    rw [e]
    obtain ⟨G, g1, g2, g3⟩ := S.own
    exact ⟨S.sub, fun a z => z.elim (S.dom a) (Sc.dom a), fun a z => z.elim (S.sep a) (Sc.sep a), S.len, G, g1, fun i a z => .inl (g2 i a z), g3⟩
  | m :: ms, sl, ps, vs, ρ, [], Or, Oc, H00, Hx, w, ho, hv, S, Sc, hd => by cases ho
  | m :: ms, sl, ps, [], ρ, y :: ys, Or, Oc, H00, Hx, w, ho, hv, S, Sc, hd => by cases hv
  | m :: ms, [], ps, v :: vs, ρ, y :: ys, Or, Oc, H00, Hx, w, ho, hv, S, Sc, hd => by cases ps <;> exact w.elim
  | m :: ms, none :: sl, [], v :: vs, ρ, y :: ys, Or, Oc, H00, Hx, w, ho, hv, S, Sc, hd => w.elim
  | m :: ms, some i :: sl, [], v :: vs, ρ, y :: ys, Or, Oc, H00, Hx, w, ho, hv, S, Sc, hd => w.elim
  | m :: ms, none :: sl, p :: ps, v :: vs, ρ, y :: ys, Or, Oc, H00, Hx, w, ho, hv, S, Sc, hd => by
    obtain ⟨F, f1, f2, f3⟩ := Sc.unconsA
    have z := call_out (ρ := ρ) w.2 (by simpa using ho) (by simpa using hv) S f3 fun a z => hd a z.1
    show St0 K H0 H (Or.or Oc) σ (callOut ms sl ys ρ)
    obtain ⟨G, g1, g2, g3⟩ := z.own
    exact ⟨z.sub, fun a q => q.elim (S.dom a) (Sc.dom a), fun a q => q.elim (S.sep a) (Sc.sep a), z.len, G, g1, fun i a q => (g2 i a q).imp id fun q => q.1, g3⟩
  | m :: ms, some i :: sl, p :: ps, v :: vs, ρ, y :: ys, Or, Oc, H00, Hx, w, ho, hv, S, Sc, hd => by
    obtain ⟨F, f1, f2, f3⟩ := Sc.unconsA
    have hi : i < σ.length := (List.getElem?_eq_some_iff.mp w.1).1
    have S2 := S.set (i := i) (n := m) (x := y) (v := v) (B := F) ⟨fun a z => hd a (f2 a z), fun a z => Sc.dom a (f2 a z), fun a z => Sc.sep a (f2 a z)⟩ f1 hi
    have hs : σ.set i (some v) = σ := List.ext_getElem? fun j => by
      by_cases hj : i = j
      · subst hj
        rw [List.getElem?_set_self hi, w.1]
      · rw [List.getElem?_set_ne hj]
    rw [hs] at S2
    have z := call_out (ρ := ρ.set i (some (m, y))) w.2 (by simpa using ho) (by simpa using hv) S2 f3 fun a z y => y.elim (hd a z.1) z.2
    show St0 K H0 H (Or.or Oc) σ (callOut ms sl ys (ρ.set i (some (m, y))))
    obtain ⟨G, g1, g2, g3⟩ := z.own
    exact ⟨z.sub, fun a q => q.elim (S.dom a) (Sc.dom a), fun a q => q.elim (S.sep a) (Sc.sep a), z.len, G, g1, fun j a q => (g2 j a q).elim (fun q => q.imp id (f2 a)) fun q => .inr q.1, g3⟩
theorem call_run {W : WX} {ms : List Nat} {sl : List (Option Nat)} {f : FF} {af : AF} {Q : VK} (q : tF g W (eCall ms sl f af) σ H Q) : tM g W sl af σ H fun vs H1 => spF g ms f vs H1 Q (fun cls d H' => W cls d σ H') := by
  obtain ⟨H0, O, ρ, S, q⟩ := q
  refine ⟨H0, O, ρ, S, ?_⟩
  unfold eCall at q
  cases ea : af ρ with
  | bad => rw [ea] at q; exact q
  | exc c fs ρ' => rw [ea] at q; exact q
  | ok a =>
    rw [ea] at q
    simp only [Res.bind] at q
    intro vs H0' H' O' k hp S' w
    cases ei : callIn ms sl a.vs a.ρ with
    | none => rw [ei] at q; exact q.elim
    | some z =>
      obtain ⟨pvs, ρ'⟩ := z
      rw [ei] at q
      simp only [] at q
      obtain ⟨Oc, Or, c1, c2, c3, c4, c5, c6, c7⟩ := call_in S' ei w
      refine ⟨H0', Oc, pvs, c5, c6, c4, ?_⟩
      have rest : ∀ {H02 H2 : Hp} {O2 : Fp}, Same H02 H2 → Grow H0' H' Oc H02 H2 O2 → St0 g.K H02 H2 Or σ ρ' ∧ (∀ a, O2 a → ¬ Or a) := fun {H02 H2 O2} sb k2 => by
        obtain ⟨G, g1, g2, g3⟩ := c3.own
        refine ⟨⟨sb, fun a z => k2.dom a (c3.dom a z), fun a z => ?_, c3.len, G, g1, g2, fun i n x e => ?_⟩, fun a z y => ?_⟩
        · cases q0 : H02 a with
          | none => rfl
          | some o =>
            rcases k2.nsh a (by rw [q0]; exact Option.some_ne_none _) with y | y | y
            · exact absurd (c3.sep a z) y
            · exact absurd y (c2 a z).2
            · exact absurd y (c3.dom a z)
        · obtain ⟨v, e1, e2⟩ := g3 i n x e
          exact ⟨v, e1, own_tr k2.sh _ _ _ _ _ e2 (fun a o z e => k2.keep a o e (c2 a (g2 i a z)).2) fun _ z => z⟩
        · rcases k2.own a z with u | u
          · exact (c2 a y).2 u
          · exact c3.dom a y u
      have big : ∀ {H02 H2 : Hp} {O2 : Fp}, Grow H0' H' Oc H02 H2 O2 → Grow H0 H O H02 H2 (Or.or O2) := fun {H02 H2 O2} k2 => by
        refine Grow.trans0 k ⟨k2.sh, fun a o e n => k2.keep a o e fun z => n (c1 a z), k2.dom, fun a z => ?_, fun a z => ?_⟩
        · rcases z with z | z
          · exact .inl (c2 a z).1
          · exact (k2.own a z).imp (c1 a) id
        · rcases k2.nsh a z with y | y | y
          · exact .inl y
          · exact .inr (.inl (c1 a y))
          · exact .inr (.inr y)
      cases ef : f pvs with
      | bad => rw [ef] at q; exact q.elim
      | ok lv x outs =>
        rw [ef] at q
        simp only [] at q
        by_cases hl : outs.length = ms.length
        case neg => rw [if_neg hl] at q; exact q.elim
        rw [if_pos hl] at q
        refine ⟨hl, fun v H02 H2 O2 B k2 S2 T2 o => ?_⟩
        obtain ⟨r1, r2⟩ := rest S2.sub (k2.mono fun a z => .inl z)
        have bg := big k2
        refine q v H02 H2 (Or.or O2) B (bg.mono fun a z => ?_) (fun z => ?_) (call_out w hl c5 r1 S2 r2) ⟨fun a z y => ?_, T2.dom, T2.sep⟩ (by simpa using o)
        · rcases z with (z | z) | z
          · exact .inl z
          · exact .inr (.inl z)
          · exact .inr (.inr z)
        · have z' := Bool.and_eq_true_iff.mp z
          have no := c7 z'.2
          exact L2.Same.trans (hp z'.1) fun a o e => k2.keep a o e (no a)
        · rcases y with y | y
          · rcases k2.own a (.inr z) with u | u
            · exact (c2 a y).2 u
            · exact c3.dom a y u
          · exact T2.off a z y
      | exc c fs outs =>
        rw [ef] at q
        simp only [] at q
        by_cases hl : outs.length = ms.length
        case neg => rw [if_neg hl] at q; exact q.elim
        rw [if_pos hl] at q
        refine ⟨hl, fun H02 H2 O2 d k2 S2 ex => ?_⟩
        obtain ⟨r1, r2⟩ := rest S2.sub k2
        exact q H02 H2 (Or.or O2) d (big k2) (call_out w hl c5 r1 S2 r2) ex
theorem pe_callS0 {CX : CXT} {k : Nat} {f : Addr} {fd : FuncData} {ps : List Str} {sp : Sp} {E : L2.St → XK} {x : Str} {p pos : Pos} (F : FnOk X.prog X.w X.K X.mg X.base CX k f fd ps sp) (hr : Room k X.A) (hg : Gl X x) (hm : X.mg x = some (.ref f)) (hk : PySem.W.keepIn X.K (.ref f) = true) (hb : Binds X.K fd ps []) (hx : ∀ σ, PassesAt CX X σ (E σ))
    (hdb : (x == ("__debug__" : Str)) = false) : PE X (.Call (.Name x p) [] [] pos) (tCallS sp E tNil) := by
  refine ⟨fun pins s σ H Q I h => ?_⟩
  refine wpAny_Call_Name_kw (ld_glob I hg hm ?_ hdb)
  exact PySem.W.callWith_K0 I.kIn hk (run_fnS (us := []) F hr hb (hx σ) I .nil h)
theorem ev_call {x : Str} {p pos : Pos} {e : Expr} {es : List Expr} {ms : List Nat} {sl : List (Option Nat)} {f : FF} {af : AF} {k : Nat} (C : Callee g x ms f k) (hg : IsGl Γ x) (hk : k ≤ Γ.lv) (hh : Γ.hot = false) (ha : AM g Γ (e :: es) sl af) (hs : noStars (e :: es) = true) :
    EV g Γ (.Call (.Name x p) (e :: es) [] pos) (eCall ms sl f af) := fun X W F => by
  obtain ⟨a, fd, ps, hm, kp, b, fn⟩ := C.ex
  have fn' : FnOk X.prog X.w X.K X.mg X.base (L2.CX X.prog X.w) k a fd ps (spF g ms f) := by
    rw [F.prog, F.w, F.K, F.mg, F.base]; exact fn
  refine PE.imp (pe_callS (E := WE W) fn' ((F.room hh).mono hk) (IsGl.of F hg) (by rw [F.mg]; exact hm) (by rw [F.K]; exact kp) (by rw [F.K]; exact b) (fun σ => passAt F.takes σ) (ha X W F) C.db (star_cons (noStars_all hs _ List.mem_cons_self)) (star_any fun y hy => noStars_all hs _ (List.mem_cons_of_mem _ hy))) fun σ H Q q => ?_
  exact call_run q
theorem ev_call0 {x : Str} {p pos : Pos} {f : FF} {k : Nat} (C : Callee g x [] f k) (hg : IsGl Γ x) (hk : k ≤ Γ.lv) (hh : Γ.hot = false) :
    EV g Γ (.Call (.Name x p) [] [] pos) (eCall [] [] f aNil) := fun X W F => by
  obtain ⟨a, fd, ps, hm, kp, b, fn⟩ := C.ex
  have fn' : FnOk X.prog X.w X.K X.mg X.base (L2.CX X.prog X.w) k a fd ps (spF g [] f) := by
    rw [F.prog, F.w, F.K, F.mg, F.base]; exact fn
  refine PE.imp (pe_callS0 (E := WE W) fn' ((F.room hh).mono hk) (IsGl.of F hg) (by rw [F.mg]; exact hm) (by rw [F.K]; exact kp) (by rw [F.K]; exact b) (fun σ => passAt F.takes σ) C.db) fun σ H Q q => ?_
  obtain ⟨H0, O, ρ, S, q⟩ := call_run q
  exact q [] H0 H O .refl (fun _ _ _ z => z) S True.intro
end
end Pv

set_option maxRecDepth 100000
set_option maxHeartbeats 1000000
namespace Pv
open PySem PySem.Spec PyProof.Rows L2

/-! ## own exceptions with fields -/
/-- what the written part must say of such a class, decidably -/
def oexB (K : PySem.W.Frag) (C : Addr) : Bool := (match K.lookup C with
    | some ⟨.type "type", _, .cls cd, sl⟩ => (match cd.mro, sl.toList with
      | .ref C' :: bm, [_, _, _, _, some (.builtin n), _] => C' == C && (n == "ValueError.__new__" && (cd.hasDict && (!cd.hasDel && PySem.HandSPX.refsVE bm)))
      | _, _ => false)
    | _ => false) && (decide (PySem.W.findIn K (.ref C) "__setattr__" = some (some (.builtin "object.__setattr__"))) && (decide (PySem.W.subIn K (.ref C) (.type "BaseException") = some true) && (decide (PySem.W.typeIn K (.ref C) = some (.type "type")) && PySem.W.keepIn K (.ref C))))
theorem and2 {a b : Bool} (h : (a && b) = true) : a = true ∧ b = true := by cases a <;> cases b <;> simp_all
theorem oexB_ok {K : PySem.W.Frag} {C : Addr} (h : oexB K C = true) : OexC K C := by
  obtain ⟨h0, h⟩ := and2 h
  obtain ⟨h1, h⟩ := and2 h
  obtain ⟨h2, h⟩ := and2 h
  obtain ⟨h3, h4⟩ := and2 h
  refine ⟨?_, of_decide_eq_true h1, of_decide_eq_true h2, of_decide_eq_true h3, h4⟩
  clear h1 h2 h3 h4
  split at h0
  case h_2 => cases h0
  case h_1 dd cd sl ho =>
    split at h0
    case h_2 => cases h0
    case h_1 C' bm k0 k1 k2 k3 n k5 hm hs =>
      obtain ⟨a1, h0⟩ := and2 h0
      obtain ⟨a2, h0⟩ := and2 h0
      obtain ⟨a3, h0⟩ := and2 h0
      obtain ⟨a4, a5⟩ := and2 h0
      obtain rfl := eq_of_beq a1
      obtain rfl := eq_of_beq a2
      have a4' : cd.hasDel = false := by simpa using a4
      obtain ⟨c1, c2, c3, c4, c5, c6, c7, c8, c9, c10, c11⟩ := cd
      obtain ⟨l⟩ := sl
      dsimp only at hm a3 a4' hs
      subst hm a4' a3 hs
      exact ⟨c1, c5, c4, c2, bm, c7, c8, c9, c10, dd, k0, k1, k2, k3, k5, ho, a5⟩

/-- making an own exception: its class's name, its fields' names -/
structure ExK (g : Prg) (x c : Str) (fs : List Str) : Prop where
  go : ∀ {Γ : Sx} {X : Cx} {W : WX}, Fits g Γ X W → Γ.hot = false → 2 ≤ Γ.lv → Gl X x → ∀ (e : Expr) (es : List Expr) (af : AF) (p pos : Pos), (∀ y ∈ e :: es, noStar y = true) → AV g Γ (e :: es) af →
    PMk X (.Call (.Name x p) (e :: es) [] pos) (fun σ H Q => tA g W af σ H fun vs H1 => vs.length = fs.length ∧ ∀ d, H1 d = none → Q (.ref (g.ea c)) (some d) (upd H1 d (.xd (fs.zip vs).reverse)))
theorem tA_mono {g : Prg} {W : WX} {af : AF} {σ : L2.St} {H : Hp} {Q Q' : List V → Hp → Prop} (h : tA g W af σ H Q) (k : ∀ vs H1, Q vs H1 → Q' vs H1) : tA g W af σ H Q' := by
  obtain ⟨H0, O, ρ, S, q⟩ := h
  refine ⟨H0, O, ρ, S, ?_⟩
  cases e : af ρ with
  | bad => rw [e] at q; exact q
  | exc c fs ρ' => rw [e] at q; exact q
  | ok a =>
    rw [e] at q
    exact fun vs H0' H' O' g1 g2 g3 g4 => k _ _ (q vs H0' H' O' g1 g2 g3 g4)
section
variable {P : Program} {w : World} {K : PySem.W.Frag} {mg : Str → Option Value} {base : Heap} {params : Arguments} {scope : Scope} {dvs : List V} {kws : List (Str × V)} {fI : Addr} {fd : FuncData} {qual : Str}
def spI1 (K : PySem.W.Frag) (f : Str) : Sp := fun vs H Q E => ∃ (a : Addr) (v : V) (C : Addr), vs = [.ref a, v] ∧ OexC K C ∧ PySem.W.findIn K (.ref C) f = some none ∧ H a = some (exo a C none) ∧ ∀ dx, H dx = none → dx ≠ a → Q .non (upd (upd H dx (exd dx [(f, v)])) a (exo a C (some dx)))
def spI2 (K : PySem.W.Frag) (f f2 : Str) : Sp := fun vs H Q E => ∃ (a : Addr) (v v2 : V) (C : Addr), vs = [.ref a, v, v2] ∧ OexC K C ∧ PySem.W.findIn K (.ref C) f = some none ∧ PySem.W.findIn K (.ref C) f2 = some none ∧ H a = some (exo a C none) ∧
  ∀ dx, H dx = none → dx ≠ a → Q .non (upd (upd (upd H dx (exd dx [(f, v)])) a (exo a C (some dx))) dx (exd dx [(f2, v2), (f, v)]))
theorem init1_ok {n1 f : Str} {p1 p2 p3 p4 : Pos} (F : FunD K "__init__" qual params [.Assign [.Attribute (.Name "self" p1) f p2] (.Name n1 p3) p4] scope dvs kws fI fd) (S : FnScope ["self", n1] ["self", n1] scope)
    (d1 : (n1 == ("__debug__" : Str)) = false) (d2 : (n1 == ("__classdict__" : Str)) = false) : FnOk P w K mg base (L2.CX P w) 1 fI fd ["self", n1] (spI1 K f) := by
  refine F.ok S (fun vs H Q E ⟨_, _, _, h, _⟩ => by rw [h]; rfl) fun cdv A outer s H vs Q E hr ⟨a, v, C, ev, T, no, ea, q⟩ => ?_
  have v1 : Vis scope "self" := (S.par _ List.mem_cons_self).imp id .inl
  have v2 : Vis scope n1 := (S.par _ (List.mem_cons_of_mem _ List.mem_cons_self)).imp id .inl
  refine ⟨_, pss_one (ps_ost (pe_var (i := 0) rfl v1) (pe_var (i := 1) rfl v2 d1 d2)), ?_⟩
  subst ev
  exact ⟨v, rfl, .ref a, rfl, a, C, rfl, T, no, .inl ⟨ea, fun dx h1 h2 => q dx h1 h2⟩⟩
theorem init2_ok {n1 n2 f f2 : Str} {p1 p2 p3 p4 q1 q2 q3 q4 : Pos} (F : FunD K "__init__" qual params [.Assign [.Attribute (.Name "self" p1) f p2] (.Name n1 p3) p4, .Assign [.Attribute (.Name "self" q1) f2 q2] (.Name n2 q3) q4] scope dvs kws fI fd)
    (S : FnScope ["self", n1, n2] ["self", n1, n2] scope) (d1 : (n1 == ("__debug__" : Str)) = false) (d2 : (n1 == ("__classdict__" : Str)) = false) (d3 : (n2 == ("__debug__" : Str)) = false) (d4 : (n2 == ("__classdict__" : Str)) = false) :
    FnOk P w K mg base (L2.CX P w) 1 fI fd ["self", n1, n2] (spI2 K f f2) := by
  refine F.ok S (fun vs H Q E ⟨_, _, _, _, h, _⟩ => by rw [h]; rfl) fun cdv A outer s H vs Q E hr ⟨a, v, v', C, ev, T, no, no2, ea, q⟩ => ?_
  have v1 : Vis scope "self" := (S.par _ List.mem_cons_self).imp id .inl
  have v2 : Vis scope n1 := (S.par _ (List.mem_cons_of_mem _ List.mem_cons_self)).imp id .inl
  have v3 : Vis scope n2 := (S.par _ (List.mem_cons_of_mem _ (List.mem_cons_of_mem _ List.mem_cons_self))).imp id .inl
  refine ⟨_, pss_cons (ps_ost (pe_var (i := 0) rfl v1) (pe_var (i := 1) rfl v2 d1 d2)) (pss_one (ps_ost (pe_var (i := 0) rfl v1) (pe_var (i := 2) rfl v3 d3 d4))), ?_⟩
  subst ev
  refine ⟨v, rfl, .ref a, rfl, a, C, rfl, T, no, .inl ⟨ea, fun dx h1 h2 => ?_⟩⟩
  refine ⟨v', rfl, .ref a, rfl, a, C, rfl, T, no2, .inr ⟨dx, [(f, v)], upd_same, ?_, by simp, q dx h1 h2⟩⟩
  rw [upd_ne h2, upd_same]
end
/-- the class's facts -/
structure ExF (g : Prg) (x c : Str) : Prop where
  T : OexC g.K (g.ea c)
  gl : g.mg x = some (.ref (g.ea c))
  db : (x == ("__debug__" : Str)) = false
section
variable {g : Prg} {x c qual : Str} {params : Arguments} {scope : Scope} {kws : List (Str × V)} {fI : Addr} {fd : FuncData}
theorem heap_end {H : Hp} {a d : Addr} {o o2 o3 : HO} {u : HO} (ha : H a = none) (hne : d ≠ a) : upd (del (upd (upd (upd H a o) d o2) a o3) a) d u = upd H d u := by
  funext b
  by_cases hb : b = d
  · rw [hb, upd_same, upd_same]
  · rw [upd_ne hb, upd_ne hb]
    by_cases h2 : b = a
    · rw [h2, del_same, ha]
    · rw [del_ne h2, upd_ne h2, upd_ne hb, upd_ne h2]
theorem heap_end2 {H : Hp} {a d : Addr} {o o2 o3 o4 : HO} {u : HO} (ha : H a = none) (hne : d ≠ a) : upd (del (upd (upd (upd (upd H a o) d o2) a o3) d o4) a) d u = upd H d u := by
  funext b
  by_cases hb : b = d
  · rw [hb, upd_same, upd_same]
  · rw [upd_ne hb, upd_ne hb]
    by_cases h2 : b = a
    · rw [h2, del_same, ha]
    · rw [del_ne h2, upd_ne hb, upd_ne h2, upd_ne hb, upd_ne h2]
theorem exk1 {n1 f : Str} {p1 p2 p3 p4 : Pos} (E : ExF g x c) (F : FunD g.K "__init__" qual params [.Assign [.Attribute (.Name "self" p1) f p2] (.Name n1 p3) p4] scope [] kws fI fd) (S : FnScope ["self", n1] ["self", n1] scope)
    (d1 : (n1 == ("__debug__" : Str)) = false) (d2 : (n1 == ("__classdict__" : Str)) = false) (hb : Binds g.K fd ["self", n1] [])
    (iC : PySem.W.findIn g.K (.ref (g.ea c)) "__init__" = some (some (.ref fI))) (tI : PySem.W.typeIn g.K (.ref fI) = some (.type "function")) (no : PySem.W.findIn g.K (.ref (g.ea c)) f = some none) : ExK g x c [f] := by
  refine ⟨fun {Γ X W} Fi hh hl hg e es af p pos hs ha => ?_⟩
  have F1 : FnOk X.prog X.w X.K X.mg X.base (L2.CX X.prog X.w) 1 fI fd ["self", n1] (spI1 X.K f) := by
    rw [Fi.prog, Fi.w, Fi.K, Fi.mg, Fi.base]; exact init1_ok F S d1 d2
  have M := pmk_oex (p := p) (pos := pos) (C := g.ea c) (ds := []) (dvs := []) (by rw [Fi.K]; exact E.T) (by rw [Fi.K]; exact iC) (by rw [Fi.K]; exact tI) F1 ((Fi.room hh).mono hl) (by rw [Fi.K]; exact hb) .nil passL hg (by rw [Fi.mg]; exact E.gl) (ha X W Fi) E.db (star_cons (hs _ List.mem_cons_self)) (star_any fun y hy => hs _ (List.mem_cons_of_mem _ hy))
  intro pins s σ H Q I h
  refine M pins s σ H Q I (tA_mono h fun vs H1 ⟨hn, q⟩ => ?_)
  match vs, hn with
  | [v], _ =>
    refine ⟨by simp, fun a ha => ⟨a, v, g.ea c, rfl, by rw [Fi.K]; exact E.T, by rw [Fi.K]; exact no, upd_same, fun dx h1 h2 => ⟨rfl, dx, [(f, v)], upd_same, ?_, ?_, ?_⟩⟩⟩
    · rw [upd_ne h2, upd_same]
    · rw [upd_ne h2] at h1; exact h1
    · rw [heap_end ha h2]
      exact q dx (by rw [upd_ne h2] at h1; exact h1)
theorem exk2 {n1 n2 f f2 : Str} {p1 p2 p3 p4 q1 q2 q3 q4 : Pos} (E : ExF g x c) (F : FunD g.K "__init__" qual params [.Assign [.Attribute (.Name "self" p1) f p2] (.Name n1 p3) p4, .Assign [.Attribute (.Name "self" q1) f2 q2] (.Name n2 q3) q4] scope [] kws fI fd)
    (S : FnScope ["self", n1, n2] ["self", n1, n2] scope) (d1 : (n1 == ("__debug__" : Str)) = false) (d2 : (n1 == ("__classdict__" : Str)) = false) (d3 : (n2 == ("__debug__" : Str)) = false) (d4 : (n2 == ("__classdict__" : Str)) = false) (hb : Binds g.K fd ["self", n1, n2] [])
    (iC : PySem.W.findIn g.K (.ref (g.ea c)) "__init__" = some (some (.ref fI))) (tI : PySem.W.typeIn g.K (.ref fI) = some (.type "function")) (no : PySem.W.findIn g.K (.ref (g.ea c)) f = some none) (no2 : PySem.W.findIn g.K (.ref (g.ea c)) f2 = some none) : ExK g x c [f, f2] := by
  refine ⟨fun {Γ X W} Fi hh hl hg e es af p pos hs ha => ?_⟩
  have F1 : FnOk X.prog X.w X.K X.mg X.base (L2.CX X.prog X.w) 1 fI fd ["self", n1, n2] (spI2 X.K f f2) := by
    rw [Fi.prog, Fi.w, Fi.K, Fi.mg, Fi.base]; exact init2_ok F S d1 d2 d3 d4
  have M := pmk_oex (p := p) (pos := pos) (C := g.ea c) (ds := []) (dvs := []) (by rw [Fi.K]; exact E.T) (by rw [Fi.K]; exact iC) (by rw [Fi.K]; exact tI) F1 ((Fi.room hh).mono hl) (by rw [Fi.K]; exact hb) .nil passL hg (by rw [Fi.mg]; exact E.gl) (ha X W Fi) E.db (star_cons (hs _ List.mem_cons_self)) (star_any fun y hy => hs _ (List.mem_cons_of_mem _ hy))
  intro pins s σ H Q I h
  refine M pins s σ H Q I (tA_mono h fun vs H1 ⟨hn, q⟩ => ?_)
  match vs, hn with
  | [v, v2], _ =>
    refine ⟨by simp, fun a ha => ⟨a, v, v2, g.ea c, rfl, by rw [Fi.K]; exact E.T, by rw [Fi.K]; exact no, by rw [Fi.K]; exact no2, upd_same, fun dx h1 h2 => ⟨rfl, dx, [(f2, v2), (f, v)], ?_, upd_same, ?_, ?_⟩⟩⟩
    · rw [upd_ne (Ne.symm h2), upd_same]
    · rw [upd_ne h2] at h1; exact h1
    · rw [heap_end2 ha h2]
      exact q dx (by rw [upd_ne h2] at h1; exact h1)
end

/-! ## raise -/
def sRaise (c : Str) (fs : List Str) (af : AF) : SF := fun ρ => match af ρ with
  | .ok a => if a.vs.length = fs.length ∧ a.vs.all shOk = true then .exc c (fs.zip (a.vs.map (·.2))) a.ρ else .bad
  | .exc c fs ρ' => .exc c fs ρ'
  | .bad => .bad
section
variable {g : Prg} {Γ : Sx} {K : PySem.W.Frag} {H0 H : Hp}
theorem lookup_append' {α β : Type} [BEq α] (l1 l2 : List (α × β)) (k : α) : (l1 ++ l2).lookup k = (l1.lookup k).or (l2.lookup k) := by
  induction l1 with
  | nil => rfl
  | cons p r ih =>
    obtain ⟨a, b⟩ := p
    simp only [List.cons_append, List.lookup_cons]
    cases e : k == a with
    | true => rfl
    | false => exact ih
theorem fields_own : ∀ {fs : List Str} {ps : List (Nat × PV)} {vs : List V} {l : List (Str × V)}, (∀ f ∈ fs, l.lookup f = none) → fs.Nodup → ps.length = fs.length → ps.all shOk = true → Views K H0 H ps vs → OwnF K H0 H (fs.zip (ps.map (·.2))) ((fs.zip vs).reverse ++ l)
  | [], _, _, _, _, _, _, _, _ => True.intro
  | f :: fs, [], _, _, _, _, e, _, _ => by cases e
  | f :: fs, p :: ps, vs, l, hl, nd, e, ok, w => by
    cases w with
    | cons o w =>
      rename_i v vs
      obtain ⟨F, o⟩ := o
      have ok' : shOk p = true ∧ ps.all shOk = true := by simpa using ok
      have o0 : Own K H0 H p.2 0 v noF := own_imm o (by have := ok'.1; unfold shOk at this; simpa using this) fun _ _ z => z
      have nd' := List.nodup_cons.mp nd
      have e1 : ((f, v) :: fs.zip vs).reverse ++ l = (fs.zip vs).reverse ++ ((f, v) :: l) := by simp
      show (∃ u, (((f, v) :: fs.zip vs).reverse ++ l).lookup f = some u ∧ Own K H0 H p.2 0 u noF) ∧ OwnF K H0 H (fs.zip (ps.map (·.2))) (((f, v) :: fs.zip vs).reverse ++ l)
      rw [e1]
      refine ⟨⟨v, ?_, o0⟩, fields_own (fun f' hf => ?_) nd'.2 (by simpa using e) ok'.2 w⟩
      · rw [lookup_append']
        have : (fs.zip vs).reverse.lookup f = none := by
          rw [List.lookup_eq_none_iff]
          intro q hq
          have := (List.of_mem_zip (List.mem_reverse.mp hq)).1
          simp only [beq_eq_false_iff_ne, ne_eq, bne_iff_ne]
          intro z
          exact nd'.1 (by rw [z]; exact this)
        rw [this]
        simp
      · rw [List.lookup_cons]
        have : (f' == f) = false := by
          simp only [beq_eq_false_iff_ne, ne_eq]
          intro z
          exact nd'.1 (by rw [← z]; exact hf)
        rw [this]
        exact hl f' (List.mem_cons_of_mem _ hf)
theorem sv_raise {x c : Str} {fs : List Str} {e : Expr} {es : List Expr} {af : AF} {p pos pos' : Pos} (E : ExK g x c fs) (nd : fs.Nodup) (hg : IsGl Γ x) (hh : Γ.hot = false) (hl : 2 ≤ Γ.lv) (ha : AV g Γ (e :: es) af) (hs : noStars (e :: es) = true) :
    SV g Γ (.Raise (some (.Call (.Name x p) (e :: es) [] pos)) none pos') (sRaise c fs af) := fun X W F => by
  refine PS.imp (ps_raise (F.calm hh) F.takes (E.go F hh hl (IsGl.of F hg) e es af p pos (noStars_all hs) ha)) fun D σ H ⟨H0, O, ρ, S, q⟩ => ⟨H0, O, ρ, S, ?_⟩
  unfold sRaise at q
  cases ea : af ρ with
  | bad => rw [ea] at q; exact q.elim
  | exc c fs ρ' =>
    rw [ea] at q
    exact fun H0' H' O' d k S' x => q σ H0' H' O' d k S' x .refl
  | ok a =>
    rw [ea] at q
    intro vs H0' H' O' k hp S' w
    simp only [] at q
    by_cases hc : a.vs.length = fs.length ∧ a.vs.all shOk = true
    case neg => rw [if_neg hc] at q; exact q.elim
    rw [if_pos hc] at q
    refine ⟨by rw [views_len w, hc.1], fun d hd => ?_⟩
    have nO : ¬ O' d := fun z => S'.dom d z hd
    have h0d : H0' d = none := by
      cases e : H0' d with
      | none => rfl
      | some o => rw [S'.sub _ _ e] at hd; cases hd
    have sm : Same H0' (upd H0' d (.xd (fs.zip vs).reverse)) := fun b o e => by
      rw [upd_ne fun z => by rw [z, h0d] at e; cases e]; exact e
    obtain ⟨G, g1, g2, g3⟩ := S'.own
    refine q σ (upd H0' d (.xd (fs.zip vs).reverse)) _ O' (some d) (k.trans0 ⟨sm, fun b o e n => ?_, fun b z => ?_, fun b z => .inl z, fun b z => ?_⟩) ⟨fun b o e => ?_, fun b z => ?_, fun b z => ?_, S'.len, G, g1, g2, fun i n x e => ?_⟩ ?_ .refl
    · rw [upd_ne fun z => by rw [z, hd] at e; cases e]; exact e
    · by_cases hb : b = d
      · rw [hb, upd_same]; exact Option.some_ne_none _
      · rw [upd_ne hb]; exact z
    · by_cases hb : b = d
      · exact .inr (.inr (by rw [hb]; exact hd))
      · rw [upd_ne hb] at z; exact .inl z
    · by_cases hb : b = d
      · subst hb
        rw [upd_same] at e ⊢; exact e
      · rw [upd_ne hb] at e ⊢; exact S'.sub _ _ e
    · rw [upd_ne fun z' => nO (by rw [← z']; exact z)]; exact S'.dom b z
    · rw [upd_ne fun z' => nO (by rw [← z']; exact z)]; exact S'.sep b z
    · obtain ⟨v, e1, e2⟩ := g3 i n x e
      refine ⟨v, e1, own_tr sm _ _ _ _ _ e2 (fun b o hF e => ?_) fun _ z => z⟩
      rw [upd_ne fun z' => nO (by rw [← z']; exact g2 i b hF)]; exact e
    · refine .inr ⟨d, _, rfl, upd_same, ?_⟩
      have := fields_own (l := []) (fun f hf => rfl) nd hc.1 hc.2 w
      rw [List.append_nil] at this
      exact ownF_tr sm _ _ this
end
end Pv

set_option maxRecDepth 100000
set_option maxHeartbeats 1000000
namespace Pv
open PySem PySem.Spec PyProof.Rows L2

/-! ## try with clauses, each with or without a name -/
abbrev Cl : Type := Value × Option Nat × (Addr → Value → Option Addr → TS)
def clear (i : Nat) (D : Ends) : Ends := { nx := fun σ H => D.nx (σ.set i none) H, bk := fun σ H => D.bk (σ.set i none) H, ct := fun σ H => D.ct (σ.set i none) H, rt := D.rt }
def wCl (K : PySem.W.Frag) (W : WX) (D : Ends) : List Cl → WX
  | [] => W
  | (c, o, ts) :: r => fun cls d σ H => ∃ b, PySem.W.exmOne K cls c = some b ∧ (b = false → wCl K W D r cls d σ H) ∧ (b = true → ∀ a, H a = none → match o with
      | none => ts a cls d D σ H
      | some i => ts a cls d (clear i D) (σ.set i (some (.ref a))) H)
inductive ClOk (X : Cx) : List ExceptHandler → List Cl → Prop
  | nil : ClOk X [] []
  | plain {x : Str} {c : Value} {ts : Addr → Value → Option Addr → TS} {st : Stmt} {suite : List Stmt} {np ep : Pos} {hs : List ExceptHandler} {l : List Cl} (hc : Names X x c)
      (ok : ∀ (a : Addr) (oe : Obj) (cls : Value) (d : Option Addr) (pn : List (Addr × Obj)), Zc cls d oe → (∃ vs, oe.data = .fields vs) → PSs (X.suite a ((a, oe) :: pn)) (st :: suite) (ts a cls d)) (r : ClOk X hs l) :
      ClOk X (.ExceptHandler (some (.Name x np)) none (st :: suite) ep :: hs) ((c, none, ts) :: l)
  | named {x n : Str} {c : Value} {i : Nat} {ts : Addr → Value → Option Addr → TS} {st : Stmt} {suite : List Stmt} {np ep : Pos} {hs : List ExceptHandler} {l : List Cl} (hc : Names X x c) (hN : X.N.Nodup) (hi : X.N[i]? = some n) (hk : X.env.kindOf n = some .local)
      (ok : ∀ (a : Addr) (oe : Obj) (cls : Value) (d : Option Addr) (pn : List (Addr × Obj)), Zc cls d oe → (∃ vs, oe.data = .fields vs) → PSs (X.suite a ((a, oe) :: pn)) (st :: suite) (ts a cls d)) (r : ClOk X hs l) :
      ClOk X (.ExceptHandler (some (.Name x np)) (some n) (st :: suite) ep :: hs) ((c, some i, ts) :: l)
section
variable {X : Cx} {body : List Stmt} {h1 : ExceptHandler} {hds : List ExceptHandler} {l : List Cl} {pos : Pos} {tb : WX → TS} {W : WX}
theorem sp_back {pins q : List (Addr × Obj)} {D : Ends} {a : Addr} {oe : Obj} {f : Flow} {s : Shared} (ok : X.Ok) (h : SP (X.suite a ((a, oe) :: (X.pn ++ pins))) q D f s) : SP X pins D f s := by
  cases f with
  | next => obtain ⟨σ6, H6, J, q⟩ := h; exact ⟨σ6, H6, J.unsuite ok, q⟩
  | brk => obtain ⟨σ6, H6, J, q⟩ := h; exact ⟨σ6, H6, J.unsuite ok, q⟩
  | cont => obtain ⟨σ6, H6, J, q⟩ := h; exact ⟨σ6, H6, J.unsuite ok, q⟩
  | ret u => obtain ⟨v6, σ6, H6, J, r, q⟩ := h; exact ⟨v6, σ6, H6, J.unsuite ok, r, q⟩
theorem ps_try_cl (ss : X.stack = X.env :: X.outer) (ff : X.env.frame = some X.env.locals) (tk : Takes X W)
    (hb : ∀ (W' : WX) (pn : List (Addr × Obj)) (xe : Value → Shared → Prop), Takes (X.tr pn xe) W' → PassesOwn (model X.prog X.w) X.A X.env xe → PSs (X.tr pn xe) body (tb W'))
    (hcl : ClOk X (h1 :: hds) l) : PS X (.Try body (h1 :: hds) [] [] pos) (fun D σ H => tb (wCl X.K W D l) D σ H) := by
  refine ⟨fun pins s σ H D I h => ?_⟩
  have ok := I.ok
  have fr0 : X.A.frames = some (X.env :: X.outer) := by rw [ok.frames, ss]
  refine wpAny_Try_except (wpAny_mono ((hb (wCl X.K W D l) (X.pn ++ pins) (fun e z => wpAny (model X.prog X.w) X.A (noteFrame e X.env) (fun _ z2 => wpAny (model X.prog X.w) X.A (setFlight e none) (fun _ z3 =>
    wpAny (model X.prog X.w) X.A (handleBy e X.env (h1 :: hds)) (SP X pins D) X.xe z3) X.xe z2) X.xe z) (fun u s' xx => ?_) PassesOwn.looking).run [] s σ H D (I.toTry _) h) (fun f z hz => ?_) (fun e z hz => hz))
  case refine_2 =>
    cases f with
    | next => obtain ⟨σ6, H6, J, q⟩ := hz; exact wpAny_execs_nil ⟨σ6, H6, J.ofTry ok, q⟩
    | brk => obtain ⟨σ6, H6, J, q⟩ := hz; exact ⟨σ6, H6, J.ofTry ok, q⟩
    | cont => obtain ⟨σ6, H6, J, q⟩ := hz; exact ⟨σ6, H6, J.ofTry ok, q⟩
    | ret u => obtain ⟨v6, σ6, H6, J, r, q⟩ := hz; exact ⟨v6, σ6, H6, J.ofTry ok, r, q⟩
  obtain ⟨a, B, sI, pi, σe, He, cls, d, rfl, Je, nb, up, sk, na, os, ag, w⟩ := xx
  have J : Inv X pins σe He sI := Je.ofTry ok
  have sk' : Sky B (X.env :: X.outer) a (Zc cls d) X.env.locals s'.heap := by rw [← ss]; exact sk
  show wpAny (model X.prog X.w) X.A (noteFrame (.ref a) X.env) _ _ _
  refine Sky.land Zc.steady fr0 ff sk' fun g3 fl g3u => ?_
  have K3 : Inv X pins σe He { s' with heap := g3 } := J.landed nb fl.1 (up.trans g3u) os ag
  obtain ⟨ob, fv, hob, zob, fob⟩ := fl.there
  have nofr : a ∉ frs (X.env :: X.outer) := fun hm => by
    obtain ⟨_, o', e', hnf⟩ := fl.2.2.1.mem hm
    rw [hob] at e'
    cases e'
    exact hnf _ fob
  have nL : a ≠ X.env.locals := fun z => nofr (List.mem_filterMap.mpr ⟨X.env, List.mem_cons_self, by rw [ff, z]⟩)
  have nF : a ∉ X.fs := fun hm => by
    obtain ⟨e, he, q⟩ := List.mem_filterMap.mp hm
    exact nofr (List.mem_filterMap.mpr ⟨e, List.mem_cons_of_mem _ he, q⟩)
  have T3 := K3.suite hob fob na nL nF
  have test : ∀ {x : Str} {c : Value} {np : Pos} {Q : Value → Shared → Prop} {E : Value → Shared → Prop}, Names X x c → Q c { s' with heap := g3 } → wpAny (model X.prog X.w) (X.A.mark (some (.ref a))) (eval (.Name x np) X.env) Q E { s' with heap := g3 } := fun {x c np Q E} hc q => by
    obtain ⟨hg, hdb, hm | ⟨hm, hv, hn⟩⟩ := hc
    · exact ld_glob (X := X.suite a ((a, ob) :: (X.pn ++ pins))) T3 hg hm q hdb
    · exact ld_blt (X := X.suite a ((a, ob) :: (X.pn ++ pins))) T3 hg hm hv q hn hdb
  have look : ∀ {c : Value} {b : Bool}, PySem.W.exmOne X.K cls c = some b → _ := fun {c b} hb1 => PySem.W.exm_one (M := model X.prog X.w) K3.kIn (fun A Q E s k q => wpAny_typeOf_ref (k _ _ hob) (by rw [zob.1]; exact q) : PySem.W.Looks (model X.prog X.w) g3 (typeOf (.ref a)) cls) hb1
  have main : ∀ {hs : List ExceptHandler} {l' : List Cl}, ClOk X hs l' → wCl X.K W D l' cls d σe He → wpAny (model X.prog X.w) X.A (handleBy (.ref a) X.env hs) (SP X pins D) X.xe { s' with heap := g3 } := by
    intro hs l' hk
    induction hk with
    | nil =>
      intro w
      refine wpAny_handleBy_nil ?_
      obtain ⟨k1, k2, k3, oe, vs, T, oT, ts', he, hz, hd, hone, hr⟩ := id fl
      unfold PySem.passOn
      refine wpAny_bind (wpAny_field he hd hone ?_)
      rw [if_neg (show ¬ ((Value.ref T == Value.none) = true) by simp)]
      have fin : wpAny (model X.prog X.w) X.A (setFlight (.ref a) X.env.frame) (fun _ z => wpAny (model X.prog X.w) X.A (throw (.ref a) : Sem Flow) (SP X pins D) X.xe z) X.xe { s' with heap := g3 } := by
        rw [ff]
        exact HandSPX.setFlight_upZ fl fun g4 hh4 up4 => wpAny_throw (tk _ _ ⟨a, B, sI, pins, σe, He, cls, d, rfl, J, nb, (up.trans g3u).trans up4, .inr (.inr (by rw [ss]; exact hh4)), na, os, ag, w⟩)
      first | exact wpAny_bind (wpAny_pure (wpAny_bind fin)) | exact wpAny_bind fin
    | @plain x c ts st suite np ep hs2 l2 hc hsu r ih =>
      intro w
      obtain ⟨b, hb1, hno, hyes⟩ := w
      refine wpAny_handleBy_cons (codeAny_handlers_test ?_) (by intro q; cases q)
      refine test hc ((look hb1).here ?_)
      cases b with
      | false => exact ih (hno rfl)
      | true =>
        refine codeAny_handlers_suite (HandSPX.lands_againZ fl fun g4 fl4 up4 => ?_)
        have K4 : Inv X pins σe He { s' with heap := g4 } := J.landed nb fl4.1 ((up.trans g3u).trans up4) os ag
        obtain ⟨o4, f4, ho4, z4, d4⟩ := fl4.there
        exact wpAny_mono ((hsu a o4 cls d (X.pn ++ pins) z4 ⟨_, d4⟩).run [] _ _ He _ (K4.suite ho4 d4 na nL nF) (hyes rfl a na)) (fun f z hz => sp_back ok hz) (fun _ _ z => False.elim z)
    | @named x n c i ts st suite np ep hs2 l2 hc hN hi hk' hsu r ih =>
      intro w
      obtain ⟨b, hb1, hno, hyes⟩ := w
      refine wpAny_handleBy_cons (codeAny_handlers_test ?_) (by intro q; cases q)
      refine test hc ((look hb1).here ?_)
      cases b with
      | false => exact ih (hno rfl)
      | true =>
        refine codeAny_handlers_suite_as (HandSPX.lands_againZ fl fun g4 fl4 up4 => ?_)
        have K4 : Inv X pins σe He { s' with heap := g4 } := J.landed nb fl4.1 ((up.trans g3u).trans up4) os ag
        obtain ⟨o4, f4, ho4, z4, d4⟩ := fl4.there
        have T4 := K4.suite ho4 d4 na nL nF
        refine store_ok (X := X.suite a ((a, o4) :: (X.pn ++ pins))) (v := .ref a) T4 hN hi (.inl hk') rfl (fun s5 T5 => ?_) (.inr hk')
        refine wpAny_mono ((hsu a o4 cls d (X.pn ++ pins) z4 ⟨_, d4⟩).run [] s5 _ He _ T5 (hyes rfl a na)) (fun f z hz => ?_) (fun _ _ z => False.elim z)
        have done : ∀ {σ6 : L2.St} {H6 : Hp} {Q : Shared → Prop}, Inv (X.suite a ((a, o4) :: (X.pn ++ pins))) [] σ6 H6 z → (∀ s7, Inv X pins (σ6.set i none) H6 s7 → Q s7) → wpAny (model X.prog X.w) X.A (do bindName X.env n .none; unbindBehindTheSuite X.env n ep) (fun _ s7 => Q s7) X.xe z :=
          fun {σ6 H6 Q} T6 hq => gone_ok (T6.unsuite ok) hN hi hk' hq
        cases f with
        | next => obtain ⟨σ6, H6, T6, q⟩ := hz; exact done T6 fun s7 J7 => ⟨_, _, J7, q⟩
        | brk => obtain ⟨σ6, H6, T6, q⟩ := hz; exact done T6 fun s7 J7 => ⟨_, _, J7, q⟩
        | cont => obtain ⟨σ6, H6, T6, q⟩ := hz; exact done T6 fun s7 J7 => ⟨_, _, J7, q⟩
        | ret u => obtain ⟨v6, σ6, H6, T6, r6, q⟩ := hz; exact done T6 fun s7 J7 => ⟨_, _, _, J7, r6, q⟩
  exact main hcl w
end
end Pv

set_option maxRecDepth 100000
set_option maxHeartbeats 1000000
namespace Pv
open PySem PySem.Spec PyProof.Rows L2

/-! ## try, at the level of pure values -/
structure Hd where
  cs : List Str
  ncs : List Str
  sl : Option Nat
  sf : Addr → Option Addr → Str → SF
def SR.drop (i : Nat) : SR → SR
  | .nx ρ => .nx (ρ.set i none)
  | .bk ρ => .bk (ρ.set i none)
  | .ct ρ => .ct (ρ.set i none)
  | .rt lv x ρ => .rt lv x (ρ.set i none)
  | .exc _ _ _ => .bad
  | .bad => .bad
def SR.noX : SR → SR
  | .exc _ _ _ => .bad
  | r => r
open Classical in
noncomputable def hRun (h : Hd) (c : Str) (fs : List (Str × PV)) (ρ : Ev) : SR := match h.sl with
  | none => if ∀ a d, (h.sf a d c ρ).noX = (h.sf 0 none c ρ).noX then (h.sf 0 none c ρ).noX else .bad
  | some i => if i < ρ.length ∧ ∀ a d, (h.sf a d c (ρ.set i (some (0, .exn a d c fs)))).drop i = (h.sf 0 none c (ρ.set i (some (0, .exn 0 none c fs)))).drop i then (h.sf 0 none c (ρ.set i (some (0, .exn 0 none c fs)))).drop i else .bad
noncomputable def sHs : List Hd → Str → List (Str × PV) → Ev → SR
  | [], c, fs, ρ => .exc c fs ρ
  | h :: t, c, fs, ρ => if h.cs.contains c = true then hRun h c fs ρ else if h.ncs.contains c = true then sHs t c fs ρ else .bad
noncomputable def sTry (body : SF) (hds : List Hd) : SF := fun ρ => match body ρ with
  | .exc c fs ρ' => sHs hds c fs ρ'
  | r => r
/-- the field f of the exception that the suite holds -/
def eXf (a : Addr) (d : Option Addr) (c f : Str) (i : Nat) : EF := fun ρ => match ρ[i]? with
  | some (some (_, .exn a' d' c' fs)) => if a' = a ∧ d' = d ∧ c' = c then (match fs.lookup f with
    | some x => .ok ⟨true, true, 0, x, ρ⟩
    | none => .bad) else .bad
  | _ => .bad
def NamC (g : Prg) (Γ : Sx) (x : Str) (c : Value) : Prop := IsGl Γ x ∧ (g.mg x = some c ∨ (g.mg x = none ∧ bootBuiltins x = some c ∧ x ≠ "__name__"))
def Γs (Γ : Sx) (a : Addr) (d : Option Addr) (c : Str) : Sx := { Γ with hot := true, xc := some (a, d, c) }
inductive HsV (g : Prg) (Γ : Sx) : List ExceptHandler → List Hd → Prop
  | nil : HsV g Γ [] []
  | plain {x : Str} {cv : Value} {cs ncs : List Str} {sf : Addr → Option Addr → Str → SF} {st : Stmt} {suite : List Stmt} {np ep : Pos} {hs : List ExceptHandler} {l : List Hd} (hn : NamC g Γ x cv) (h1 : ∀ c ∈ cs, PySem.W.exmOne g.K (.ref (g.ea c)) cv = some true)
      (h0 : ∀ c ∈ ncs, PySem.W.exmOne g.K (.ref (g.ea c)) cv = some false) (ok : ∀ a d c, c ∈ cs → SVs g (Γs Γ a d c) (st :: suite) (sf a d c)) (r : HsV g Γ hs l) : HsV g Γ (.ExceptHandler (some (.Name x np)) none (st :: suite) ep :: hs) (⟨cs, ncs, none, sf⟩ :: l)
  | named {x n : Str} {i : Nat} {cv : Value} {cs ncs : List Str} {sf : Addr → Option Addr → Str → SF} {st : Stmt} {suite : List Stmt} {np ep : Pos} {hs : List ExceptHandler} {l : List Hd} (hn : NamC g Γ x cv) (h1 : ∀ c ∈ cs, PySem.W.exmOne g.K (.ref (g.ea c)) cv = some true)
      (h0 : ∀ c ∈ ncs, PySem.W.exmOne g.K (.ref (g.ea c)) cv = some false) (hN : Γ.N[i]? = some n) (hl : Γ.sc.names.lookup n = some .local) (hp : i ∉ Γ.pn) (ok : ∀ a d c, c ∈ cs → SVs g (Γs Γ a d c) (st :: suite) (sf a d c)) (r : HsV g Γ hs l) :
      HsV g Γ (.ExceptHandler (some (.Name x np)) (some n) (st :: suite) ep :: hs) (⟨cs, ncs, some i, sf⟩ :: l)
section
variable {g : Prg} {Γ : Sx} {K : PySem.W.Frag} {H0 H : Hp} {pn : List Nat} {W W' : WX} {O : Fp} {σ : L2.St} {D : Ends}
theorem pin_set2 {σ σ' : L2.St} {i : Nat} {o : Option V} (hi : i ∉ pn) (h : Pin pn σ σ') : Pin pn σ (σ'.set i o) := fun j hj => by
  rw [List.getElem?_set_ne fun z => hi (by rw [z]; exact hj)]
  exact h j hj
theorem pin_set' {σ σ' : L2.St} {i : Nat} {o : Option V} (hi : i ∉ pn) (h : Pin pn (σ.set i o) σ') : Pin pn σ σ' := fun j hj => by
  rw [h j hj, List.getElem?_set_ne fun z => hi (by rw [z]; exact hj)]
theorem drop_q {i : Nat} {o : Option V} {r : SR} (hi : i ∉ pn) (q : SQ g pn W H0 H O σ D (r.drop i)) : SQ g pn W' H0 H O (σ.set i o) (clear i D) r := by
  cases r with
  | nx ρ' => exact fun σ2 H02 H2 O2 k S P => q (σ2.set i none) H02 H2 O2 k S.drop (pin_set2 hi (pin_set' hi P))
  | bk ρ' => exact fun σ2 H02 H2 O2 k S P => q (σ2.set i none) H02 H2 O2 k S.drop (pin_set2 hi (pin_set' hi P))
  | ct ρ' => exact fun σ2 H02 H2 O2 k S P => q (σ2.set i none) H02 H2 O2 k S.drop (pin_set2 hi (pin_set' hi P))
  | rt lv x ρ' => exact fun v σ2 H02 H2 O2 B k S T w P => q v (σ2.set i none) H02 H2 O2 B k S.drop T w (pin_set2 hi (pin_set' hi P))
  | exc c fs ρ' => exact q.elim
  | bad => exact q.elim
theorem noX_q {r : SR} (q : SQ g pn W H0 H O σ D r.noX) : SQ g pn W' H0 H O σ D r := by
  cases r with
  | exc c fs ρ' => exact q.elim
  | _ => exact q
def fW : WX := fun _ _ _ _ => False
def clsL (g : Prg) (pn : List Nat) : List ExceptHandler → List Hd → List (Value) → List Cl
  | _ :: hs, h :: l, cv :: cvs => (cv, h.sl, fun a cls d D σ H => ∃ c, cls = .ref (g.ea c) ∧ c ∈ h.cs ∧ tS g pn fW (h.sf a d c) D σ H) :: clsL g pn hs l cvs
  | _, _, _ => []
theorem fits_tr {X : Cx} {pnn : List (Addr × Obj)} {xe : Value → Shared → Prop} (F : Fits g Γ X W) (hx : Γ.xc = none) (t : Takes (X.tr pnn xe) W') (p : PassesOwn (model X.prog X.w) X.A X.env xe) : Fits g Γ (X.tr pnn xe) W' where
  xc := fun _ _ _ z => by rw [hx] at z; cases z
  prog := F.prog
  w := F.w
  K := F.K
  mg := F.mg
  base := F.base
  N := F.N
  sc := F.sc
  takes := t
  un := F.un
  room := F.room
  calm := F.calm
  nd := F.nd
  pas := p
  fn := F.fn
  stk := F.stk
theorem fits_suite {X : Cx} {a : Addr} {oe : Obj} {d : Option Addr} {c : Str} {pnn : List (Addr × Obj)} (F : Fits g Γ X W) (z : Zc (.ref (g.ea c)) d oe) (f : ∃ vs, oe.data = .fields vs) : Fits g (Γs Γ a d c) (X.suite a ((a, oe) :: pnn)) fW where
  xc := fun a' d' c' e f' hf y q te p ht => by
    cases e
    exact pe_xf (by show XfC X.K _; rw [F.K]; exact hf.xf) (by show PySem.W.findIn X.K _ _ = _; rw [F.K]; exact hf.no) z f ht
  prog := F.prog
  w := F.w
  K := F.K
  mg := F.mg
  base := F.base
  N := F.N
  sc := F.sc
  takes := takes_none5
  un := F.un
  room := fun z => by cases z
  calm := fun z => by cases z
  nd := F.nd
  pas := PassesOwn.never
  fn := F.fn
  stk := F.stk
theorem NamC.of {X : Cx} {x : Str} {c : Value} (F : Fits g Γ X W) (h : NamC g Γ x c) : Names X x c := ⟨IsGl.of F h.1, h.1.db, by rw [F.mg]; exact h.2⟩
theorem suite_ok {X : Cx} {st : Stmt} {suite : List Stmt} {cs : List Str} {sf : Addr → Option Addr → Str → SF} (F : Fits g Γ X W) (ok : ∀ a d c, c ∈ cs → SVs g (Γs Γ a d c) (st :: suite) (sf a d c)) (a : Addr) (oe : Obj) (cls : Value) (d : Option Addr) (pnn : List (Addr × Obj)) (z : Zc cls d oe) (f : ∃ vs, oe.data = .fields vs) :
    PSs (X.suite a ((a, oe) :: pnn)) (st :: suite) (fun D σ H => ∃ c, cls = .ref (g.ea c) ∧ c ∈ cs ∧ tS g Γ.pn fW (sf a d c) D σ H) := by
  refine ⟨fun pins s σ H D I ⟨c, e, hc, q⟩ => ?_⟩
  subst e
  exact (ok a d c hc _ _ (fits_suite F z f)).run pins s σ H D I q
theorem hs_ok {X : Cx} {hs : List ExceptHandler} {l : List Hd} (F : Fits g Γ X W) (h : HsV g Γ hs l) : ∃ cvs, ClOk X hs (clsL g Γ.pn hs l cvs) ∧ ∀ {H0 H : Hp} {O : Fp} {σ : L2.St} {D : Ends} {c : Str} {fs : List (Str × PV)} {ρ : Ev} {d : Option Addr},
    SQ g Γ.pn W H0 H O σ D (sHs l c fs ρ) → St0 g.K H0 H O σ ρ → ExD g.K H0 H fs d → wCl X.K W D (clsL g Γ.pn hs l cvs) (.ref (g.ea c)) d σ H := by
  induction h with
  | nil => exact ⟨[], .nil, fun {H0 H O σ D c fs ρ d} q S x => q σ H0 H O d .refl S x .refl⟩
  | @plain x cv cs ncs sf st suite np ep hs l hn h1 h0 ok r ih =>
    obtain ⟨cvs, i1, i2⟩ := ih
    refine ⟨cv :: cvs, .plain (hn.of F) (fun a oe cls d pnn z f => suite_ok F ok a oe cls d pnn z f) i1, fun {H0 H O σ D c fs ρ d} q S x => ?_⟩
    unfold sHs at q
    by_cases e1 : cs.contains c = true
    · rw [if_pos e1] at q
      refine ⟨true, by rw [F.K]; exact h1 c (List.contains_iff_mem.mp e1), fun z => (by cases z), fun _ a ha => ⟨c, rfl, List.contains_iff_mem.mp e1, H0, O, ρ, S, ?_⟩⟩
      unfold hRun at q
      simp only [] at q
      split at q
      · rename_i u
        exact noX_q (by rw [u a d]; exact q)
      · exact q.elim
    · rw [if_neg e1] at q
      by_cases e0 : ncs.contains c = true
      · rw [if_pos e0] at q
        exact ⟨false, by rw [F.K]; exact h0 c (List.contains_iff_mem.mp e0), fun _ => i2 q S x, fun z => nomatch z⟩
      · rw [if_neg e0] at q
        exact q.elim
  | @named x n i cv cs ncs sf st suite np ep hs l hn h1 h0 hN hl hp ok r ih =>
    obtain ⟨cvs, i1, i2⟩ := ih
    refine ⟨cv :: cvs, .named (hn.of F) F.nd (by rw [F.N]; exact hN) (by show X.env.scope.names.lookup n = _; rw [F.sc]; exact hl) (fun a oe cls d pnn z f => suite_ok F ok a oe cls d pnn z f) i1, fun {H0 H O σ D c fs ρ d} q S x => ?_⟩
    unfold sHs at q
    by_cases e1 : cs.contains c = true
    · rw [if_pos e1] at q
      refine ⟨true, by rw [F.K]; exact h1 c (List.contains_iff_mem.mp e1), fun z => (by cases z), fun _ a ha => ?_⟩
      unfold hRun at q
      simp only [] at q
      split at q
      · rename_i u
        have hi : i < σ.length := by rw [S.len]; exact u.1
        have S2 := S.set0 (i := i) (x := .exn a d c fs) (v := .ref a) ⟨rfl, x.imp id fun ⟨dd, fvs, e1, e2, e3⟩ => ⟨dd, fvs, e1, e2, e3⟩⟩ hi
        exact ⟨c, rfl, List.contains_iff_mem.mp e1, H0, O, _, S2, drop_q hp (by rw [u.2 a d]; exact q)⟩
      · exact q.elim
    · rw [if_neg e1] at q
      by_cases e0 : ncs.contains c = true
      · rw [if_pos e0] at q
        exact ⟨false, by rw [F.K]; exact h0 c (List.contains_iff_mem.mp e0), fun _ => i2 q S x, fun z => nomatch z⟩
      · rw [if_neg e0] at q
        exact q.elim
theorem sv_try {body : List Stmt} {h1 : ExceptHandler} {hs : List ExceptHandler} {l : List Hd} {pos : Pos} {bf : SF} (hb : SVs g Γ body bf) (hx : Γ.xc = none) (hk : Γ.blk = false) (hh : HsV g Γ (h1 :: hs) l) : SV g Γ (.Try body (h1 :: hs) [] [] pos) (sTry bf l) := fun X W F => by
  obtain ⟨cvs, i1, i2⟩ := hs_ok F hh
  refine PS.imp (ps_try_cl (tb := fun W' => tS g Γ.pn W' bf) (F.stk hk).1 (F.stk hk).2.1 F.takes (fun W' pnn xe t p => hb _ _ (fits_tr F hx t p)) i1) fun D σ H ⟨H0, O, ρ, S, q⟩ => ⟨H0, O, ρ, S, ?_⟩
  unfold sTry at q
  cases e : bf ρ with
  | exc c fs ρ' =>
    rw [e] at q
    intro σ' H0' H' O' d k S' x P
    exact i2 (q.of_grow k P) S' x
  | nx ρ' => rw [e] at q; exact q
  | bk ρ' => rw [e] at q; exact q
  | ct ρ' => rw [e] at q; exact q
  | rt lv x ρ' => rw [e] at q; exact q
  | bad => rw [e] at q; exact q
theorem ev_xf {y f : Str} {q p : Pos} {a : Addr} {d : Option Addr} {c : Str} {i : Nat} (hf : XfF g c f) (hx : Γ.xc = some (a, d, c)) (hN : Γ.N[i]? = some y) (hv : Vis Γ.sc y) (hd : (y == ("__debug__" : Str)) = false) (hcd : (y == ("__classdict__" : Str)) = false) : EV g Γ (.Attribute (.Name y q) f p) (eXf a d c f i) := fun X W F => by
  refine PE.imp (F.xc a d c hx f hf y q _ p (pe_var (i := i) (by rw [F.N]; exact hN) (by rw [F.sc]; exact hv) hd hcd)) fun σ H Q ⟨H0, O, ρ, S, h⟩ => ?_
  unfold eXf at h
  cases er : ρ[i]? with
  | none => rw [er] at h; exact h.elim
  | some o =>
    cases o with
    | none => rw [er] at h; exact h.elim
    | some m =>
      obtain ⟨n, x0⟩ := m
      cases x0 with
      | exn a' d' c' fs =>
        rw [er] at h
        dsimp only at h
        by_cases hc : a' = a ∧ d' = d ∧ c' = c
        case neg => rw [if_neg hc] at h; exact h.elim
        rw [if_pos hc] at h
        obtain ⟨rfl, rfl, rfl⟩ := hc
        cases ex : fs.lookup f with
        | none => rw [ex] at h; exact h.elim
        | some x =>
          rw [ex] at h
          obtain ⟨v, G, e1, e2⟩ := own_slot S er
          obtain ⟨rfl, o⟩ := (show v = .ref a' ∧ (fs = [] ∨ ∃ dd fvs, d' = some dd ∧ H0 dd = some (.xd fvs) ∧ OwnF g.K H0 H fs fvs) from e2)
          refine ⟨_, e1, rfl, rfl, ?_⟩
          rcases o with o | ⟨dd, fvs, o1, o2, o3⟩
          · rw [o] at ex; cases ex
          · have : ∀ {fs : List (Str × PV)}, OwnF g.K H0 H fs fvs → fs.lookup f = some x → ∃ u, fvs.lookup f = some u ∧ Own g.K H0 H x 0 u noF := by
              intro fs
              induction fs with
              | nil => intro _ e; cases e
              | cons p r ih =>
                obtain ⟨k, y⟩ := p
                intro o e
                rw [List.lookup_cons] at e
                cases hk : f == k with
                | true =>
                  rw [hk] at e
                  cases e
                  obtain rfl := eq_of_beq hk
                  exact o.1
                | false =>
                  rw [hk] at e
                  exact ih o.2 e
            obtain ⟨u, u1, u2⟩ := this o3 ex
            exact ⟨dd, fvs, u, o1, S.sub _ _ o2, u1, h u H0 H O noF (Grow.refl.mono fun a z => z.elim id False.elim) (fun _ _ _ z => z) S .no u2⟩
      | _ => rw [er] at h; exact h.elim
end
end Pv

set_option maxRecDepth 100000
set_option maxHeartbeats 1000000
namespace Pv
open PySem PySem.Spec PyProof.Rows L2

/-! ## where a token is out -/
def EVT (g : Prg) (Γ : Sx) (e : Expr) (f : EF) : Prop := ∀ X W, Fits g Γ X W → PET X e (tF g W f)
def SVT (g : Prg) (Γ : Sx) (st : Stmt) (F : SF) : Prop := ∀ X W, Fits g Γ X W → PST X st (tS g Γ.pn W F)
def SVsT (g : Prg) (Γ : Sx) (st : List Stmt) (F : SF) : Prop := ∀ X W, Fits g Γ X W → PSsT X st (tS g Γ.pn W F)
section
variable {g : Prg} {Γ : Sx} {a o : Expr} {fa fo : EF} {pos p apos cpos : Pos} {st : Stmt} {rest : List Stmt} {F G : SF}
theorem svt_of (h : SV g Γ st F) : SVT g Γ st F := fun X W Fi => PST.of (h X W Fi)
theorem svst_of (h : SVs g Γ rest F) : SVsT g Γ rest F := fun X W Fi => PSsT.of (h X W Fi)
theorem svst_cons (h : SVT g Γ st F) (hr : SVsT g Γ rest G) : SVsT g Γ (st :: rest) (sSeq F G) := fun X W Fi pins s σ H D h0 I ⟨H0, O, ρ, S, q⟩ =>
  psst_cons (h X W Fi) (hr X W Fi) pins s σ H D h0 I ⟨H0, O, ρ, S, seq_q q⟩
theorem loc_of {X : Cx} {W : WX} {x : Str} (F : Fits g Γ X W) (hl : locOk Γ x = true) : L2.Loc X.env.scope x ∧ (X.fn x = true ∨ X.env.scope.names.lookup x = some .local) := by
  unfold locOk at hl
  unfold L2.Loc
  rw [F.sc]
  split at hl
  · exact ⟨.inl ‹_›, .inr ‹_›⟩
  · exact ⟨.inr ‹_›, .inl (F.fn (by cases h : Γ.blk with | false => rfl | true => rw [h] at hl; cases hl) x)⟩
  · cases hl
theorem asg_q {X : Cx} {pins : List (Addr × Obj)} {s : Shared} {σ : L2.St} {H : Hp} {D : Ends} {W : WX} {i : Nat} {x : Str} (Fi : Fits g Γ X W) (hi : Γ.N[i]? = some x) (hpn : i ∉ Γ.pn) (I : Inv X pins σ H s) (q : tS g Γ.pn W (sSet i fa) D σ H) : tF g W fa σ H fun v H1 => D.nx (σ.set i (some v)) H1 := by
  have hls : i < σ.length := len_of I (by rw [Fi.N]; exact hi)
  exact ofE_run q fun {H0 O ρ r} S e q v H0' H' O' B k hp S' T w => set_end hls hpn q k S' T w
theorem eC_at {W : WX} {c : Int} {σ : L2.St} {H : Hp} {Q : VK} (q : tF g W (eC (.int c)) σ H Q) : Q (.int c) H := by
  obtain ⟨H0, O, ρ, S, q⟩ := q
  exact q (.int c) H0 H O noF (Grow.refl.mono fun a z => z.elim id False.elim) (fun _ _ _ z => z) S .no rfl
/-- x = a op 7: behind it a token is out -/
theorem svs_opC {i j : Nat} {x : Str} {c : Int} {cp bp : Pos} {op : Operator} {po : PO} {r : R2} (hr : ROk g.K (fun vs H Q => ∃ x y, vs = [x, y] ∧ r x y H Q) po) (ho : ∀ X, OpR X (binaryOp op) r)
    (hi : Γ.N[i]? = some x) (hl : locOk Γ x = true) (hpn : i ∉ Γ.pn) (ha : EV g Γ a fa) (h2 : SVsT g Γ rest G) : SVs g Γ (.Assign [.Name x p] (.BinOp a op (.Constant (.int c) j cp) bp) pos :: rest) (sSeq (sSet i (eOp po (aCons fa (aCons (eC (.int c)) aNil)))) G) := fun X W Fi => by
  refine ⟨fun pins s σ H D I ⟨H0, O, ρ, S, q⟩ => ?_⟩
  have q1 := asg_q Fi hi hpn I ⟨H0, O, ρ, S, seq_q q⟩
  have q2 := tA_cons (op_run hr q1)
  refine wpAny_execs_cons (wpAny_Assign_Name (wpAny_BinOp (thn ((ha X W Fi).run pins s σ H _ I q2) fun v s1 ⟨y, H1, I1, r1, q3⟩ => ?_)) (swaps_no rfl))
  have q5 := eC_at (tA_cons q3)
  obtain ⟨y', z', ee, q6⟩ := tA_nil q5
  cases ee
  refine wpAny_Constant_int ?_
  have hb := ho X pins (Shared.mk s1.heap s1.gens s1.drawn (s1.toks + 1) s1.os) σ H1 y (.int c) v (.int c s1.toks) _ (I1.tok _) r1 ⟨_, rfl⟩ q6
  refine wpAny_mono (PySem.wpAny_toks hb) (fun u s2 ⟨hk, z, H2, I2, r2, q7⟩ => ?_) fun _ _ z => z.2
  obtain ⟨l1, l2⟩ := loc_of Fi hl
  refine wpAny_mono (PySem.wpAny_toks (store_ok (Q := fun _ s3 => Inv X pins (σ.set i (some z)) H2 s3) I2 Fi.nd (by rw [Fi.N]; exact hi) l1 r2 (fun _ I3 => I3) l2)) (fun _ s3 ⟨hk3, I3⟩ => ?_) fun _ _ z => z.2
  have hk' : s1.toks + 1 ≤ s2.toks := hk
  exact h2 X W Fi pins s3 _ H2 D (by omega) I3 q7
theorem svt_set {i : Nat} {x : Str} (hi : Γ.N[i]? = some x) (hl : locOk Γ x = true) (hpn : i ∉ Γ.pn) (hn : noComp a = true) (ha : EVT g Γ a fa) : SVT g Γ (.Assign [.Name x p] a pos) (sSet i fa) := fun X W Fi pins s σ H D h0 I q => by
  obtain ⟨l1, l2⟩ := loc_of Fi hl
  exact wpAny_Assign_Name (thn (ha X W Fi pins s σ H _ h0 I (asg_q Fi hi hpn I q)) fun v s1 ⟨y, H1, I1, r1, q1⟩ => store_ok I1 Fi.nd (by rw [Fi.N]; exact hi) l1 r1 (fun s2 I2 => ⟨_, H1, I2, q1⟩) l2) (swaps_no hn)
def pRepl (y z : Str) : PO
  | [(_, .str x)] => if x.length + (x.length + 1) * z.length ≤ 16777216 then sc (.str (Txt.replace x y z)) else none
  | _ => none
theorem rok_repl {K : PySem.W.Frag} {y z : Str} : ROk K (fun vs H Q => ∃ v, vs = [v] ∧ ∃ x, v = .str x ∧ x.length + (x.length + 1) * z.length ≤ 16777216 ∧ Q (.str (Txt.replace x y z)) H) (pRepl y z) := by
  intro H0 H ps vs o Q s w e G
  unfold pRepl at e
  split at e
  · split at e
    · rename_i n x hc
      obtain ⟨v, F, rfl, h1⟩ := views1 w
      cases (show v = _ from h1)
      cases e
      exact ⟨_, rfl, x, rfl, hc, sc_gives (v := .str _) rfl G s rfl⟩
    · cases e
  · cases e
theorem evt_repl {y z : Str} {j k : Nat} {c0 c1 : Pos} (hyz : (y == z) = false) (hn : noSup o = true) (hl : (apos.endLine == cpos.line) = true) (ho : EV g Γ o fo) :
    EVT g Γ (.Call (.Attribute o "replace" apos) [.Constant (.str y) j c0, .Constant (.str z) k c1] [] cpos) (eOp (pRepl y z) (aConsT PV.isStr fo aNil)) := fun X W Fi pins s σ H Q h0 I q => by
  refine CwR.pet_replC (ho X W Fi) hyz rfl (base_ok hn) hl pins s σ H Q h0 I (tF.mono (tA_consT (op_run rok_repl q)) fun x H1 ⟨_, q1⟩ => ?_)
  obtain ⟨v, e, x', e1, e2, e3⟩ := tA_nil q1
  cases e
  exact ⟨x', e1, e2, e3⟩
end
end Pv

set_option maxRecDepth 100000
set_option maxHeartbeats 1000000
namespace Pv
open PySem PySem.Spec PyProof.Rows L2
abbrev sBk : SF := fun ρ => .bk ρ
abbrev sCt : SF := fun ρ => .ct ρ
abbrev tsTrue : TFn := fun ρ => .ok ⟨true, true, ρ⟩
/-- a def that is never asked -/
theorem fn_bad {P : Program} {w : World} {K : PySem.W.Frag} {mg : Str → Option Value} {base : Heap} {CX : CXT} {g : Prg} {f : Addr} {fd : FuncData} {ps : List Str} {ms : List Nat} {k : Nat} (hm : ms.length = ps.length) : FnOk P w K mg base CX k f fd ps (spF g ms fun _ => .bad) :=
  ⟨fun vs H Q E ⟨_, _, _, _, _, _, q⟩ => q.elim, fun A outer s H args us vs Q E hr e0 hb r ⟨_, _, _, _, _, _, q⟩ => q.elim⟩
section
variable {g : Prg} {Γ : Sx} {a o : Expr} {fa fo : EF} {pos p apos cpos : Pos} {st : Stmt} {rest : List Stmt} {F G : SF}
theorem svs_modC {i j : Nat} {x : Str} {c : Int} {cp bp : Pos} (hi : Γ.N[i]? = some x) (hl : locOk Γ x = true) (hpn : i ∉ Γ.pn) (ha : EV g Γ a fa) (h2 : SVsT g Γ rest G) :
    SVs g Γ (.Assign [.Name x p] (.BinOp a .Mod (.Constant (.int c) j cp) bp) pos :: rest) (sSeq (sSet i (eOp pMod (aCons fa (aCons (eC (.int c)) aNil)))) G) :=
  svs_opC (rok_I2 (f' := fun i j => .int (i % j)) (fun i j h => of_decide_eq_true h) fun _ _ _ _ _ => rfl) (fun X => op_mod) hi hl hpn ha h2
theorem svst_one {st : Stmt} {F : SF} (h : SVT g Γ st F) : SVsT g Γ [st] F := fun X W Fi pins s σ H D h0 I q => by
  refine wpAny_execs_cons (thn (h X W Fi pins s σ H D h0 I q) fun f s1 q1 => ?_)
  cases f with
  | next => exact wpAny_execs_nil q1
  | ret v => exact q1
  | brk => exact q1
  | cont => exact q1
end
end Pv

set_option maxRecDepth 100000
set_option maxHeartbeats 1000000
namespace Pv
open PySem PySem.Spec PyProof.Rows L2
/-! ## the end: the law's own call, the program's facts -/
def pvInts (ns : List Int) : List PV := ns.map .int
theorem ownL_pvInts {K : PySem.W.Frag} {H0 H : Hp} : ∀ {ns : List Int} {F : Fp}, OwnL K H0 H (pvInts ns) 0 (ns.map V.int) F
  | [], _ => rfl
  | n :: ns, _ => ⟨.int n, ns.map V.int, noF, rfl, rfl, ownL_pvInts⟩
theorem sp_law {g : Prg} {F : FF} {a : Addr} {ns : List Int} {H : Hp} (hS : SqL g.K H a (ns.map V.int)) (h : ∃ outs, outs.length = 1 ∧ F [.clst (pvInts ns)] = .ok 0 (.bl true) outs) : spF g [0] F [.ref a] H (fun v _ => v = .bl true) (fun _ _ _ => False) := by
  obtain ⟨outs, h1, h2⟩ := h
  refine ⟨H, noF, [.clst (pvInts ns)], rfl, rfl, ⟨fun _ _ z => z, fun _ z => z.elim, fun _ z => z.elim, rfl, fun _ => noF, fun _ _ _ z => z.elim, fun _ _ z => z, fun i n x e => ?_⟩, ?_⟩
  · obtain ⟨e1, e2⟩ := argsE_get e
    match i, e1, e2 with
    | 0, e1, e2 =>
      have e1' : (0 : Nat) = n := by simpa using e1
      have e2' : PV.clst (pvInts ns) = x := by simpa using e2
      subst e1' e2'
      exact ⟨_, rfl, a, _, rfl, hS, ownL_pvInts⟩
  · rw [h2]
    exact ⟨h1, fun v H0' H' O' B k S T w => w⟩
def mkG (P : Program) (w : World) (K : PySem.W.Frag) (mg : Str → Option Value) (base : Heap) : Prg := ⟨P, w, K, mg, base, fun c => He.ga K c⟩
def exAll (l : List (PySem.W.Frag → Bool)) (K : PySem.W.Frag) : Bool := l.all fun f => f K
theorem exAll_at {l : List (PySem.W.Frag → Bool)} {K : PySem.W.Frag} (h : exAll l K = true) (i : Nat) {f : PySem.W.Frag → Bool} (e : l[i]? = some f) : f K = true := List.all_eq_true.mp h _ (List.mem_of_getElem? e)
def iniB (C : Str) (K : PySem.W.Frag) : Bool := decide (PySem.W.findIn K (.ref (He.ga K C)) "__init__" = some (some (.ref (He.ma K (He.ga K C) "__init__")))) && decide (PySem.W.typeIn K (.ref (He.ma K (He.ga K C) "__init__")) = some (.type "function"))
theorem iniB_ok {C : Str} {K : PySem.W.Frag} (h : iniB C K = true) : PySem.W.findIn K (.ref (He.ga K C)) "__init__" = some (some (.ref (He.ma K (He.ga K C) "__init__"))) ∧ PySem.W.typeIn K (.ref (He.ma K (He.ga K C) "__init__")) = some (.type "function") :=
  ⟨of_decide_eq_true (and2 h).1, of_decide_eq_true (and2 h).2⟩
/-- every number of a script -/
def Bits (ns : List Int) : Prop := ∀ z ∈ ns, Builtin.Int.intBits z ≤ 1048576
theorem cx_none {P : Program} {w : World} {l : List Env} {H : Hp} {s s' : Shared} {e : Value} (h : L2.CX P w l H s (fun _ _ _ => False) e s') : False := by
  obtain ⟨_, _, _, _, _, _, _, _, _, _, _, _, z⟩ := h
  exact z
theorem walk_end {l : PySem.W.OpenLaw} {n k : Nat} {q : Program} {loose : List Str} {XP : (Str → Option Value) → Heap → Prop} {YP : World → Heap → Prop} {d : DefRec} {x : Str} (hn : l.most = some n) (hn2 : n ≤ sizeLine) (hdf : d.params.defaults = []) (hr : Room k callerA)
    (F : ∀ (w : World) (mg : Str → Option Value) (fa : Addr) (h : Heap), YP w h → h.Ns mainGlobals mg → mg d.name = some (.ref fa) → ∃ (K : PySem.W.Frag) (fd : FuncData) (sp : Sp), K.In h ∧ (∀ (s : Shared) (u : Value), BindsTo s fd ⟨[u], []⟩ [(x, u)]) ∧
      (∀ (H : Hp) (a : Addr) (ns : List Int), ns.length ≤ n → Bits ns → SqL K H a (ns.map V.int) → sp [.ref a] H (fun v _ => v = .bl true) fun _ _ _ => False) ∧ ∀ base : Heap, FnOk l.prog w K mg base (L2.CX l.prog w) k fa fd [x] sp) :
    PySem.W.WalkO q loose XP YP l.row.toRowW d [] (fun f vs => PySem.call f vs) := by
  refine Att.attach_callB hn hdf fun w s0 s1 mg mb fa o pm cd doc a vs ns G Y ho hd hcd hmg hob hin hlen hbits hgen => ?_
  obtain ⟨K, fd, sp, KX, hb, hsp, hF⟩ := F w mg fa _ Y G.T.g hmg
  exact law_call KX G.T.g G.T.b G.T.builtins G.T.nolimit hgen hob hin (Nat.le_trans hlen hn2) hr (fun base _ _ => hF base) hb (fun H _ hS => hsp H a ns hlen hbits hS) fun H e s' => cx_none
end Pv

set_option maxRecDepth 100000
set_option maxHeartbeats 1000000
namespace Pv
open PySem PySem.Spec PyProof.Rows L2
/-! ## reading mirrors: equations for simp -/
theorem r62_ok {k : Int} (h0 : -2000000000 ≤ k) (h1 : k ≤ 2000000000) : r62 k = true := r62_iff.mpr ⟨by omega, by omega⟩
theorem r62_nat {n : Nat} (h : n ≤ 2000000000) : r62 (n : Int) = true := r62_ok (by omega) (by omega)
def iabs (k : Int) : Int := if k < 0 then -k else k
theorem iabs_nonneg (k : Int) : 0 ≤ iabs k := by unfold iabs; split <;> omega
section
variable {ρ : Ev} {f h : EF} {F G : SF} {af : AF} {t u : TFn} {bf : BF} {s : IF'} {i n m lv : Nat} {x y : PV} {pu ow b : Bool} {r : Rr} {z w : Str} {k l : Int} {xs ys : List PV} {c : Str} {fs : List (Str × PV)}
@[simp] theorem z_seq : sSeq F G ρ = (F ρ).bind G := Eq.trans rfl rfl
@[simp] theorem z_b1 : SR.bind (.nx ρ) G = G ρ := Eq.trans rfl rfl
@[simp] theorem z_b2 : SR.bind (.bk ρ) G = .bk ρ := Eq.trans rfl rfl
@[simp] theorem z_b3 : SR.bind (.ct ρ) G = .ct ρ := Eq.trans rfl rfl
@[simp] theorem z_b4 : SR.bind (.rt n x ρ) G = .rt n x ρ := Eq.trans rfl rfl
@[simp] theorem z_b5 : SR.bind (.exc c fs ρ) G = .exc c fs ρ := Eq.trans rfl rfl
@[simp] theorem z_b6 : SR.bind .bad G = .bad := Eq.trans rfl rfl
@[simp] theorem z_nil : sNil ρ = .nx ρ := Eq.trans rfl rfl
@[simp] theorem z_retN : sRetN ρ = .rt 0 .non ρ := Eq.trans rfl rfl
@[simp] theorem z_rb1 {α β : Type} {a : α} {g : α → Res β} : Res.bind (.ok a) g = g a := Eq.trans rfl rfl
@[simp] theorem z_rb2 {α β : Type} {g : α → Res β} : Res.bind (.exc c fs ρ) g = .exc c fs ρ := Eq.trans rfl rfl
@[simp] theorem z_rb3 {α β : Type} {g : α → Res β} : Res.bind .bad g = .bad := Eq.trans rfl rfl
@[simp] theorem z_var : eVar i ρ = (match ρ[i]? with | some (some (n, x)) => .ok ⟨true, false, n, x, ρ⟩ | _ => .bad) := Eq.trans rfl rfl
@[simp] theorem z_c : eC x ρ = .ok ⟨true, true, 0, x, ρ⟩ := Eq.trans rfl rfl
@[simp] theorem z_move : eMove i ρ = (match ρ[i]? with | some (some (n, x)) => .ok ⟨true, true, n, x, ρ.set i none⟩ | _ => .bad) := Eq.trans rfl rfl
@[simp] theorem z_frzv : eFrzV i ρ = (match ρ[i]? with | some (some (n, x)) => .ok ⟨n == 0, true, 0, x, ρ.set i (some (0, x))⟩ | _ => .bad) := Eq.trans rfl rfl
@[simp] theorem z_frz : eFrz f ρ = ((f ρ).bind fun r => if r.ow = true then .ok ⟨r.pu && r.lv == 0, true, 0, r.x, r.ρ⟩ else .ok r) := Eq.trans rfl rfl
@[simp] theorem z_anil : aNil ρ = .ok ⟨true, [], ρ⟩ := Eq.trans rfl rfl
@[simp] theorem z_acons : aCons f af ρ = ((f ρ).bind fun r => (af r.ρ).bind fun a => if stays r a.pu = true then .ok ⟨r.pu && a.pu, (r.lv, r.x) :: a.vs, a.ρ⟩ else .bad) := Eq.trans rfl rfl
@[simp] theorem z_stays : stays r b = (r.ow || r.lv == 0 || r.x.imm || b) := Eq.trans rfl rfl
@[simp] theorem z_imm1 : PV.imm (.lst xs) = false := Eq.trans rfl rfl
@[simp] theorem z_imm2 {q : List (DK × PV)} : PV.imm (.dic q) = false := Eq.trans rfl rfl
@[simp] theorem z_imm3 : PV.imm .non = true := Eq.trans rfl rfl
@[simp] theorem z_imm4 : PV.imm (.bl b) = true := Eq.trans rfl rfl
@[simp] theorem z_imm5 : PV.imm (.int k) = true := Eq.trans rfl rfl
@[simp] theorem z_imm6 : PV.imm (.str z) = true := Eq.trans rfl rfl
@[simp] theorem z_imm7 : PV.imm (.tup xs) = true := Eq.trans rfl rfl
@[simp] theorem z_imm8 : PV.imm (.ctup xs) = true := Eq.trans rfl rfl
@[simp] theorem z_imm9 : PV.imm (.clst xs) = true := Eq.trans rfl rfl
@[simp] theorem z_sho : shOk (n, x) = (n == 0 || x.imm) := Eq.trans rfl rfl
@[simp] theorem z_op {op : PO} : eOp op af ρ = ((af ρ).bind fun a => match op a.vs with | some o => .ok ⟨a.pu, o.ow, o.lv, o.x, a.ρ⟩ | none => .bad) := Eq.trans rfl rfl
@[simp] theorem z_sc : sc x = some ⟨true, 0, x⟩ := Eq.trans rfl rfl
@[simp] theorem z_aconsT {ty : PV → Bool} : aConsT ty f af ρ = ((f ρ).bind fun r => if ty r.x = true then (af r.ρ).bind fun a => if stays r a.pu = true then .ok ⟨r.pu && a.pu, (r.lv, r.x) :: a.vs, a.ρ⟩ else .bad else .bad) := Eq.trans rfl rfl
@[simp] theorem z_isStr : PV.isStr (.str z) = true := Eq.trans rfl rfl
@[simp] theorem z_isInt : PV.isInt (.int k) = true := Eq.trans rfl rfl
@[simp] theorem z_of : tOf f ρ = ((f ρ).bind fun r => match r.x.tru with | some b => .ok ⟨r.pu, b, r.ρ⟩ | none => .bad) := Eq.trans rfl rfl
@[simp] theorem z_not : tNotF t ρ = ((t ρ).bind fun r => .ok ⟨r.pu, !r.b, r.ρ⟩) := Eq.trans rfl rfl
@[simp] theorem z_tseq : tSeqF b t u ρ = ((t ρ).bind fun r => if r.b = b then (u r.ρ).bind fun r' => .ok ⟨r.pu && r'.pu, r'.b, r'.ρ⟩ else .ok r) := Eq.trans rfl rfl
@[simp] theorem z_tr1 : PV.tru .non = some false := Eq.trans rfl rfl
@[simp] theorem z_tr2 : PV.tru (.bl b) = some b := Eq.trans rfl rfl
@[simp] theorem z_tr3 : PV.tru (.int k) = some (k != 0) := Eq.trans rfl rfl
@[simp] theorem z_tr4 : PV.tru (.tup xs) = some (!xs.isEmpty) := Eq.trans rfl rfl
@[simp] theorem z_tr5 : PV.tru (.lst xs) = some (!xs.isEmpty) := Eq.trans rfl rfl
@[simp] theorem z_eseq : eSeqF b f h ρ = ((f ρ).bind fun r => match r.x.tru with | none => .bad | some d => if d = b then (h r.ρ).bind fun r' => .ok ⟨r.pu && r'.pu, r'.ow, r'.lv, r'.x, r'.ρ⟩ else .ok r) := Eq.trans rfl rfl
@[simp] theorem z_enot : eNotF t ρ = ((t ρ).bind fun r => .ok ⟨r.pu, true, 0, .bl (!r.b), r.ρ⟩) := Eq.trans rfl rfl
@[simp] theorem z_eif : eIf t f h ρ = ((t ρ).bind fun r => ((if r.b = true then f r.ρ else h r.ρ)).bind fun r' => .ok ⟨r.pu && r'.pu, r'.ow, r'.lv, r'.x, r'.ρ⟩) := Eq.trans rfl rfl
@[simp] theorem z_ofE1 {g : Rr → SR} : ofE (.ok r) g = g r := Eq.trans rfl rfl
@[simp] theorem z_ofE2 {g : Rr → SR} : ofE (.exc c fs ρ) g = .exc c fs ρ := Eq.trans rfl rfl
@[simp] theorem z_ofE3 {g : Rr → SR} : ofE .bad g = .bad := Eq.trans rfl rfl
@[simp] theorem z_ofT1 {r : Tr} {g : Tr → SR} : ofT (.ok r) g = g r := Eq.trans rfl rfl
@[simp] theorem z_ofT2 {g : Tr → SR} : ofT (.exc c fs ρ) g = .exc c fs ρ := Eq.trans rfl rfl
@[simp] theorem z_ofT3 {g : Tr → SR} : ofT .bad g = .bad := Eq.trans rfl rfl
@[simp] theorem z_ofI1 {r : Ir} {g : Ir → SR} : ofI (.ok r) g = g r := Eq.trans rfl rfl
@[simp] theorem z_ofI2 {g : Ir → SR} : ofI (.exc c fs ρ) g = .exc c fs ρ := Eq.trans rfl rfl
@[simp] theorem z_ofI3 {g : Ir → SR} : ofI .bad g = .bad := Eq.trans rfl rfl
@[simp] theorem z_expr : sExpr f ρ = ofE (f ρ) fun r => .nx r.ρ := Eq.trans rfl rfl
@[simp] theorem z_ret : sRet f ρ = ofE (f ρ) fun r => (match matL r with | some n => .rt n r.x r.ρ | none => .bad) := Eq.trans rfl rfl
@[simp] theorem z_set : sSet i f ρ = ofE (f ρ) fun r => (match matL r with | some n => .nx (r.ρ.set i (some (n, r.x))) | none => .bad) := Eq.trans rfl rfl
@[simp] theorem z_mat : matL r = if r.ow = true then some r.lv else if r.lv = 0 ∨ r.x.imm = true then some 0 else none := Eq.trans rfl rfl
@[simp] theorem z_if : sIf t F G ρ = ofT (t ρ) fun r => if r.b = true then F r.ρ else G r.ρ := Eq.trans rfl rfl
@[simp] theorem z_for : sFor s bf F ρ = ofI (s ρ) fun r => forL bf F r.xs r.ρ := Eq.trans rfl rfl
@[simp] theorem z_tgt : sTgt bf f ρ = ofE (f ρ) fun r => if r.lv = 0 ∨ r.x.imm = true then (match bf r.x r.ρ with | some ρ' => .nx ρ' | none => .bad) else .bad := Eq.trans rfl rfl
@[simp] theorem z_bname : bName i x ρ = some (ρ.set i (some (0, x))) := Eq.trans rfl rfl
@[simp] theorem z_btup {is : List Nat} : bTup is (.tup xs) ρ = bNames is xs ρ := Eq.trans rfl rfl
@[simp] theorem z_btup2 {is : List Nat} : bTup is (.ctup xs) ρ = bNames is xs ρ := Eq.trans rfl rfl
@[simp] theorem z_bns0 : bNames [] [] ρ = some ρ := Eq.trans rfl rfl
@[simp] theorem z_bns1 {is : List Nat} : bNames (i :: is) (x :: xs) ρ = bNames is xs (ρ.set i (some (0, x))) := Eq.trans rfl rfl
@[simp] theorem z_append : eAppend i f ρ = (match ρ[i]? with
  | some (some (_ + 1, .lst _)) => (f ρ).bind fun r => match r.ρ[i]? with
    | some (some (n + 1, .lst xs)) => if fitL n r = true ∧ xs.length < sizeLine then .ok ⟨false, true, 0, .non, r.ρ.set i (some (n + 1, .lst (xs ++ [r.x])))⟩ else .bad
    | _ => .bad
  | _ => .bad) := rfl
@[simp] theorem z_fit : fitL n r = ((r.lv == n && (r.ow || n == 0)) || r.x.imm) := Eq.trans rfl rfl
@[simp] theorem z_raise {gs : List Str} : sRaise c gs af ρ = (match af ρ with
  | .ok a => if a.vs.length = gs.length ∧ a.vs.all shOk = true then .exc c (gs.zip (a.vs.map (·.2))) a.ρ else .bad
  | .exc c fs ρ' => .exc c fs ρ'
  | .bad => .bad) := rfl
/-! operators -/
@[simp] theorem p_add : pAdd [(m, .int k), (n, .int l)] = some ⟨true, 0, .int (k + l)⟩ := Eq.trans rfl rfl
@[simp] theorem p_adds : pAdd [(m, .str z), (n, .str w)] = if z.length + w.length ≤ sizeLine then some ⟨true, 0, .str (z ++ w)⟩ else none := Eq.trans rfl rfl
@[simp] theorem p_addl : pAdd [(m, .lst xs), (n, .lst ys)] = if m ≤ 1 ∧ n ≤ 1 ∧ xs.length + ys.length ≤ sizeLine then some ⟨true, 1, .lst (xs ++ ys)⟩ else none := Eq.trans rfl rfl
@[simp] theorem p_addt : pAdd [(m, .tup xs), (n, .tup ys)] = if xs.length + ys.length ≤ sizeLine then some ⟨true, 0, .tup (xs ++ ys)⟩ else none := Eq.trans rfl rfl
@[simp] theorem p_sub : pSub [(m, .int k), (n, .int l)] = some ⟨true, 0, .int (k - l)⟩ := Eq.trans rfl rfl
@[simp] theorem p_mod : pMod [(m, .int k), (n, .int l)] = if 0 < l then some ⟨true, 0, .int (k % l)⟩ else none := by
  unfold pMod pI2
  simp
@[simp] theorem p_fdiv : pFdiv [(m, .int k), (n, .int l)] = if 0 < l ∧ l.natAbs.log2 < 9000 then some ⟨true, 0, .int (k / l)⟩ else none := by
  unfold pFdiv pI2
  simp
@[simp] theorem p_mul : pMul [(m, .int k), (n, .int l)] = if k.natAbs.log2 + l.natAbs.log2 < 1000000 then some ⟨true, 0, .int (k * l)⟩ else none := Eq.trans rfl rfl
@[simp] theorem p_muls : pMul [(m, .str z), (n, .int l)] = if 0 ≤ l ∧ l ≤ 1000000 ∧ z.length * l.toNat ≤ 1000000 then some ⟨true, 0, .str (Txt.mul z l)⟩ else none := Eq.trans rfl rfl
@[simp] theorem p_pow : pPow [(m, .int k), (n, .int l)] = if 0 ≤ l ∧ l ≤ 1000000 ∧ k.natAbs < 2 ^ 64 then some ⟨true, 0, .int (k ^ l.toNat)⟩ else none := by
  unfold pPow pI2
  simp [and_assoc]
@[simp] theorem p_neg : pNeg [(m, .int k)] = some ⟨true, 0, .int (-k)⟩ := Eq.trans rfl rfl
@[simp] theorem p_eq : pEq [(m, .int k), (n, .int l)] = some ⟨true, 0, .bl (decide (k = l))⟩ := by
  show (if scal (.int k) (.int l) = true then sc (.bl (false ^^ decide (V.int k = V.int l))) else none) = _
  simp [scal]
@[simp] theorem p_ne : pNe [(m, .int k), (n, .int l)] = some ⟨true, 0, .bl (!decide (k = l))⟩ := by
  show (if scal (.int k) (.int l) = true then sc (.bl (true ^^ decide (V.int k = V.int l))) else none) = _
  simp [scal]
@[simp] theorem p_eqs : pEq [(m, .str z), (n, .str w)] = some ⟨true, 0, .bl (decide (z = w))⟩ := by
  show (if scal (.str z) (.str w) = true then sc (.bl (false ^^ decide (V.str z = V.str w))) else none) = _
  simp [scal]
@[simp] theorem p_nes : pNe [(m, .str z), (n, .str w)] = some ⟨true, 0, .bl (!decide (z = w))⟩ := by
  show (if scal (.str z) (.str w) = true then sc (.bl (true ^^ decide (V.str z = V.str w))) else none) = _
  simp [scal]
@[simp] theorem p_eqb {d : Bool} : pEq [(m, .bl b), (n, .bl d)] = some ⟨true, 0, .bl (decide (b = d))⟩ := by
  show (if scal (.bl b) (.bl d) = true then sc (.bl (false ^^ decide (V.bl b = V.bl d))) else none) = _
  simp [scal]
@[simp] theorem p_lt : pLt [(m, .int k), (n, .int l)] = some ⟨true, 0, .bl (decide (k < l))⟩ := Eq.trans rfl rfl
@[simp] theorem p_le : pLe [(m, .int k), (n, .int l)] = some ⟨true, 0, .bl (decide (k ≤ l))⟩ := Eq.trans rfl rfl
@[simp] theorem p_gt : pGt [(m, .int k), (n, .int l)] = some ⟨true, 0, .bl (decide (l < k))⟩ := Eq.trans rfl rfl
@[simp] theorem p_ge : pGe [(m, .int k), (n, .int l)] = some ⟨true, 0, .bl (decide (l ≤ k))⟩ := Eq.trans rfl rfl
@[simp] theorem p_isN : pIsN b [(m, x), (n, .non)] = some ⟨true, 0, .bl (b ^^ x.isNon)⟩ := Eq.trans rfl rfl
@[simp] theorem p_isNon1 : PV.isNon .non = true := Eq.trans rfl rfl
@[simp] theorem p_isNon2 : PV.isNon (.int k) = false := Eq.trans rfl rfl
@[simp] theorem p_isNon3 : PV.isNon (.str z) = false := Eq.trans rfl rfl
@[simp] theorem p_isNon4 : PV.isNon (.tup xs) = false := Eq.trans rfl rfl
@[simp] theorem p_isNon5 : PV.isNon (.lst xs) = false := Eq.trans rfl rfl
@[simp] theorem p_isNon6 : PV.isNon (.bl b) = false := Eq.trans rfl rfl
@[simp] theorem p_abs : pAbs [(m, .int k)] = some ⟨true, 0, .int (iabs k)⟩ := Eq.trans rfl rfl
@[simp] theorem p_int : pInt [(m, .int k)] = some ⟨true, 0, .int k⟩ := Eq.trans rfl rfl
@[simp] theorem p_lens : pLen [(m, .str z)] = if z.length ≤ sizeLine then some ⟨true, 0, .int z.length⟩ else none := Eq.trans rfl rfl
@[simp] theorem p_lenl : pLen [(m, .lst xs)] = some ⟨true, 0, .int xs.length⟩ := Eq.trans rfl rfl
@[simp] theorem p_lenc : pLen [(m, .clst xs)] = some ⟨true, 0, .int xs.length⟩ := Eq.trans rfl rfl
@[simp] theorem p_lent : pLen [(m, .tup xs)] = some ⟨true, 0, .int xs.length⟩ := Eq.trans rfl rfl
@[simp] theorem p_lenk : pLen [(m, .ctup xs)] = some ⟨true, 0, .int xs.length⟩ := Eq.trans rfl rfl
@[simp] theorem p_tuple : pTuple [(m, .lst xs)] = if m ≤ 1 then some ⟨true, 0, .tup xs⟩ else none := Eq.trans rfl rfl
@[simp] theorem p_tuple2 : pTuple [(m, .tup xs)] = some ⟨true, 0, .tup xs⟩ := Eq.trans rfl rfl
@[simp] theorem p_ixs : pIx [(m, .str z), (n, .int k)] = if z.length ≤ sizeLine then (atI z.cps.toList k).bind fun c => some ⟨true, 0, .str ⟨#[c]⟩⟩ else none := Eq.trans rfl rfl
@[simp] theorem p_ixl : pIx [(m, .lst xs), (n, .int k)] = (atI xs k).bind fun y => some ⟨(m - 1) == 0 || y.imm, if y.imm = true then 0 else (m - 1), y⟩ := Eq.trans rfl rfl
@[simp] theorem p_ixt : pIx [(m, .tup xs), (n, .int k)] = (atI xs k).bind fun y => some ⟨true, if y.imm = true then 0 else 0, y⟩ := Eq.trans rfl rfl
@[simp] theorem p_ixk : pIx [(m, .ctup xs), (n, .int k)] = (atI xs k).bind fun y => some ⟨true, if y.imm = true then 0 else 0, y⟩ := Eq.trans rfl rfl
@[simp] theorem p_ixc : pIx [(m, .clst xs), (n, .int k)] = (atI xs k).bind fun y => some ⟨true, if y.imm = true then 0 else 0, y⟩ := Eq.trans rfl rfl
@[simp] theorem p_slc1 : pSlc true false [(m, .lst xs), (n, .int k)] = if m ≤ 1 then some ⟨true, 1, .lst (cutL xs (some k) none)⟩ else none := Eq.trans rfl rfl
@[simp] theorem p_slc2 : pSlc false true [(m, .clst xs), (n, .int k)] = some ⟨true, 1, .lst (cutL xs none (some k))⟩ := Eq.trans rfl rfl
@[simp] theorem p_slc3 : pSlc false true [(m, .lst xs), (n, .int k)] = if m ≤ 1 then some ⟨true, 1, .lst (cutL xs none (some k))⟩ else none := Eq.trans rfl rfl
@[simp] theorem p_slc4 : pSlc false false [(m, .lst xs)] = if m ≤ 1 then some ⟨true, 1, .lst (cutL xs none none)⟩ else none := Eq.trans rfl rfl
@[simp] theorem p_tup {ps : List (Nat × PV)} : pTup ps = if ps.all shOk = true ∧ ps.length ≤ sizeLine then some ⟨true, 0, .tup (ps.map (·.2))⟩ else none := Eq.trans rfl rfl
@[simp] theorem p_lst {ps : List (Nat × PV)} : pLst ps = if ps.all shOk = true ∧ ps.length ≤ sizeLine then some ⟨true, 1, .lst (ps.map (·.2))⟩ else none := Eq.trans rfl rfl
@[simp] theorem p_split : pSplit [(m, .str z), (n, .str w)] = if (w.length == 0) = false ∧ z.length + 2 ≤ sizeLine then newStrs (Txt.split z w) else none := Eq.trans rfl rfl
@[simp] theorem p_strs {l : List Str} : newStrs l = some ⟨true, 1, .lst (l.map .str)⟩ := Eq.trans rfl rfl
@[simp] theorem p_part : pPart [(m, .str z), (n, .str w)] = if (w.length == 0) = false ∧ z.length ≤ sizeLine then some ⟨true, 0, .tup [.str (Txt.partition z w).1, .str (Txt.partition z w).2.1, .str (Txt.partition z w).2.2]⟩ else none := Eq.trans rfl rfl
@[simp] theorem p_repl {u v : Str} : pRepl u v [(m, .str z)] = if z.length + (z.length + 1) * v.length ≤ 16777216 then some ⟨true, 0, .str (Txt.replace z u v)⟩ else none := Eq.trans rfl rfl
theorem p_ins : inOp b [(m, .str z), (n, .str w)] = some ⟨true, 0, .bl (b ^^ !(Builtin.Str.occurrences w z 0 w.length 1).isEmpty)⟩ := Eq.trans rfl rfl
/-! sources -/
@[simp] theorem z_any : iAny f ρ = ((f ρ).bind fun r => match r.x with
  | .str s => .ok ⟨r.pu, strIt s, r.ρ⟩
  | .tup xs => .ok ⟨r.pu, xs, r.ρ⟩
  | .ctup xs => .ok ⟨r.pu, xs, r.ρ⟩
  | .clst xs => .ok ⟨r.pu, xs, r.ρ⟩
  | .lst xs => if r.lv = 0 ∨ (r.ow = true ∧ r.lv = 1) then .ok ⟨r.pu, xs, r.ρ⟩ else .bad
  | _ => .bad) := rfl
@[simp] theorem z_range {g : List (Nat × PV) → Option (List PV)} : iRange g af ρ = ((af ρ).bind fun a => match g a.vs with
  | some xs => .ok ⟨a.pu, xs, a.ρ⟩
  | none => .bad) := rfl
@[simp] theorem z_rng1 : rngA1 [(m, .int k)] = if r62 k = true then some (rngL 0 k.toNat 1) else none := by
  rfl
@[simp] theorem z_rng2 : rngA2 [(m, .int k), (n, .int l)] = if r62 k = true ∧ r62 l = true then some (rngL k (l - k).toNat 1) else none := by
  rfl
@[simp] theorem z_isi {T : String} : eIsi T f ρ = ((f ρ).bind fun r => match (r.x.tyName).bind fun t => kitB t T with
  | some b => .ok ⟨r.pu, true, 0, .bl b, r.ρ⟩
  | none => .bad) := rfl
@[simp] theorem z_size : sizeLine = 16777216 := sizeLine_eq
/-! calls -/
@[simp] theorem z_call {ms : List Nat} {sl : List (Option Nat)} {g : FF} : eCall ms sl g af ρ = ((af ρ).bind fun a => match callIn ms sl a.vs a.ρ with
  | none => .bad
  | some (pvs, ρ') => match g pvs with
    | .ok lv x outs => if outs.length = ms.length then .ok ⟨a.pu && ms.all (· == 0), true, lv, x, callOut ms sl outs ρ'⟩ else .bad
    | .exc c fs outs => if outs.length = ms.length then .exc c fs (callOut ms sl outs ρ') else .bad
    | .bad => .bad) := rfl
@[simp] theorem z_ci0 : callIn [] [] [] ρ = some ([], ρ) := Eq.trans rfl rfl
@[simp] theorem z_ci1 {ms : List Nat} {sl : List (Option Nat)} {p : Nat × PV} {ps : List (Nat × PV)} : callIn (0 :: ms) (none :: sl) (p :: ps) ρ = if shOk p = true then (callIn ms sl ps ρ).map fun z => (p.2 :: z.1, z.2) else none := Eq.trans rfl rfl
@[simp] theorem z_co0 {ls : List PV} {sl : List (Option Nat)} : callOut [] sl ls ρ = ρ := by cases sl <;> rfl
@[simp] theorem z_co1 {ms : List Nat} {sl : List (Option Nat)} {y : PV} {ls : List PV} : callOut (n :: ms) (none :: sl) (y :: ls) ρ = callOut ms sl ls ρ := by cases n <;> rfl
@[simp] theorem z_co2 {ms : List Nat} {sl : List (Option Nat)} {y : PV} {ls : List PV} : callOut (n :: ms) (some i :: sl) (y :: ls) ρ = callOut ms sl ls (ρ.set i (some (n, y))) := by cases n <;> rfl
@[simp] theorem z_o0 : outsOf [] [] ρ = some [] := by cases ρ <;> rfl
@[simp] theorem z_o1 {ms : List Nat} {ls : List PV} {o : Option (Nat × PV)} : outsOf (0 :: ms) (x :: ls) (o :: ρ) = (outsOf ms ls ρ).map (x :: ·) := Eq.trans rfl rfl
@[simp] theorem z_o2 {ms : List Nat} {ls : List PV} : outsOf ((m + 1) :: ms) (x :: ls) (some (n, y) :: ρ) = if n = m + 1 then (outsOf ms ls ρ).map (y :: ·) else none := Eq.trans rfl rfl
end
/-! ## loops and comprehensions -/
theorem forL_inv {bf : BF} {F : SF} (P : Nat → Ev → Prop) : ∀ {xs : List PV} {ρ : Ev} (k : Nat), P k ρ → (∀ i x ρ, xs[i]? = some x → P (k + i) ρ → ∃ ρ1 ρ2, bf x ρ = some ρ1 ∧ (F ρ1 = .nx ρ2 ∨ F ρ1 = .ct ρ2) ∧ P (k + i + 1) ρ2) → ∃ ρ', forL bf F xs ρ = .nx ρ' ∧ P (k + xs.length) ρ'
  | [], ρ, k, h, _ => ⟨ρ, rfl, h⟩
  | x :: xs, ρ, k, h, st => by
    obtain ⟨ρ1, ρ2, e1, e2, h2⟩ := st 0 x ρ rfl h
    obtain ⟨ρ', e3, h3⟩ := forL_inv P (k + 1) h2 (xs := xs) fun i y ρ hy hp => by
      have := st (i + 1) y ρ (by simpa using hy) (by rw [show k + (i + 1) = k + 1 + i by omega]; exact hp)
      rw [show k + (i + 1) + 1 = k + 1 + i + 1 by omega] at this
      exact this
    refine ⟨ρ', ?_, by rw [List.length_cons, show k + (xs.length + 1) = k + 1 + xs.length by omega]; exact h3⟩
    unfold forL
    rw [e1]
    rcases e2 with e2 | e2 <;> (simp only [e2]; exact e3)
/-- a comprehension whose items are read from the wiped slots -/
theorem lcLoop_sel {own : List Nat} {bf : BF} {t : TFn} {f : EF} {ρ : Ev} (sel : PV → Option PV) : ∀ {xs : List PV}, (∀ x ∈ xs, ∃ ρ1 ρ2 b, bf x ρ = some ρ1 ∧ t ρ1 = .ok ⟨true, b, ρ2⟩ ∧ match sel x with
      | some y => b = true ∧ ∃ ow lv ρ3, f ρ2 = .ok ⟨true, ow, lv, y, ρ3⟩ ∧ shOk (lv, y) = true ∧ wipeE ρ3 own = ρ
      | none => b = false ∧ wipeE ρ2 own = ρ) → lcLoop own bf t f xs ρ = some (xs.filterMap sel, ρ, true)
  | [], _ => rfl
  | x :: xs, h => by
    obtain ⟨ρ1, ρ2, b, e1, e2, e3⟩ := h x List.mem_cons_self
    have ih := lcLoop_sel (own := own) (bf := bf) (t := t) (f := f) (ρ := ρ) sel (xs := xs) fun y hy => h y (List.mem_cons_of_mem _ hy)
    unfold lcLoop
    rw [e1]
    simp only [e2]
    cases es : sel x with
    | some y =>
      rw [es] at e3
      obtain ⟨hb, ow, lv, ρ3, e4, e5, e6⟩ := e3
      subst hb
      rw [if_pos rfl]
      simp only [e4, e5, e6, if_pos, ih, List.filterMap_cons, es, Option.map_some, Bool.and_self]
    | none =>
      rw [es] at e3
      obtain ⟨hb, e6⟩ := e3
      subst hb
      rw [if_neg (by decide)]
      simp only [e6, ih, List.filterMap_cons, es, Option.map_some, Bool.and_self]
end Pv

set_option maxRecDepth 100000
set_option maxHeartbeats 4000000
namespace Pv
open PySem PySem.Spec PyProof.Rows L2
theorem forL_pre {bf : BF} {F : SF} (P : Nat → Ev → Prop) : ∀ {xs : List PV} {ρ : Ev} (k : Nat), P k ρ → (∀ i x ρ, xs[i]? = some x → P (k + i) ρ → ∃ ρ1 ρ2, bf x ρ = some ρ1 ∧ (F ρ1 = .nx ρ2 ∨ F ρ1 = .ct ρ2) ∧ P (k + i + 1) ρ2) → ∃ ρ', P (k + xs.length) ρ' ∧ ∀ zs, forL bf F (xs ++ zs) ρ = forL bf F zs ρ'
  | [], ρ, k, h, _ => ⟨ρ, h, fun _ => rfl⟩
  | x :: xs, ρ, k, h, st => by
    obtain ⟨ρ1, ρ2, e1, e2, h2⟩ := st 0 x ρ rfl h
    obtain ⟨ρ', h3, e3⟩ := forL_pre P (k + 1) h2 (xs := xs) fun i y ρ hy hp => by
      have := st (i + 1) y ρ (by simpa using hy) (by rw [show k + (i + 1) = k + 1 + i by omega]; exact hp)
      rw [show k + (i + 1) + 1 = k + 1 + i + 1 by omega] at this
      exact this
    refine ⟨ρ', by rw [List.length_cons, show k + (xs.length + 1) = k + 1 + xs.length by omega]; exact h3, fun zs => ?_⟩
    rw [List.cons_append, ← e3 zs]
    show (match bf x ρ with | none => SR.bad | some ρ1 => match F ρ1 with | .nx ρ2 => forL bf F (xs ++ zs) ρ2 | .ct ρ2 => forL bf F (xs ++ zs) ρ2 | .bk ρ2 => .nx ρ2 | r => r) = _
    rw [e1]
    rcases e2 with e2 | e2 <;> simp only [e2]
theorem rngL_get {lo c : Int} {n i : Nat} {x : PV} (h : (rngL lo n c)[i]? = some x) : i < n ∧ x = .int (lo + (i : Int) * c) := by
  unfold rngL at h
  rw [List.getElem?_map] at h
  by_cases hi : i < n
  · rw [List.getElem?_range hi] at h
    simp only [Option.map_some, Option.some.injEq] at h
    exact ⟨hi, h.symm⟩
  · rw [List.getElem?_eq_none (by simpa using hi)] at h
    cases h
@[simp] theorem rngL_len {lo c : Int} {n : Nat} : (rngL lo n c).length = n := by simp [rngL]
theorem atI_nat {α : Type} {xs : List α} {i : Nat} (h : i < xs.length) : atI xs (i : Int) = xs[i]? := by
  unfold atI ixN
  rw [if_pos (by omega), if_pos (by omega)]
  rfl
/-! ## the laws' own stream of numbers -/
noncomputable def L1_stream : SF := (sIf (tSeqF true (tOf (eOp pGt (aCons (eVar 6) (aCons (eC (.int (0 : Int))) aNil)))) (tOf (eOp pLt (aCons (eOp pLen (aCons (eVar 2) aNil)) (aCons (eVar 1) aNil))))) (sSeq (sExpr (eAppend 2 (eOp pMod (aCons (eOp pInt (aCons (eVar 6) aNil)) (aCons (eC (.int (1000 : Int))) aNil))))) (sSet 6 (eOp pFdiv (aCons (eVar 6) (aCons (eC (.int (1000 : Int))) aNil))))) sNil)
noncomputable def L2_stream : SF := (sSeq (sSet 6 (eOp pAbs (aCons (eOp pInt (aCons (eVar 4) aNil)) aNil))) (sSeq (sIf (tOf (eOp pGe (aCons (eVar 6) (aCons (eOp pPow (aCons (eC (.int (10 : Int))) (aCons (eC (.int (18 : Int))) aNil))) aNil)))) (sFor (iRange rngA1 (aCons (eC (.int (60 : Int))) aNil)) (bName 5) L1_stream) (sIf (tOf (eOp pLt (aCons (eOp pLen (aCons (eVar 2) aNil)) (aCons (eVar 1) aNil)))) (sExpr (eAppend 2 (eOp pMod (aCons (eOp pInt (aCons (eVar 6) aNil)) (aCons (eC (.int (1000 : Int))) aNil))))) sNil)) (sSet 3 (eOp pMod (aCons (eOp pInt (aCons (eOp pAdd (aCons (eOp pAdd (aCons (eOp pMul (aCons (eVar 3) (aCons (eC (.int (31 : Int))) aNil))) (aCons (eOp pMod (aCons (eOp pInt (aCons (eVar 4) aNil)) (aCons (eC (.int (1000003 : Int))) aNil))) aNil))) (aCons (eC (.int (5 : Int))) aNil))) aNil)) (aCons (eC (.int (1000003 : Int))) aNil))))))
noncomputable def L3_stream : SF := (sIf (tOf (eOp pLt (aCons (eOp pLen (aCons (eVar 2) aNil)) (aCons (eVar 1) aNil)))) (sSeq (sSet 3 (eOp pMod (aCons (eOp pInt (aCons (eOp pAdd (aCons (eOp pMul (aCons (eVar 3) (aCons (eC (.int (48271 : Int))) aNil))) (aCons (eC (.int (11 : Int))) aNil))) aNil)) (aCons (eC (.int (1000003 : Int))) aNil)))) (sExpr (eAppend 2 (eOp pMod (aCons (eOp pInt (aCons (eOp pFdiv (aCons (eVar 3) (aCons (eC (.int (7 : Int))) aNil))) aNil)) (aCons (eC (.int (1000 : Int))) aNil)))))) sNil)
noncomputable def B_stream : SF := (sSeq (sSet 2 (eOp pLst aNil)) (sSeq (sSet 3 (eC (.int (7 : Int)))) (sSeq (sFor (iAny (eOp (pSlc false true) (aCons (eVar 0) (aConsT PV.isInt (eC (.int (63 : Int))) aNil)))) (bName 4) L2_stream) (sSeq (sFor (iRange rngA1 (aCons (eVar 1) aNil)) (bName 5) L3_stream) (sRet (eMove 2))))))
def Dig (xs : List Int) : Prop := ∀ x ∈ xs, 0 ≤ x ∧ x < 1000
theorem Dig.snoc {xs : List Int} {y : Int} (h : Dig xs) (h0 : 0 ≤ y) (h1 : y < 1000) : Dig (xs ++ [y]) := fun x hx => by
  rcases List.mem_append.mp hx with z | z
  · exact h x z
  · rw [List.mem_singleton.mp z]; exact ⟨h0, h1⟩
theorem pvInts_snoc {xs : List Int} {y : Int} : pvInts xs ++ [.int y] = pvInts (xs ++ [y]) := by simp [pvInts]
@[simp] theorem pvInts_len {xs : List Int} : (pvInts xs).length = xs.length := by simp [pvInts]
theorem pvInts_get {xs : List Int} {i : Nat} {x : PV} (h : (pvInts xs)[i]? = some x) : ∃ z, xs[i]? = some z ∧ x = .int z := by
  unfold pvInts at h
  rw [List.getElem?_map] at h
  obtain ⟨z, e1, e2⟩ := Option.map_eq_some_iff.mp h
  exact ⟨z, e1, e2.symm⟩
/-- the slots of the stream's def -/
def SOk (a : PV) (many : Int) (p : List Int → Prop) (ρ : Ev) : Prop := ∃ xs s c k l, ρ = [some (0, a), some (0, .int many), some (1, .lst (pvInts xs)), some (0, .int s), c, k, l] ∧ xs.length ≤ many.toNat ∧ Dig xs ∧ 0 ≤ s ∧ s < 1000003 ∧ p xs
theorem log_small {s : Int} (h0 : 0 ≤ s) (h1 : s < 1000003) : s.natAbs.log2 ≤ 20 := by
  have : s.natAbs < 2 ^ 20 := by omega
  by_cases h : s.natAbs = 0
  · rw [h]; decide
  · have := (Nat.log2_lt h).mpr this
    omega
theorem L1_ok {a : PV} {many s : Int} {xs : List Int} {cell x : PV} {left : Int} (h0 : 0 ≤ many) (h1 : many ≤ 1000) (hx : xs.length ≤ many.toNat) (d : Dig xs) (hl : 0 ≤ left) : ∃ ys left', L1_stream [some (0, a), some (0, .int many), some (1, .lst (pvInts xs)), some (0, .int s), some (0, cell), some (0, x), some (0, .int left)] =
    .nx [some (0, a), some (0, .int many), some (1, .lst (pvInts ys)), some (0, .int s), some (0, cell), some (0, x), some (0, .int left')] ∧ ys.length ≤ many.toNat ∧ Dig ys ∧ 0 ≤ left' := by
  unfold L1_stream
  by_cases c1 : 0 < left
  · by_cases c2 : (xs.length : Int) < many
    · refine ⟨xs ++ [left % 1000], left / 1000, ?_, ?_, d.snoc (by omega) (by omega), by omega⟩
      · simp [c1, c2, show xs.length < 16777216 by omega, pvInts_snoc, show Nat.log2 1000 < 9000 by decide]
      · rw [List.length_append]; simp; omega
    · exact ⟨xs, left, by simp [c1, c2], hx, d, hl⟩
  · exact ⟨xs, left, by simp [c1], hx, d, hl⟩
/-- the slots of the stream's def behind each turn -/
def Sg (a : PV) (many : Int) (p : List Int → Prop) (ρ : Ev) : Prop := ∃ xs s c k l, ρ = [some (0, a), some (0, .int many), some (1, .lst (pvInts xs)), some (0, .int s), c, k, l] ∧ xs.length ≤ many.toNat ∧ Dig xs ∧ (0 ≤ s ∧ s < 1000003) ∧ p xs
theorem log31 : Nat.log2 31 = 4 := by decide
theorem log48271 : Nat.log2 48271 = 15 := by decide
theorem log1000 : Nat.log2 1000 = 9 := by decide
theorem log7 : Nat.log2 7 = 2 := by decide
theorem L2_ok {a : PV} {many z : Int} {ρ : Ev} (h0 : 0 ≤ many) (h1 : many ≤ 1000) (h : Sg a many (fun _ => True) ρ) : ∃ ρ1 ρ2, bName 4 (.int z) ρ = some ρ1 ∧ (L2_stream ρ1 = .nx ρ2 ∨ L2_stream ρ1 = .ct ρ2) ∧ Sg a many (fun _ => True) ρ2 := by
  obtain ⟨xs, s, c, k, l, e, hx, d, ⟨s0, s1⟩, _⟩ := h
  subst e
  have lg := log_small s0 s1
  have sm : ∀ y : Int, 0 ≤ (s * 31 + y + 5) % 1000003 ∧ (s * 31 + y + 5) % 1000003 < 1000003 := fun y => ⟨by omega, by omega⟩
  by_cases c : (1000000000000000000 : Int) ≤ iabs z
  · obtain ⟨ρ', e, ys, k', left, e2, g1, g2, g3⟩ := forL_inv (bf := bName 5) (F := L1_stream) (fun _ ρ => ∃ ys k left, ρ = [some (0, a), some (0, .int many), some (1, .lst (pvInts ys)), some (0, .int s), some (0, .int z), k, some (0, .int left)] ∧ ys.length ≤ many.toNat ∧ Dig ys ∧ 0 ≤ left)
      (xs := rngL 0 60 1) (ρ := [some (0, a), some (0, .int many), some (1, .lst (pvInts xs)), some (0, .int s), some (0, .int z), k, some (0, .int (iabs z))]) 0 ⟨xs, k, _, rfl, hx, d, iabs_nonneg z⟩ (fun i x ρ _ ⟨ys, k, left, e, h2, h3, h4⟩ => by
        subst e
        obtain ⟨ys', left', e, g1, g2, g3⟩ := L1_ok (a := a) (s := s) (cell := .int z) (x := x) h0 h1 h2 h3 h4
        exact ⟨_, _, rfl, .inl e, ys', _, left', rfl, g1, g2, g3⟩)
    subst e2
    exact ⟨_, _, rfl, .inl (by unfold L2_stream; simp [c, e, log31, r62_ok (k := 60) (by omega) (by omega), show s.natAbs.log2 + 4 < 1000000 by omega]; repeat (first | exact rfl | refine ⟨rfl, ?_⟩)), ys, _, _, _, _, rfl, g1, g2, sm _, trivial⟩
  · by_cases c2 : (xs.length : Int) < many
    · exact ⟨_, _, rfl, .inl (by unfold L2_stream; simp [c, c2, log31, show s.natAbs.log2 + 4 < 1000000 by omega, show xs.length < 16777216 by omega, pvInts_snoc]; repeat (first | exact rfl | refine ⟨rfl, ?_⟩)), xs ++ [iabs z % 1000], _, _, _, _, rfl, by rw [List.length_append]; simp; omega, d.snoc (by omega) (by omega), sm _, trivial⟩
    · exact ⟨_, _, rfl, .inl (by unfold L2_stream; simp [c, c2, log31, show s.natAbs.log2 + 4 < 1000000 by omega]; repeat (first | exact rfl | refine ⟨rfl, ?_⟩)), xs, _, _, _, _, rfl, hx, d, sm _, trivial⟩
theorem L3_ok {a x : PV} {many : Int} {ρ : Ev} {i : Nat} (h0 : 0 ≤ many) (h1 : many ≤ 1000) (h : Sg a many (fun xs => min i many.toNat ≤ xs.length) ρ) : ∃ ρ1 ρ2, bName 5 x ρ = some ρ1 ∧ (L3_stream ρ1 = .nx ρ2 ∨ L3_stream ρ1 = .ct ρ2) ∧ Sg a many (fun xs => min (i + 1) many.toNat ≤ xs.length) ρ2 := by
  obtain ⟨xs, s, c, k, l, e, hx, d, ⟨s0, s1⟩, hp⟩ := h
  subst e
  have lg := log_small s0 s1
  by_cases c2 : (xs.length : Int) < many
  · exact ⟨_, _, rfl, .inl (by unfold L3_stream; simp [c2, log48271, log7, show s.natAbs.log2 + 15 < 1000000 by omega, show xs.length < 16777216 by omega, pvInts_snoc]; repeat (first | exact rfl | refine ⟨rfl, ?_⟩)), xs ++ [(s * 48271 + 11) % 1000003 / 7 % 1000], _, _, _, _, rfl, by rw [List.length_append]; simp; omega, d.snoc (by omega) (by omega), ⟨by omega, by omega⟩, by show min (i + 1) many.toNat ≤ (xs ++ [_]).length; rw [List.length_append]; simp; omega⟩
  · exact ⟨_, _, rfl, .inl (by unfold L3_stream; simp [c2]; repeat (first | exact rfl | refine ⟨rfl, ?_⟩)), xs, _, _, _, _, rfl, hx, d, ⟨s0, s1⟩, by show min (i + 1) many.toNat ≤ xs.length; omega⟩
theorem stream_ok (ns : List Int) {many : Int} (h0 : 0 ≤ many) (h1 : many ≤ 1000) : ∃ xs : List Int, xs.length = many.toNat ∧ Dig xs ∧ fnF [0, 0] 7 B_stream [.clst (pvInts ns), .int many] = .ok 1 (.lst (pvInts xs)) [.clst (pvInts ns), .int many] := by
  obtain ⟨ρ1, e1, g1⟩ := forL_inv (bf := bName 4) (F := L2_stream) (fun _ ρ => Sg (.clst (pvInts ns)) many (fun _ => True) ρ) (xs := cutL (pvInts ns) none (some 63)) (ρ := [some (0, .clst (pvInts ns)), some (0, .int many), some (1, .lst []), some (0, .int 7), none, none, none]) 0
    ⟨[], 7, _, _, _, rfl, by simp, fun _ h => (nomatch h), by omega, trivial⟩ (fun i x ρ hx h => by
      have hm : x ∈ pvInts ns := List.mem_of_mem_drop (List.mem_of_mem_take (List.mem_of_getElem? hx))
      obtain ⟨z, _, rfl⟩ := List.mem_map.mp hm
      exact L2_ok h0 h1 h)
  obtain ⟨ρ2, e2, xs, s, c, k, l, e, hx, d, _, hp⟩ := forL_inv (bf := bName 5) (F := L3_stream) (fun i ρ => Sg (.clst (pvInts ns)) many (fun xs => min i many.toNat ≤ xs.length) ρ) (xs := rngL 0 many.toNat 1) (ρ := ρ1) 0
    (by obtain ⟨xs, s, c, k, l, e, hx, d, hs, _⟩ := g1; exact ⟨xs, s, c, k, l, e, hx, d, hs, by omega⟩) (fun i x ρ _ h => by
      have := L3_ok (x := x) h0 h1 h
      exact this)
  refine ⟨xs, by simp at hp; omega, d, ?_⟩
  obtain ⟨xs1, s1, c1, k1, l1, e', _⟩ := g1
  subst e' e
  unfold fnF B_stream
  simp [argsE, e1, e2, r62_ok (k := many) (by omega) (by omega)]
end Pv

set_option maxRecDepth 100000
set_option maxHeartbeats 4000000
namespace Pv
open PySem PySem.Spec PyProof.Rows L2
/-! ## the laws' own comparison -/
noncomputable def L1_same (f_rec : FF) : SF := (sIf (tNotF (tOf (eCall [0, 0] [none, none] f_rec (aCons (eOp pIx (aCons (eVar 0) (aCons (eVar 2) aNil))) (aCons (eOp pIx (aCons (eVar 1) (aCons (eVar 2) aNil))) aNil))))) (sRet (eC (.bl false))) sNil)
noncomputable def L2_same (f_rec : FF) : SF := (sIf (tNotF (tOf (eCall [0, 0] [none, none] f_rec (aCons (eOp pIx (aCons (eVar 0) (aCons (eVar 2) aNil))) (aCons (eOp pIx (aCons (eVar 1) (aCons (eVar 2) aNil))) aNil))))) (sRet (eC (.bl false))) sNil)
noncomputable def B_same (f_rec : FF) : SF := (sSeq (sIf (tOf (eIsi "tuple" (eVar 1))) (sSeq (sIf (tSeqF false (tNotF (tOf (eIsi "tuple" (eVar 0)))) (tOf (eOp pNe (aCons (eOp pLen (aCons (eVar 0) aNil)) (aCons (eOp pLen (aCons (eVar 1) aNil)) aNil))))) (sRet (eC (.bl false))) sNil) (sSeq (sFor (iRange rngA1 (aCons (eOp pLen (aCons (eVar 1) aNil)) aNil)) (bName 2) (L1_same f_rec)) (sRet (eC (.bl true))))) sNil) (sSeq (sIf (tOf (eIsi "list" (eVar 1))) (sSeq (sIf (tSeqF false (tNotF (tOf (eIsi "list" (eVar 0)))) (tOf (eOp pNe (aCons (eOp pLen (aCons (eVar 0) aNil)) (aCons (eOp pLen (aCons (eVar 1) aNil)) aNil))))) (sRet (eC (.bl false))) sNil) (sSeq (sFor (iRange rngA1 (aCons (eOp pLen (aCons (eVar 1) aNil)) aNil)) (bName 2) (L2_same f_rec)) (sRet (eC (.bl true))))) sNil) (sSeq (sIf (tOf (eOp (pIsN false) (aCons (eVar 1) (aCons (eC .non) aNil)))) (sRet (eOp (pIsN false) (aCons (eVar 0) (aCons (eC .non) aNil)))) sNil) (sSeq (sIf (tOf (eIsi "bool" (eVar 1))) (sRet (eSeqF true (eIsi "bool" (eVar 0)) (eOp pEq (aCons (eVar 0) (aCons (eVar 1) aNil))))) sNil) (sSeq (sIf (tOf (eIsi "int" (eVar 1))) (sRet (eSeqF true (eIsi "int" (eVar 0)) (eSeqF true (eNotF (tOf (eIsi "bool" (eVar 0)))) (eOp pEq (aCons (eVar 0) (aCons (eVar 1) aNil)))))) sNil) (sRet (eSeqF true (eIsi "str" (eVar 0)) (eOp pEq (aCons (eVar 0) (aCons (eVar 1) aNil))))))))))
noncomputable def F_same : Nat → FF
  | 0 => fun _ => .bad
  | n + 1 => fnF [0, 0] 3 (B_same (F_same n))
/-- data of less than n levels -/
def Okd : Nat → PV → Prop
  | 0, _ => False
  | _ + 1, .non => True
  | _ + 1, .bl _ => True
  | _ + 1, .int _ => True
  | _ + 1, .str _ => True
  | n + 1, .tup xs => xs.length ≤ 16777216 ∧ ∀ x ∈ xs, Okd n x
  | n + 1, .lst xs => xs.length ≤ 16777216 ∧ ∀ x ∈ xs, Okd n x
  | _ + 1, _ => False
theorem kit_tt : kitB "tuple" "tuple" = some true := by decide +kernel
theorem kit_lt : kitB "list" "tuple" = some false := by decide +kernel
theorem kit_ll : kitB "list" "list" = some true := by decide +kernel
theorem kit_bt : kitB "bool" "tuple" = some false := by decide +kernel
theorem kit_bl : kitB "bool" "list" = some false := by decide +kernel
theorem kit_bb : kitB "bool" "bool" = some true := by decide +kernel
theorem kit_it : kitB "int" "tuple" = some false := by decide +kernel
theorem kit_il : kitB "int" "list" = some false := by decide +kernel
theorem kit_ib : kitB "int" "bool" = some false := by decide +kernel
theorem kit_ii : kitB "int" "int" = some true := by decide +kernel
theorem kit_st : kitB "str" "tuple" = some false := by decide +kernel
theorem kit_sl : kitB "str" "list" = some false := by decide +kernel
theorem kit_sb : kitB "str" "bool" = some false := by decide +kernel
theorem kit_si : kitB "str" "int" = some false := by decide +kernel
theorem kit_ss : kitB "str" "str" = some true := by decide +kernel
theorem kit_nt : kitB "NoneType" "tuple" = some false := by decide +kernel
theorem kit_nl : kitB "NoneType" "list" = some false := by decide +kernel
theorem same_tup {f : FF} {xs : List PV} (h1 : xs.length ≤ 16777216) (h2 : ∀ x ∈ xs, f [x, x] = .ok 0 (.bl true) [x, x]) : fnF [0, 0] 3 (B_same f) [.tup xs, .tup xs] = .ok 0 (.bl true) [.tup xs, .tup xs] := by
  obtain ⟨ρ, e, k, ek⟩ := forL_inv (bf := bName 2) (F := L1_same f) (fun i ρ => ∃ k, ρ = [some (0, .tup xs), some (0, .tup xs), k]) (xs := rngL 0 xs.length 1) (ρ := [some (0, .tup xs), some (0, .tup xs), none]) 0 ⟨none, rfl⟩ (fun i x ρ hx ⟨k, e⟩ => by
    subst e
    obtain ⟨hi, rfl⟩ := rngL_get hx
    have hg : xs[i]? = some xs[i] := List.getElem?_eq_getElem hi
    have ih := h2 xs[i] (List.getElem_mem hi)
    refine ⟨_, [some (0, .tup xs), some (0, .tup xs), some (0, .int (0 + (i : Int) * 1))], rfl, .inl ?_, _, rfl⟩
    unfold L1_same
    simp [atI_nat hi, hg, ih])
  subst ek
  unfold fnF B_same
  simp [argsE, PV.tyName, kit_tt, e, r62_nat (n := xs.length) (by omega)]
theorem same_lst {f : FF} {xs : List PV} (h1 : xs.length ≤ 16777216) (h2 : ∀ x ∈ xs, f [x, x] = .ok 0 (.bl true) [x, x]) : fnF [0, 0] 3 (B_same f) [.lst xs, .lst xs] = .ok 0 (.bl true) [.lst xs, .lst xs] := by
  obtain ⟨ρ, e, k, ek⟩ := forL_inv (bf := bName 2) (F := L2_same f) (fun i ρ => ∃ k, ρ = [some (0, .lst xs), some (0, .lst xs), k]) (xs := rngL 0 xs.length 1) (ρ := [some (0, .lst xs), some (0, .lst xs), none]) 0 ⟨none, rfl⟩ (fun i x ρ hx ⟨k, e⟩ => by
    subst e
    obtain ⟨hi, rfl⟩ := rngL_get hx
    have hg : xs[i]? = some xs[i] := List.getElem?_eq_getElem hi
    have ih := h2 xs[i] (List.getElem_mem hi)
    refine ⟨_, [some (0, .lst xs), some (0, .lst xs), some (0, .int (0 + (i : Int) * 1))], rfl, .inl ?_, _, rfl⟩
    unfold L2_same
    simp [atI_nat hi, hg, ih])
  subst ek
  unfold fnF B_same
  simp [argsE, PV.tyName, kit_lt, kit_ll, e, r62_nat (n := xs.length) (by omega)]
theorem same_non {f : FF} : fnF [0, 0] 3 (B_same f) [.non, .non] = .ok 0 (.bl true) [.non, .non] := by
  unfold fnF B_same
  simp [argsE, PV.tyName, kit_nt, kit_nl]
theorem same_bl {f : FF} {b : Bool} : fnF [0, 0] 3 (B_same f) [.bl b, .bl b] = .ok 0 (.bl true) [.bl b, .bl b] := by
  unfold fnF B_same
  simp [argsE, PV.tyName, kit_bt, kit_bl, kit_bb]
theorem same_int {f : FF} {b : Int} : fnF [0, 0] 3 (B_same f) [.int b, .int b] = .ok 0 (.bl true) [.int b, .int b] := by
  unfold fnF B_same
  simp [argsE, PV.tyName, kit_it, kit_il, kit_ib, kit_ii]
theorem same_str {f : FF} {b : Str} : fnF [0, 0] 3 (B_same f) [.str b, .str b] = .ok 0 (.bl true) [.str b, .str b] := by
  unfold fnF B_same
  simp [argsE, PV.tyName, kit_st, kit_sl, kit_sb, kit_si, kit_ss]
theorem same_ok (n : Nat) : ∀ d : PV, Okd n d → F_same n [d, d] = .ok 0 (.bl true) [d, d] := by
  induction n with
  | zero => exact fun d h => h.elim
  | succ n ih =>
    intro d h
    cases d with
    | non => exact same_non
    | bl b => exact same_bl
    | int b => exact same_int
    | str b => exact same_str
    | tup xs => exact same_tup h.1 fun x hx => ih x (h.2 x hx)
    | lst xs => exact same_lst h.1 fun x hx => ih x (h.2 x hx)
    | ctup xs => exact h.elim
    | dic xs => exact h.elim
    | clst xs => exact h.elim
    | exn a b c d => exact h.elim
end Pv

set_option maxRecDepth 100000
set_option maxHeartbeats 4000000
namespace Pv
open PySem PySem.Spec PyProof.Rows L2 TL
/-! ## texts as lists of signs -/
def mkS (l : List Nat) : Str := ⟨l.toArray⟩
@[simp] theorem tl_mkS {l : List Nat} : tl (mkS l) = l := rfl
@[simp] theorem mkS_toList {l : List Nat} : (mkS l).cps.toList = l := rfl
@[simp] theorem mkS_len {l : List Nat} : (mkS l).length = l.length := by rw [len_tl]; rfl
theorem mkS_tl (x : Str) : mkS (tl x) = x := mk_tl x
theorem mkS_inj {l m : List Nat} : mkS l = mkS m ↔ l = m := ⟨fun h => congrArg tl h, fun h => by rw [h]⟩
theorem mkS_add (l m : List Nat) : mkS l ++ mkS m = mkS (l ++ m) := ext_tl (by rw [tl_append]; rfl)
/-- l cut at each s -/
def sp (s : Nat) : List Nat → List Nat → List (List Nat)
  | acc, [] => [acc]
  | acc, c :: r => if c = s then acc :: sp s [] r else sp s (acc ++ [c]) r
theorem pre_one {s c : Nat} {r : List Nat} : pre [s] (c :: r) = decide (c = s) := by
  unfold pre
  by_cases h : c = s <;> simp [h]
theorem spl_sp (s : Nat) : ∀ (l acc : List Nat), spl [s] 0 acc l = sp s acc l
  | [], acc => spl_nil _ _ _
  | c :: r, acc => by
    unfold sp
    by_cases h : c = s
    · rw [if_pos h, spl_hit (by rw [pre_one]; simp [h])]
      show acc :: spl [s] 0 [] r = _
      rw [spl_sp s r]
    · rw [if_neg h, spl_miss (by rw [pre_one]; simp [h]), spl_sp s r]
theorem split_sp {x y : Str} {s : Nat} (ey : tl y = [s]) (hs : s < 256) : Txt.split x y = (sp s [] (tl x)).map mkS := by
  refine map_tl_inj ?_
  have hk : y.cps.all (· < 256) = true := by
    rw [← Array.all_toList]
    show (tl y).all (· < 256) = true
    rw [ey]
    simp [hs]
  rw [split_spl x y (by rw [ey]; simp) (kind_ok hk), ey, spl_sp, List.map_map]
  exact (List.map_id' (sp s [] (tl x))).symm.trans (List.map_congr_left fun z _ => rfl)
theorem par_tw {s : Nat} : ∀ (l acc : List Nat), ((par [s] acc l).map (·.1)).getD (acc ++ l) = acc ++ l.takeWhile (fun c => !decide (c = s))
  | [], acc => by simp [par]
  | c :: r, acc => by
    by_cases h : c = s
    · rw [par_hit (by rw [pre_one]; simp [h])]
      simp [h]
    · rw [par_miss (by rw [pre_one]; simp [h])]
      have := par_tw (s := s) r (acc ++ [c])
      rw [List.append_assoc] at this
      rw [List.takeWhile_cons_of_pos (by simp [h])]
      simpa using this
theorem part_tw {x y : Str} {s : Nat} (ey : tl y = [s]) : (Txt.partition x y).1 = mkS ((tl x).takeWhile fun c => !decide (c = s)) := by
  refine ext_tl ?_
  have k := par_tw (s := s) (tl x) []
  rw [partition_par x y (by rw [ey]; simp), ey]
  cases e : par [s] [] (tl x) with
  | none => rw [e] at k; simpa using k
  | some p => rw [e] at k; simpa using k
theorem sp_ne {s : Nat} : ∀ (l acc : List Nat), sp s acc l ≠ []
  | [], acc => by simp [sp]
  | c :: r, acc => by
    unfold sp
    split
    · simp
    · exact sp_ne r _
theorem sp_len {s : Nat} : ∀ (l acc : List Nat), (sp s acc l).length = l.count s + 1
  | [], acc => rfl
  | c :: r, acc => by
    unfold sp
    by_cases h : c = s
    · rw [if_pos h, List.length_cons, sp_len r, h, List.count_cons_self]
    · rw [if_neg h, sp_len r, List.count_cons_of_ne h]
/-- every part's signs are signs of the whole -/
theorem sp_mem {s : Nat} : ∀ (l acc : List Nat), ∀ p ∈ sp s acc l, ∀ c ∈ p, c ∈ acc ∨ (c ∈ l ∧ c ≠ s)
  | [], acc, p, hp, c, hc => by
    simp [sp] at hp
    subst hp
    exact .inl hc
  | x :: r, acc, p, hp, c, hc => by
    unfold sp at hp
    by_cases h : x = s
    · rw [if_pos h] at hp
      rcases List.mem_cons.mp hp with e | hp
      · subst e; exact .inl hc
      · rcases sp_mem r [] p hp c hc with z | z
        · cases z
        · exact .inr ⟨List.mem_cons_of_mem _ z.1, z.2⟩
    · rw [if_neg h] at hp
      rcases sp_mem r _ p hp c hc with z | z
      · rcases List.mem_append.mp z with z | z
        · exact .inl z
        · rw [List.mem_singleton.mp z]; exact .inr ⟨List.mem_cons_self, h⟩
      · exact .inr ⟨List.mem_cons_of_mem _ z.1, z.2⟩
theorem sp_part_len {s : Nat} : ∀ (l acc : List Nat), ∀ p ∈ sp s acc l, p.length ≤ acc.length + l.length
  | [], acc, p, hp => by
    simp [sp] at hp
    subst hp
    simp
  | x :: r, acc, p, hp => by
    unfold sp at hp
    by_cases h : x = s
    · rw [if_pos h] at hp
      rcases List.mem_cons.mp hp with e | hp
      · subst e; simp
      · have := sp_part_len r [] p hp
        simp at this ⊢
        omega
    · rw [if_neg h] at hp
      have := sp_part_len r _ p hp
      simp at this ⊢
      omega
/-- a text of one sign within a text -/
@[simp] theorem p_in1 {b : Bool} {m n c : Nat} {w : Str} : inOp b [(m, .str ⟨#[c]⟩), (n, .str w)] = some ⟨true, 0, .bl (b ^^ decide (c ∈ w.cps.toList))⟩ := by
  rw [p_ins, PySem.StrLaws.found_one]
@[simp] theorem at_0 {α : Type} {x : α} {xs : List α} : atI (x :: xs) 0 = some x := by
  have := atI_nat (xs := x :: xs) (i := 0) (by simp)
  simpa using this
@[simp] theorem at_1 {α : Type} {x y : α} {xs : List α} : atI (x :: y :: xs) 1 = some y := by
  have := atI_nat (xs := x :: y :: xs) (i := 1) (by simp)
  simpa using this
@[simp] theorem at_2 {α : Type} {x y z : α} {xs : List α} : atI (x :: y :: z :: xs) 2 = some z := by
  have := atI_nat (xs := x :: y :: z :: xs) (i := 2) (by simp)
  simpa using this
theorem strIt_mk (l : List Nat) : strIt (mkS l) = l.map fun c => .str (mkS [c]) := rfl
/-! ## try -/
theorem try_eq {body : SF} {hds : List Hd} {ρ : Ev} : sTry body hds ρ = (match body ρ with | .exc c fs ρ' => sHs hds c fs ρ' | r => r) := rfl
theorem hs_hit {h : Hd} {t : List Hd} {c : Str} {fs : List (Str × PV)} {ρ : Ev} (e : h.cs.contains c = true) : sHs (h :: t) c fs ρ = hRun h c fs ρ := by
  unfold sHs
  rw [if_pos e]
theorem hs_miss {h : Hd} {t : List Hd} {c : Str} {fs : List (Str × PV)} {ρ : Ev} (e : h.cs.contains c = false) (e2 : h.ncs.contains c = true) : sHs (h :: t) c fs ρ = sHs t c fs ρ := by
  rw [sHs, if_neg (by rw [e]; decide), if_pos e2]
theorem run_named {h : Hd} {c : Str} {fs : List (Str × PV)} {ρ : Ev} {i : Nat} {R : SR} (e : h.sl = some i) (hi : i < ρ.length) (k : ∀ a d, (h.sf a d c (ρ.set i (some (0, .exn a d c fs)))).drop i = R) : hRun h c fs ρ = R := by
  unfold hRun
  rw [e]
  simp only []
  rw [if_pos ⟨hi, fun a d => (k a d).trans (k 0 none).symm⟩]
  exact k 0 none
theorem run_plain {h : Hd} {c : Str} {fs : List (Str × PV)} {ρ : Ev} {R : SR} (e : h.sl = none) (k : ∀ a d, (h.sf a d c ρ).noX = R) : hRun h c fs ρ = R := by
  unfold hRun
  rw [e]
  simp only []
  rw [if_pos fun a d => (k a d).trans (k 0 none).symm]
  exact k 0 none
@[simp] theorem z_xf {a : Addr} {d : Option Addr} {c f : Str} {i : Nat} {ρ : Ev} : eXf a d c f i ρ = (match ρ[i]? with
  | some (some (_, .exn a' d' c' fs)) => if a' = a ∧ d' = d ∧ c' = c then (match fs.lookup f with
    | some x => .ok ⟨true, true, 0, x, ρ⟩
    | none => .bad) else .bad
  | _ => .bad) := Eq.trans rfl rfl
@[simp] theorem z_dr1 {i : Nat} {ρ : Ev} {n : Nat} {x : PV} : SR.drop i (.rt n x ρ) = .rt n x (ρ.set i none) := Eq.trans rfl rfl
@[simp] theorem z_dr2 {i : Nat} {ρ : Ev} : SR.drop i (.nx ρ) = .nx (ρ.set i none) := Eq.trans rfl rfl
end Pv

set_option maxRecDepth 100000
set_option maxHeartbeats 1000000
namespace K09
open PySem PySem.Spec PyProof.Rows L2 Pv
abbrev top (i : Nat) : Stmt := PySem.Challenge.pw_millbench_k09_lines_and_words.main.body.getD i (.Pass ⟨0, 0, 0, 0⟩)
noncomputable section

def c_ALLOWED : PV := (.str (" !\"#$&'()*+,-./0123456789:;<=>?@ABCDEFGHIJKLMNOPQRSTUVWXYZ[\\]^_`abcdefghijklmnopqrstuvwxyz{|}~" : Str))
def c_MOST_LINES : PV := (.int (5000 : Int))
def cs_BadSign : List Str := [("BadSign" : Str)]
def ns_BadSign : List Str := [("TooLarge" : Str)]
def cs_TooLarge : List Str := [("TooLarge" : Str)]
def ns_TooLarge : List Str := [("BadSign" : Str)]
/-- what is leant on of the program -/
structure Hy (g : Prg) : Prop where
  c_ALLOWED : GC g ("ALLOWED" : Str) c_ALLOWED
  c_MOST_LINES : GC g ("MOST_LINES" : Str) c_MOST_LINES
  m_abs : g.mg ("abs" : Str) = none
  m_bool : g.mg ("bool" : Str) = none
  m_int : g.mg ("int" : Str) = none
  m_isinstance : g.mg ("isinstance" : Str) = none
  m_len : g.mg ("len" : Str) = none
  m_list : g.mg ("list" : Str) = none
  m_range : g.mg ("range" : Str) = none
  m_str : g.mg ("str" : Str) = none
  m_tuple : g.mg ("tuple" : Str) = none
  d_check_signs : ∃ a fd, g.mg ("check_signs" : Str) = some (.ref a) ∧ FunD g.K ("check_signs" : Str) ("check_signs" : Str) (defArgs (top 7)) (defBody (top 7)) (defScope (top 7)) [] [] a fd
  d_words_of : ∃ a fd, g.mg ("words_of" : Str) = some (.ref a) ∧ FunD g.K ("words_of" : Str) ("words_of" : Str) (defArgs (top 8)) (defBody (top 8)) (defScope (top 8)) [] [] a fd
  d_split_lines : ∃ a fd, g.mg ("split_lines" : Str) = some (.ref a) ∧ FunD g.K ("split_lines" : Str) ("split_lines" : Str) (defArgs (top 9)) (defBody (top 9)) (defScope (top 9)) [] [] a fd
  d__law_stream : ∃ a fd, g.mg ("_law_stream" : Str) = some (.ref a) ∧ FunD g.K ("_law_stream" : Str) ("_law_stream" : Str) (defArgs (top 11)) (defBody (top 11)) (defScope (top 11)) [] [] a fd
  d__law_same : ∃ a fd, g.mg ("_law_same" : Str) = some (.ref a) ∧ FunD g.K ("_law_same" : Str) ("_law_same" : Str) (defArgs (top 12)) (defBody (top 12)) (defScope (top 12)) [] [] a fd
  d__law_piece : ∃ a fd, g.mg ("_law_piece" : Str) = some (.ref a) ∧ FunD g.K ("_law_piece" : Str) ("_law_piece" : Str) (defArgs (top 13)) (defBody (top 13)) (defScope (top 13)) [] [] a fd
  d__law_words : ∃ a fd, g.mg ("_law_words" : Str) = some (.ref a) ∧ FunD g.K ("_law_words" : Str) ("_law_words" : Str) (defArgs (top 14)) (defBody (top 14)) (defScope (top 14)) [] [] a fd
  d__law_due : ∃ a fd, g.mg ("_law_due" : Str) = some (.ref a) ∧ FunD g.K ("_law_due" : Str) ("_law_due" : Str) (defArgs (top 15)) (defBody (top 15)) (defScope (top 15)) [] [] a fd
  d__law_told : ∃ a fd, g.mg ("_law_told" : Str) = some (.ref a) ∧ FunD g.K ("_law_told" : Str) ("_law_told" : Str) (defArgs (top 16)) (defBody (top 16)) (defScope (top 16)) [] [] a fd
  d_law : ∃ a fd, g.mg ("law" : Str) = some (.ref a) ∧ FunD g.K ("law" : Str) ("law" : Str) (defArgs (top 17)) (defBody (top 17)) (defScope (top 17)) [] [] a fd
  x_BadSign : ExK g ("BadSign" : Str) ("BadSign" : Str) [("line" : Str), ("column" : Str)]
  x_TooLarge : ExK g ("TooLarge" : Str) ("TooLarge" : Str) [("what" : Str), ("limit" : Str)]
  k_BadSign : g.mg ("BadSign" : Str) = some (.ref (g.ea ("BadSign" : Str)))
  e1_BadSign : ∀ c ∈ cs_BadSign, PySem.W.exmOne g.K (.ref (g.ea c)) (.ref (g.ea ("BadSign" : Str))) = some true
  e0_BadSign : ∀ c ∈ ns_BadSign, PySem.W.exmOne g.K (.ref (g.ea c)) (.ref (g.ea ("BadSign" : Str))) = some false
  k_TooLarge : g.mg ("TooLarge" : Str) = some (.ref (g.ea ("TooLarge" : Str)))
  e1_TooLarge : ∀ c ∈ cs_TooLarge, PySem.W.exmOne g.K (.ref (g.ea c)) (.ref (g.ea ("TooLarge" : Str))) = some true
  e0_TooLarge : ∀ c ∈ ns_TooLarge, PySem.W.exmOne g.K (.ref (g.ea c)) (.ref (g.ea ("TooLarge" : Str))) = some false
  xf_BadSign_column : ∀ c ∈ cs_BadSign, XfF g c ("column" : Str)
  xf_BadSign_line : ∀ c ∈ cs_BadSign, XfF g c ("line" : Str)
  xf_TooLarge_limit : ∀ c ∈ cs_TooLarge, XfF g c ("limit" : Str)
  xf_TooLarge_what : ∀ c ∈ cs_TooLarge, XfF g c ("what" : Str)
theorem Hy.n_BadSign {g : Prg} (hy : Hy g) {Γ : Sx} (h1 : Γ.sc.names.lookup ("BadSign" : Str) = some .globalImplicit) (h2 : (("BadSign" : Str) == ("__debug__" : Str)) = false) : NamC g Γ ("BadSign" : Str) (.ref (g.ea ("BadSign" : Str))) := ⟨⟨h1, h2⟩, .inl hy.k_BadSign⟩
theorem Hy.n_TooLarge {g : Prg} (hy : Hy g) {Γ : Sx} (h1 : Γ.sc.names.lookup ("TooLarge" : Str) = some .globalImplicit) (h2 : (("TooLarge" : Str) == ("__debug__" : Str)) = false) : NamC g Γ ("TooLarge" : Str) (.ref (g.ea ("TooLarge" : Str))) := ⟨⟨h1, h2⟩, .inl hy.k_TooLarge⟩
variable {g : Prg}
/-! ### check_signs -/
abbrev N_check_signs : List Str := [("rows" : Str), ("k" : Str), ("row" : Str), ("at" : Str)]
def L1_check_signs : SF := (sIf (tOf (eOp (inOp true) (aCons (eOp pIx (aCons (eVar 2) (aCons (eVar 3) aNil))) (aCons (eC c_ALLOWED) aNil)))) (sRaise ("BadSign" : Str) [("line" : Str), ("column" : Str)] (aCons (eOp pAdd (aCons (eVar 1) (aCons (eC (.int (1 : Int))) aNil))) (aCons (eOp pAdd (aCons (eVar 3) (aCons (eC (.int (1 : Int))) aNil))) aNil))) sNil)
def L2_check_signs : SF := (sSeq (sSet 2 (eOp pIx (aCons (eVar 0) (aCons (eVar 1) aNil)))) (sFor (iRange rngA1 (aCons (eOp pLen (aCons (eVar 2) aNil)) aNil)) (bName 3) L1_check_signs))
def B_check_signs : SF := (sFor (iRange rngA1 (aCons (eOp pLen (aCons (eVar 0) aNil)) aNil)) (bName 1) L2_check_signs)
def F_check_signs : FF := fnF [0] 4 B_check_signs
theorem sv_check_signs (hy : Hy g) : SVs g ⟨N_check_signs, defScope (top 7), 2, pnOf [0], false, false, none⟩ (defBody (top 7)) B_check_signs := (svs_one (sv_for rfl rfl (iv_rng1 rfl ⟨rfl, rfl⟩ hy.m_range (av_cons rfl (ev_len rfl (av_cons rfl (ev_var (i := 0) rfl (.inl rfl) rfl rfl) av_nil) ⟨rfl, rfl⟩ hy.m_len) av_nil)) (gv_name (i := 1) rfl rfl) (by decide) (svs_cons (sv_set (i := 2) rfl rfl (by decide) rfl (ev_ix rfl (ev_var (i := 0) rfl (.inl rfl) rfl rfl) (ev_var (i := 1) rfl (.inl rfl) rfl rfl))) (svs_one (sv_for rfl rfl (iv_rng1 rfl ⟨rfl, rfl⟩ hy.m_range (av_cons rfl (ev_len rfl (av_cons rfl (ev_var (i := 2) rfl (.inl rfl) rfl rfl) av_nil) ⟨rfl, rfl⟩ hy.m_len) av_nil)) (gv_name (i := 3) rfl rfl) (by decide) (svs_one (sv_if (tv_notIn rfl (ev_ix rfl (ev_var (i := 2) rfl (.inl rfl) rfl rfl) (ev_var (i := 3) rfl (.inl rfl) rfl rfl)) (ev_glob ⟨rfl, rfl⟩ hy.c_ALLOWED)) (svs_one (sv_raise hy.x_BadSign (by decide) ⟨rfl, rfl⟩ rfl (by first | exact Nat.le_refl _ | decide | (show _ ≤ _; omega)) (av_cons rfl (ev_add (ev_var (i := 1) rfl (.inl rfl) rfl rfl) ev_int) (av_cons rfl (ev_add (ev_var (i := 3) rfl (.inl rfl) rfl rfl) ev_int) av_nil)) rfl)) svs_nil)))))))
theorem ca_check_signs (hy : Hy g) : Callee g ("check_signs" : Str) [0] F_check_signs 3 := ⟨rfl, by
  obtain ⟨a, fd, hm, F⟩ := hy.d_check_signs
  exact ⟨a, fd, [("rows" : Str)], hm, F.kp, F.bindsN (fun _ _ _ _ _ _ us hl => match us, hl with | [_], _ => rfl), fn_ok (N := N_check_signs) F ⟨rfl, rfl, rfl, by decide +kernel, rfl, by decide +kernel, by decide +kernel⟩ rfl (sv_check_signs hy)⟩⟩
/-! ### words_of -/
abbrev N_words_of : List Str := [("row" : Str), ("before" : Str), ("word" : Str)]
def B_words_of : SF := (sSeq (sSet 1 (eOp pIx (aCons (eOp pPart (aConsT PV.isStr (eVar 0) (aCons (eC (.str ("#" : Str))) aNil))) (aCons (eC (.int (0 : Int))) aNil)))) (sRet (eOp pTuple (aCons (eLc [2] (iAny (eOp pSplit (aConsT PV.isStr (eVar 1) (aCons (eC (.str (" " : Str))) aNil)))) (bName 2) (tOf (eOp pNe (aCons (eVar 2) (aCons (eC (.str ("" : Str))) aNil)))) (eVar 2)) aNil))))
def F_words_of : FF := fnF [0] 3 B_words_of
theorem sv_words_of (hy : Hy g) : SVs g ⟨N_words_of, defScope (top 8), 0, pnOf [0], false, false, none⟩ (defBody (top 8)) B_words_of := (svs_cons (sv_set (i := 1) rfl rfl (by decide) rfl (ev_ix rfl (ev_part rfl rfl rfl (ev_var (i := 0) rfl (.inl rfl) rfl rfl) (av_cons rfl ev_str av_nil)) ev_int)) (svs_one (sv_ret (ev_tuple rfl (av_cons rfl (ev_lc (own := [(("word" : Str), 2)]) (sl := [2]) rfl rfl rfl (by decide) (iv_any (ev_split rfl rfl rfl (ev_var (i := 1) rfl (.inl rfl) rfl rfl) (av_cons rfl ev_str av_nil))) (gv_name (i := 2) rfl rfl) (.one (tv_ne rfl (ev_var (i := 2) rfl (.inl rfl) rfl rfl) ev_str)) (ev_var (i := 2) rfl (.inl rfl) rfl rfl)) av_nil) ⟨rfl, rfl⟩ hy.m_tuple))))
theorem ca_words_of (hy : Hy g) : Callee g ("words_of" : Str) [0] F_words_of 1 := ⟨rfl, by
  obtain ⟨a, fd, hm, F⟩ := hy.d_words_of
  exact ⟨a, fd, [("row" : Str)], hm, F.kp, F.bindsN (fun _ _ _ _ _ _ us hl => match us, hl with | [_], _ => rfl), fn_ok (N := N_words_of) F ⟨rfl, rfl, rfl, by decide +kernel, rfl, by decide +kernel, by decide +kernel⟩ rfl (sv_words_of hy)⟩⟩
/-! ### split_lines -/
abbrev N_split_lines : List Str := [("text" : Str), ("rows" : Str), ("result" : Str), ("k" : Str), ("words" : Str)]
def L1_split_lines : SF := (sSeq (sSet 4 (eCall [0] [none] F_words_of (aCons (eOp pIx (aCons (eVar 1) (aCons (eVar 3) aNil))) aNil))) (sIf (tOf (eOp pGt (aCons (eOp pLen (aCons (eVar 4) aNil)) (aCons (eC (.int (0 : Int))) aNil)))) (sExpr (eAppend 2 (eOp pTup (aCons (eOp pAdd (aCons (eVar 3) (aCons (eC (.int (1 : Int))) aNil))) (aCons (eVar 4) aNil))))) sNil))
def B_split_lines : SF := (sSeq (sSet 1 (eOp pSplit (aConsT PV.isStr (eVar 0) (aCons (eC (.str ("\n" : Str))) aNil)))) (sSeq (sExpr (eCall [0] [none] F_check_signs (aCons (eFrzV 1) aNil))) (sSeq (sIf (tOf (eOp pGt (aCons (eOp pLen (aCons (eVar 1) aNil)) (aCons (eC c_MOST_LINES) aNil)))) (sRaise ("TooLarge" : Str) [("what" : Str), ("limit" : Str)] (aCons (eC (.str ("lines" : Str))) (aCons (eC c_MOST_LINES) aNil))) sNil) (sSeq (sSet 2 (eOp pLst aNil)) (sSeq (sFor (iRange rngA1 (aCons (eOp pLen (aCons (eVar 1) aNil)) aNil)) (bName 3) L1_split_lines) (sRet (eMove 2)))))))
def F_split_lines : FF := fnF [0] 5 B_split_lines
theorem sv_split_lines (hy : Hy g) : SVs g ⟨N_split_lines, defScope (top 9), 3, pnOf [0], false, false, none⟩ (defBody (top 9)) B_split_lines := (svs_cons (sv_set (i := 1) rfl rfl (by decide) rfl (ev_split rfl rfl rfl (ev_var (i := 0) rfl (.inl rfl) rfl rfl) (av_cons rfl ev_str av_nil))) (svs_cons (sv_expr rfl (ev_call (ca_check_signs hy) ⟨rfl, rfl⟩ (by first | exact Nat.le_refl _ | decide | (show _ ≤ _; omega)) rfl (am_cons rfl (ev_frz (i := 1) rfl (.inl rfl) rfl rfl) am_nil) rfl)) (svs_cons (sv_if (tv_gt rfl (ev_len rfl (av_cons rfl (ev_var (i := 1) rfl (.inl rfl) rfl rfl) av_nil) ⟨rfl, rfl⟩ hy.m_len) (ev_glob ⟨rfl, rfl⟩ hy.c_MOST_LINES)) (svs_one (sv_raise hy.x_TooLarge (by decide) ⟨rfl, rfl⟩ rfl (by first | exact Nat.le_refl _ | decide | (show _ ≤ _; omega)) (av_cons rfl ev_str (av_cons rfl (ev_glob ⟨rfl, rfl⟩ hy.c_MOST_LINES) av_nil)) rfl)) svs_nil) (svs_cons (sv_set (i := 2) rfl rfl (by decide) rfl (ev_lst av_nil)) (svs_cons (sv_for rfl rfl (iv_rng1 rfl ⟨rfl, rfl⟩ hy.m_range (av_cons rfl (ev_len rfl (av_cons rfl (ev_var (i := 1) rfl (.inl rfl) rfl rfl) av_nil) ⟨rfl, rfl⟩ hy.m_len) av_nil)) (gv_name (i := 3) rfl rfl) (by decide) (svs_cons (sv_set (i := 4) rfl rfl (by decide) rfl (ev_call (ca_words_of hy) ⟨rfl, rfl⟩ (by first | exact Nat.le_refl _ | decide | (show _ ≤ _; omega)) rfl (am_cons rfl (ev_ix rfl (ev_var (i := 1) rfl (.inl rfl) rfl rfl) (ev_var (i := 3) rfl (.inl rfl) rfl rfl)) am_nil) rfl)) (svs_one (sv_if (tv_gt rfl (ev_len rfl (av_cons rfl (ev_var (i := 4) rfl (.inl rfl) rfl rfl) av_nil) ⟨rfl, rfl⟩ hy.m_len) ev_int) (svs_one (sv_expr rfl (ev_append (i := 2) rfl (.inl rfl) rfl rfl rfl rfl (ev_tup (av_cons rfl (ev_add (ev_var (i := 3) rfl (.inl rfl) rfl rfl) ev_int) (av_cons rfl (ev_var (i := 4) rfl (.inl rfl) rfl rfl) av_nil)))))) svs_nil)))) (svs_one (sv_ret (ev_move (i := 2) rfl (.inl rfl) rfl rfl))))))))
theorem ca_split_lines (hy : Hy g) : Callee g ("split_lines" : Str) [0] F_split_lines 4 := ⟨rfl, by
  obtain ⟨a, fd, hm, F⟩ := hy.d_split_lines
  exact ⟨a, fd, [("text" : Str)], hm, F.kp, F.bindsN (fun _ _ _ _ _ _ us hl => match us, hl with | [_], _ => rfl), fn_ok (N := N_split_lines) F ⟨rfl, rfl, rfl, by decide +kernel, rfl, by decide +kernel, by decide +kernel⟩ rfl (sv_split_lines hy)⟩⟩
/-! ### _law_stream -/
abbrev N__law_stream : List Str := [("script" : Str), ("many" : Str), ("found" : Str), ("seed" : Str), ("cell" : Str), ("k" : Str), ("left" : Str)]
abbrev L1__law_stream := Pv.L1_stream
abbrev L2__law_stream := Pv.L2_stream
abbrev L3__law_stream := Pv.L3_stream
abbrev B__law_stream := Pv.B_stream
def F__law_stream : FF := fnF [0, 0] 7 B__law_stream
theorem sv__law_stream (hy : Hy g) : SVs g ⟨N__law_stream, defScope (top 11), 0, pnOf [0, 0], false, false, none⟩ (defBody (top 11)) B__law_stream := (svs_cons (sv_set (i := 2) rfl rfl (by decide) rfl (ev_lst av_nil)) (svs_cons (sv_set (i := 3) rfl rfl (by decide) rfl ev_int) (svs_cons (sv_for rfl rfl (iv_any (ev_sl01 (ev_var (i := 0) rfl (.inl rfl) rfl rfl) ev_int)) (gv_name (i := 4) rfl rfl) (by decide) (svs_cons (sv_set (i := 6) rfl rfl (by decide) rfl (ev_abs rfl (av_cons rfl (ev_intc rfl (av_cons rfl (ev_var (i := 4) rfl (.inl rfl) rfl rfl) av_nil) ⟨rfl, rfl⟩ hy.m_int) av_nil) ⟨rfl, rfl⟩ hy.m_abs)) (svs_cons (sv_if (tv_ge rfl (ev_var (i := 6) rfl (.inl rfl) rfl rfl) (ev_pow ev_int ev_int)) (svs_one (sv_for rfl rfl (iv_rng1 rfl ⟨rfl, rfl⟩ hy.m_range (av_cons rfl ev_int av_nil)) (gv_name (i := 5) rfl rfl) (by decide) (svs_one (sv_if ((tw_and (tv_gt rfl (ev_var (i := 6) rfl (.inl rfl) rfl rfl) ev_int) (tw_and1 (tv_lt rfl (ev_len rfl (av_cons rfl (ev_var (i := 2) rfl (.inl rfl) rfl rfl) av_nil) ⟨rfl, rfl⟩ hy.m_len) (ev_var (i := 1) rfl (.inl rfl) rfl rfl))))).tv (svs_cons (sv_expr rfl (ev_append (i := 2) rfl (.inl rfl) rfl rfl rfl rfl (ev_mod (ev_intc rfl (av_cons rfl (ev_var (i := 6) rfl (.inl rfl) rfl rfl) av_nil) ⟨rfl, rfl⟩ hy.m_int) ev_int))) (svs_one (sv_set (i := 6) rfl rfl (by decide) rfl (ev_fdiv (ev_var (i := 6) rfl (.inl rfl) rfl rfl) ev_int)))) svs_nil)))) (svs_one (sv_if (tv_lt rfl (ev_len rfl (av_cons rfl (ev_var (i := 2) rfl (.inl rfl) rfl rfl) av_nil) ⟨rfl, rfl⟩ hy.m_len) (ev_var (i := 1) rfl (.inl rfl) rfl rfl)) (svs_one (sv_expr rfl (ev_append (i := 2) rfl (.inl rfl) rfl rfl rfl rfl (ev_mod (ev_intc rfl (av_cons rfl (ev_var (i := 6) rfl (.inl rfl) rfl rfl) av_nil) ⟨rfl, rfl⟩ hy.m_int) ev_int)))) svs_nil))) (svs_one (sv_set (i := 3) rfl rfl (by decide) rfl (ev_mod (ev_intc rfl (av_cons rfl (ev_add (ev_add (ev_mul (ev_var (i := 3) rfl (.inl rfl) rfl rfl) ev_int) (ev_mod (ev_intc rfl (av_cons rfl (ev_var (i := 4) rfl (.inl rfl) rfl rfl) av_nil) ⟨rfl, rfl⟩ hy.m_int) ev_int)) ev_int) av_nil) ⟨rfl, rfl⟩ hy.m_int) ev_int)))))) (svs_cons (sv_for rfl rfl (iv_rng1 rfl ⟨rfl, rfl⟩ hy.m_range (av_cons rfl (ev_var (i := 1) rfl (.inl rfl) rfl rfl) av_nil)) (gv_name (i := 5) rfl rfl) (by decide) (svs_one (sv_if (tv_lt rfl (ev_len rfl (av_cons rfl (ev_var (i := 2) rfl (.inl rfl) rfl rfl) av_nil) ⟨rfl, rfl⟩ hy.m_len) (ev_var (i := 1) rfl (.inl rfl) rfl rfl)) (svs_cons (sv_set (i := 3) rfl rfl (by decide) rfl (ev_mod (ev_intc rfl (av_cons rfl (ev_add (ev_mul (ev_var (i := 3) rfl (.inl rfl) rfl rfl) ev_int) ev_int) av_nil) ⟨rfl, rfl⟩ hy.m_int) ev_int)) (svs_one (sv_expr rfl (ev_append (i := 2) rfl (.inl rfl) rfl rfl rfl rfl (ev_mod (ev_intc rfl (av_cons rfl (ev_fdiv (ev_var (i := 3) rfl (.inl rfl) rfl rfl) ev_int) av_nil) ⟨rfl, rfl⟩ hy.m_int) ev_int))))) svs_nil))) (svs_one (sv_ret (ev_move (i := 2) rfl (.inl rfl) rfl rfl)))))))
theorem ca__law_stream (hy : Hy g) : Callee g ("_law_stream" : Str) [0, 0] F__law_stream 1 := ⟨rfl, by
  obtain ⟨a, fd, hm, F⟩ := hy.d__law_stream
  exact ⟨a, fd, [("script" : Str), ("many" : Str)], hm, F.kp, F.bindsN (fun _ _ _ _ _ _ us hl => match us, hl with | [_, _], _ => rfl), fn_ok (N := N__law_stream) F ⟨rfl, rfl, rfl, by decide +kernel, rfl, by decide +kernel, by decide +kernel⟩ rfl (sv__law_stream hy)⟩⟩
/-! ### _law_same -/
abbrev N__law_same : List Str := [("actual" : Str), ("due" : Str), ("k" : Str)]
abbrev L1__law_same := Pv.L1_same
abbrev L2__law_same := Pv.L2_same
abbrev B__law_same := Pv.B_same
abbrev F__law_same := Pv.F_same
theorem sv__law_same (hy : Hy g) {n : Nat} {f_rec : FF} (h_rec : Callee g ("_law_same" : Str) [0, 0] f_rec (n + 0)) : SVs g ⟨N__law_same, defScope (top 12), n + 0, pnOf [0, 0], false, false, none⟩ (defBody (top 12)) (B__law_same f_rec) := (svs_cons (sv_if (tv_plain (ev_isi rfl ⟨rfl, rfl⟩ hy.m_isinstance ⟨rfl, rfl⟩ hy.m_tuple (by decide +kernel) (by decide) (ev_var (i := 1) rfl (.inl rfl) rfl rfl)) rfl) (svs_cons (sv_if ((tw_or (tv_not (tv_plain (ev_isi rfl ⟨rfl, rfl⟩ hy.m_isinstance ⟨rfl, rfl⟩ hy.m_tuple (by decide +kernel) (by decide) (ev_var (i := 0) rfl (.inl rfl) rfl rfl)) rfl)) (tw_or1 (tv_ne rfl (ev_len rfl (av_cons rfl (ev_var (i := 0) rfl (.inl rfl) rfl rfl) av_nil) ⟨rfl, rfl⟩ hy.m_len) (ev_len rfl (av_cons rfl (ev_var (i := 1) rfl (.inl rfl) rfl rfl) av_nil) ⟨rfl, rfl⟩ hy.m_len))))).tv (svs_one (sv_ret ev_bl)) svs_nil) (svs_cons (sv_for rfl rfl (iv_rng1 rfl ⟨rfl, rfl⟩ hy.m_range (av_cons rfl (ev_len rfl (av_cons rfl (ev_var (i := 1) rfl (.inl rfl) rfl rfl) av_nil) ⟨rfl, rfl⟩ hy.m_len) av_nil)) (gv_name (i := 2) rfl rfl) (by first | decide | (show ∀ i ∈ _, i ∉ pnOf _; decide) | (show _ ∉ pnOf _; decide)) (svs_one (sv_if (tv_not (tv_plain (ev_call h_rec ⟨rfl, rfl⟩ (by first | exact Nat.le_refl _ | decide | (show _ ≤ _; omega)) rfl (am_cons rfl (ev_ix rfl (ev_var (i := 0) rfl (.inl rfl) rfl rfl) (ev_var (i := 2) rfl (.inl rfl) rfl rfl)) (am_cons rfl (ev_ix rfl (ev_var (i := 1) rfl (.inl rfl) rfl rfl) (ev_var (i := 2) rfl (.inl rfl) rfl rfl)) am_nil)) rfl) rfl)) (svs_one (sv_ret ev_bl)) svs_nil))) (svs_one (sv_ret ev_bl)))) svs_nil) (svs_cons (sv_if (tv_plain (ev_isi rfl ⟨rfl, rfl⟩ hy.m_isinstance ⟨rfl, rfl⟩ hy.m_list (by decide +kernel) (by decide) (ev_var (i := 1) rfl (.inl rfl) rfl rfl)) rfl) (svs_cons (sv_if ((tw_or (tv_not (tv_plain (ev_isi rfl ⟨rfl, rfl⟩ hy.m_isinstance ⟨rfl, rfl⟩ hy.m_list (by decide +kernel) (by decide) (ev_var (i := 0) rfl (.inl rfl) rfl rfl)) rfl)) (tw_or1 (tv_ne rfl (ev_len rfl (av_cons rfl (ev_var (i := 0) rfl (.inl rfl) rfl rfl) av_nil) ⟨rfl, rfl⟩ hy.m_len) (ev_len rfl (av_cons rfl (ev_var (i := 1) rfl (.inl rfl) rfl rfl) av_nil) ⟨rfl, rfl⟩ hy.m_len))))).tv (svs_one (sv_ret ev_bl)) svs_nil) (svs_cons (sv_for rfl rfl (iv_rng1 rfl ⟨rfl, rfl⟩ hy.m_range (av_cons rfl (ev_len rfl (av_cons rfl (ev_var (i := 1) rfl (.inl rfl) rfl rfl) av_nil) ⟨rfl, rfl⟩ hy.m_len) av_nil)) (gv_name (i := 2) rfl rfl) (by first | decide | (show ∀ i ∈ _, i ∉ pnOf _; decide) | (show _ ∉ pnOf _; decide)) (svs_one (sv_if (tv_not (tv_plain (ev_call h_rec ⟨rfl, rfl⟩ (by first | exact Nat.le_refl _ | decide | (show _ ≤ _; omega)) rfl (am_cons rfl (ev_ix rfl (ev_var (i := 0) rfl (.inl rfl) rfl rfl) (ev_var (i := 2) rfl (.inl rfl) rfl rfl)) (am_cons rfl (ev_ix rfl (ev_var (i := 1) rfl (.inl rfl) rfl rfl) (ev_var (i := 2) rfl (.inl rfl) rfl rfl)) am_nil)) rfl) rfl)) (svs_one (sv_ret ev_bl)) svs_nil))) (svs_one (sv_ret ev_bl)))) svs_nil) (svs_cons (sv_if (tv_isN rfl (ev_var (i := 1) rfl (.inl rfl) rfl rfl) ev_non) (svs_one (sv_ret (ev_isN (ev_var (i := 0) rfl (.inl rfl) rfl rfl) ev_non))) svs_nil) (svs_cons (sv_if (tv_plain (ev_isi rfl ⟨rfl, rfl⟩ hy.m_isinstance ⟨rfl, rfl⟩ hy.m_bool (by decide +kernel) (by decide) (ev_var (i := 1) rfl (.inl rfl) rfl rfl)) rfl) (svs_one (sv_ret (ev_and (ev_isi rfl ⟨rfl, rfl⟩ hy.m_isinstance ⟨rfl, rfl⟩ hy.m_bool (by decide +kernel) (by decide) (ev_var (i := 0) rfl (.inl rfl) rfl rfl)) (ev_one (ev_eq (ev_var (i := 0) rfl (.inl rfl) rfl rfl) (ev_var (i := 1) rfl (.inl rfl) rfl rfl)))))) svs_nil) (svs_cons (sv_if (tv_plain (ev_isi rfl ⟨rfl, rfl⟩ hy.m_isinstance ⟨rfl, rfl⟩ hy.m_int (by decide +kernel) (by decide) (ev_var (i := 1) rfl (.inl rfl) rfl rfl)) rfl) (svs_one (sv_ret (ev_and (ev_isi rfl ⟨rfl, rfl⟩ hy.m_isinstance ⟨rfl, rfl⟩ hy.m_int (by decide +kernel) (by decide) (ev_var (i := 0) rfl (.inl rfl) rfl rfl)) (ev_and (ev_not (ev_isi rfl ⟨rfl, rfl⟩ hy.m_isinstance ⟨rfl, rfl⟩ hy.m_bool (by decide +kernel) (by decide) (ev_var (i := 0) rfl (.inl rfl) rfl rfl))) (ev_one (ev_eq (ev_var (i := 0) rfl (.inl rfl) rfl rfl) (ev_var (i := 1) rfl (.inl rfl) rfl rfl))))))) svs_nil) (svs_one (sv_ret (ev_and (ev_isi rfl ⟨rfl, rfl⟩ hy.m_isinstance ⟨rfl, rfl⟩ hy.m_str (by decide +kernel) (by decide) (ev_var (i := 0) rfl (.inl rfl) rfl rfl)) (ev_one (ev_eq (ev_var (i := 0) rfl (.inl rfl) rfl rfl) (ev_var (i := 1) rfl (.inl rfl) rfl rfl)))))))))))
theorem ca__law_same (hy : Hy g) : ∀ n, Callee g ("_law_same" : Str) [0, 0] (F__law_same n) (n + 0)
  | 0 => ⟨rfl, by
    obtain ⟨a, fd, hm, F⟩ := hy.d__law_same
    exact ⟨a, fd, [("actual" : Str), ("due" : Str)], hm, F.kp, F.bindsN (fun _ _ _ _ _ _ us hl => match us, hl with | [_, _], _ => rfl), fn_bad rfl⟩⟩
  | n + 1 => ⟨rfl, by
    obtain ⟨a, fd, hm, F⟩ := hy.d__law_same
    exact ⟨a, fd, [("actual" : Str), ("due" : Str)], hm, F.kp, F.bindsN (fun _ _ _ _ _ _ us hl => match us, hl with | [_, _], _ => rfl), (Nat.succ_add n 0).symm ▸ fn_ok (N := N__law_same) F ⟨rfl, rfl, rfl, by decide +kernel, rfl, by decide +kernel, by decide +kernel⟩ rfl (sv__law_same hy (ca__law_same hy n))⟩⟩
/-! ### _law_piece -/
abbrev N__law_piece : List Str := [("number" : Str), ("signs" : Str), ("choice" : Str), ("rest" : Str)]
def B__law_piece : SF := (sSeq (sSet 1 (eC (.str (" !\"#$&'()*+,-./0123456789:;<=>?@ABCDEFGHIJKLMNOPQRSTUVWXYZ[\\]^_`abcdefghijklmnopqrstuvwxyz{|}~" : Str)))) (sSeq (sSet 2 (eOp pMod (aCons (eOp pInt (aCons (eVar 0) aNil)) (aCons (eC (.int (12 : Int))) aNil)))) (sSeq (sSet 3 (eOp pFdiv (aCons (eVar 0) (aCons (eC (.int (12 : Int))) aNil)))) (sSeq (sIf (tOf (eOp pEq (aCons (eVar 2) (aCons (eC (.int (0 : Int))) aNil)))) (sRet (eC (.str ("\n" : Str)))) sNil) (sSeq (sIf (tOf (eOp pEq (aCons (eVar 2) (aCons (eC (.int (1 : Int))) aNil)))) (sRet (eC (.str (" " : Str)))) sNil) (sSeq (sIf (tOf (eOp pEq (aCons (eVar 2) (aCons (eC (.int (2 : Int))) aNil)))) (sRet (eC (.str ("  " : Str)))) sNil) (sSeq (sIf (tOf (eOp pEq (aCons (eVar 2) (aCons (eC (.int (3 : Int))) aNil)))) (sRet (eC (.str ("#" : Str)))) sNil) (sSeq (sIf (tSeqF true (tOf (eOp pEq (aCons (eVar 2) (aCons (eC (.int (4 : Int))) aNil)))) (tOf (eOp pEq (aCons (eOp pMod (aCons (eOp pInt (aCons (eVar 3) aNil)) (aCons (eC (.int (6 : Int))) aNil))) (aCons (eC (.int (5 : Int))) aNil))))) (sRet (eC (.str ("\t" : Str)))) sNil) (sRet (eOp pIx (aCons (eVar 1) (aCons (eOp pMod (aCons (eOp pInt (aCons (eVar 0) aNil)) (aCons (eOp pLen (aCons (eVar 1) aNil)) aNil))) aNil))))))))))))
def F__law_piece : FF := fnF [0] 4 B__law_piece
theorem sv__law_piece (hy : Hy g) : SVs g ⟨N__law_piece, defScope (top 13), 0, pnOf [0], false, false, none⟩ (defBody (top 13)) B__law_piece := (svs_cons (sv_set (i := 1) rfl rfl (by decide) rfl ev_str) (svs_cons (sv_set (i := 2) rfl rfl (by decide) rfl (ev_mod (ev_intc rfl (av_cons rfl (ev_var (i := 0) rfl (.inl rfl) rfl rfl) av_nil) ⟨rfl, rfl⟩ hy.m_int) ev_int)) (svs_cons (sv_set (i := 3) rfl rfl (by decide) rfl (ev_fdiv (ev_var (i := 0) rfl (.inl rfl) rfl rfl) ev_int)) (svs_cons (sv_if (tv_eq rfl (ev_var (i := 2) rfl (.inl rfl) rfl rfl) ev_int) (svs_one (sv_ret ev_str)) svs_nil) (svs_cons (sv_if (tv_eq rfl (ev_var (i := 2) rfl (.inl rfl) rfl rfl) ev_int) (svs_one (sv_ret ev_str)) svs_nil) (svs_cons (sv_if (tv_eq rfl (ev_var (i := 2) rfl (.inl rfl) rfl rfl) ev_int) (svs_one (sv_ret ev_str)) svs_nil) (svs_cons (sv_if (tv_eq rfl (ev_var (i := 2) rfl (.inl rfl) rfl rfl) ev_int) (svs_one (sv_ret ev_str)) svs_nil) (svs_cons (sv_if ((tw_and (tv_eq rfl (ev_var (i := 2) rfl (.inl rfl) rfl rfl) ev_int) (tw_and1 (tv_eq rfl (ev_mod (ev_intc rfl (av_cons rfl (ev_var (i := 3) rfl (.inl rfl) rfl rfl) av_nil) ⟨rfl, rfl⟩ hy.m_int) ev_int) ev_int)))).tv (svs_one (sv_ret ev_str)) svs_nil) (svs_one (sv_ret (ev_ix rfl (ev_var (i := 1) rfl (.inl rfl) rfl rfl) (ev_mod (ev_intc rfl (av_cons rfl (ev_var (i := 0) rfl (.inl rfl) rfl rfl) av_nil) ⟨rfl, rfl⟩ hy.m_int) (ev_len rfl (av_cons rfl (ev_var (i := 1) rfl (.inl rfl) rfl rfl) av_nil) ⟨rfl, rfl⟩ hy.m_len)))))))))))))
theorem ca__law_piece (hy : Hy g) : Callee g ("_law_piece" : Str) [0] F__law_piece 1 := ⟨rfl, by
  obtain ⟨a, fd, hm, F⟩ := hy.d__law_piece
  exact ⟨a, fd, [("number" : Str)], hm, F.kp, F.bindsN (fun _ _ _ _ _ _ us hl => match us, hl with | [_], _ => rfl), fn_ok (N := N__law_piece) F ⟨rfl, rfl, rfl, by decide +kernel, rfl, by decide +kernel, by decide +kernel⟩ rfl (sv__law_piece hy)⟩⟩
/-! ### _law_words -/
abbrev N__law_words : List Str := [("line" : Str), ("words" : Str), ("word" : Str), ("sign" : Str)]
def L1__law_words : SF := (sSeq (sIf (tOf (eOp pEq (aCons (eVar 3) (aCons (eC (.str ("#" : Str))) aNil)))) sBk sNil) (sIf (tOf (eOp pEq (aCons (eVar 3) (aCons (eC (.str (" " : Str))) aNil)))) (sSeq (sIf (tOf (eOp pNe (aCons (eVar 2) (aCons (eC (.str ("" : Str))) aNil)))) (sExpr (eAppend 1 (eVar 2))) sNil) (sSet 2 (eC (.str ("" : Str))))) (sSet 2 (eOp pAdd (aCons (eVar 2) (aCons (eVar 3) aNil))))))
def B__law_words : SF := (sSeq (sSet 1 (eOp pLst aNil)) (sSeq (sSet 2 (eC (.str ("" : Str)))) (sSeq (sFor (iAny (eVar 0)) (bName 3) L1__law_words) (sSeq (sIf (tOf (eOp pNe (aCons (eVar 2) (aCons (eC (.str ("" : Str))) aNil)))) (sExpr (eAppend 1 (eVar 2))) sNil) (sRet (eOp pTuple (aCons (eVar 1) aNil)))))))
def F__law_words : FF := fnF [0] 4 B__law_words
theorem sv__law_words (hy : Hy g) : SVs g ⟨N__law_words, defScope (top 14), 0, pnOf [0], false, false, none⟩ (defBody (top 14)) B__law_words := (svs_cons (sv_set (i := 1) rfl rfl (by decide) rfl (ev_lst av_nil)) (svs_cons (sv_set (i := 2) rfl rfl (by decide) rfl ev_str) (svs_cons (sv_for rfl rfl (iv_any (ev_var (i := 0) rfl (.inl rfl) rfl rfl)) (gv_name (i := 3) rfl rfl) (by decide) (svs_cons (sv_if (tv_eq rfl (ev_var (i := 3) rfl (.inl rfl) rfl rfl) ev_str) (svs_one sv_break) svs_nil) (svs_one (sv_if (tv_eq rfl (ev_var (i := 3) rfl (.inl rfl) rfl rfl) ev_str) (svs_cons (sv_if (tv_ne rfl (ev_var (i := 2) rfl (.inl rfl) rfl rfl) ev_str) (svs_one (sv_expr rfl (ev_append (i := 1) rfl (.inl rfl) rfl rfl rfl rfl (ev_var (i := 2) rfl (.inl rfl) rfl rfl)))) svs_nil) (svs_one (sv_set (i := 2) rfl rfl (by decide) rfl ev_str))) (svs_one (sv_set (i := 2) rfl rfl (by decide) rfl (ev_add (ev_var (i := 2) rfl (.inl rfl) rfl rfl) (ev_var (i := 3) rfl (.inl rfl) rfl rfl)))))))) (svs_cons (sv_if (tv_ne rfl (ev_var (i := 2) rfl (.inl rfl) rfl rfl) ev_str) (svs_one (sv_expr rfl (ev_append (i := 1) rfl (.inl rfl) rfl rfl rfl rfl (ev_var (i := 2) rfl (.inl rfl) rfl rfl)))) svs_nil) (svs_one (sv_ret (ev_tuple rfl (av_cons rfl (ev_var (i := 1) rfl (.inl rfl) rfl rfl) av_nil) ⟨rfl, rfl⟩ hy.m_tuple)))))))
theorem ca__law_words (hy : Hy g) : Callee g ("_law_words" : Str) [0] F__law_words 1 := ⟨rfl, by
  obtain ⟨a, fd, hm, F⟩ := hy.d__law_words
  exact ⟨a, fd, [("line" : Str)], hm, F.kp, F.bindsN (fun _ _ _ _ _ _ us hl => match us, hl with | [_], _ => rfl), fn_ok (N := N__law_words) F ⟨rfl, rfl, rfl, by decide +kernel, rfl, by decide +kernel, by decide +kernel⟩ rfl (sv__law_words hy)⟩⟩
/-! ### _law_due -/
abbrev N__law_due : List Str := [("text" : Str), ("line" : Str), ("column" : Str), ("sign" : Str), ("rows" : Str), ("found" : Str), ("k" : Str), ("words" : Str)]
def L1__law_due : SF := (sSeq (sIf (tOf (eOp pEq (aCons (eVar 3) (aCons (eC (.str ("\t" : Str))) aNil)))) (sRet (eOp pTup (aCons (eC (.str ("sign" : Str))) (aCons (eVar 1) (aCons (eVar 2) aNil))))) sNil) (sSeq (sSet 2 (eOp pAdd (aCons (eVar 2) (aCons (eC (.int (1 : Int))) aNil)))) (sIf (tOf (eOp pEq (aCons (eVar 3) (aCons (eC (.str ("\n" : Str))) aNil)))) (sSeq (sSet 1 (eOp pAdd (aCons (eVar 1) (aCons (eC (.int (1 : Int))) aNil)))) (sSet 2 (eC (.int (1 : Int))))) sNil)))
def L2__law_due : SF := (sSeq (sSet 7 (eCall [0] [none] F__law_words (aCons (eOp pIx (aCons (eVar 4) (aCons (eVar 6) aNil))) aNil))) (sIf (tOf (eOp pGt (aCons (eOp pLen (aCons (eVar 7) aNil)) (aCons (eC (.int (0 : Int))) aNil)))) (sExpr (eAppend 5 (eOp pTup (aCons (eOp pAdd (aCons (eVar 6) (aCons (eC (.int (1 : Int))) aNil))) (aCons (eVar 7) aNil))))) sNil))
def B__law_due : SF := (sSeq (sSet 1 (eC (.int (1 : Int)))) (sSeq (sSet 2 (eC (.int (1 : Int)))) (sSeq (sFor (iAny (eVar 0)) (bName 3) L1__law_due) (sSeq (sIf (tOf (eOp pGt (aCons (eVar 1) (aCons (eC (.int (5000 : Int))) aNil)))) (sRet (eOp pTup (aCons (eC (.str ("large" : Str))) (aCons (eC (.str ("lines" : Str))) (aCons (eC (.int (5000 : Int))) aNil))))) sNil) (sSeq (sSet 4 (eOp pSplit (aConsT PV.isStr (eVar 0) (aCons (eC (.str ("\n" : Str))) aNil)))) (sSeq (sSet 5 (eOp pLst aNil)) (sSeq (sFor (iRange rngA1 (aCons (eOp pLen (aCons (eVar 4) aNil)) aNil)) (bName 6) L2__law_due) (sRet (eOp pTup (aCons (eC (.str ("rows" : Str))) (aCons (eFrzV 5) aNil)))))))))))
def F__law_due : FF := fnF [0] 8 B__law_due
theorem sv__law_due (hy : Hy g) : SVs g ⟨N__law_due, defScope (top 15), 1, pnOf [0], false, false, none⟩ (defBody (top 15)) B__law_due := (svs_cons (sv_set (i := 1) rfl rfl (by decide) rfl ev_int) (svs_cons (sv_set (i := 2) rfl rfl (by decide) rfl ev_int) (svs_cons (sv_for rfl rfl (iv_any (ev_var (i := 0) rfl (.inl rfl) rfl rfl)) (gv_name (i := 3) rfl rfl) (by decide) (svs_cons (sv_if (tv_eq rfl (ev_var (i := 3) rfl (.inl rfl) rfl rfl) ev_str) (svs_one (sv_ret (ev_tup (av_cons rfl ev_str (av_cons rfl (ev_var (i := 1) rfl (.inl rfl) rfl rfl) (av_cons rfl (ev_var (i := 2) rfl (.inl rfl) rfl rfl) av_nil)))))) svs_nil) (svs_cons (sv_set (i := 2) rfl rfl (by decide) rfl (ev_add (ev_var (i := 2) rfl (.inl rfl) rfl rfl) ev_int)) (svs_one (sv_if (tv_eq rfl (ev_var (i := 3) rfl (.inl rfl) rfl rfl) ev_str) (svs_cons (sv_set (i := 1) rfl rfl (by decide) rfl (ev_add (ev_var (i := 1) rfl (.inl rfl) rfl rfl) ev_int)) (svs_one (sv_set (i := 2) rfl rfl (by decide) rfl ev_int))) svs_nil))))) (svs_cons (sv_if (tv_gt rfl (ev_var (i := 1) rfl (.inl rfl) rfl rfl) ev_int) (svs_one (sv_ret (ev_tup (av_cons rfl ev_str (av_cons rfl ev_str (av_cons rfl ev_int av_nil)))))) svs_nil) (svs_cons (sv_set (i := 4) rfl rfl (by decide) rfl (ev_split rfl rfl rfl (ev_var (i := 0) rfl (.inl rfl) rfl rfl) (av_cons rfl ev_str av_nil))) (svs_cons (sv_set (i := 5) rfl rfl (by decide) rfl (ev_lst av_nil)) (svs_cons (sv_for rfl rfl (iv_rng1 rfl ⟨rfl, rfl⟩ hy.m_range (av_cons rfl (ev_len rfl (av_cons rfl (ev_var (i := 4) rfl (.inl rfl) rfl rfl) av_nil) ⟨rfl, rfl⟩ hy.m_len) av_nil)) (gv_name (i := 6) rfl rfl) (by decide) (svs_cons (sv_set (i := 7) rfl rfl (by decide) rfl (ev_call (ca__law_words hy) ⟨rfl, rfl⟩ (by first | exact Nat.le_refl _ | decide | (show _ ≤ _; omega)) rfl (am_cons rfl (ev_ix rfl (ev_var (i := 4) rfl (.inl rfl) rfl rfl) (ev_var (i := 6) rfl (.inl rfl) rfl rfl)) am_nil) rfl)) (svs_one (sv_if (tv_gt rfl (ev_len rfl (av_cons rfl (ev_var (i := 7) rfl (.inl rfl) rfl rfl) av_nil) ⟨rfl, rfl⟩ hy.m_len) ev_int) (svs_one (sv_expr rfl (ev_append (i := 5) rfl (.inl rfl) rfl rfl rfl rfl (ev_tup (av_cons rfl (ev_add (ev_var (i := 6) rfl (.inl rfl) rfl rfl) ev_int) (av_cons rfl (ev_var (i := 7) rfl (.inl rfl) rfl rfl) av_nil)))))) svs_nil)))) (svs_one (sv_ret (ev_tup (av_cons rfl ev_str (av_cons rfl (ev_frz (i := 5) rfl (.inl rfl) rfl rfl) av_nil))))))))))))
theorem ca__law_due (hy : Hy g) : Callee g ("_law_due" : Str) [0] F__law_due 2 := ⟨rfl, by
  obtain ⟨a, fd, hm, F⟩ := hy.d__law_due
  exact ⟨a, fd, [("text" : Str)], hm, F.kp, F.bindsN (fun _ _ _ _ _ _ us hl => match us, hl with | [_], _ => rfl), fn_ok (N := N__law_due) F ⟨rfl, rfl, rfl, by decide +kernel, rfl, by decide +kernel, by decide +kernel⟩ rfl (sv__law_due hy)⟩⟩
/-! ### _law_told -/
abbrev N__law_told : List Str := [("text" : Str), ("e" : Str)]
def B__law_told : SF := (sTry (sRet (eOp pTup (aCons (eC (.str ("rows" : Str))) (aCons (eFrz (eCall [0] [none] F_split_lines (aCons (eVar 0) aNil))) aNil)))) [⟨[("BadSign" : Str)], [("TooLarge" : Str)], some 1, fun a_ d_ c_ => (sRet (eOp pTup (aCons (eC (.str ("sign" : Str))) (aCons (eXf a_ d_ c_ ("line" : Str) 1) (aCons (eXf a_ d_ c_ ("column" : Str) 1) aNil)))))⟩, ⟨[("TooLarge" : Str)], [("BadSign" : Str)], some 1, fun a_ d_ c_ => (sRet (eOp pTup (aCons (eC (.str ("large" : Str))) (aCons (eXf a_ d_ c_ ("what" : Str) 1) (aCons (eXf a_ d_ c_ ("limit" : Str) 1) aNil)))))⟩])
def F__law_told : FF := fnF [0] 2 B__law_told
theorem sv__law_told (hy : Hy g) : SVs g ⟨N__law_told, defScope (top 16), 4, pnOf [0], false, false, none⟩ (defBody (top 16)) B__law_told := (svs_one (sv_try (svs_one (sv_ret (ev_tup (av_cons rfl ev_str (av_cons rfl (ev_frzT (ev_call (ca_split_lines hy) ⟨rfl, rfl⟩ (by first | exact Nat.le_refl _ | decide | (show _ ≤ _; omega)) rfl (am_cons rfl (ev_var (i := 0) rfl (.inl rfl) rfl rfl) am_nil) rfl)) av_nil))))) rfl rfl (.named (i := 1) (hy.n_BadSign rfl rfl) (hy.e1_BadSign) (hy.e0_BadSign) rfl rfl (by decide) (fun a_ d_ c_ hc_ => (svs_one (sv_ret (ev_tup (av_cons rfl ev_str (av_cons rfl (ev_xf (i := 1) (hy.xf_BadSign_line c_ hc_) rfl rfl (.inl rfl) rfl rfl) (av_cons rfl (ev_xf (i := 1) (hy.xf_BadSign_column c_ hc_) rfl rfl (.inl rfl) rfl rfl) av_nil))))))) (.named (i := 1) (hy.n_TooLarge rfl rfl) (hy.e1_TooLarge) (hy.e0_TooLarge) rfl rfl (by decide) (fun a_ d_ c_ hc_ => (svs_one (sv_ret (ev_tup (av_cons rfl ev_str (av_cons rfl (ev_xf (i := 1) (hy.xf_TooLarge_what c_ hc_) rfl rfl (.inl rfl) rfl rfl) (av_cons rfl (ev_xf (i := 1) (hy.xf_TooLarge_limit c_ hc_) rfl rfl (.inl rfl) rfl rfl) av_nil))))))) .nil))))
theorem ca__law_told (hy : Hy g) : Callee g ("_law_told" : Str) [0] F__law_told 5 := ⟨rfl, by
  obtain ⟨a, fd, hm, F⟩ := hy.d__law_told
  exact ⟨a, fd, [("text" : Str)], hm, F.kp, F.bindsN (fun _ _ _ _ _ _ us hl => match us, hl with | [_], _ => rfl), fn_ok (N := N__law_told) F ⟨rfl, rfl, rfl, by decide +kernel, rfl, by decide +kernel, by decide +kernel⟩ rfl (sv__law_told hy)⟩⟩
/-! ### law -/
abbrev N_law : List Str := [("script" : Str), ("numbers" : Str), ("text" : Str), ("mode" : Str), ("missing" : Str), ("plain" : Str), ("number" : Str)]
def B_law : SF := (sSeq (sSet 1 (eCall [0, 0] [none, none] F__law_stream (aCons (eVar 0) (aCons (eC (.int (61 : Int))) aNil)))) (sSeq (sSet 2 (eOp pJoin (aConsT PV.isStr (eC (.str ("" : Str))) (aCons (eLc [6] (iAny (eOp (pSlc true false) (aCons (eVar 1) (aConsT PV.isInt (eC (.int (1 : Int))) aNil)))) (bName 6) tsTrue (eCall [0] [none] F__law_piece (aCons (eVar 6) aNil))) aNil)))) (sSeq (sSet 3 (eOp pMod (aCons (eOp pInt (aCons (eOp pIx (aCons (eVar 1) (aCons (eC (.int (0 : Int))) aNil))) aNil)) (aCons (eC (.int (8 : Int))) aNil)))) (sSeq (sSet 4 (eOp pSub (aCons (eC (.int (5000 : Int))) (aCons (eOp pLen (aCons (eOp pSplit (aConsT PV.isStr (eVar 2) (aCons (eC (.str ("\n" : Str))) aNil))) aNil)) aNil)))) (sSeq (sIf (tOf (eOp pEq (aCons (eVar 3) (aCons (eC (.int (1 : Int))) aNil)))) (sSet 2 (eOp pAdd (aCons (eVar 2) (aCons (eOp pMul (aCons (eC (.str ("\n" : Str))) (aCons (eVar 4) aNil))) aNil)))) sNil) (sSeq (sIf (tOf (eOp pEq (aCons (eVar 3) (aCons (eC (.int (2 : Int))) aNil)))) (sSet 2 (eOp pAdd (aCons (eVar 2) (aCons (eOp pMul (aCons (eC (.str ("\n" : Str))) (aCons (eOp pAdd (aCons (eVar 4) (aCons (eC (.int (1 : Int))) aNil))) aNil))) aNil)))) sNil) (sSeq (sIf (tNotF (tOf (eCall [0, 0] [none, none] (F__law_same 8) (aCons (eCall [0] [none] F__law_told (aCons (eVar 2) aNil)) (aCons (eCall [0] [none] F__law_due (aCons (eVar 2) aNil)) aNil))))) (sRet (eC (.bl false))) sNil) (sSeq (sSet 5 (eOp (pRepl ("\t" : Str) (" " : Str)) (aConsT PV.isStr (eVar 2) aNil))) (sRet (eCall [0, 0] [none, none] (F__law_same 8) (aCons (eCall [0] [none] F__law_told (aCons (eVar 5) aNil)) (aCons (eCall [0] [none] F__law_due (aCons (eVar 5) aNil)) aNil))))))))))))
def F_law : FF := fnF [0] 7 B_law
theorem sv_law (hy : Hy g) : SVs g ⟨N_law, defScope (top 17), 9, pnOf [0], false, false, none⟩ (defBody (top 17)) B_law := (svs_cons (sv_set (i := 1) rfl rfl (by decide) rfl (ev_call (ca__law_stream hy) ⟨rfl, rfl⟩ (by first | exact Nat.le_refl _ | decide | (show _ ≤ _; omega)) rfl (am_cons rfl (ev_var (i := 0) rfl (.inl rfl) rfl rfl) (am_cons rfl ev_int am_nil)) rfl)) (svs_cons (sv_set (i := 2) rfl rfl (by decide) rfl (ev_join rfl rfl rfl ev_str (av_cons rfl (ev_lc (own := [(("number" : Str), 6)]) (sl := [6]) rfl rfl rfl (by decide) (iv_any (ev_sl10 (ev_var (i := 1) rfl (.inl rfl) rfl rfl) ev_int)) (gv_name (i := 6) rfl rfl) .nil (ev_call (ca__law_piece hy) ⟨rfl, rfl⟩ (by first | exact Nat.le_refl _ | decide | (show _ ≤ _; omega)) rfl (am_cons rfl (ev_var (i := 6) rfl (.inl rfl) rfl rfl) am_nil) rfl)) av_nil))) (svs_modC (i := 3) rfl rfl (by decide) (ev_intc rfl (av_cons rfl (ev_ix rfl (ev_var (i := 1) rfl (.inl rfl) rfl rfl) ev_int) av_nil) ⟨rfl, rfl⟩ hy.m_int) (svst_cons (svt_of (sv_set (i := 4) rfl rfl (by decide) rfl (ev_sub ev_int (ev_len rfl (av_cons rfl (ev_split rfl rfl rfl (ev_var (i := 2) rfl (.inl rfl) rfl rfl) (av_cons rfl ev_str av_nil)) av_nil) ⟨rfl, rfl⟩ hy.m_len)))) (svst_cons (svt_of (sv_if (tv_eq rfl (ev_var (i := 3) rfl (.inl rfl) rfl rfl) ev_int) (svs_one (sv_set (i := 2) rfl rfl (by decide) rfl (ev_add (ev_var (i := 2) rfl (.inl rfl) rfl rfl) (ev_mul ev_str (ev_var (i := 4) rfl (.inl rfl) rfl rfl))))) svs_nil)) (svst_cons (svt_of (sv_if (tv_eq rfl (ev_var (i := 3) rfl (.inl rfl) rfl rfl) ev_int) (svs_one (sv_set (i := 2) rfl rfl (by decide) rfl (ev_add (ev_var (i := 2) rfl (.inl rfl) rfl rfl) (ev_mul ev_str (ev_add (ev_var (i := 4) rfl (.inl rfl) rfl rfl) ev_int))))) svs_nil)) (svst_cons (svt_of (sv_if (tv_not (tv_plain (ev_call (ca__law_same hy 8) ⟨rfl, rfl⟩ (by first | exact Nat.le_refl _ | decide | (show _ ≤ _; omega)) rfl (am_cons rfl (ev_call (ca__law_told hy) ⟨rfl, rfl⟩ (by first | exact Nat.le_refl _ | decide | (show _ ≤ _; omega)) rfl (am_cons rfl (ev_var (i := 2) rfl (.inl rfl) rfl rfl) am_nil) rfl) (am_cons rfl (ev_call (ca__law_due hy) ⟨rfl, rfl⟩ (by first | exact Nat.le_refl _ | decide | (show _ ≤ _; omega)) rfl (am_cons rfl (ev_var (i := 2) rfl (.inl rfl) rfl rfl) am_nil) rfl) am_nil)) rfl) rfl)) (svs_one (sv_ret ev_bl)) svs_nil)) (svst_cons (svt_set (i := 5) rfl rfl (by decide) rfl (evt_repl (by decide) rfl rfl (ev_var (i := 2) rfl (.inl rfl) rfl rfl))) (svst_one (svt_of (sv_ret (ev_call (ca__law_same hy 8) ⟨rfl, rfl⟩ (by first | exact Nat.le_refl _ | decide | (show _ ≤ _; omega)) rfl (am_cons rfl (ev_call (ca__law_told hy) ⟨rfl, rfl⟩ (by first | exact Nat.le_refl _ | decide | (show _ ≤ _; omega)) rfl (am_cons rfl (ev_var (i := 5) rfl (.inl rfl) rfl rfl) am_nil) rfl) (am_cons rfl (ev_call (ca__law_due hy) ⟨rfl, rfl⟩ (by first | exact Nat.le_refl _ | decide | (show _ ≤ _; omega)) rfl (am_cons rfl (ev_var (i := 5) rfl (.inl rfl) rfl rfl) am_nil) rfl) am_nil)) rfl))))))))))))
theorem ca_law (hy : Hy g) : Callee g ("law" : Str) [0] F_law 10 := ⟨rfl, by
  obtain ⟨a, fd, hm, F⟩ := hy.d_law
  exact ⟨a, fd, [("script" : Str)], hm, F.kp, F.bindsN (fun _ _ _ _ _ _ us hl => match us, hl with | [_], _ => rfl), fn_ok (N := N_law) F ⟨rfl, rfl, rfl, by decide +kernel, rfl, by decide +kernel, by decide +kernel⟩ rfl (sv_law hy)⟩⟩
end
/-! ### the head -/
def dfs : List He.DefD := [
  ⟨(("check_signs" : Str), none), ("check_signs" : Str), ("check_signs" : Str), defArgs (top 7), defBody (top 7), defScope (top 7), [], []⟩,
  ⟨(("words_of" : Str), none), ("words_of" : Str), ("words_of" : Str), defArgs (top 8), defBody (top 8), defScope (top 8), [], []⟩,
  ⟨(("split_lines" : Str), none), ("split_lines" : Str), ("split_lines" : Str), defArgs (top 9), defBody (top 9), defScope (top 9), [], []⟩,
  ⟨(("_law_stream" : Str), none), ("_law_stream" : Str), ("_law_stream" : Str), defArgs (top 11), defBody (top 11), defScope (top 11), [], []⟩,
  ⟨(("_law_same" : Str), none), ("_law_same" : Str), ("_law_same" : Str), defArgs (top 12), defBody (top 12), defScope (top 12), [], []⟩,
  ⟨(("_law_piece" : Str), none), ("_law_piece" : Str), ("_law_piece" : Str), defArgs (top 13), defBody (top 13), defScope (top 13), [], []⟩,
  ⟨(("_law_words" : Str), none), ("_law_words" : Str), ("_law_words" : Str), defArgs (top 14), defBody (top 14), defScope (top 14), [], []⟩,
  ⟨(("_law_due" : Str), none), ("_law_due" : Str), ("_law_due" : Str), defArgs (top 15), defBody (top 15), defScope (top 15), [], []⟩,
  ⟨(("_law_told" : Str), none), ("_law_told" : Str), ("_law_told" : Str), defArgs (top 16), defBody (top 16), defScope (top 16), [], []⟩,
  ⟨(("law" : Str), none), ("law" : Str), ("law" : Str), defArgs (top 17), defBody (top 17), defScope (top 17), [], []⟩,
  ⟨(("BadSign" : Str), some "__init__"), "__init__", ("BadSign.__init__" : Str), defArgs (inClass (top 3) 0), defBody (inClass (top 3) 0), defScope (inClass (top 3) 0), [], []⟩,
  ⟨(("TooLarge" : Str), some "__init__"), "__init__", ("TooLarge.__init__" : Str), defArgs (inClass (top 2) 0), defBody (inClass (top 2) 0), defScope (inClass (top 2) 0), [], []⟩]
def facts : List He.Fa := [.str ("ALLOWED" : Str) (" !\"#$&'()*+,-./0123456789:;<=>?@ABCDEFGHIJKLMNOPQRSTUVWXYZ[\\]^_`abcdefghijklmnopqrstuvwxyz{|}~" : Str), .int ("MOST_LINES" : Str) (5000 : Int), .free ("abs" : Str), .free ("bool" : Str), .free ("int" : Str), .free ("isinstance" : Str), .free ("len" : Str), .free ("list" : Str), .free ("range" : Str), .free ("str" : Str), .free ("tuple" : Str), .glo ("check_signs" : Str), .glo ("words_of" : Str), .glo ("split_lines" : Str), .glo ("_law_stream" : Str), .glo ("_law_same" : Str), .glo ("_law_piece" : Str), .glo ("_law_words" : Str), .glo ("_law_due" : Str), .glo ("_law_told" : Str), .glo ("law" : Str), .noat ("BadSign" : Str) ("line" : Str), .noat ("BadSign" : Str) ("column" : Str), .glo ("BadSign" : Str), .noat ("TooLarge" : Str) ("what" : Str), .noat ("TooLarge" : Str) ("limit" : Str), .glo ("TooLarge" : Str), .exm ("BadSign" : Str) ("BadSign" : Str) true, .exm ("TooLarge" : Str) ("BadSign" : Str) false, .exm ("TooLarge" : Str) ("TooLarge" : Str) true, .exm ("BadSign" : Str) ("TooLarge" : Str) false]
def exs : List (PySem.W.Frag → Bool) := [iniB ("BadSign" : Str), fun K => oexB K (He.ga K ("BadSign" : Str)), iniB ("TooLarge" : Str), fun K => oexB K (He.ga K ("TooLarge" : Str)), fun K => xfB K (He.ga K ("BadSign" : Str)), fun K => xfB K (He.ga K ("TooLarge" : Str))]
theorem hy_of {P : Program} {w : World} {K : PySem.W.Frag} {h : Heap} {mg : Str → Option Value} (X : K.In h) (G : h.Ns mainGlobals mg) (c : He.SaysX facts dfs [] [] (exAll exs) w h K) (base : Heap) : Hy (mkG P w K mg base) where
  c_ALLOWED := by obtain ⟨t, e⟩ := He.str_ok X G (c.t.d.fact 0 rfl); exact GC.str e
  c_MOST_LINES := by obtain ⟨t, e⟩ := He.int_ok X G (c.t.d.fact 1 rfl); exact GC.int e
  m_abs := He.free_ok X G (c.t.d.fact 2 rfl)
  m_bool := He.free_ok X G (c.t.d.fact 3 rfl)
  m_int := He.free_ok X G (c.t.d.fact 4 rfl)
  m_isinstance := He.free_ok X G (c.t.d.fact 5 rfl)
  m_len := He.free_ok X G (c.t.d.fact 6 rfl)
  m_list := He.free_ok X G (c.t.d.fact 7 rfl)
  m_range := He.free_ok X G (c.t.d.fact 8 rfl)
  m_str := He.free_ok X G (c.t.d.fact 9 rfl)
  m_tuple := He.free_ok X G (c.t.d.fact 10 rfl)
  d_check_signs := by obtain ⟨fd, F⟩ := c.t.d.def_ 0 rfl; exact ⟨_, fd, He.glo_ok X G (c.t.d.fact 11 rfl), F⟩
  d_words_of := by obtain ⟨fd, F⟩ := c.t.d.def_ 1 rfl; exact ⟨_, fd, He.glo_ok X G (c.t.d.fact 12 rfl), F⟩
  d_split_lines := by obtain ⟨fd, F⟩ := c.t.d.def_ 2 rfl; exact ⟨_, fd, He.glo_ok X G (c.t.d.fact 13 rfl), F⟩
  d__law_stream := by obtain ⟨fd, F⟩ := c.t.d.def_ 3 rfl; exact ⟨_, fd, He.glo_ok X G (c.t.d.fact 14 rfl), F⟩
  d__law_same := by obtain ⟨fd, F⟩ := c.t.d.def_ 4 rfl; exact ⟨_, fd, He.glo_ok X G (c.t.d.fact 15 rfl), F⟩
  d__law_piece := by obtain ⟨fd, F⟩ := c.t.d.def_ 5 rfl; exact ⟨_, fd, He.glo_ok X G (c.t.d.fact 16 rfl), F⟩
  d__law_words := by obtain ⟨fd, F⟩ := c.t.d.def_ 6 rfl; exact ⟨_, fd, He.glo_ok X G (c.t.d.fact 17 rfl), F⟩
  d__law_due := by obtain ⟨fd, F⟩ := c.t.d.def_ 7 rfl; exact ⟨_, fd, He.glo_ok X G (c.t.d.fact 18 rfl), F⟩
  d__law_told := by obtain ⟨fd, F⟩ := c.t.d.def_ 8 rfl; exact ⟨_, fd, He.glo_ok X G (c.t.d.fact 19 rfl), F⟩
  d_law := by obtain ⟨fd, F⟩ := c.t.d.def_ 9 rfl; exact ⟨_, fd, He.glo_ok X G (c.t.d.fact 20 rfl), F⟩
  x_BadSign := by
    obtain ⟨fd, F⟩ := c.t.d.def_ 10 rfl
    have ii := iniB_ok (C := ("BadSign" : Str)) (exAll_at c.more 0 rfl)
    exact exk2 ⟨oexB_ok (exAll_at c.more 1 rfl), He.glo_ok X G (c.t.d.fact 23 rfl), rfl⟩ F ⟨rfl, rfl, rfl, by decide +kernel, rfl, by decide +kernel, by decide +kernel⟩ rfl rfl rfl rfl (F.bindsN (fun _ _ _ _ _ _ us hl => match us, hl with | [_, _, _], _ => rfl)) ii.1 ii.2 (He.noat_ok (c.t.d.fact 21 rfl)) (He.noat_ok (c.t.d.fact 22 rfl))
  x_TooLarge := by
    obtain ⟨fd, F⟩ := c.t.d.def_ 11 rfl
    have ii := iniB_ok (C := ("TooLarge" : Str)) (exAll_at c.more 2 rfl)
    exact exk2 ⟨oexB_ok (exAll_at c.more 3 rfl), He.glo_ok X G (c.t.d.fact 26 rfl), rfl⟩ F ⟨rfl, rfl, rfl, by decide +kernel, rfl, by decide +kernel, by decide +kernel⟩ rfl rfl rfl rfl (F.bindsN (fun _ _ _ _ _ _ us hl => match us, hl with | [_, _, _], _ => rfl)) ii.1 ii.2 (He.noat_ok (c.t.d.fact 24 rfl)) (He.noat_ok (c.t.d.fact 25 rfl))
  k_BadSign := He.glo_ok X G (c.t.d.fact 23 rfl)
  e1_BadSign := fun x h => by
    unfold cs_BadSign at h
    simp only [List.mem_cons, List.not_mem_nil, or_false] at h
    subst h
    exact He.exm_ok (c.t.d.fact 27 rfl)
  e0_BadSign := fun x h => by
    unfold ns_BadSign at h
    simp only [List.mem_cons, List.not_mem_nil, or_false] at h
    subst h
    exact He.exm_ok (c.t.d.fact 28 rfl)
  k_TooLarge := He.glo_ok X G (c.t.d.fact 26 rfl)
  e1_TooLarge := fun x h => by
    unfold cs_TooLarge at h
    simp only [List.mem_cons, List.not_mem_nil, or_false] at h
    subst h
    exact He.exm_ok (c.t.d.fact 29 rfl)
  e0_TooLarge := fun x h => by
    unfold ns_TooLarge at h
    simp only [List.mem_cons, List.not_mem_nil, or_false] at h
    subst h
    exact He.exm_ok (c.t.d.fact 30 rfl)
  xf_BadSign_column := fun x h => by
    unfold cs_BadSign at h
    simp only [List.mem_cons, List.not_mem_nil, or_false] at h
    subst h
    exact ⟨xfB_ok (exAll_at c.more 4 rfl), He.noat_ok (c.t.d.fact 22 rfl)⟩
  xf_BadSign_line := fun x h => by
    unfold cs_BadSign at h
    simp only [List.mem_cons, List.not_mem_nil, or_false] at h
    subst h
    exact ⟨xfB_ok (exAll_at c.more 4 rfl), He.noat_ok (c.t.d.fact 21 rfl)⟩
  xf_TooLarge_limit := fun x h => by
    unfold cs_TooLarge at h
    simp only [List.mem_cons, List.not_mem_nil, or_false] at h
    subst h
    exact ⟨xfB_ok (exAll_at c.more 5 rfl), He.noat_ok (c.t.d.fact 25 rfl)⟩
  xf_TooLarge_what := fun x h => by
    unfold cs_TooLarge at h
    simp only [List.mem_cons, List.not_mem_nil, or_false] at h
    subst h
    exact ⟨xfB_ok (exAll_at c.more 5 rfl), He.noat_ok (c.t.d.fact 24 rfl)⟩
abbrev R : PySem.W.OpenRow := PySem.W.OpenLaw.row PySem.Challenge.rw_millbench_k09_lines_and_words
abbrev hk : PySem.W.Hook := He.hookX 5 facts dfs [] [] (exAll exs)
def ob (s : PySem.W.SharedT) : He.AlX := He.obsX 5 facts dfs [] [] (exAll exs) (HandSHeadRun.getT s)
theorem ob_eq (s : PySem.W.SharedT) : ob s = hk.obs s.abs := He.obsX_eq (HandSHeadRun.getT_eq s)
abbrev view : Program := PySem.W.view R.prog [17]
theorem run (w : World) : HandSHeadRun.RunEq R view hk ob 2000 [("check_signs" : Str), ("words_of" : Str), ("split_lines" : Str), ("_law_stream" : Str), ("_law_same" : Str), ("_law_piece" : Str), ("_law_words" : Str), ("_law_due" : Str), ("_law_told" : Str), ("ALLOWED" : Str), ("MOST_LINES" : Str), ("MillError" : Str), ("TooLarge" : Str), ("BadSign" : Str)] w := by
  intro os
  kernel_rfl
end K09
open PySem PySem.W PySem.Calls PyProof.Rows in
theorem K09.holds_of (true_ : ∀ ns : List Int, ns.length ≤ 63 → Pv.Bits ns → ∃ outs, outs.length = 1 ∧ K09.F_law [.clst (Pv.pvInts ns)] = .ok 0 (.bl true) outs) : PySem.Challenge.rw_millbench_k09_lines_and_words.Holds := by
  w_on; o_law
  refine HandSHeadRun.head_any (r := OpenLaw.row PySem.Challenge.rw_millbench_k09_lines_and_words) (q := K09.view) (H := K09.hk) (ob := K09.ob) (M := 2000) (loose := [("check_signs" : PySem.Str), ("words_of" : PySem.Str), ("split_lines" : PySem.Str), ("_law_stream" : PySem.Str), ("_law_same" : PySem.Str), ("_law_piece" : PySem.Str), ("_law_words" : PySem.Str), ("_law_due" : PySem.Str), ("_law_told" : PySem.Str), ("ALLOWED" : PySem.Str), ("MOST_LINES" : PySem.Str), ("MillError" : PySem.Str), ("TooLarge" : PySem.Str), ("BadSign" : PySem.Str)]) (d := HandSHeadRun.topDef (OpenLaw.row PySem.Challenge.rw_millbench_k09_lines_and_words).prog 17) (kwd := []) K09.ob_eq
    (by kernel_rfl) (fun s => by kernel_rfl) K09.run (by kernel_rfl) (by kernel_rfl) (by kernel_rfl) (by rfl) (by first | assumption | decide +kernel) (by decide +kernel) ⟨rfl, rfl, rfl, rfl, rfl, by decide +kernel⟩ ?hw ?hc
  case hw => w_witness2
  case hc =>
    refine Pv.walk_end (l := PySem.Challenge.rw_millbench_k09_lines_and_words) (n := 63) (k := 10) (x := "script") rfl (by decide) (by kernel_rfl) ⟨rfl, by decide, by decide⟩ ?_
    intro w mg fa h Y G hmg
    obtain ⟨K, KX, c⟩ := Y
    have e0 : (HandSHeadRun.topDef (OpenLaw.row PySem.Challenge.rw_millbench_k09_lines_and_words).prog 17).name = ("law" : PySem.Str) := by kernel_rfl
    rw [e0] at hmg
    obtain ⟨fd, F⟩ := c.t.d.def_ 9 rfl
    have e := hmg.symm.trans (He.glo_ok KX G (c.t.d.fact 20 rfl))
    cases e
    exact ⟨K, fd, Pv.spF (Pv.mkG (PySem.Challenge.rw_millbench_k09_lines_and_words).prog w K mg h) [0] K09.F_law, KX, fun s v => L2.FunD.bindsA (ps := ["script"]) F (fun _ _ _ _ _ _ us hl => match us, hl with | [_], _ => rfl) s [v] rfl, fun H a ns hl hb hS => Pv.sp_law hS (true_ ns hl hb), fun base => Pv.fn_ok (g := Pv.mkG _ w K mg base) (N := K09.N_law) F ⟨rfl, rfl, rfl, by decide +kernel, rfl, by decide +kernel, by decide +kernel⟩ rfl (K09.sv_law (K09.hy_of KX G c base))⟩

set_option maxRecDepth 100000
set_option maxHeartbeats 4000000
namespace K09
open PySem PySem.Spec PyProof.Rows L2 Pv TL
/-! # the plain law -/
def wordsL (row : List Nat) : List (List Nat) := (sp 32 [] (row.takeWhile fun c => !decide (c = 35))).filter fun w => !decide (w = [])
def pw (ws : List (List Nat)) : List PV := ws.map (PV.str ∘ mkS)
@[simp] theorem pw_def {ws : List (List Nat)} : ws.map (PV.str ∘ mkS) = pw ws := rfl
theorem tl_sp : tl (" " : Str) = [32] := by decide
theorem tl_hash : tl ("#" : Str) = [35] := by decide
theorem tl_nl : tl ("\n" : Str) = [10] := by decide
theorem tl_tab : tl ("\t" : Str) = [9] := by decide
theorem tl_em : tl ("" : Str) = [] := by decide
theorem s_sp : (" " : Str) = mkS [32] := ext_tl tl_sp
theorem s_hash : ("#" : Str) = mkS [35] := ext_tl tl_hash
theorem s_nl : ("\n" : Str) = mkS [10] := ext_tl tl_nl
theorem s_tab : ("\t" : Str) = mkS [9] := ext_tl tl_tab
theorem s_em : ("" : Str) = mkS [] := ext_tl tl_em
theorem words_of_ok {l : List Nat} (h : l.length + 2 ≤ 16777216) : F_words_of [.str (mkS l)] = .ok 0 (.tup (pw (wordsL l))) [.str (mkS l)] := by
  have e1 : (Txt.partition (mkS l) ("#" : Str)).1 = mkS (l.takeWhile fun c => !decide (c = 35)) := part_tw tl_hash
  have e2 : Txt.split (mkS (l.takeWhile fun c => !decide (c = 35))) (" " : Str) = (sp 32 [] (l.takeWhile fun c => !decide (c = 35))).map mkS := split_sp tl_sp (by decide)
  have hl : (l.takeWhile fun c => !decide (c = 35)).length ≤ l.length := (List.takeWhile_sublist _).length_le
  have hc := sp_len (s := 32) (l.takeWhile fun c => !decide (c = 35)) []
  have hc2 := List.count_le_length (a := 32) (l := l.takeWhile fun c => !decide (c = 35))
  have lc := lcLoop_sel (own := [2]) (bf := bName 2) (t := tOf (eOp pNe (aCons (eVar 2) (aCons (eC (.str ("" : Str))) aNil)))) (f := eVar 2) (ρ := [some (0, .str (mkS l)), some (0, .str (mkS (l.takeWhile fun c => !decide (c = 35)))), none])
    (fun x => match x with | .str s => if s = mkS [] then none else some x | _ => none) (xs := pw (sp 32 [] (l.takeWhile fun c => !decide (c = 35)))) (fun x hx => by
      obtain ⟨w, hw, rfl⟩ := List.mem_map.mp hx
      by_cases hw0 : w = []
      · subst hw0
        refine ⟨_, [some (0, .str (mkS l)), some (0, .str (mkS (l.takeWhile fun c => !decide (c = 35)))), some (0, .str (mkS []))], false, rfl, ?_, ?_⟩
        · simp [s_em]
        · simp [wipeE]
      · refine ⟨_, [some (0, .str (mkS l)), some (0, .str (mkS (l.takeWhile fun c => !decide (c = 35)))), some (0, .str (mkS w))], true, rfl, ?_, ?_⟩
        · simp [s_em, mkS_inj, hw0]
        · have hne : ¬ mkS w = mkS [] := by simp [mkS_inj, hw0]
          simp only [Function.comp, if_neg hne]
          exact ⟨trivial, false, 0, _, rfl, rfl, rfl⟩)
  have ef : (pw (sp 32 [] (l.takeWhile fun c => !decide (c = 35)))).filterMap (fun x => match x with | .str s => if s = mkS [] then none else some x | _ => none) = pw (wordsL l) := by
    unfold pw wordsL
    rw [List.filterMap_map]
    generalize sp 32 [] (l.takeWhile fun c => !decide (c = 35)) = q
    induction q with
    | nil => rfl
    | cons w r ih =>
      by_cases hw0 : w = []
      · simp [List.filterMap_cons, hw0, mkS_inj] at ih ⊢
        exact ih
      · simp [List.filterMap_cons, hw0, mkS_inj] at ih ⊢
        exact ih
  rw [ef] at lc
  have bl : (pw (wordsL l)).length ≤ 16777216 := by
    unfold pw wordsL
    rw [List.length_map]
    have := List.length_filter_le (fun w => !decide (w = [])) (sp 32 [] (l.takeWhile fun c => !decide (c = 35)))
    omega
  unfold F_words_of fnF B_words_of
  simp [argsE, e1, show l.length ≤ 16777216 by omega, show ("#" : Str).length = 1 by decide, show (" " : Str).length = 1 by decide, eLc, e2, show (l.takeWhile fun c => !decide (c = 35)).length ≤ 16777214 by omega, freeS, wipeE, backE, lc, bl]
  done
@[simp] theorem pw_snoc {ws : List (List Nat)} {w : List Nat} : pw ws ++ [.str (mkS w)] = pw (ws ++ [w]) := by unfold pw; rw [List.map_append]; rfl
@[simp] theorem pw_len {ws : List (List Nat)} : (pw ws).length = ws.length := by unfold pw; rw [List.length_map]
theorem law_words_loop {t : Str} : ∀ (l : List Nat) (ws : List (List Nat)) (w : List Nat) (sg : Option (Nat × PV)), ws.length + l.length ≤ 16777000 → w.length + l.length ≤ 16777000 → ∃ ws' w' sg', forL (bName 3) L1__law_words (l.map fun c => .str (mkS [c])) [some (0, .str t), some (1, .lst (pw ws)), some (0, .str (mkS w)), sg] = .nx [some (0, .str t), some (1, .lst (pw ws')), some (0, .str (mkS w')), sg'] ∧
    (if w' = [] then ws' else ws' ++ [w']) = ws ++ (sp 32 w (l.takeWhile fun c => !decide (c = 35))).filter (fun w => !decide (w = [])) ∧ ws'.length ≤ 16777000 ∧ w'.length ≤ 16777000
  | [], ws, w, sg, h1, h2 => ⟨ws, w, sg, rfl, by by_cases hw : w = [] <;> simp [sp, hw], by simpa using h1, by simpa using h2⟩
  | c :: r, ws, w, sg, h1, h2 => by
    rw [List.length_cons] at h1 h2
    by_cases c1 : c = 35
    · subst c1
      refine ⟨ws, w, some (0, .str (mkS [35])), ?_, by by_cases hw : w = [] <;> simp [sp, hw], by omega, by omega⟩
      simp [forL, L1__law_words, s_hash, mkS_inj]
    · by_cases c2 : c = 32
      · subst c2
        by_cases hw : w = []
        · subst hw
          obtain ⟨ws', w', sg', e, e2, e3, e4⟩ := law_words_loop r ws [] (some (0, .str (mkS [32]))) (by omega) (by simp; omega)
          refine ⟨ws', w', sg', ?_, ?_, e3, e4⟩
          · rw [← e]
            simp [forL, L1__law_words, s_hash, s_sp, s_em, mkS_inj]
          · rw [e2]
            simp [sp]
        · obtain ⟨ws', w', sg', e, e2, e3, e4⟩ := law_words_loop r (ws ++ [w]) [] (some (0, .str (mkS [32]))) (by simp; omega) (by simp; omega)
          refine ⟨ws', w', sg', ?_, ?_, e3, e4⟩
          · rw [← e]
            simp [forL, L1__law_words, s_hash, s_sp, s_em, mkS_inj, hw, show ws.length < 16777216 by omega]
          · rw [e2]
            simp [sp, hw]
      · obtain ⟨ws', w', sg', e, e2, e3, e4⟩ := law_words_loop r ws (w ++ [c]) (some (0, .str (mkS [c]))) (by omega) (by simp; omega)
        refine ⟨ws', w', sg', ?_, ?_, e3, e4⟩
        · rw [← e]
          simp [forL, L1__law_words, s_hash, s_sp, s_em, mkS_inj, c1, c2, mkS_add, show w.length + 1 ≤ 16777216 by omega]
        · rw [e2, List.takeWhile_cons_of_pos (by simp [c1])]
          simp [sp, c2]
theorem law_words_ok {l : List Nat} (h : l.length ≤ 16777000) : F__law_words [.str (mkS l)] = .ok 0 (.tup (pw (wordsL l))) [.str (mkS l)] := by
  obtain ⟨ws', w', sg', e, e2, e3, e4⟩ := law_words_loop (t := mkS l) l [] [] none (by simpa using h) (by simpa using h)
  have e5 : (if w' = [] then ws' else ws' ++ [w']) = wordsL l := by rw [e2]; rfl
  have e' : forL (bName 3) L1__law_words (l.map fun c => .str (mkS [c])) [some (0, .str (mkS l)), some (1, .lst []), some (0, .str (mkS [])), none] = .nx [some (0, .str (mkS l)), some (1, .lst (pw ws')), some (0, .str (mkS w')), sg'] := e
  unfold F__law_words fnF B__law_words
  by_cases hw : w' = []
  · rw [if_pos hw] at e5
    simp [argsE, s_em, strIt_mk, e', mkS_inj, hw, e5]
  · rw [if_neg hw] at e5
    simp [argsE, s_em, strIt_mk, e', mkS_inj, hw, e5, show ws'.length < 16777216 by omega]
/-! ## the checks of signs -/
def alw : Str := " !\"#$&'()*+,-./0123456789:;<=>?@ABCDEFGHIJKLMNOPQRSTUVWXYZ[\\]^_`abcdefghijklmnopqrstuvwxyz{|}~"
def Ok (c : Nat) : Prop := c ∈ alw.cps
instance (c : Nat) : Decidable (Ok c) := inferInstanceAs (Decidable (c ∈ alw.cps))
theorem alw_eq : c_ALLOWED = .str alw := rfl
theorem ok_def {c : Nat} : (c ∈ alw.cps) = Ok c := rfl
def fb : Nat → List Nat → Option Nat
  | _, [] => none
  | i, c :: r => if Ok c then fb (i + 1) r else some i
def fr : Nat → List (List Nat) → Option (Nat × Nat)
  | _, [] => none
  | k, l :: r => match fb 0 l with
    | some j => some (k, j)
    | none => fr (k + 1) r
theorem rngL_cons {i n : Nat} : rngL (i : Int) (n + 1) 1 = .int (i : Int) :: rngL ((i + 1 : Nat) : Int) n 1 := by
  unfold rngL
  rw [List.range_succ_eq_map, List.map_cons, List.map_map]
  refine congr (congrArg List.cons (by simp)) (List.map_congr_left fun k _ => ?_)
  simp only [Function.comp]
  congr 1
  omega
theorem drop_next {α : Type} {l : List α} {i : Nat} {c : α} {r : List α} (h : l.drop i = c :: r) : l[i]? = some c ∧ l.drop (i + 1) = r ∧ i < l.length := by
  have hi : i < l.length := by
    rcases Nat.lt_or_ge i l.length with z | z
    · exact z
    · rw [List.drop_eq_nil_of_le z] at h; cases h
  rw [List.drop_eq_getElem_cons hi] at h
  cases h
  exact ⟨List.getElem?_eq_getElem hi, rfl, hi⟩
def exSign (k j : Nat) : List (Str × PV) := [("line", .int ((k : Int) + 1)), ("column", .int ((j : Int) + 1))]
theorem chk_row {R : PV} {k : Nat} {l : List Nat} (hl : l.length ≤ 16777000) : ∀ (r : List Nat) (i : Nat) (at_ : Option (Nat × PV)), l.drop i = r → ∃ at', forL (bName 3) L1_check_signs (rngL i r.length 1) [some (0, R), some (0, .int (k : Int)), some (0, .str (mkS l)), at_] =
    match fb i r with
    | none => .nx [some (0, R), some (0, .int (k : Int)), some (0, .str (mkS l)), at']
    | some j => .exc "BadSign" (exSign k j) [some (0, R), some (0, .int (k : Int)), some (0, .str (mkS l)), at']
  | [], i, at_, _ => ⟨at_, rfl⟩
  | c :: r, i, at_, h => by
    obtain ⟨h1, h2, h3⟩ := drop_next h
    rw [List.length_cons, rngL_cons]
    have hg : atI l (i : Int) = some c := by rw [atI_nat h3, h1]
    by_cases hc : Ok c
    · obtain ⟨at', e⟩ := chk_row hl r (i + 1) (some (0, .int (i : Int))) h2
      refine ⟨at', ?_⟩
      unfold fb
      rw [if_pos hc, ← e]
      simp [forL, L1_check_signs, alw_eq, hg, ok_def, hc, show l.length ≤ 16777216 by omega]
    · refine ⟨some (0, .int (i : Int)), ?_⟩
      unfold fb
      rw [if_neg hc]
      simp [forL, L1_check_signs, alw_eq, hg, ok_def, hc, show l.length ≤ 16777216 by omega, exSign]
theorem chk_rows {L : List (List Nat)} (hL : ∀ l ∈ L, l.length ≤ 16777000) (hn : L.length ≤ 16777000) : ∀ (r : List (List Nat)) (k : Nat) (a b c : Option (Nat × PV)), L.drop k = r → ∃ a' b' c', forL (bName 1) L2_check_signs (rngL k r.length 1) [some (0, .lst (pw L)), a, b, c] =
    match fr k r with
    | none => .nx [some (0, .lst (pw L)), a', b', c']
    | some (k, j) => .exc "BadSign" (exSign k j) [some (0, .lst (pw L)), a', b', c']
  | [], k, a, b, c, _ => ⟨a, b, c, rfl⟩
  | l :: r, k, a, b, c, h => by
    obtain ⟨h1, h2, h3⟩ := drop_next h
    rw [List.length_cons, rngL_cons]
    have hll : l.length ≤ 16777000 := hL l (List.mem_of_getElem? h1)
    have hg : atI (pw L) (k : Int) = some (.str (mkS l)) := by
      rw [atI_nat (by simpa using h3)]
      show ((L.map (PV.str ∘ mkS))[k]?) = _
      rw [List.getElem?_map, h1]
      rfl
    obtain ⟨at', e⟩ := chk_row (R := .lst (pw L)) (k := k) hll l 0 c rfl
    have e0 : rngL ((0 : Nat) : Int) l.length 1 = rngL 0 l.length 1 := rfl
    rw [e0] at e
    have hr := r62_nat (n := l.length) (by omega)
    unfold fr
    cases ef : fb 0 l with
    | none =>
      rw [ef] at e
      obtain ⟨a', b', c', e2⟩ := chk_rows hL hn r (k + 1) (some (0, .int (k : Int))) (some (0, .str (mkS l))) at' h2
      refine ⟨a', b', c', ?_⟩
      simp only []
      rw [← e2]
      simp [forL, L2_check_signs, hg, e, hr, show l.length ≤ 16777216 by omega]
    | some j =>
      rw [ef] at e
      refine ⟨some (0, .int (k : Int)), some (0, .str (mkS l)), at', ?_⟩
      simp [forL, L2_check_signs, hg, e, hr, show l.length ≤ 16777216 by omega]
theorem check_ok {L : List (List Nat)} (hL : ∀ l ∈ L, l.length ≤ 16777000) (hn : L.length ≤ 16777000) : F_check_signs [.lst (pw L)] = match fr 0 L with
    | none => .ok 0 .non [.lst (pw L)]
    | some (k, j) => .exc "BadSign" (exSign k j) [.lst (pw L)] := by
  obtain ⟨a', b', c', e⟩ := chk_rows hL hn L 0 none none none rfl
  have e0 : rngL ((0 : Nat) : Int) L.length 1 = rngL 0 L.length 1 := rfl
  rw [e0] at e
  unfold F_check_signs fnF B_check_signs
  have hr := r62_nat (n := L.length) (by omega)
  cases ef : fr 0 L with
  | none =>
    rw [ef] at e
    simp [argsE, e, hr]
  | some p =>
    rw [ef] at e
    simp [argsE, e, hr]
/-! ## the lines -/
def pairs : Nat → List (List Nat) → List PV
  | _, [] => []
  | k, r :: rs => if wordsL r = [] then pairs (k + 1) rs else .tup [.int ((k : Int) + 1), .tup (pw (wordsL r))] :: pairs (k + 1) rs
theorem pairs_len : ∀ (L : List (List Nat)) (k : Nat), (pairs k L).length ≤ L.length
  | [], _ => Nat.le_refl _
  | r :: rs, k => by
    unfold pairs
    have := pairs_len rs (k + 1)
    split <;> simp <;> omega
theorem lines_loop {t : PV} {L : List (List Nat)} (hL : ∀ l ∈ L, l.length ≤ 16777000) (hn : L.length ≤ 16777000) : ∀ (r : List (List Nat)) (k : Nat) (acc : List PV) (a b : Option (Nat × PV)), L.drop k = r → acc.length ≤ k → ∃ a' b', forL (bName 3) L1_split_lines (rngL k r.length 1) [some (0, t), some (0, .lst (pw L)), some (1, .lst acc), a, b] =
    .nx [some (0, t), some (0, .lst (pw L)), some (1, .lst (acc ++ pairs k r)), a', b']
  | [], k, acc, a, b, _, _ => ⟨a, b, by simp [rngL, forL, pairs]⟩
  | l :: r, k, acc, a, b, h, hk => by
    obtain ⟨h1, h2, h3⟩ := drop_next h
    rw [List.length_cons, rngL_cons]
    have hll : l.length ≤ 16777000 := hL l (List.mem_of_getElem? h1)
    have hg : atI (pw L) (k : Int) = some (.str (mkS l)) := by
      rw [atI_nat (by simpa using h3)]
      show ((L.map (PV.str ∘ mkS))[k]?) = _
      rw [List.getElem?_map, h1]
      rfl
    have hw := words_of_ok (l := l) (by omega)
    unfold pairs
    by_cases hw0 : wordsL l = []
    · obtain ⟨a', b', e⟩ := lines_loop (t := t) hL hn r (k + 1) acc (some (0, .int (k : Int))) (some (0, .tup (pw (wordsL l)))) h2 (by omega)
      refine ⟨a', b', ?_⟩
      rw [if_pos hw0, ← e]
      simp [forL, L1_split_lines, hg, hw, hw0]
    · obtain ⟨a', b', e⟩ := lines_loop (t := t) hL hn r (k + 1) (acc ++ [.tup [.int ((k : Int) + 1), .tup (pw (wordsL l))]]) (some (0, .int (k : Int))) (some (0, .tup (pw (wordsL l)))) h2 (by simp; omega)
      refine ⟨a', b', ?_⟩
      have hp : 0 < (wordsL l).length := List.length_pos_iff.mpr hw0
      rw [if_neg hw0]
      rw [List.append_assoc] at e
      refine Eq.trans ?_ e
      simp [forL, L1_split_lines, hg, hw, hp, show acc.length < 16777216 by omega]
def exLarge : List (Str × PV) := [("what", .str "lines"), ("limit", .int 5000)]
theorem rows_ok {l : List Nat} (h : l.length ≤ 16776990) : (∀ p ∈ sp 10 [] l, p.length ≤ 16777000) ∧ (sp 10 [] l).length ≤ 16777000 := by
  refine ⟨fun p hp => ?_, ?_⟩
  · have := sp_part_len l [] p hp
    simp at this
    omega
  · rw [sp_len]
    have := List.count_le_length (a := 10) (l := l)
    omega
theorem split_lines_ok {l : List Nat} (h : l.length ≤ 16776990) : F_split_lines [.str (mkS l)] = match fr 0 (sp 10 [] l) with
    | some (k, j) => .exc "BadSign" (exSign k j) [.str (mkS l)]
    | none => if 5000 < (sp 10 [] l).length then .exc "TooLarge" exLarge [.str (mkS l)] else .ok 1 (.lst (pairs 0 (sp 10 [] l))) [.str (mkS l)] := by
  obtain ⟨hL, hn⟩ := rows_ok h
  have e2 : Txt.split (mkS l) ("\n" : Str) = (sp 10 [] l).map mkS := split_sp tl_nl (by decide)
  have ck := check_ok hL hn
  obtain ⟨a', b', e⟩ := lines_loop (t := .str (mkS l)) hL hn (sp 10 [] l) 0 [] none none rfl (by simp)
  have e0 : rngL ((0 : Nat) : Int) (sp 10 [] l).length 1 = rngL 0 (sp 10 [] l).length 1 := rfl
  rw [e0, List.nil_append] at e
  have hr := r62_nat (n := (sp 10 [] l).length) (by omega)
  unfold F_split_lines fnF B_split_lines
  cases ef : fr 0 (sp 10 [] l) with
  | some p =>
    rw [ef] at ck
    simp [argsE, e2, ck, show ("\n" : Str).length = 1 by decide, show l.length ≤ 16777214 by omega]
  | none =>
    rw [ef] at ck
    by_cases c : 5000 < (sp 10 [] l).length
    · simp [argsE, e2, ck, show ("\n" : Str).length = 1 by decide, show l.length ≤ 16777214 by omega, c, show (5000 : Int) < ((sp 10 [] l).length : Int) by omega, c_MOST_LINES, exLarge]
    · simp [argsE, e2, ck, show ("\n" : Str).length = 1 by decide, show l.length ≤ 16777214 by omega, c, show ¬ (5000 : Int) < ((sp 10 [] l).length : Int) by omega, c_MOST_LINES, e, hr]
/-! ## the law's own answer -/
def scan : Nat → Nat → List Nat → Option (Nat × Nat)
  | _, _, [] => none
  | k, j, c :: r => if c = 9 then some (k, j) else if c = 10 then scan (k + 1) 0 r else scan k (j + 1) r
def iN (n : Nat) : Option (Nat × PV) := some (0, .int ((n : Int) + 1))
theorem due_loop {t : PV} {x y z w : Option (Nat × PV)} : ∀ (l : List Nat) (k j : Nat) (sg : Option (Nat × PV)), ∃ sg' j', forL (bName 3) L1__law_due (l.map fun c => .str (mkS [c])) [some (0, t), iN k, iN j, sg, x, y, z, w] =
    match scan k j l with
    | some (k', j') => .rt 0 (.tup [.str "sign", .int ((k' : Int) + 1), .int ((j' : Int) + 1)]) [some (0, t), iN k', iN j', sg', x, y, z, w]
    | none => .nx [some (0, t), iN (k + l.count 10), iN j', sg', x, y, z, w]
  | [], k, j, sg => ⟨sg, j, rfl⟩
  | c :: r, k, j, sg => by
    unfold scan
    by_cases c1 : c = 9
    · subst c1
      refine ⟨some (0, .str (mkS [9])), 0, ?_⟩
      simp [forL, L1__law_due, s_tab, mkS_inj, iN]
    · by_cases c2 : c = 10
      · subst c2
        obtain ⟨sg', j', e⟩ := due_loop (t := t) (x := x) (y := y) (z := z) (w := w) r (k + 1) 0 (some (0, .str (mkS [10])))
        refine ⟨sg', j', ?_⟩
        have ek : k + (10 :: r).count 10 = k + 1 + r.count 10 := by rw [List.count_cons_self]; omega
        rw [ek]
        simp only [if_neg c1, if_pos]
        refine Eq.trans ?_ e
        simp [forL, L1__law_due, s_tab, s_nl, mkS_inj, iN]
      · obtain ⟨sg', j', e⟩ := due_loop (t := t) (x := x) (y := y) (z := z) (w := w) r k (j + 1) (some (0, .str (mkS [c])))
        refine ⟨sg', j', ?_⟩
        rw [List.count_cons_of_ne c2]
        simp only [if_neg c1, if_neg c2]
        refine Eq.trans ?_ e
        simp [forL, L1__law_due, s_tab, s_nl, mkS_inj, iN, c1, c2]
theorem due_lines {t a b c : Option (Nat × PV)} {L : List (List Nat)} (hL : ∀ l ∈ L, l.length ≤ 16777000) (hn : L.length ≤ 16777000) : ∀ (r : List (List Nat)) (k : Nat) (acc : List PV) (x y : Option (Nat × PV)), L.drop k = r → acc.length ≤ k → ∃ x' y', forL (bName 6) L2__law_due (rngL k r.length 1) [t, a, b, c, some (1, .lst (pw L)), some (1, .lst acc), x, y] =
    .nx [t, a, b, c, some (1, .lst (pw L)), some (1, .lst (acc ++ pairs k r)), x', y']
  | [], k, acc, x, y, _, _ => ⟨x, y, by simp [rngL, forL, pairs]⟩
  | l :: r, k, acc, x, y, h, hk => by
    obtain ⟨h1, h2, h3⟩ := drop_next h
    rw [List.length_cons, rngL_cons]
    have hll : l.length ≤ 16777000 := hL l (List.mem_of_getElem? h1)
    have hg : atI (pw L) (k : Int) = some (.str (mkS l)) := by
      rw [atI_nat (by simpa using h3)]
      show ((L.map (PV.str ∘ mkS))[k]?) = _
      rw [List.getElem?_map, h1]
      rfl
    have hw := law_words_ok (l := l) hll
    unfold pairs
    by_cases hw0 : wordsL l = []
    · obtain ⟨x', y', e⟩ := due_lines (t := t) (a := a) (b := b) (c := c) hL hn r (k + 1) acc (some (0, .int (k : Int))) (some (0, .tup (pw (wordsL l)))) h2 (by omega)
      refine ⟨x', y', ?_⟩
      rw [if_pos hw0, ← e]
      simp [forL, L2__law_due, hg, hw, hw0]
    · obtain ⟨x', y', e⟩ := due_lines (t := t) (a := a) (b := b) (c := c) hL hn r (k + 1) (acc ++ [.tup [.int ((k : Int) + 1), .tup (pw (wordsL l))]]) (some (0, .int (k : Int))) (some (0, .tup (pw (wordsL l)))) h2 (by simp; omega)
      refine ⟨x', y', ?_⟩
      have hp : 0 < (wordsL l).length := List.length_pos_iff.mpr hw0
      rw [if_neg hw0]
      rw [List.append_assoc] at e
      refine Eq.trans ?_ e
      simp [forL, L2__law_due, hg, hw, hp, show acc.length < 16777216 by omega]
/-- what is expected of a text -/
def expect (l : List Nat) : PV := match scan 0 0 l with
  | some (k, j) => .tup [.str "sign", .int ((k : Int) + 1), .int ((j : Int) + 1)]
  | none => if 5000 < (sp 10 [] l).length then .tup [.str "large", .str "lines", .int 5000] else .tup [.str "rows", .lst (pairs 0 (sp 10 [] l))]
theorem due_ok {l : List Nat} (h : l.length ≤ 16776990) : F__law_due [.str (mkS l)] = .ok 0 (expect l) [.str (mkS l)] := by
  obtain ⟨hL, hn⟩ := rows_ok h
  have e2 : Txt.split (mkS l) ("\n" : Str) = (sp 10 [] l).map mkS := split_sp tl_nl (by decide)
  obtain ⟨sg', j', e⟩ := due_loop (t := .str (mkS l)) (x := none) (y := none) (z := none) (w := none) l 0 0 none
  obtain ⟨x', y', e3⟩ := due_lines (t := some (0, .str (mkS l))) (a := iN (l.count 10)) (b := iN j') (c := sg') hL hn (sp 10 [] l) 0 [] none none rfl (by simp)
  have e0 : rngL ((0 : Nat) : Int) (sp 10 [] l).length 1 = rngL 0 (sp 10 [] l).length 1 := rfl
  rw [e0, List.nil_append] at e3
  have i0 : iN 0 = some (0, .int 1) := rfl
  rw [i0, Nat.zero_add] at e
  have hr := r62_nat (n := (sp 10 [] l).length) (by omega)
  have hc := sp_len (s := 10) l []
  unfold F__law_due fnF B__law_due expect
  cases es : scan 0 0 l with
  | some p =>
    rw [es] at e
    simp [argsE, strIt_mk, e]
  | none =>
    rw [es] at e
    simp only [] at e
    by_cases c : 5000 < (sp 10 [] l).length
    · have c' : (5000 : Int) < (l.count 10 : Int) + 1 := by omega
      simp [argsE, strIt_mk, e, iN, c, c']
    · have c' : ¬ (5000 : Int) < (l.count 10 : Int) + 1 := by omega
      have e4 : forL (bName 6) L2__law_due (rngL 0 (sp 10 [] l).length 1) [some (0, .str (mkS l)), some (0, .int ((l.count 10 : Int) + 1)), some (0, .int ((j' : Int) + 1)), sg', some (1, .lst (pw (sp 10 [] l))), some (1, .lst []), none, none] = _ := e3
      simp [argsE, strIt_mk, e, iN, c, c', e2, show ("\n" : Str).length = 1 by decide, show l.length ≤ 16777214 by omega, hr, e4]
/-! ## what the program answers -/
def Good (l : List Nat) : Prop := ∀ c ∈ l, Ok c ∨ c = 9 ∨ c = 10
theorem no9 : ¬ Ok 9 := by decide +kernel
theorem col_line : (("column" : Str) == ("line" : Str)) = false := by decide
theorem lim_what : (("limit" : Str) == ("what" : Str)) = false := by decide
theorem sp_head {s : Nat} : ∀ (l acc : List Nat), ∃ x rs, sp s acc l = (acc ++ x) :: rs
  | [], acc => ⟨[], [], by simp [sp]⟩
  | c :: r, acc => by
    unfold sp
    split
    · exact ⟨[], _, by simp; rfl⟩
    · obtain ⟨x, rs, e⟩ := sp_head (s := s) r (acc ++ [c])
      exact ⟨c :: x, rs, by rw [e]; simp⟩
theorem fb_app : ∀ (acc x : List Nat) (i : Nat), (∀ c ∈ acc, Ok c) → fb i (acc ++ x) = fb (i + acc.length) x
  | [], x, i, _ => rfl
  | c :: r, x, i, h => by
    show (if Ok c then fb (i + 1) (r ++ x) else some i) = _
    rw [if_pos (h c List.mem_cons_self), fb_app r x (i + 1) fun d hd => h d (List.mem_cons_of_mem _ hd)]
    congr 1
    simp
    omega
theorem fr_scan : ∀ (l acc : List Nat) (k : Nat), (∀ c ∈ acc, Ok c) → Good l → fr k (sp 10 acc l) = scan k acc.length l
  | [], acc, k, ha, _ => by
    have e := fb_app acc [] 0 ha
    rw [List.append_nil] at e
    simp [sp, fr, e, fb, scan]
  | c :: r, acc, k, ha, hg => by
    have hg' : Good r := fun d hd => hg d (List.mem_cons_of_mem _ hd)
    by_cases c2 : c = 10
    · subst c2
      have e := fb_app acc [] 0 ha
      rw [List.append_nil] at e
      have ih := fr_scan r [] (k + 1) (fun _ h => nomatch h) hg'
      simp [sp, fr, e, fb, scan, ih]
    · by_cases c1 : c = 9
      · subst c1
        obtain ⟨x, rs, e⟩ := sp_head (s := 10) r (acc ++ [9])
        have e2 : fb 0 (acc ++ ([9] ++ x)) = fb (0 + acc.length) ([9] ++ x) := fb_app acc _ 0 ha
        unfold sp scan
        rw [if_neg c2, e, List.append_assoc, if_pos rfl]
        unfold fr
        rw [e2]
        simp [fb, no9]
      · have hc : Ok c := by
          rcases hg c List.mem_cons_self with h | h | h
          · exact h
          · exact absurd h c1
          · exact absurd h c2
        have ih := fr_scan r (acc ++ [c]) k (fun d hd => by
          rcases List.mem_append.mp hd with z | z
          · exact ha d z
          · rw [List.mem_singleton.mp z]; exact hc) hg'
        unfold sp scan
        rw [if_neg c2, if_neg c1, if_neg c2, ih]
        simp
theorem told_ok {l : List Nat} (h : l.length ≤ 16776990) (hg : Good l) : F__law_told [.str (mkS l)] = .ok 0 (expect l) [.str (mkS l)] := by
  have sl := split_lines_ok h
  rw [fr_scan l [] 0 (fun _ h => nomatch h) hg] at sl
  have body : ∀ r, F_split_lines [.str (mkS l)] = r → (sRet (eOp pTup (aCons (eC (.str ("rows" : Str))) (aCons (eFrz (eCall [0] [none] F_split_lines (aCons (eVar 0) aNil))) aNil)))) [some (0, .str (mkS l)), none] = match r with
      | .ok 1 x [_] => .rt 0 (.tup [.str "rows", x]) [some (0, .str (mkS l)), none]
      | .exc c fs [_] => .exc c fs [some (0, .str (mkS l)), none]
      | _ => (sRet (eOp pTup (aCons (eC (.str ("rows" : Str))) (aCons (eFrz (eCall [0] [none] F_split_lines (aCons (eVar 0) aNil))) aNil)))) [some (0, .str (mkS l)), none] := fun r e => by
    split
    · simp [e]
    · simp [e]
    · rfl
  unfold F__law_told fnF B__law_told expect
  simp only [argsE, List.length_cons, List.length_nil, List.zip_cons_cons, List.zip_nil_right, List.map_cons, List.map_nil, if_pos]
  cases es : scan 0 0 l with
  | some p =>
    obtain ⟨k, j⟩ := p
    simp only [List.length_nil, es] at sl
    have b := body _ sl
    simp only [] at b
    rw [try_eq]
    simp only [List.replicate, List.cons_append, List.nil_append, b]
    rw [hs_hit (by decide), run_named (i := 1) rfl (by simp) (R := .rt 0 (.tup [.str "sign", .int ((k : Int) + 1), .int ((j : Int) + 1)]) [some (0, .str (mkS l)), none]) (fun a d => by simp [exSign, List.lookup, col_line])]
    simp
  | none =>
    simp only [List.length_nil, es] at sl
    by_cases c : 5000 < (sp 10 [] l).length
    · rw [if_pos c] at sl
      have b := body _ sl
      simp only [] at b
      rw [try_eq]
      simp only [List.replicate, List.cons_append, List.nil_append, b]
      rw [hs_miss (by decide) (by decide), hs_hit (by decide), run_named (i := 1) rfl (by simp) (R := .rt 0 (.tup [.str "large", .str "lines", .int 5000]) [some (0, .str (mkS l)), none]) (fun a d => by simp [exLarge, List.lookup, lim_what])]
      simp [c]
    · rw [if_neg c] at sl
      have b := body _ sl
      simp only [] at b
      rw [try_eq]
      simp only [List.replicate, List.cons_append, List.nil_append, b]
      simp [c]
/-! ## the law -/
theorem wordsL_len (l : List Nat) : (wordsL l).length ≤ l.length + 1 := by
  unfold wordsL
  have h1 := List.length_filter_le (fun w => !decide (w = [])) (sp 32 [] (l.takeWhile fun c => !decide (c = 35)))
  have h2 := sp_len (s := 32) (l.takeWhile fun c => !decide (c = 35)) []
  have h3 := List.count_le_length (a := 32) (l := l.takeWhile fun c => !decide (c = 35))
  have h4 : (l.takeWhile fun c => !decide (c = 35)).length ≤ l.length := (List.takeWhile_sublist _).length_le
  omega
theorem okd_pairs : ∀ (L : List (List Nat)) (k n : Nat), (∀ l ∈ L, l.length ≤ 16777000) → ∀ x ∈ pairs k L, Okd (n + 3) x
  | [], _, _, _, x, hx => nomatch hx
  | r :: rs, k, n, hL, x, hx => by
    have ih := okd_pairs rs (k + 1) n fun l hl => hL l (List.mem_cons_of_mem _ hl)
    unfold pairs at hx
    split at hx
    · exact ih x hx
    · rcases List.mem_cons.mp hx with e | hx
      · subst e
        have hw := wordsL_len r
        have hr := hL r List.mem_cons_self
        refine ⟨by simp, fun y hy => ?_⟩
        simp only [List.mem_cons, List.not_mem_nil, or_false] at hy
        rcases hy with e | e
        · subst e; exact True.intro
        · subst e
          refine ⟨by rw [pw_len]; omega, fun y hy => ?_⟩
          obtain ⟨w, _, rfl⟩ := List.mem_map.mp hy
          exact True.intro
      · exact ih x hx
theorem expect_ok {l : List Nat} (h : l.length ≤ 16776990) : Okd 8 (expect l) := by
  obtain ⟨hL, hn⟩ := rows_ok h
  unfold expect
  split
  · refine ⟨by simp, fun x hx => ?_⟩
    simp only [List.mem_cons, List.not_mem_nil, or_false] at hx
    rcases hx with e | e | e <;> (subst e; exact True.intro)
  · split
    · refine ⟨by simp, fun x hx => ?_⟩
      simp only [List.mem_cons, List.not_mem_nil, or_false] at hx
      rcases hx with e | e | e <;> (subst e; exact True.intro)
    · refine ⟨by simp, fun x hx => ?_⟩
      simp only [List.mem_cons, List.not_mem_nil, or_false] at hx
      rcases hx with e | e
      · subst e; exact True.intro
      · subst e
        have := pairs_len (sp 10 [] l) 0
        exact ⟨by omega, okd_pairs _ 0 3 hL⟩
theorem alw_lit : (" !\"#$&'()*+,-./0123456789:;<=>?@ABCDEFGHIJKLMNOPQRSTUVWXYZ[\\]^_`abcdefghijklmnopqrstuvwxyz{|}~" : Str) = alw := rfl
theorem alw_len : alw.length = 94 := by decide +kernel
theorem ok_sp : Ok 32 := by decide +kernel
theorem ok_hash : Ok 35 := by decide +kernel
theorem s_sp2 : ("  " : Str) = mkS [32, 32] := ext_tl (by decide)
theorem good1 {c : Nat} (h : Ok c ∨ c = 9 ∨ c = 10) : Good [c] := fun d hd => by rw [List.mem_singleton.mp hd]; exact h
theorem piece_ok {n : Int} (h0 : 0 ≤ n) (h1 : n < 1000) : ∃ p : List Nat, p.length ≤ 2 ∧ Good p ∧ F__law_piece [.int n] = .ok 0 (.str (mkS p)) [.int n] := by
  have l12 : Nat.log2 12 < 9000 := by decide
  by_cases c0 : n % 12 = 0
  · exact ⟨[10], by simp, good1 (.inr (.inr rfl)), by unfold F__law_piece fnF B__law_piece; simp [argsE, c0, s_nl, l12]⟩
  by_cases c1 : n % 12 = 1
  · exact ⟨[32], by simp, good1 (.inl ok_sp), by unfold F__law_piece fnF B__law_piece; simp [argsE, c1, s_sp, l12]⟩
  by_cases c2 : n % 12 = 2
  · exact ⟨[32, 32], by simp, fun d hd => by simp at hd; subst hd; exact .inl ok_sp, by unfold F__law_piece fnF B__law_piece; simp [argsE, c2, s_sp2, l12]⟩
  by_cases c3 : n % 12 = 3
  · exact ⟨[35], by simp, good1 (.inl ok_hash), by unfold F__law_piece fnF B__law_piece; simp [argsE, c3, s_hash, l12]⟩
  have hi : (n % 94).toNat < alw.cps.toList.length := by
    have : alw.cps.toList.length = 94 := alw_len
    omega
  have hat : atI alw.cps.toList (n % 94) = some alw.cps.toList[(n % 94).toNat] := by
    have z := atI_nat hi
    rw [Int.toNat_of_nonneg (by omega)] at z
    rw [z]
    exact List.getElem?_eq_getElem hi
  have hok : Ok alw.cps.toList[(n % 94).toNat] := Array.mem_toList_iff.mp (List.getElem_mem hi)
  have mk1 : ∀ c : Nat, (⟨#[c]⟩ : Str) = mkS [c] := fun c => rfl
  by_cases c4 : n % 12 = 4 ∧ n / 12 % 6 = 5
  · exact ⟨[9], by simp, good1 (.inr (.inl rfl)), by unfold F__law_piece fnF B__law_piece; simp [argsE, c4.1, c4.2, s_tab, l12]⟩
  · refine ⟨[alw.cps.toList[(n % 94).toNat]], by simp, good1 (.inl hok), ?_⟩
    unfold F__law_piece fnF B__law_piece
    by_cases c5 : n % 12 = 4
    · have c6 : ¬ n / 12 % 6 = 5 := fun z => c4 ⟨c5, z⟩
      simp [argsE, c5, c6, l12, alw_lit, alw_len, hat, mk1]
    · simp [argsE, c0, c1, c2, c3, c5, l12, alw_lit, alw_len, hat, mk1]
open Classical in
noncomputable def pc (n : Int) : List Nat := if h : 0 ≤ n ∧ n < 1000 then Classical.choose (piece_ok h.1 h.2) else []
theorem pc_ok {n : Int} (h0 : 0 ≤ n) (h1 : n < 1000) : (pc n).length ≤ 2 ∧ Good (pc n) ∧ F__law_piece [.int n] = .ok 0 (.str (mkS (pc n))) [.int n] := by
  unfold pc
  rw [dif_pos ⟨h0, h1⟩]
  exact Classical.choose_spec (piece_ok h0 h1)
theorem flat_len : ∀ {ys : List Int}, Dig ys → (ys.map pc).flatten.length ≤ 2 * ys.length ∧ Good (ys.map pc).flatten
  | [], _ => ⟨by simp, fun _ h => nomatch h⟩
  | y :: ys, d => by
    have dy := d y List.mem_cons_self
    obtain ⟨h1, h2, _⟩ := pc_ok dy.1 dy.2
    obtain ⟨g1, g2⟩ := flat_len (ys := ys) fun z hz => d z (List.mem_cons_of_mem _ hz)
    refine ⟨by rw [List.map_cons, List.flatten_cons, List.length_append, List.length_cons]; omega, fun c hc => ?_⟩
    simp only [List.map_cons, List.flatten_cons, List.mem_append] at hc
    rcases hc with z | z
    · exact h2 c z
    · exact g2 c z
theorem joinL_nil : ∀ L : List (List Nat), joinL [] L = L.flatten
  | [] => rfl
  | [p] => by simp [joinL]
  | p :: q :: r => by
    show p ++ ([] ++ joinL [] (q :: r)) = _
    rw [joinL_nil (q :: r)]
    simp
theorem join_flat (L : List (List Nat)) : Txt.join ("" : Str) (L.map mkS) = mkS L.flatten := by
  refine ext_tl ?_
  rw [join_eq, tl_join, tl_em, joinL_nil, List.map_map]
  show (L.map (tl ∘ mkS)).flatten = L.flatten
  have : L.map (tl ∘ mkS) = L := (List.map_congr_left fun z _ => rfl).trans (List.map_id' L)
  rw [this]
theorem mapM_str : ∀ L : List (List Nat), (pw L).mapM PV.strOf = some (L.map mkS)
  | [] => rfl
  | l :: r => by
    show ((PV.str (mkS l)) :: pw r).mapM PV.strOf = _
    rw [List.mapM_cons, mapM_str r]
    rfl
theorem sum_len : ∀ L : List (List Nat), ((L.map mkS).map (·.length)).sum = L.flatten.length
  | [] => rfl
  | l :: r => by
    have := sum_len r
    simp only [List.map_cons, List.sum_cons, List.flatten_cons, List.length_append, mkS_len, this]
theorem join_ok {L : List (List Nat)} {m n : Nat} (h : L.flatten.length ≤ 16777216) : pJoin [(m, .str ("" : Str)), (n, .lst (pw L))] = some ⟨true, 0, .str (mkS L.flatten)⟩ := by
  show ((some (n - 1, pw L)).bind fun q => (q.2.mapM PV.strOf).bind fun ys => if (ys.map (·.length)).sum + ys.length * ("" : Str).length ≤ 16777216 then sc (.str (Txt.join "" ys)) else none) = _
  simp only [Option.bind_some, mapM_str, sum_len]
  rw [if_pos (by rw [show ("" : Str).length = 0 by decide]; omega), join_flat]
  rfl
theorem foldl_rep (c : Nat) : ∀ (k : Nat) (a : Array Nat), ((List.replicate k #[c]).foldl (· ++ ·) a).toList = a.toList ++ List.replicate k c
  | 0, a => by simp
  | k + 1, a => by
    rw [List.replicate_succ, List.foldl_cons, foldl_rep c k]
    simp [List.replicate_succ]
theorem mul_nl {k : Int} (h : 1 ≤ k) : Txt.mul ("\n" : Str) k = mkS (List.replicate k.toNat 10) := by
  refine ext_tl ?_
  unfold Txt.mul
  rw [if_neg (by omega)]
  by_cases h1 : k = 1
  · subst h1
    rw [if_pos (by simp), tl_nl]
    rfl
  · rw [if_neg (by simp [h1, show ("\n" : Str).length = 1 by decide])]
    have e : ("\n" : Str).cps = #[10] := by decide
    rw [e]
    show ((List.replicate k.toNat #[10]).foldl (· ++ ·) #[]).toList = _
    rw [foldl_rep]
    simp
theorem repl_map : ∀ l : List Nat, StrLaws.replL [9] [32] l = l.map fun c => if c = 9 then 32 else c
  | [] => StrLaws.replL_nil
  | c :: r => by
    by_cases h : c = 9
    · subst h
      rw [StrLaws.replL_hit (by simp) (by simp)]
      simp [repl_map r]
    · rw [StrLaws.replL_miss (by simp [h]), repl_map r]
      simp [h]
def plain (l : List Nat) : List Nat := l.map fun c => if c = 9 then 32 else c
theorem repl_ok (l : List Nat) : Txt.replace (mkS l) ("\t" : Str) (" " : Str) = mkS (plain l) := by
  refine ext_tl ?_
  show (Txt.replace (mkS l) _ _).cps.toList = _
  rw [StrLaws.replace_list (by decide)]
  show StrLaws.replL (tl ("\t" : Str)) (tl (" " : Str)) l = _
  rw [tl_tab, tl_sp, repl_map]
  rfl
theorem good_plain {l : List Nat} (h : Good l) : Good (plain l) := fun c hc => by
  obtain ⟨d, hd, e⟩ := List.mem_map.mp hc
  split at e
  · subst e; exact .inl ok_sp
  · subst e; exact h d hd
theorem cut1 (xs : List Int) : cutL (pvInts xs) (some 1) none = pvInts (xs.drop 1) := by
  unfold cutL
  rw [HT.sIx_none]
  have e := HT.sIx_nat (pvInts xs).length 0 1
  rw [show (some ((1 : Nat) : Int)) = some (1 : Int) from rfl] at e
  rw [e]
  cases xs with
  | nil => simp [pvInts]
  | cons x r =>
    have : min 1 (pvInts (x :: r)).length = 1 := by simp
    rw [this]
    simp [pvInts]
    exact List.take_of_length_le (by simp)
theorem good_app {l m : List Nat} (h : Good l) (k : Good m) : Good (l ++ m) := fun c hc => (List.mem_append.mp hc).elim (h c) (k c)
theorem good_rep (k : Nat) : Good (List.replicate k 10) := fun c hc => .inr (.inr (List.eq_of_mem_replicate hc))
theorem eq_true_of {l : List Nat} (h : l.length ≤ 16776990) (hg : Good l) : F_same 8 [expect l, expect l] = .ok 0 (.bl true) [expect l, expect l] := same_ok 8 _ (expect_ok h)
noncomputable def T_law : SF := (sSeq (sIf (tNotF (tOf (eCall [0, 0] [none, none] (F__law_same 8) (aCons (eCall [0] [none] F__law_told (aCons (eVar 2) aNil)) (aCons (eCall [0] [none] F__law_due (aCons (eVar 2) aNil)) aNil))))) (sRet (eC (.bl false))) sNil) (sSeq (sSet 5 (eOp (pRepl ("\t" : Str) (" " : Str)) (aConsT PV.isStr (eVar 2) aNil))) (sRet (eCall [0, 0] [none, none] (F__law_same 8) (aCons (eCall [0] [none] F__law_told (aCons (eVar 5) aNil)) (aCons (eCall [0] [none] F__law_due (aCons (eVar 5) aNil)) aNil))))))
theorem B_law_eq : B_law = (sSeq (sSet 1 (eCall [0, 0] [none, none] F__law_stream (aCons (eVar 0) (aCons (eC (.int (61 : Int))) aNil)))) (sSeq (sSet 2 (eOp pJoin (aConsT PV.isStr (eC (.str ("" : Str))) (aCons (eLc [6] (iAny (eOp (pSlc true false) (aCons (eVar 1) (aConsT PV.isInt (eC (.int (1 : Int))) aNil)))) (bName 6) tsTrue (eCall [0] [none] F__law_piece (aCons (eVar 6) aNil))) aNil)))) (sSeq (sSet 3 (eOp pMod (aCons (eOp pInt (aCons (eOp pIx (aCons (eVar 1) (aCons (eC (.int (0 : Int))) aNil))) aNil)) (aCons (eC (.int (8 : Int))) aNil)))) (sSeq (sSet 4 (eOp pSub (aCons (eC (.int (5000 : Int))) (aCons (eOp pLen (aCons (eOp pSplit (aConsT PV.isStr (eVar 2) (aCons (eC (.str ("\n" : Str))) aNil))) aNil)) aNil)))) (sSeq (sIf (tOf (eOp pEq (aCons (eVar 3) (aCons (eC (.int (1 : Int))) aNil)))) (sSet 2 (eOp pAdd (aCons (eVar 2) (aCons (eOp pMul (aCons (eC (.str ("\n" : Str))) (aCons (eVar 4) aNil))) aNil)))) sNil) (sSeq (sIf (tOf (eOp pEq (aCons (eVar 3) (aCons (eC (.int (2 : Int))) aNil)))) (sSet 2 (eOp pAdd (aCons (eVar 2) (aCons (eOp pMul (aCons (eC (.str ("\n" : Str))) (aCons (eOp pAdd (aCons (eVar 4) (aCons (eC (.int (1 : Int))) aNil))) aNil))) aNil)))) sNil) T_law)))))) := rfl
/-- from the text on -/
theorem tail_ok {a b c d e f : Option (Nat × PV)} {l : List Nat} (h : l.length ≤ 10000) (hg : Good l) : T_law [a, b, some (0, .str (mkS l)), c, d, e, f] = .rt 0 (.bl true) [a, b, some (0, .str (mkS l)), c, d, some (0, .str (mkS (plain l))), f] := by
  have t1 := told_ok (l := l) (by omega) hg
  have t2 := due_ok (l := l) (by omega)
  have t3 := eq_true_of (l := l) (by omega) hg
  have hl : (plain l).length ≤ 10000 := by unfold plain; rw [List.length_map]; exact h
  have t4 := told_ok (l := plain l) (by omega) (good_plain hg)
  have t5 := due_ok (l := plain l) (by omega)
  have t6 := eq_true_of (l := plain l) (by omega) (good_plain hg)
  unfold T_law
  simp [t1, t2, t3, t4, t5, t6, repl_ok, show (" " : Str).length = 1 by decide, show l.length + (l.length + 1) ≤ 16777216 by omega]
theorem law_true (ns : List Int) : ∃ outs, outs.length = 1 ∧ F_law [.clst (pvInts ns)] = .ok 0 (.bl true) outs := by
  obtain ⟨xs, hx, d, es⟩ := stream_ok ns (many := 61) (by omega) (by omega)
  have es' : F__law_stream [.clst (pvInts ns), .int 61] = .ok 1 (.lst (pvInts xs)) [.clst (pvInts ns), .int 61] := es
  match xs, hx with
  | x :: ys, hx =>
    have dy : Dig ys := fun z hz => d z (List.mem_cons_of_mem _ hz)
    have dx := d x List.mem_cons_self
    have hy : ys.length = 60 := by simpa using hx
    obtain ⟨f1, f2⟩ := flat_len dy
    have ct := cut1 (x :: ys)
    rw [List.drop_succ_cons, List.drop_zero] at ct
    have lc := lcLoop_sel (own := [6]) (bf := bName 6) (t := tsTrue) (f := eCall [0] [none] F__law_piece (aCons (eVar 6) aNil)) (ρ := [some (0, .clst (pvInts ns)), some (1, .lst (pvInts (x :: ys))), none, none, none, none, none])
      (fun y => match y with | .int n => some (.str (mkS (pc n))) | _ => none) (xs := pvInts ys) (fun y hy => by
        obtain ⟨n, hn, rfl⟩ := List.mem_map.mp hy
        have dn := dy n hn
        obtain ⟨_, _, e⟩ := pc_ok dn.1 dn.2
        refine ⟨_, _, true, rfl, rfl, ?_⟩
        refine ⟨rfl, true, 0, [some (0, .clst (pvInts ns)), some (1, .lst (pvInts (x :: ys))), none, none, none, none, some (0, .int n)], ?_, rfl, rfl⟩
        simp [e])
    have ef : (pvInts ys).filterMap (fun y => match y with | .int n => some (.str (mkS (pc n))) | _ => none) = pw (ys.map pc) := by
      unfold pvInts pw
      rw [List.filterMap_map, List.map_map, ← List.filterMap_eq_map]
      rfl
    rw [ef] at lc
    have jn := join_ok (L := ys.map pc) (m := 0) (n := 1) (by omega)
    have e2 : Txt.split (mkS (ys.map pc).flatten) ("\n" : Str) = (sp 10 [] (ys.map pc).flatten).map mkS := split_sp tl_nl (by decide)
    have hrow : (sp 10 [] (ys.map pc).flatten).length ≤ 121 := by
      rw [sp_len]
      have := List.count_le_length (a := 10) (l := (ys.map pc).flatten)
      omega
    have hl : ((ys.map pc).flatten).length ≤ 120 := by omega
    unfold F_law fnF
    rw [B_law_eq]
    generalize hq : (ys.map pc).flatten = q at *
    generalize hn : (sp 10 [] q).length = rows at *
    have r1 : rows ≤ 121 := hrow
    have key : ∀ (k : Nat) (c d : Option (Nat × PV)), k ≤ 5001 → T_law [some (0, .clst (pvInts ns)), some (1, .lst (pvInts (x :: ys))), some (0, .str (mkS (q ++ List.replicate k 10))), c, d, none, none] = .rt 0 (.bl true) [some (0, .clst (pvInts ns)), some (1, .lst (pvInts (x :: ys))), some (0, .str (mkS (q ++ List.replicate k 10))), c, d, some (0, .str (mkS (plain (q ++ List.replicate k 10)))), none] := fun k c d hk =>
      tail_ok (by rw [List.length_append, List.length_replicate]; omega) (good_app f2 (good_rep k))
    have key0 := key 0
    have nl1 : ("\n" : Str).length = 1 := by decide
    obtain ⟨miss, hm⟩ : ∃ miss, 5000 - (rows : Int) = miss := ⟨_, rfl⟩
    have a0 : atI (pvInts (x :: ys)) 0 = some (.int x) := at_0
    have hm0 : 4879 ≤ miss ∧ miss ≤ 5000 := by omega
    refine ⟨[.clst (pvInts ns)], rfl, ?_⟩
    by_cases m1 : x % 8 = 1
    · have mu := mul_nl (k := miss) (by omega)
      have kk := key miss.toNat (some (0, .int 1)) (some (0, .int miss)) (by omega)
      simp [argsE, es', ct, eLc, lc, freeS, wipeE, backE, jn, e2, hn, hm, m1, mu, nl1, mkS_add, show ys.length ≤ 16777216 by omega, a0, show q.length ≤ 16777214 by omega, show 0 ≤ miss by omega, show miss ≤ 1000000 by omega, show q.length + miss.toNat ≤ 16777216 by omega, kk]
    · by_cases m2 : x % 8 = 2
      · have mu := mul_nl (k := miss + 1) (by omega)
        have kk := key (miss + 1).toNat (some (0, .int 2)) (some (0, .int miss)) (by omega)
        obtain ⟨m1', hm1⟩ : ∃ m1', miss + 1 = m1' := ⟨_, rfl⟩
        rw [hm1] at mu kk
        simp [argsE, es', ct, eLc, lc, freeS, wipeE, backE, jn, e2, hn, hm, hm1, m2, mu, nl1, mkS_add, show ys.length ≤ 16777216 by omega, a0, show q.length ≤ 16777214 by omega, show 0 ≤ m1' by omega, show m1' ≤ 1000000 by omega, show q.length + m1'.toNat ≤ 16777216 by omega, kk]
      · have kk := key 0 (some (0, .int (x % 8))) (some (0, .int miss)) (by omega)
        rw [List.replicate_zero, List.append_nil] at kk
        simp [argsE, es', ct, eLc, lc, freeS, wipeE, backE, jn, e2, hn, hm, m1, m2, nl1, show ys.length ≤ 16777216 by omega, a0, show q.length ≤ 16777214 by omega, kk]
theorem holds : PySem.Challenge.rw_millbench_k09_lines_and_words.Holds := holds_of fun ns _ _ => law_true ns
end K09

theorem PySem.Challenge.cw_millbench_k09_lines_and_words_holds : PySem.Challenge.rw_millbench_k09_lines_and_words.Holds := by
  exact K09.holds
