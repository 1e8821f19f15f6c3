import PyProof.Rows.All
import Wide.All
import OpenK.AllK
import Wide.FinOn
import HandS.ForMost
import HandS.Exc
import HandS.ExcInit
import HandS.ExcOwn
import HandS.CallSlots
import HandS.TryMany
import HandS.WordsExc
import HandS.Defaults
import HandS.Deep
import HandS.Wide
import HandS.TupAny
import HandS.TupMul
import HandS.Style
import HandS.IsInst
import HandS.TupLe
import KE.DataCmp
import PyProof.StrOps2
import KE.GoesMore
import KE.GoesEnum
import HandS.Iter
import HandS.Zip
import HandS.Rev
import KE.SortData
import KE.DataMinMax
import HandS.Conv
import HandS.ExcField
import HandS.ExcIs
import HandS.Replace
import HandS.StrMore
import HandS.HeadHook1
import HandS.HeadHook2
import HandS.HeadEnd
import HandS.Head0
import HandS.Head1
import HandS.Head2
import HandS.More
import HandS.SetTxt0
import HandS.SetFor
import HandS.Strs
import KE.KStateDown
import PyProof.Rows.Walk
import PySem.Challenge.RW_switchbench_k17_around_and_percolated
set_option Elab.async false
set_option linter.all false
set_option maxRecDepth 100000
set_option maxHeartbeats 0
/-! RL0: data trees, owned slots, the relation between a mirror's environment and the layer's slots and heap. -/
namespace RL
open PySem PySem.Spec PyProof.Rows L2

abbrev D := PyData
def keyD : Key → D
  | .inl i => .int i
  | .inr x => .str x

section
variable (K : PySem.W.Frag) (F : Hp)
mutual
/-- the value stands for the tree, all of its objects in F or written -/
def Rep : D → V → Prop
  | .none, v => v = .non
  | .bool b, v => v = .bl b
  | .int i, v => v = .int i
  | .str x, v => v = .str x ∧ x.length ≤ sizeLine
  | .list ds, v => ∃ a xs, v = .ref a ∧ Rd F a (.lst xs) ∧ Reps ds xs
  | .tuple ds, v => ∃ a xs, v = .ref a ∧ SqT K F a xs ∧ Reps ds xs
  | .dict kvs, v => ∃ a o kx, v = .ref a ∧ F a = some (.frz o (.dK kx)) ∧ RepK kvs kx
def Reps : List D → List V → Prop
  | [], vs => vs = []
  | d :: ds, vs => ∃ x xs, vs = x :: xs ∧ Rep d x ∧ Reps ds xs
def RepK : List (D × D) → List (Key × V) → Prop
  | [], kx => kx = []
  | (k, d) :: ds, kx => ∃ c x r, kx = (c, x) :: r ∧ k = keyD c ∧ Rep d x ∧ RepK ds r
end
end

theorem rdUp {F F' : Hp} (h : Same F F') {a : Addr} {o : HO} (r : Rd F a o) : Rd F' a o := by
  rcases r with r | ⟨u, r⟩
  · exact .inl (h _ _ r)
  · exact .inr ⟨u, h _ _ r⟩
theorem sqOf {K : PySem.W.Frag} {H : Hp} {a : Addr} {xs : List V} (h : Rd H a (.lst xs)) : SqL K H a xs := .inl h
section
variable {K : PySem.W.Frag} {F F' : Hp}
mutual
theorem Rep.mono (h : Same F F') : ∀ (d : D) (v : V), Rep K F d v → Rep K F' d v
  | .none, _, r => r
  | .bool _, _, r => r
  | .int _, _, r => r
  | .str _, _, r => r
  | .list ds, v, r => by
    unfold Rep at r ⊢
    obtain ⟨a, xs, e, s, q⟩ := r
    exact ⟨a, xs, e, rdUp h s, Reps.mono h ds xs q⟩
  | .tuple ds, v, r => by
    unfold Rep at r ⊢
    obtain ⟨a, xs, e, s, q⟩ := r
    refine ⟨a, xs, e, ?_, Reps.mono h ds xs q⟩
    rcases s with (s | ⟨o, s⟩) | s
    · exact .inl (.inl (h _ _ s))
    · exact .inl (.inr ⟨o, h _ _ s⟩)
    · exact .inr s
  | .dict kvs, v, r => by
    unfold Rep at r ⊢
    obtain ⟨a, o, kx, e, s, q⟩ := r
    exact ⟨a, o, kx, e, h _ _ s, RepK.mono h kvs kx q⟩
theorem Reps.mono (h : Same F F') : ∀ (ds : List D) (vs : List V), Reps K F ds vs → Reps K F' ds vs
  | [], _, r => r
  | d :: ds, vs, r => by
    unfold Reps at r ⊢
    obtain ⟨x, xs, e, r1, r2⟩ := r
    exact ⟨x, xs, e, Rep.mono h d x r1, Reps.mono h ds xs r2⟩
theorem RepK.mono (h : Same F F') : ∀ (kvs : List (D × D)) (kx : List (Key × V)), RepK K F kvs kx → RepK K F' kvs kx
  | [], _, r => r
  | (k, d) :: ds, kx, r => by
    unfold RepK at r ⊢
    obtain ⟨c, x, t, e, ek, r1, r2⟩ := r
    exact ⟨c, x, t, e, ek, Rep.mono h d x r1, RepK.mono h ds t r2⟩
end
theorem Reps.length : ∀ {ds : List D} {vs : List V}, Reps K F ds vs → vs.length = ds.length
  | [], vs, r => by unfold Reps at r; subst r; rfl
  | d :: ds, vs, r => by
    unfold Reps at r
    obtain ⟨x, xs, rfl, _, r2⟩ := r
    simp [Reps.length r2]
theorem Reps.get : ∀ {ds : List D} {vs : List V} {i : Nat} {d : D}, Reps K F ds vs → ds[i]? = some d → ∃ x, vs[i]? = some x ∧ Rep K F d x
  | [], _, _, _, _, h => by simp at h
  | d :: ds, vs, 0, d', r, h => by
    unfold Reps at r
    obtain ⟨x, xs, rfl, r1, _⟩ := r
    simp at h; subst h
    exact ⟨x, rfl, r1⟩
  | d :: ds, vs, i + 1, d', r, h => by
    unfold Reps at r
    obtain ⟨x, xs, rfl, _, r2⟩ := r
    simpa using Reps.get (i := i) r2 (by simpa using h)
theorem Reps.getV : ∀ {ds : List D} {vs : List V} {i : Nat} {x : V}, Reps K F ds vs → vs[i]? = some x → ∃ d, ds[i]? = some d ∧ Rep K F d x := fun {ds vs i x} r h => by
  have l := r.length
  have hi : i < ds.length := by rw [← l]; exact (List.getElem?_eq_some_iff.mp h).1
  obtain ⟨y, hy, ry⟩ := r.get (List.getElem?_eq_getElem hi)
  rw [h] at hy
  cases hy
  exact ⟨_, List.getElem?_eq_getElem hi, ry⟩
theorem Reps.append : ∀ {ds es : List D} {vs us : List V}, Reps K F ds vs → Reps K F es us → Reps K F (ds ++ es) (vs ++ us)
  | [], _, _, _, r, q => by unfold Reps at r; subst r; exact q
  | d :: ds, _, _, _, r, q => by
    unfold Reps at r
    obtain ⟨x, xs, rfl, r1, r2⟩ := r
    show Reps K F (d :: (ds ++ _)) (x :: (xs ++ _))
    unfold Reps
    exact ⟨x, _, rfl, r1, r2.append q⟩
theorem Reps.one {d : D} {x : V} (r : Rep K F d x) : Reps K F [d] [x] := by
  unfold Reps
  exact ⟨x, [], rfl, r, by unfold Reps; rfl⟩
theorem Reps.nil : Reps K F [] [] := by unfold Reps; rfl
theorem Reps.cons {d : D} {x : V} {ds : List D} {xs : List V} (r : Rep K F d x) (q : Reps K F ds xs) : Reps K F (d :: ds) (x :: xs) := by
  unfold Reps
  exact ⟨x, xs, rfl, r, q⟩
theorem Reps.uncons {d : D} {ds : List D} {vs : List V} (r : Reps K F (d :: ds) vs) : ∃ x xs, vs = x :: xs ∧ Rep K F d x ∧ Reps K F ds xs := by
  unfold Reps at r
  exact r
theorem Reps.take : ∀ (n : Nat) {ds : List D} {vs : List V}, Reps K F ds vs → Reps K F (ds.take n) (vs.take n)
  | 0, _, _, _ => by simpa using Reps.nil
  | n + 1, [], _, r => by unfold Reps at r; subst r; simpa using Reps.nil
  | n + 1, d :: ds, _, r => by
    obtain ⟨x, xs, rfl, r1, r2⟩ := r.uncons
    simpa using Reps.cons r1 (Reps.take n r2)
theorem Reps.drop : ∀ (n : Nat) {ds : List D} {vs : List V}, Reps K F ds vs → Reps K F (ds.drop n) (vs.drop n)
  | 0, _, _, r => by simpa using r
  | n + 1, [], _, r => by unfold Reps at r; subst r; simpa using Reps.nil
  | n + 1, d :: ds, _, r => by
    obtain ⟨x, xs, rfl, r1, r2⟩ := r.uncons
    simpa using Reps.drop n r2
theorem Reps.set (i : Nat) {d : D} {x : V} (q : Rep K F d x) : ∀ {ds : List D} {vs : List V} {i : Nat}, Reps K F ds vs → Reps K F (ds.set i d) (vs.set i x)
  | [], _, _, r => by unfold Reps at r; subst r; simpa using Reps.nil
  | e :: ds, _, 0, r => by
    obtain ⟨y, ys, rfl, r1, r2⟩ := r.uncons
    exact Reps.cons q r2
  | e :: ds, _, i + 1, r => by
    obtain ⟨y, ys, rfl, r1, r2⟩ := r.uncons
    exact Reps.cons r1 (Reps.set i q r2)
theorem Reps.map {α : Type} {f : α → D} {g : α → V} (h : ∀ a, Rep K F (f a) (g a)) : ∀ l : List α, Reps K F (l.map f) (l.map g)
  | [] => Reps.nil
  | a :: l => Reps.cons (h a) (Reps.map h l)
theorem Reps.reverse : ∀ {ds : List D} {vs : List V}, Reps K F ds vs → Reps K F ds.reverse vs.reverse
  | [], _, r => by unfold Reps at r; subst r; simpa using Reps.nil
  | d :: ds, _, r => by
    obtain ⟨x, xs, rfl, r1, r2⟩ := r.uncons
    simpa using r2.reverse.append (Reps.one r1)
end

/-! ### the mirror's results -/
/-- what an expression hands back: a tree, a new list, a new dict -/
inductive VR where
  | v (d : D)
  | fl (ds : List D)
  | fd (kvs : List (D × D))
  deriving Inhabited
def VR.d : VR → D
  | .v d => d
  | .fl ds => .list ds
  | .fd kvs => .dict kvs
/-- a slot: without a value (or not to be read), a tree, a list or a dict that this slot alone holds, a caller's list that is handed in to be changed (the k-th), an exception -/
inductive Slot where
  | un
  | fz (d : D)
  | ol (ds : List D)
  | od (kvs : List (D × D))
  | io (k : Nat) (ds : List D)
  | xc (c : Str) (fs : List (Str × D))
  deriving Inhabited
def Slot.own : Slot → Bool
  | .ol _ => true
  | .od _ => true
  | .io _ _ => true
  | _ => false
abbrev Ev := List Slot
inductive Re (α : Type) where
  | ok (a : α) (e : Ev)
  | ex (c : Str) (fs : List (Str × D)) (e : Ev)
  | no
  deriving Inhabited
def Re.bind {α β : Type} (r : Re α) (f : α → Ev → Re β) : Re β := match r with
  | .ok a e => f a e
  | .ex c fs e => .ex c fs e
  | .no => .no
abbrev Ex := Ev → Re VR
def val (m : Ex) : Ev → Re D := fun e => (m e).bind fun r e => .ok r.d e
inductive Fl where
  | nx | rt (r : VR) | bk | ct
  deriving Inhabited
abbrev Sm := Ev → Re Fl

/-! ### the relation -/
structure Cw where
  K : PySem.W.Frag
  mg : Str → Option Value
  W : WX
  sx : Option (Addr × Value × Option Addr)
abbrev cw (X : Cx) (W : WX) : Cw := ⟨X.K, X.mg, W, none⟩
abbrev cws (X : Cx) (W : WX) (a : Addr) (c : Value) (d : Option Addr) : Cw := ⟨X.K, X.mg, W, some (a, c, d)⟩
/-- the entry: its heap, its trees' part, the lists that were handed in -/
structure Gh where
  H0 : Hp
  F0 : Hp
  ios : List Addr
/-- an exception's fields -/
def RepX (C : Cw) (F : Hp) (cl : Addr) (d : Option Addr) (c : Str) (fs : List (Str × D)) : Prop :=
  C.mg c = some (.ref cl) ∧ ((fs = [] ∧ d = none) ∨ ∃ dd xs, d = some dd ∧ F dd = some (.xd xs) ∧ xs.map (·.1) = fs.map (·.1) ∧ Reps C.K F (fs.map (·.2)) (xs.map (·.2)))
def OwnOk (K : PySem.W.Frag) (F : Hp) : Slot → HO → Prop
  | .ol ds, o => ∃ xs, o = .lst xs ∧ Reps K F ds xs
  | .io _ ds, o => ∃ xs, o = .lst xs ∧ Reps K F ds xs
  | .od kvs, o => ∃ kx, o = .dK kx ∧ RepK K F kvs kx
  | _, _ => False
def ioAt (G : Gh) : Slot → Addr → Prop
  | .io k _, a => G.ios[k]? = some a
  | _, a => G.H0 a = none
structure Sim (C : Cw) (G : Gh) (F : Hp) (e : Ev) (σ : L2.St) (H : Hp) : Prop where
  sub : Same F H
  f0 : Same G.F0 F
  len : e.length = σ.length
  fz : ∀ (i : Nat) (d : D), e[i]? = some (.fz d) → ∃ v, σ[i]? = some (some v) ∧ Rep C.K F d v
  xc : ∀ (i : Nat) (c : Str) (fs : List (Str × D)), e[i]? = some (.xc c fs) → ∃ a cl d, σ[i]? = some (some (.ref a)) ∧ C.sx = some (a, .ref cl, d) ∧ RepX C F cl d c fs
  ow : ∀ (i : Nat) (s : Slot), e[i]? = some s → s.own = true → ∃ a o, σ[i]? = some (some (.ref a)) ∧ H a = some o ∧ OwnOk C.K F s o ∧ F a = none ∧ ioAt G s a
  inj : ∀ (i j : Nat) (s t : Slot) (a : Addr), e[i]? = some s → e[j]? = some t → s.own = true → t.own = true → σ[i]? = some (some (.ref a)) → σ[j]? = some (some (.ref a)) → i = j
  keep : ∀ b o, G.H0 b = some o → b ∉ G.ios → H b = some o
  new : ∀ b o, F b = some o → G.F0 b = some o ∨ G.H0 b = none
  ios : ∀ a ∈ G.ios, G.H0 a ≠ none ∧ H a ≠ none ∧ F a = none
/-- a is nobody's -/
def Lone (G : Gh) (F : Hp) (e : Ev) (σ : L2.St) (a : Addr) : Prop := F a = none ∧ G.H0 a = none ∧ ∀ (i : Nat) (s : Slot), e[i]? = some s → s.own = true → σ[i]? ≠ some (some (.ref a))
/-- a result -/
def RepR (C : Cw) (G : Gh) (F H : Hp) (e : Ev) (σ : L2.St) (v : V) : VR → Prop
  | .v d => Rep C.K F d v
  | .fl ds => ∃ a xs, v = .ref a ∧ H a = some (.lst xs) ∧ Reps C.K F ds xs ∧ Lone G F e σ a
  | .fd kvs => ∃ a kx, v = .ref a ∧ H a = some (.dK kx) ∧ RepK C.K F kvs kx ∧ Lone G F e σ a

section
variable {C : Cw} {G : Gh} {F H : Hp} {e : Ev} {σ : L2.St}
theorem same_upd {F : Hp} {p : Addr} {o : HO} (h : F p = none) : Same F (upd F p o) := fun b u q => by
  rw [upd_ne (ne_of_none q h)]; exact q
theorem same_upd2 {F H : Hp} {p : Addr} {o : HO} (s : Same F H) : Same (upd F p o) (upd H p o) := fun b u q => by
  by_cases hb : b = p
  · subst hb; rw [upd_same] at q ⊢; exact q
  · rw [upd_ne hb] at q ⊢; exact s _ _ q
theorem OwnOk.mono {K : PySem.W.Frag} {F F' : Hp} (h : Same F F') : ∀ {s : Slot} {o : HO}, OwnOk K F s o → OwnOk K F' s o
  | .ol ds, _, ⟨xs, e, r⟩ => ⟨xs, e, r.mono h⟩
  | .io _ ds, _, ⟨xs, e, r⟩ => ⟨xs, e, r.mono h⟩
  | .od kvs, _, ⟨kx, e, r⟩ => ⟨kx, e, r.mono h⟩
theorem RepX.mono {F F' : Hp} (h : Same F F') {cl : Addr} {d : Option Addr} {c : Str} {fs : List (Str × D)} (x : RepX C F cl d c fs) : RepX C F' cl d c fs := by
  obtain ⟨m, x⟩ := x
  refine ⟨m, ?_⟩
  rcases x with x | ⟨dd, xs, h1, h2, h3, h4⟩
  · exact .inl x
  · exact .inr ⟨dd, xs, h1, h _ _ h2, h3, h4.mono h⟩
/-- what is not there now was not there at the entry -/
theorem Sim.h0 (S : Sim C G F e σ H) {p : Addr} (h : H p = none) : G.H0 p = none := by
  cases q : G.H0 p with
  | none => rfl
  | some o =>
    by_cases hp : p ∈ G.ios
    · exact absurd h (S.ios p hp).2.1
    · rw [S.keep p o q hp] at h; cases h
theorem Sim.f (S : Sim C G F e σ H) {p : Addr} (h : H p = none) : F p = none := by
  cases q : F p with
  | none => rfl
  | some o => rw [S.sub p o q] at h; cases h
/-- a new object, not (yet) of the trees -/
theorem Sim.alloc (S : Sim C G F e σ H) {p : Addr} {o : HO} (h : H p = none) : Sim C G F e σ (upd H p o) where
  sub := S.sub.trans (same_upd h)
  f0 := S.f0
  len := S.len
  fz := S.fz
  xc := S.xc
  ow := fun i s h1 h2 => by
    obtain ⟨a, u, q1, q2, q3⟩ := S.ow i s h1 h2
    exact ⟨a, u, q1, by rw [upd_ne (ne_of_none q2 h)]; exact q2, q3⟩
  inj := S.inj
  keep := fun b u q1 q2 => by
    have z := S.keep b u q1 q2
    rw [upd_ne (ne_of_none z h)]; exact z
  new := S.new
  ios := fun a ha => by
    obtain ⟨q1, q2, q3⟩ := S.ios a ha
    refine ⟨q1, ?_, q3⟩
    by_cases hp : a = p
    · subst hp; exact absurd h q2
    · rw [upd_ne hp]; exact q2
theorem Sim.lone (S : Sim C G F e σ H) {p : Addr} (h : H p = none) : Lone G F e σ p :=
  ⟨S.f h, S.h0 h, fun i s h1 h2 q => by
    obtain ⟨a, u, q1, q2, _⟩ := S.ow i s h1 h2
    rw [q1] at q
    cases q
    rw [h] at q2; cases q2⟩
/-- an object that is nobody's goes to the trees -/
theorem Sim.freeze (S : Sim C G F e σ H) {p : Addr} {o : HO} (l : Lone G F e σ p) (h : H p = some o) : Sim C G (upd F p o) e σ H where
  sub := fun b u q => by
    by_cases hb : b = p
    · subst hb; rw [upd_same] at q; cases q; exact h
    · rw [upd_ne hb] at q; exact S.sub b u q
  f0 := S.f0.trans (same_upd l.1)
  len := S.len
  fz := fun i d q => by
    obtain ⟨v, q1, q2⟩ := S.fz i d q
    exact ⟨v, q1, q2.mono (same_upd l.1)⟩
  xc := fun i c fs q => by
    obtain ⟨a, cl, d, q1, q2, q3⟩ := S.xc i c fs q
    exact ⟨a, cl, d, q1, q2, q3.mono (same_upd l.1)⟩
  ow := fun i s h1 h2 => by
    obtain ⟨a, u, q1, q2, q3, q4, q5⟩ := S.ow i s h1 h2
    have ne : a ≠ p := fun z => by subst z; exact l.2.2 i s h1 h2 q1
    exact ⟨a, u, q1, q2, q3.mono (same_upd l.1), by rw [upd_ne ne]; exact q4, q5⟩
  inj := S.inj
  keep := S.keep
  new := fun b u q => by
    by_cases hb : b = p
    · subst hb; exact .inr l.2.1
    · rw [upd_ne hb] at q; exact S.new b u q
  ios := fun a ha => by
    obtain ⟨q1, q2, q3⟩ := S.ios a ha
    refine ⟨q1, q2, ?_⟩
    have ne : a ≠ p := fun z => by subst z; exact q1 l.2.1
    rw [upd_ne ne]; exact q3
/-- a dict that is nobody's is locked and goes to the trees -/
theorem Sim.lockD (S : Sim C G F e σ H) {p : Addr} {od : Obj} {kx : List (Key × V)} (l : Lone G F e σ p) (h : H p = some (.dK kx)) : Sim C G (upd F p (.frz od (.dK kx))) e σ (upd H p (.frz od (.dK kx))) where
  sub := fun b u q => by
    by_cases hb : b = p
    · subst hb; rw [upd_same] at q ⊢; exact q
    · rw [upd_ne hb] at q ⊢; exact S.sub b u q
  f0 := S.f0.trans (same_upd l.1)
  len := S.len
  fz := fun i d q => by
    obtain ⟨v, q1, q2⟩ := S.fz i d q
    exact ⟨v, q1, q2.mono (same_upd l.1)⟩
  xc := fun i c fs q => by
    obtain ⟨a, cl, d, q1, q2, q3⟩ := S.xc i c fs q
    exact ⟨a, cl, d, q1, q2, q3.mono (same_upd l.1)⟩
  ow := fun i s h1 h2 => by
    obtain ⟨a, u, q1, q2, q3, q4, q5⟩ := S.ow i s h1 h2
    have ne : a ≠ p := fun z => by subst z; exact l.2.2 i s h1 h2 q1
    exact ⟨a, u, q1, by rw [upd_ne ne]; exact q2, q3.mono (same_upd l.1), by rw [upd_ne ne]; exact q4, q5⟩
  inj := S.inj
  keep := fun b u q1 q2 => by
    have ne : b ≠ p := fun z => by subst z; rw [l.2.1] at q1; cases q1
    rw [upd_ne ne]; exact S.keep b u q1 q2
  new := fun b u q => by
    by_cases hb : b = p
    · subst hb; exact .inr l.2.1
    · rw [upd_ne hb] at q; exact S.new b u q
  ios := fun a ha => by
    obtain ⟨q1, q2, q3⟩ := S.ios a ha
    have ne : a ≠ p := fun z => by subst z; exact q1 l.2.1
    exact ⟨q1, by rw [upd_ne ne]; exact q2, by rw [upd_ne ne]; exact q3⟩
end
end RL

/-! RL1: what a mirror's result asks for; the readings made of mirrors; the binding lemma; names, constants, operators, tests. -/
namespace RL
open PySem PySem.Spec PyProof.Rows L2

def Xp (C : Cw) (G : Gh) (F : Hp) (σ : L2.St) (c : Str) (fs : List (Str × D)) (e : Ev) : Prop :=
  ∀ F' H' cl d, Same F F' → Sim C G F' e σ H' → RepX C F' cl d c fs → C.W (.ref cl) d σ H'
structure Pst (C : Cw) (G : Gh) (σ : L2.St) (β : Type) where
  P : Hp → Re β → Prop
  mono : ∀ {F F1 : Hp} {r : Re β}, Same F F1 → P F r → P F1 r
  ex : ∀ {F : Hp} {c : Str} {fs : List (Str × D)} {e : Ev}, P F (.ex c fs e) → Xp C G F σ c fs e
  no : ∀ {F : Hp}, ¬ P F .no
theorem Xp.mono {C : Cw} {G : Gh} {F F1 : Hp} {σ : L2.St} {c : Str} {fs : List (Str × D)} {e : Ev} (s : Same F F1) (x : Xp C G F σ c fs e) : Xp C G F1 σ c fs e :=
  fun F' H' cl d s' => x F' H' cl d (s.trans s')
/-- any end: k says what is due at a result -/
def pG {α : Type} (C : Cw) (G : Gh) (σ : L2.St) (k : α → Ev → Hp → Hp → Prop) : Pst C G σ α where
  P F r := match r with
    | .ok a e => ∀ F' H', Same F F' → Sim C G F' e σ H' → k a e F' H'
    | .ex c fs e => Xp C G F σ c fs e
    | .no => False
  mono {F F1 r} s h := by
    cases r with
    | ok a e => exact fun F' H' s' => h F' H' (s.trans s')
    | ex c fs e => exact Xp.mono s h
    | no => exact h
  ex h := h
  no h := h
abbrev pE (C : Cw) (G : Gh) (σ : L2.St) (Q : VK) : Pst C G σ VR := pG C G σ fun r e F' H' => ∀ v, RepR C G F' H' e σ v r → Q v H'
abbrev pB (C : Cw) (G : Gh) (σ : L2.St) (Q : Bool → Hp → Prop) : Pst C G σ Bool := pG C G σ fun b _ _ H' => Q b H'
/-- the result as it is, or, a dict, locked -/
def lk (Q : VK) : VK := fun v H => Q v H ∨ ∃ a kx, v = .ref a ∧ H a = some (.dK kx) ∧ ∀ od, Q v (upd H a (.frz od (.dK kx)))
def teOf0 (C : Cw) (m : Ex) : TE := fun σ H Q => ∃ G F e, Sim C G F e σ H ∧ (pE C G σ Q).P F (m e)
def teOf (C : Cw) (m : Ex) : TE := fun σ H Q => teOf0 C m σ H (lk Q)
theorem pE_lk {C : Cw} {G : Gh} {σ : L2.St} {Q : VK} {F : Hp} : ∀ {r : Re VR}, (pE C G σ Q).P F r → (pE C G σ (lk Q)).P F r
  | .ok a e, h => fun F' H' s S v rv => .inl (h F' H' s S v rv)
  | .ex c fs e, h => h
  | .no, h => h
theorem teOf0.lk {C : Cw} {m : Ex} {σ : L2.St} {H : Hp} {Q : VK} (h : teOf0 C m σ H Q) : teOf C m σ H Q := by
  obtain ⟨G, F, e, S, h⟩ := h
  exact ⟨G, F, e, S, pE_lk h⟩
def ttOf (C : Cw) (m : Ev → Re Bool) : TT := fun σ H Q => ∃ G F e, Sim C G F e σ H ∧ (pB C G σ Q).P F (m e)

section
variable {C : Cw} {G : Gh} {F H : Hp} {e : Ev} {σ : L2.St}
/-- a result as a tree -/
theorem Sim.fix (S : Sim C G F e σ H) {v : V} {Q : VK} : ∀ {r : VR}, RepR C G F H e σ v r → (∀ F' H', Same F F' → Sim C G F' e σ H' → Rep C.K F' r.d v → Q v H') → lk Q v H
  | .v d, h, k => .inl (k F H (Same.refl F) S h)
  | .fl ds, ⟨a, xs, ev, ha, hr, l⟩, k => .inl (k _ _ (same_upd l.1) (S.freeze l ha) (by
      subst ev
      unfold VR.d Rep
      exact ⟨a, xs, rfl, .inl upd_same, hr.mono (same_upd l.1)⟩))
  | .fd kvs, ⟨a, kx, ev, ha, hr, l⟩, k => .inr ⟨a, kx, ev, ha, fun od => k _ _ (same_upd l.1) (S.lockD l ha) (by
      subst ev
      unfold VR.d Rep
      exact ⟨a, od, kx, rfl, upd_same, hr.mono (same_upd l.1)⟩)⟩
/-- the first part's value comes as it is -/
theorem te_bindR0 {β : Type} {m : Ex} {f : VR → Ev → Re β} {Q : VK} (P : Pst C G σ β) (S : Sim C G F e σ H) (h : P.P F ((m e).bind f))
    (k : ∀ r e1 F1 H1 v1, Same F F1 → Sim C G F1 e1 σ H1 → RepR C G F1 H1 e1 σ v1 r → P.P F1 (f r e1) → Q v1 H1) : teOf0 C m σ H Q := by
  refine ⟨G, F, e, S, ?_⟩
  cases hm : m e with
  | no => rw [hm] at h; exact (P.no h).elim
  | ex c fs e1 => rw [hm] at h; exact P.ex h
  | ok r e1 =>
    rw [hm] at h
    exact fun F1 H1 s1 S1 v1 R1 => k r e1 F1 H1 v1 s1 S1 R1 (P.mono s1 h)
theorem te_bindR {β : Type} {m : Ex} {f : VR → Ev → Re β} {Q : VK} (P : Pst C G σ β) (S : Sim C G F e σ H) (h : P.P F ((m e).bind f))
    (k : ∀ r e1 F1 H1 v1, Same F F1 → Sim C G F1 e1 σ H1 → RepR C G F1 H1 e1 σ v1 r → P.P F1 (f r e1) → Q v1 H1) : teOf C m σ H Q := (te_bindR0 P S h k).lk
/-- .. as a tree -/
theorem te_bind {β : Type} {m : Ex} {f : D → Ev → Re β} {Q : VK} (P : Pst C G σ β) (S : Sim C G F e σ H) (h : P.P F ((val m e).bind f))
    (k : ∀ d e1 F1 H1 v1, Same F F1 → Sim C G F1 e1 σ H1 → Rep C.K F1 d v1 → P.P F1 (f d e1) → Q v1 H1) : teOf C m σ H Q := by
  have h' : P.P F ((m e).bind fun r e1 => f r.d e1) := by
    unfold val Re.bind at h
    unfold Re.bind
    cases hm : m e with
    | no => rw [hm] at h; exact h
    | ex c fs e1 => rw [hm] at h; exact h
    | ok r e1 => rw [hm] at h; exact h
  exact te_bindR0 P S h' fun r e1 F1 H1 v1 s1 S1 R1 h1 => S1.fix R1 fun F2 H2 s2 S2 R2 => k _ e1 F2 H2 v1 (s1.trans s2) S2 R2 (P.mono s2 h1)
theorem tt_bind {β : Type} {m : Ev → Re Bool} {f : Bool → Ev → Re β} {Q : Bool → Hp → Prop} (P : Pst C G σ β) (S : Sim C G F e σ H) (h : P.P F ((m e).bind f))
    (k : ∀ b e1 F1 H1, Same F F1 → Sim C G F1 e1 σ H1 → P.P F1 (f b e1) → Q b H1) : ttOf C m σ H Q := by
  refine ⟨G, F, e, S, ?_⟩
  cases hm : m e with
  | no => rw [hm] at h; exact (P.no h).elim
  | ex c fs e1 => rw [hm] at h; exact P.ex h
  | ok r e1 =>
    rw [hm] at h
    exact fun F1 H1 s1 S1 => k r e1 F1 H1 s1 S1 (P.mono s1 h)
end

/-! ### operands: a tree, or a slot that is only looked at -/
inductive Opd where
  | ex (m : Ex)
  | bo (i : Nat)
inductive Hd where
  | tr (d : D)
  | sl (i : Nat)
def slotD (e : Ev) (i : Nat) : Option D := match e[i]? with
  | some (.fz d) => some d
  | some (.ol ds) => some (.list ds)
  | some (.od kvs) => some (.dict kvs)
  | some (.io _ ds) => some (.list ds)
  | _ => none
def Hd.res (h : Hd) (e : Ev) : Option D := match h with
  | .tr d => some d
  | .sl i => slotD e i
def Opd.ev (o : Opd) (e : Ev) : Re Hd := match o with
  | .ex m => (val m e).bind fun d e1 => .ok (.tr d) e1
  | .bo i => match slotD e i with
    | some _ => .ok (.sl i) e
    | none => .no
/-- a tree, its top read off H -/
def RepT (K : PySem.W.Frag) (F H : Hp) : D → V → Prop
  | .list ds, v => ∃ a xs, v = .ref a ∧ Rd H a (.lst xs) ∧ Reps K F ds xs
  | .dict kvs, v => ∃ a kx, v = .ref a ∧ Rd H a (.dK kx) ∧ RepK K F kvs kx
  | d, v => Rep K F d v
theorem Rep.top {K : PySem.W.Frag} {F H : Hp} (s : Same F H) : ∀ {d : D} {v : V}, Rep K F d v → RepT K F H d v
  | .list ds, v, r => by
    unfold Rep at r
    obtain ⟨a, xs, ev, q, rs⟩ := r
    exact ⟨a, xs, ev, rdUp s q, rs⟩
  | .dict kvs, v, r => by
    unfold Rep at r
    obtain ⟨a, o, kx, ev, q, rs⟩ := r
    exact ⟨a, kx, ev, .inr ⟨o, s _ _ q⟩, rs⟩
  | .none, _, r => r
  | .bool _, _, r => r
  | .int _, _, r => r
  | .str _, _, r => r
  | .tuple _, _, r => r
def HRep (K : PySem.W.Frag) (F : Hp) (σ : L2.St) : Hd → V → Prop
  | .tr d, v => Rep K F d v
  | .sl i, v => σ[i]? = some (some v)
theorem HRep.mono {K : PySem.W.Frag} {F F' : Hp} {σ : L2.St} (s : Same F F') : ∀ {h : Hd} {v : V}, HRep K F σ h v → HRep K F' σ h v
  | .tr _, _, r => Rep.mono s _ _ r
  | .sl _, _, r => r
section
variable {C : Cw} {G : Gh} {F H : Hp} {e : Ev} {σ : L2.St}
theorem Sim.slot (S : Sim C G F e σ H) {i : Nat} {d : D} (h : slotD e i = some d) : ∃ v, σ[i]? = some (some v) ∧ RepT C.K F H d v := by
  unfold slotD at h
  cases q : e[i]? with
  | none => rw [q] at h; cases h
  | some s =>
    rw [q] at h
    cases s with
    | un => cases h
    | xc c fs => cases h
    | fz d' =>
      cases h
      obtain ⟨v, h1, h2⟩ := S.fz i _ q
      exact ⟨v, h1, h2.top S.sub⟩
    | ol ds =>
      cases h
      obtain ⟨a, o, h1, h2, ⟨xs, eo, hr⟩, _⟩ := S.ow i _ q rfl
      subst eo
      exact ⟨_, h1, a, xs, rfl, .inl h2, hr⟩
    | io k ds =>
      cases h
      obtain ⟨a, o, h1, h2, ⟨xs, eo, hr⟩, _⟩ := S.ow i _ q rfl
      subst eo
      exact ⟨_, h1, a, xs, rfl, .inl h2, hr⟩
    | od kvs =>
      cases h
      obtain ⟨a, o, h1, h2, ⟨kx, eo, hr⟩, _⟩ := S.ow i _ q rfl
      subst eo
      exact ⟨_, h1, a, kx, rfl, .inl h2, hr⟩
theorem Sim.res (S : Sim C G F e σ H) {h : Hd} {v : V} {d : D} (r : HRep C.K F σ h v) (q : h.res e = some d) : RepT C.K F H d v := by
  cases h with
  | tr d' => cases q; exact Rep.top S.sub r
  | sl i =>
    have q' : slotD e i = some d := q
    obtain ⟨w, h1, h2⟩ := S.slot q'
    have r' : σ[i]? = some (some v) := r
    rw [h1] at r'
    cases r'
    exact h2
def teO (C : Cw) : Opd → TE
  | .ex m => teOf C m
  | .bo i => tVar i
theorem teO_bind {β : Type} {o : Opd} {f : Hd → Ev → Re β} {Q : VK} (P : Pst C G σ β) (S : Sim C G F e σ H) (h : P.P F ((o.ev e).bind f))
    (k : ∀ x e1 F1 H1 v1, Same F F1 → Sim C G F1 e1 σ H1 → HRep C.K F1 σ x v1 → P.P F1 (f x e1) → Q v1 H1) : teO C o σ H Q := by
  cases o with
  | ex m =>
    have h' : P.P F (((val m e).bind fun d e1 => Re.ok (Hd.tr d) e1).bind f) := h
    refine te_bind (f := fun d e1 => f (.tr d) e1) P S ?_ fun d e1 F1 H1 v1 s1 S1 R1 h1 => k (.tr d) e1 F1 H1 v1 s1 S1 R1 h1
    cases q : val m e with
    | no => rw [q] at h'; exact h'
    | ex c fs e1 => rw [q] at h'; exact h'
    | ok r e1 => rw [q] at h'; exact h'
  | bo i =>
    have h' : P.P F ((match slotD e i with
      | some _ => Re.ok (Hd.sl i) e
      | none => Re.no).bind f) := h
    cases q : slotD e i with
    | none => rw [q] at h'; exact (P.no h').elim
    | some d =>
      rw [q] at h'
      obtain ⟨v, h1, _⟩ := S.slot q
      exact ⟨v, h1, k (.sl i) e F H v (Same.refl F) S h1 h'⟩
end

/-! ### operations on values -/
def ofO (r : Option VR) (e : Ev) : Re VR := match r with
  | some x => .ok x e
  | none => .no
/-- what an operation's result asks for: nothing new, or one new object -/
def OpPost (K : PySem.W.Frag) (F H : Hp) (Q : VK) : Option VR → Prop
  | none => False
  | some (.v d) => (∀ v, Rep K F d v → Q v H) ∧ ∀ l, d = .tuple l → ∀ p xs, H p = none → Reps K F l xs → Q (.ref p) (upd H p (.tup xs))
  | some (.fl ds) => ∀ p xs, H p = none → Reps K F ds xs → Q (.ref p) (upd H p (.lst xs))
  | some (.fd kvs) => ∀ p kx, H p = none → RepK K F kvs kx → Q (.ref p) (upd H p (.dK kx))
section
variable {C : Cw} {G : Gh} {F H : Hp} {e : Ev} {σ : L2.St} {Q : VK}
theorem opPost_of (S : Sim C G F e σ H) : ∀ {r : Option VR}, (pE C G σ Q).P F (ofO r e) → OpPost C.K F H Q r
  | none, h => h
  | some (.v d), h => by
    refine ⟨fun v rv => h F H (Same.refl F) S v rv, fun l el p xs hp rx => ?_⟩
    subst el
    have S1 := (S.alloc (o := .tup xs) hp).freeze (p := p) ⟨S.f hp, S.h0 hp, (S.lone hp).2.2⟩ upd_same
    refine h _ _ (same_upd (S.f hp)) S1 _ ?_
    show Rep C.K (upd F p (.tup xs)) (.tuple l) (.ref p)
    unfold Rep
    exact ⟨p, xs, rfl, SqT.of upd_same, rx.mono (same_upd (S.f hp))⟩
  | some (.fl ds), h => fun p xs hp rx => h F _ (Same.refl F) (S.alloc hp) _ ⟨p, xs, rfl, upd_same, rx, S.lone hp⟩
  | some (.fd kvs), h => fun p kx hp rx => h F _ (Same.refl F) (S.alloc hp) _ ⟨p, kx, rfl, upd_same, rx, S.lone hp⟩
end
/-- a two-place operation: f keeps g -/
def Op2 (X : Cx) (f : Value → Value → Sem Value) (g : D → D → Option VR) : Prop :=
  ∃ r : R2, OpR X f r ∧ ∀ F H x y v u Q, Same F H → RepT X.K F H x v → RepT X.K F H y u → OpPost X.K F H Q (g x y) → r v u H Q
def mB (g : D → D → Option VR) (a b : Opd) : Ex := fun e => (a.ev e).bind fun h1 e1 => (b.ev e1).bind fun h2 e2 => match h1.res e2, h2.res e2 with
  | some x, some y => ofO (g x y) e2
  | _, _ => .no
theorem te_impK {X : Cx} {e : Expr} {t : TE} {C : Cw} {m : Ex} (h : PE X e t) (i : ∀ σ H Q, teOf0 C m σ H Q → t σ H (lk Q)) : PE X e (teOf C m) := ⟨fun pins s σ H Q I q => by
  have fin : ∀ {Q : VK} {v : Value} {s1 : Shared}, EP X pins σ (lk Q) v s1 → EP X pins σ Q v s1 := fun {Q v s1} ⟨x, H1, I1, r, q⟩ => by
    rcases q with q | ⟨a, kx, ev, ha, q⟩
    · exact ⟨x, H1, I1, r, q⟩
    · obtain ⟨od, I2⟩ := I1.lock ha trivial
      exact ⟨x, _, I2, r, q od⟩
  exact thn (h.run pins s σ H _ I (i σ H _ q)) fun v s1 z => fin (fin z)⟩
theorem te_imp {X : Cx} {e : Expr} {t : TE} {C : Cw} {m : Ex} (h : PE X e t) (i : ∀ σ H Q, teOf0 C m σ H Q → t σ H Q) : PE X e (teOf C m) := ⟨fun pins s σ H Q I q => by
  refine thn (h.run pins s σ H _ I (i σ H _ q)) fun v s1 ⟨x, H1, I1, r, q⟩ => ?_
  rcases q with q | ⟨a, kx, ev, ha, q⟩
  · exact ⟨x, H1, I1, r, q⟩
  · obtain ⟨od, I2⟩ := I1.lock ha trivial
    exact ⟨x, _, I2, r, q od⟩⟩
theorem tt_imp {X : Cx} {e : Expr} {t t' : TT} (h : PT X e t) (i : ∀ σ H Q, t' σ H Q → t σ H Q) : PT X e t' := ⟨fun pins s σ H Q I q => h.run pins s σ H Q I (i σ H Q q)⟩
theorem ts_imp {X : Cx} {e : Stmt} {t t' : TS} (h : PS X e t) (i : ∀ D σ H, t' D σ H → t D σ H) : PS X e t' := ⟨fun pins s σ H D I q => h.run pins s σ H D I (i D σ H q)⟩
theorem tss_imp {X : Cx} {e : List Stmt} {t t' : TS} (h : PSs X e t) (i : ∀ D σ H, t' D σ H → t D σ H) : PSs X e t' := ⟨fun pins s σ H D I q => h.run pins s σ H D I (i D σ H q)⟩
/-- the reading of an operation on two operands holds where the mirror's does -/
theorem op2_read {X : Cx} {W : WX} {sx : Option (Addr × Value × Option Addr)} {r : R2} {g : D → D → Option VR} {a b : Opd}
    (hr : ∀ F H x y v u Q, Same F H → RepT X.K F H x v → RepT X.K F H y u → OpPost X.K F H Q (g x y) → r v u H Q) {σ : L2.St} {H : Hp} {Q : VK} (q : teOf0 ⟨X.K, X.mg, W, sx⟩ (mB g a b) σ H Q) :
    tOp r (teO ⟨X.K, X.mg, W, sx⟩ a) (teO ⟨X.K, X.mg, W, sx⟩ b) σ H Q := by
  obtain ⟨G, F, e, S, h⟩ := q
  refine teO_bind (pE _ G σ Q) S h fun x e1 F1 H1 v1 s1 S1 R1 h1 => ?_
  refine teO_bind (pE _ G σ Q) S1 h1 fun y e2 F2 H2 v2 s2 S2 R2 h2 => ?_
  cases qx : x.res e2 with
  | none => rw [qx] at h2; exact h2.elim
  | some dx =>
    cases qy : y.res e2 with
    | none => rw [qx, qy] at h2; exact h2.elim
    | some dy =>
      rw [qx, qy] at h2
      exact hr F2 H2 dx dy v1 v2 Q S2.sub (S2.res (R1.mono s2) qx) (S2.res R2 qy) (opPost_of S2 h2)

/-! ### expressions -/
section
variable {X : Cx} {W : WX} {sx : Option (Addr × Value × Option Addr)}
/-- PE of a mirror -/
abbrev DE (X : Cx) (W : WX) (sx : Option (Addr × Value × Option Addr)) (e : Expr) (m : Ex) : Prop := PE X e (teOf ⟨X.K, X.mg, W, sx⟩ m)
abbrev DO (X : Cx) (W : WX) (sx : Option (Addr × Value × Option Addr)) (e : Expr) (o : Opd) : Prop := PE X e (teO ⟨X.K, X.mg, W, sx⟩ o)
theorem do_ex {e : Expr} {m : Ex} (h : DE X W sx e m) : DO X W sx e (.ex m) := h
theorem do_bo (i : Nat) {x : Str} {pos : Pos} (hN : X.N[i]? = some x := by rfl) (hv : Vis X.env.scope x := by first | exact Or.inl rfl | exact Or.inr (Or.inl rfl) | exact Or.inr (Or.inr rfl)) (hd : (x == ("__debug__" : Str)) = false := by decide)
    (hcd : (x == ("__classdict__" : Str)) = false := by decide) : DO X W sx (.Name x pos) (.bo i) := pe_var hN hv hd hcd
def mC (d : D) : Ex := fun e => .ok (.v d) e
theorem de_const {e : Expr} {d : D} {v : V} (h : PE X e (tC v)) (r : ∀ F : Hp, Rep X.K F d v) : DE X W sx e (mC d) :=
  te_imp h fun σ H Q ⟨G, F, e, S, q⟩ => q F H (Same.refl F) S v (r F)
theorem de_int {i : Int} {j : Nat} {pos : Pos} : DE X W sx (.Constant (.int i) j pos) (mC (.int i)) := de_const pe_int fun _ => rfl
theorem de_none {j : Nat} {pos : Pos} : DE X W sx (.Constant .none j pos) (mC .none) := de_const pe_non fun _ => rfl
theorem de_bool {b : Bool} {j : Nat} {pos : Pos} : DE X W sx (.Constant (.bool b) j pos) (mC (.bool b)) := de_const pe_bl fun _ => rfl
theorem de_str {x : Str} {j : Nat} {pos : Pos} (h : x.length ≤ sizeLine := by decide) : DE X W sx (.Constant (.str x) j pos) (mC (.str x)) := de_const pe_str fun _ => ⟨rfl, h⟩
/-- a name's value, from then on a tree -/
def mV (i : Nat) : Ex := fun e => match e[i]? with
  | some (.fz d) => .ok (.v d) e
  | some (.ol ds) => .ok (.v (.list ds)) (e.set i (.fz (.list ds)))
  | some (.od kvs) => .ok (.v (.dict kvs)) (e.set i (.fz (.dict kvs)))
  | _ => .no
/-- .. handed on, the slot left -/
def mM (i : Nat) : Ex := fun e => match e[i]? with
  | some (.fz d) => .ok (.v d) e
  | some (.ol ds) => .ok (.fl ds) (e.set i .un)
  | some (.od kvs) => .ok (.fd kvs) (e.set i .un)
  | _ => .no
end
section
variable {C : Cw} {G : Gh} {F H : Hp} {e : Ev} {σ : L2.St}
theorem set_at {e : Ev} {i j : Nat} {s t : Slot} (h : (e.set i t)[j]? = some s) : (j = i ∧ s = t) ∨ (j ≠ i ∧ e[j]? = some s) := by
  by_cases hj : i = j
  · subst hj
    by_cases hl : i < e.length
    · rw [List.getElem?_set_self hl] at h; cases h; exact .inl ⟨rfl, rfl⟩
    · rw [List.getElem?_eq_none (by simpa using hl)] at h; cases h
  · rw [List.getElem?_set_ne hj] at h
    exact .inr ⟨fun z => hj z.symm, h⟩
/-- a slot is given up -/
theorem Sim.leave (S : Sim C G F e σ H) (i : Nat) : Sim C G F (e.set i .un) σ H where
  sub := S.sub
  f0 := S.f0
  len := by rw [List.length_set]; exact S.len
  fz := fun j d q => by
    rcases set_at q with ⟨_, z⟩ | ⟨_, z⟩
    · cases z
    · exact S.fz j d z
  xc := fun j c fs q => by
    rcases set_at q with ⟨_, z⟩ | ⟨_, z⟩
    · cases z
    · exact S.xc j c fs z
  ow := fun j s q h => by
    rcases set_at q with ⟨_, z⟩ | ⟨_, z⟩
    · subst z; cases h
    · exact S.ow j s z h
  inj := fun j k s t a q1 q2 h1 h2 => by
    rcases set_at q1 with ⟨_, z⟩ | ⟨_, z⟩
    · subst z; cases h1
    rcases set_at q2 with ⟨_, z'⟩ | ⟨_, z'⟩
    · subst z'; cases h2
    exact S.inj j k s t a z z' h1 h2
  keep := S.keep
  new := S.new
  ios := S.ios
/-- .. and its object is nobody's -/
theorem Sim.left (S : Sim C G F e σ H) {i : Nat} {s : Slot} {a : Addr} (h : e[i]? = some s) (o : s.own = true) (ha : σ[i]? = some (some (.ref a))) (hf : F a = none) (h0 : G.H0 a = none) : Lone G F (e.set i .un) σ a :=
  ⟨hf, h0, fun j t q ot z => by
    rcases set_at q with ⟨_, w⟩ | ⟨ne, w⟩
    · subst w; cases ot
    · exact ne (S.inj j i t s a w h ot o z ha)⟩
/-- a slot gets a tree that it stands for -/
theorem Sim.setFz (S : Sim C G F e σ H) {i : Nat} {d : D} {v : V} (hv : σ[i]? = some (some v)) (r : Rep C.K F d v) : Sim C G F (e.set i (.fz d)) σ H where
  sub := S.sub
  f0 := S.f0
  len := by rw [List.length_set]; exact S.len
  fz := fun j d' q => by
    rcases set_at q with ⟨z1, z⟩ | ⟨_, z⟩
    · cases z; subst z1; exact ⟨v, hv, r⟩
    · exact S.fz j d' z
  xc := fun j c fs q => by
    rcases set_at q with ⟨_, z⟩ | ⟨_, z⟩
    · cases z
    · exact S.xc j c fs z
  ow := fun j s q h => by
    rcases set_at q with ⟨_, z⟩ | ⟨_, z⟩
    · subst z; cases h
    · exact S.ow j s z h
  inj := fun j k s t a q1 q2 h1 h2 => by
    rcases set_at q1 with ⟨_, z⟩ | ⟨_, z⟩
    · subst z; cases h1
    rcases set_at q2 with ⟨_, z'⟩ | ⟨_, z'⟩
    · subst z'; cases h2
    exact S.inj j k s t a z z' h1 h2
  keep := S.keep
  new := S.new
  ios := S.ios
theorem set_set {e : Ev} {i : Nat} {s t : Slot} : (e.set i s).set i t = e.set i t := by simp
theorem ownHas (S : Sim C G F e σ H) {i : Nat} {s : Slot} (q : e[i]? = some s) (o : s.own = true) (ni : ∀ k ds, s ≠ .io k ds) : ∃ a u, σ[i]? = some (some (.ref a)) ∧ H a = some u ∧ OwnOk C.K F s u ∧ Lone G F (e.set i .un) σ a := by
  obtain ⟨a, u, h1, h2, h3, h4, h5⟩ := S.ow i s q o
  have h0 : G.H0 a = none := by
    cases s with
    | ol ds => exact h5
    | od kvs => exact h5
    | io k ds => exact absurd rfl (ni k ds)
    | _ => cases o
  exact ⟨a, u, h1, h2, h3, S.left q o h1 h4 h0⟩
theorem mV_read {i : Nat} {Q : VK} (q : teOf0 C (mV i) σ H Q) : tVar i σ H (lk Q) := by
  obtain ⟨G, F, e, S, h⟩ := q
  unfold mV at h
  cases qe : e[i]? with
  | none => rw [qe] at h; exact h.elim
  | some s =>
    rw [qe] at h
    cases s with
    | un => exact h.elim
    | io k ds => exact h.elim
    | xc c fs => exact h.elim
    | fz d =>
      obtain ⟨v, h1, h2⟩ := S.fz i d qe
      exact ⟨v, h1, .inl (h F H (Same.refl F) S v h2)⟩
    | ol ds =>
      obtain ⟨a, u, h1, h2, ⟨xs, eu, hr⟩, l⟩ := ownHas S qe rfl (fun _ _ => nofun)
      subst eu
      refine ⟨_, h1, ?_⟩
      have S1 := (S.leave i).freeze l h2
      have r : Rep C.K (upd F a (.lst xs)) (.list ds) (.ref a) := by
        unfold Rep
        exact ⟨a, xs, rfl, .inl upd_same, hr.mono (same_upd l.1)⟩
      have S2 := S1.setFz h1 r
      rw [set_set] at S2
      exact .inl (h _ H (same_upd l.1) S2 _ r)
    | od kvs =>
      obtain ⟨a, u, h1, h2, ⟨kx, eu, hr⟩, l⟩ := ownHas S qe rfl (fun _ _ => nofun)
      subst eu
      refine ⟨_, h1, .inr ⟨a, kx, rfl, h2, fun od => ?_⟩⟩
      have S1 := (S.leave i).lockD (od := od) l h2
      have r : Rep C.K (upd F a (.frz od (.dK kx))) (.dict kvs) (.ref a) := by
        unfold Rep
        exact ⟨a, od, kx, rfl, upd_same, hr.mono (same_upd l.1)⟩
      have S2 := S1.setFz h1 r
      rw [set_set] at S2
      exact h _ _ (same_upd l.1) S2 _ r
theorem mM_read {i : Nat} {Q : VK} (q : teOf0 C (mM i) σ H Q) : tVar i σ H Q := by
  obtain ⟨G, F, e, S, h⟩ := q
  unfold mM at h
  cases qe : e[i]? with
  | none => rw [qe] at h; exact h.elim
  | some s =>
    rw [qe] at h
    cases s with
    | un => exact h.elim
    | io k ds => exact h.elim
    | xc c fs => exact h.elim
    | fz d =>
      obtain ⟨v, h1, h2⟩ := S.fz i d qe
      exact ⟨v, h1, h F H (Same.refl F) S v h2⟩
    | ol ds =>
      obtain ⟨a, u, h1, h2, ⟨xs, eu, hr⟩, l⟩ := ownHas S qe rfl (fun _ _ => nofun)
      subst eu
      exact ⟨_, h1, h F H (Same.refl F) (S.leave i) _ ⟨a, xs, rfl, h2, hr, l⟩⟩
    | od kvs =>
      obtain ⟨a, u, h1, h2, ⟨kx, eu, hr⟩, l⟩ := ownHas S qe rfl (fun _ _ => nofun)
      subst eu
      exact ⟨_, h1, h F H (Same.refl F) (S.leave i) _ ⟨a, kx, rfl, h2, hr, l⟩⟩
end
section
variable {X : Cx} {W : WX} {sx : Option (Addr × Value × Option Addr)}
theorem de_v (i : Nat) {x : Str} {pos : Pos} (hN : X.N[i]? = some x := by rfl) (hv : Vis X.env.scope x := by first | exact Or.inl rfl | exact Or.inr (Or.inl rfl) | exact Or.inr (Or.inr rfl)) (hd : (x == ("__debug__" : Str)) = false := by decide)
    (hcd : (x == ("__classdict__" : Str)) = false := by decide) : DE X W sx (.Name x pos) (mV i) := te_impK (pe_var hN hv hd hcd) fun _ _ _ q => mV_read q
theorem de_m (i : Nat) {x : Str} {pos : Pos} (hN : X.N[i]? = some x := by rfl) (hv : Vis X.env.scope x := by first | exact Or.inl rfl | exact Or.inr (Or.inl rfl) | exact Or.inr (Or.inr rfl)) (hd : (x == ("__debug__" : Str)) = false := by decide)
    (hcd : (x == ("__classdict__" : Str)) = false := by decide) : DE X W sx (.Name x pos) (mM i) := te_imp (pe_var hN hv hd hcd) fun _ _ _ q => mM_read q
/-- a module's constant -/
theorem de_glob {x : Str} {v : V} {u : Value} {d : D} {pos : Pos} (hg : Gl X x) (hm : X.mg x = some u) (rv : RelV v u) (r : ∀ F : Hp, Rep X.K F d v) (hd : (x == ("__debug__" : Str)) = false := by decide) : DE X W sx (.Name x pos) (mC d) := de_const (pe_glob hg hm rv hd) r
theorem de_bin {a b : Expr} {op : Operator} {oa ob : Opd} {g : D → D → Option VR} {pos : Pos} (ho : Op2 X (binaryOp op) g) (ha : DO X W sx a oa) (hb : DO X W sx b ob) : DE X W sx (.BinOp a op b pos) (mB g oa ob) := by
  obtain ⟨r, hr, hs⟩ := ho
  exact te_imp (pe_op hr ha hb) fun σ H Q q => op2_read hs q
/-- an expression that is a bool: as a value, as a test -/
def mT (m : Ex) : Ev → Re Bool := fun e => (val m e).bind fun d e1 => match d with
  | .bool b => .ok b e1
  | _ => .no
structure BE (X : Cx) (W : WX) (sx : Option (Addr × Value × Option Addr)) (e : Expr) (m : Ex) : Prop where
  v : DE X W sx e m
  t : PT X e (ttOf ⟨X.K, X.mg, W, sx⟩ (mT m))
structure BW (X : Cx) (W : WX) (sx : Option (Addr × Value × Option Addr)) (e : Expr) (m : Ex) : Prop where
  v : DE X W sx e m
  t : PW X e (ttOf ⟨X.K, X.mg, W, sx⟩ (mT m))
theorem bind_bind {α β γ : Type} (r : Re α) (f : α → Ev → Re β) (g : β → Ev → Re γ) : (r.bind f).bind g = r.bind fun a e => (f a e).bind g := by
  cases r <;> rfl
theorem tb_read0 {C : Cw} {m : Ex} {σ : L2.St} {H : Hp} {Q : Bool → Hp → Prop} (q : ttOf C (mT m) σ H Q) : teOf0 C m σ H fun x H1 => ∃ c, x = .bl c ∧ Q c H1 := by
  obtain ⟨G, F, e, S, h⟩ := q
  have h' : (pB C G σ Q).P F ((m e).bind fun r e1 => match r.d with
    | .bool b => .ok b e1
    | _ => .no) := by
    unfold mT val at h
    rw [bind_bind] at h
    exact h
  refine te_bindR0 (pB C G σ Q) S h' fun r e1 F1 H1 v1 s1 S1 R1 h1 => ?_
  cases r with
  | v d =>
    cases d with
    | bool b =>
      have ev : v1 = .bl b := R1
      exact ⟨b, ev, h1 F1 H1 (Same.refl _) S1⟩
    | _ => exact h1.elim
  | _ => exact h1.elim
theorem tb_read {C : Cw} {m : Ex} {σ : L2.St} {H : Hp} {Q : Bool → Hp → Prop} (q : ttOf C (mT m) σ H Q) : teOf C m σ H fun x H1 => ∃ c, x = .bl c ∧ Q c H1 := (tb_read0 q).lk
theorem be_val {e : Expr} {m : Ex} (h : DE X W sx e m) (he : ∀ whole, isTrue e X.env whole = (do let v ← whole; standAt e.pos; holding [v] (truthy v)) := by intro _; rfl) : BE X W sx e m :=
  ⟨h, tt_imp (pt_val h he) fun σ H Q q => show teOf _ m σ H (fun x H1 => ∃ c, x = V.bl c ∧ Q c H1) from tb_read q⟩
theorem be_cmp {a b : Expr} {op : CmpOp} {oa ob : Opd} {g : D → D → Option VR} {pos : Pos} (ho : Op2 X (compareOp op) g) (ha : DO X W sx a oa) (hb : DO X W sx b ob) (hm : behindInMarks op b = false := by first | exact nomark _ | with_unfolding_all rfl) :
    BE X W sx (.Compare a [op] [b] pos) (mB g oa ob) := by
  obtain ⟨r, hr, hs⟩ := ho
  refine ⟨te_imp (pe_cmpR hr ha hb hm) fun σ H Q q => op2_read hs q, tt_imp (pt_cmpR hr ha hb hm) fun σ H Q q => ?_⟩
  have q2 := tb_read0 q
  exact op2_read hs q2
def mAnd (a b : Ex) : Ex := fun e => (val a e).bind fun d e1 => match d with
  | .bool true => b e1
  | .bool false => .ok (.v (.bool false)) e1
  | _ => .no
def mOr (a b : Ex) : Ex := fun e => (val a e).bind fun d e1 => match d with
  | .bool true => .ok (.v (.bool true)) e1
  | .bool false => b e1
  | _ => .no
def mNot (a : Ex) : Ex := fun e => (val a e).bind fun d e1 => match d with
  | .bool b => .ok (.v (.bool (!b))) e1
  | _ => .no
theorem mT_and {a b : Ex} {e : Ev} : mT (mAnd a b) e = (mT a e).bind fun c e1 => if c = true then mT b e1 else .ok false e1 := by
  simp only [mT, mAnd, val]
  cases a e with
  | no => rfl
  | ex c fs e1 => rfl
  | ok r e1 =>
    simp only [Re.bind]
    cases r.d with
    | bool c => cases c <;> rfl
    | _ => rfl
theorem mT_or {a b : Ex} {e : Ev} : mT (mOr a b) e = (mT a e).bind fun c e1 => if c = true then .ok true e1 else mT b e1 := by
  simp only [mT, mOr, val]
  cases a e with
  | no => rfl
  | ex c fs e1 => rfl
  | ok r e1 =>
    simp only [Re.bind]
    cases r.d with
    | bool c => cases c <;> rfl
    | _ => rfl
theorem mT_not {a : Ex} {e : Ev} : mT (mNot a) e = (mT a e).bind fun c e1 => .ok (!c) e1 := by
  simp only [mT, mNot, val]
  cases a e with
  | no => rfl
  | ex c fs e1 => rfl
  | ok r e1 =>
    simp only [Re.bind]
    cases r.d <;> rfl
theorem te_end {C : Cw} {G : Gh} {F : Hp} {σ : L2.St} {H : Hp} {Q : VK} {e : Ev} {m : Ex} (S : Sim C G F e σ H) (h : (pE C G σ Q).P F (m e)) : teOf C m σ H Q := ⟨G, F, e, S, pE_lk h⟩
theorem mT_bind {m : Ex} {e : Ev} {f : D → Ev → Re VR} : ((val m e).bind f).bind (fun r e1 => Re.ok r.d e1) = (val m e).bind fun d e1 => (f d e1).bind fun r e2 => .ok r.d e2 := by
  cases h : val m e <;> rfl
theorem bw_one {op : BoolOp} {a : Expr} {m : Ex} {pos : Pos} (h : BE X W sx a m) : BW X W sx (.BoolOp op [a] pos) m := by
  refine ⟨pe_one h.v, ?_⟩
  cases op with
  | And => exact pw_and1 h.t
  | Or => exact pw_or1 h.t
theorem bw_and {a b : Expr} {rest : List Expr} {ma mb : Ex} {pos : Pos} (ha : BE X W sx a ma) (hb : BW X W sx (.BoolOp .And (b :: rest) pos) mb) : BW X W sx (.BoolOp .And (a :: b :: rest) pos) (mAnd ma mb) := by
  refine ⟨te_imp (pe_and ha.v hb.v) fun σ H Q q => ?_, ⟨fun wh pins s σ H Q I q => (pw_and ha.t hb.t).run wh pins s σ H Q I ?_⟩⟩
  · obtain ⟨G, F, e, S, h⟩ := q
    refine te_bind (pE _ G σ Q) S h fun d e1 F1 H1 v1 s1 S1 R1 h1 => ?_
    cases d with
    | bool b =>
      have ev : v1 = .bl b := R1
      refine ⟨b, ev, ?_⟩
      cases b with
      | true => exact te_end S1 h1
      | false => exact h1 F1 H1 (Same.refl _) S1 _ rfl
    | _ => exact h1.elim
  · obtain ⟨G, F, e, S, h⟩ := q
    have h' : (pB ⟨X.K, X.mg, W, sx⟩ G σ Q).P F ((mT ma e).bind fun b e1 => if b = true then mT mb e1 else .ok false e1) := by
      rw [← mT_and]; exact h
    refine tt_bind (pB _ G σ Q) S h' fun b e1 F1 H1 s1 S1 h1 => ?_
    cases b with
    | true => exact ⟨G, F1, e1, S1, h1⟩
    | false => exact h1 F1 H1 (Same.refl _) S1
theorem bw_or {a b : Expr} {rest : List Expr} {ma mb : Ex} {pos : Pos} (ha : BE X W sx a ma) (hb : BW X W sx (.BoolOp .Or (b :: rest) pos) mb) : BW X W sx (.BoolOp .Or (a :: b :: rest) pos) (mOr ma mb) := by
  refine ⟨te_imp (pe_or ha.v hb.v) fun σ H Q q => ?_, ⟨fun wh pins s σ H Q I q => (pw_or ha.t hb.t).run wh pins s σ H Q I ?_⟩⟩
  · obtain ⟨G, F, e, S, h⟩ := q
    refine te_bind (pE _ G σ Q) S h fun d e1 F1 H1 v1 s1 S1 R1 h1 => ?_
    cases d with
    | bool b =>
      have ev : v1 = .bl b := R1
      refine ⟨b, ev, ?_⟩
      cases b with
      | false => exact te_end S1 h1
      | true => exact h1 F1 H1 (Same.refl _) S1 _ rfl
    | _ => exact h1.elim
  · obtain ⟨G, F, e, S, h⟩ := q
    have h' : (pB ⟨X.K, X.mg, W, sx⟩ G σ Q).P F ((mT ma e).bind fun b e1 => if b = true then .ok true e1 else mT mb e1) := by
      rw [← mT_or]; exact h
    refine tt_bind (pB _ G σ Q) S h' fun b e1 F1 H1 s1 S1 h1 => ?_
    cases b with
    | false => exact ⟨G, F1, e1, S1, h1⟩
    | true => exact h1 F1 H1 (Same.refl _) S1
theorem be_not {a : Expr} {ma : Ex} {pos : Pos} (ha : BE X W sx a ma) : BE X W sx (.UnaryOp .Not a pos) (mNot ma) := by
  refine ⟨te_imp (pe_not ha.v) fun σ H Q q => ?_, tt_imp (pt_not ha.t) fun σ H Q q => ?_⟩
  · obtain ⟨G, F, e, S, h⟩ := q
    refine te_bind (pE _ G σ Q) S h fun d e1 F1 H1 v1 s1 S1 R1 h1 => ?_
    cases d with
    | bool b => exact ⟨b, R1, h1 F1 H1 (Same.refl _) S1 _ rfl⟩
    | _ => exact h1.elim
  · obtain ⟨G, F, e, S, h⟩ := q
    have h' : (pB ⟨X.K, X.mg, W, sx⟩ G σ Q).P F ((mT ma e).bind fun b e1 => .ok (!b) e1) := by
      rw [← mT_not]; exact h
    exact tt_bind (pB _ G σ Q) S h' fun b e1 F1 H1 s1 S1 h1 => h1 F1 H1 (Same.refl _) S1
/-- a if t else b -/
def mIf (t a b : Ex) : Ex := fun e => (mT t e).bind fun c e1 => if c = true then a e1 else b e1
theorem de_if {t a b : Expr} {mt ma mb : Ex} {pos : Pos} (ht : BE X W sx t mt) (ha : DE X W sx a ma) (hb : DE X W sx b mb) : DE X W sx (.IfExp t a b pos) (mIf mt ma mb) := by
  refine te_imp (pe_ifExp ht.t ha hb) fun σ H Q ⟨G, F, e, S, h⟩ => ?_
  refine tt_bind (pE _ G σ Q) S h fun c e1 F1 H1 s1 S1 h1 => ?_
  cases c with
  | true => exact te_end S1 h1
  | false => exact te_end S1 h1
end
section
variable {X : Cx} {W : WX} {sx : Option (Addr × Value × Option Addr)}
theorem be_bw {op : BoolOp} {l : List Expr} {m : Ex} {pos : Pos} (h : BW X W sx (.BoolOp op l pos) m) : BE X W sx (.BoolOp op l pos) m := ⟨h.v, h.t.pt⟩
end
end RL

/-! RL2: statements, targets, loops. -/
namespace RL
open PySem PySem.Spec PyProof.Rows L2

/-- what a statement's end asks for -/
def PS0 (C : Cw) (G : Gh) (d : Ends) (F : Hp) : Re Fl → Prop
  | .ok .nx e => ∀ F' σ' H', Same F F' → Sim C G F' e σ' H' → d.nx σ' H'
  | .ok .bk e => ∀ F' σ' H', Same F F' → Sim C G F' e σ' H' → d.bk σ' H'
  | .ok .ct e => ∀ F' σ' H', Same F F' → Sim C G F' e σ' H' → d.ct σ' H'
  | .ok (.rt r) e => ∀ F' σ' H', Same F F' → Sim C G F' e σ' H' → ∀ v, RepR C G F' H' e σ' v r → d.rt v H'
  | .ex c fs e => ∀ F' σ' H' cl x, Same F F' → Sim C G F' e σ' H' → RepX C F' cl x c fs → C.W (.ref cl) x σ' H'
  | .no => False
theorem PS0.mono {C : Cw} {G : Gh} {d : Ends} {F F1 : Hp} (s : Same F F1) : ∀ {r : Re Fl}, PS0 C G d F r → PS0 C G d F1 r
  | .ok .nx _, h => fun F' σ' H' s' => h F' σ' H' (s.trans s')
  | .ok .bk _, h => fun F' σ' H' s' => h F' σ' H' (s.trans s')
  | .ok .ct _, h => fun F' σ' H' s' => h F' σ' H' (s.trans s')
  | .ok (.rt _) _, h => fun F' σ' H' s' => h F' σ' H' (s.trans s')
  | .ex _ _ _, h => fun F' σ' H' cl x s' => h F' σ' H' cl x (s.trans s')
  | .no, h => h
def pS (C : Cw) (G : Gh) (d : Ends) (σ : L2.St) : Pst C G σ Fl where
  P F r := PS0 C G d F r
  mono s h := PS0.mono s h
  ex {F c fs e} h := fun F' H' cl x s S r => h F' σ H' cl x s S r
  no h := h
def tsOf (C : Cw) (m : Sm) : TS := fun d σ H => ∃ G F e, Sim C G F e σ H ∧ PS0 C G d F (m e)
abbrev DS (X : Cx) (W : WX) (sx : Option (Addr × Value × Option Addr)) (s : Stmt) (m : Sm) : Prop := PS X s (tsOf ⟨X.K, X.mg, W, sx⟩ m)
abbrev DB (X : Cx) (W : WX) (sx : Option (Addr × Value × Option Addr)) (s : List Stmt) (m : Sm) : Prop := PSs X s (tsOf ⟨X.K, X.mg, W, sx⟩ m)

/-! ### storing -/
def VR.slot : VR → Slot
  | .v d => .fz d
  | .fl ds => .ol ds
  | .fd kvs => .od kvs
/-- slot i gets s; a list that was handed in keeps its slot -/
def putS (i : Nat) (s : Slot) (e : Ev) : Option Ev := match e[i]? with
  | none => none
  | some (.io _ _) => none
  | some _ => some (e.set i s)
section
variable {C : Cw} {G : Gh} {F H : Hp} {e : Ev} {σ : L2.St}
theorem putS_some {i : Nat} {s : Slot} {e e' : Ev} (h : putS i s e = some e') : i < e.length ∧ e' = e.set i s ∧ ∀ k ds, e[i]? ≠ some (.io k ds) := by
  unfold putS at h
  cases q : e[i]? with
  | none => rw [q] at h; cases h
  | some t =>
    have hl := (List.getElem?_eq_some_iff.mp q).1
    rw [q] at h
    cases t with
    | io k ds => cases h
    | _ => cases h; exact ⟨hl, rfl, fun k ds => nofun⟩
theorem set_get {α : Type} {l : List α} {i j : Nat} {x y : α} (h : (l.set i x)[j]? = some y) (n : j ≠ i) : l[j]? = some y := by
  rw [List.getElem?_set_ne (Ne.symm n)] at h; exact h
theorem get_set {α : Type} {l : List α} {i j : Nat} {x y : α} (h : l[j]? = some y) (n : j ≠ i) : (l.set i x)[j]? = some y := by
  rw [List.getElem?_set_ne (Ne.symm n)]; exact h
theorem Sim.put (S : Sim C G F e σ H) {i : Nat} {v : V} {r : VR} (hi : i < e.length) (h : RepR C G F H e σ v r) : Sim C G F (e.set i r.slot) (σ.set i (some v)) H := by
  have hσ : i < σ.length := by rw [← S.len]; exact hi
  have own : ∀ (t : Slot) (a : Addr), r.slot.own = true → t = r.slot → σ.set i (some v) = σ.set i (some v) → (σ.set i (some v))[i]? = some (some (.ref a)) → Lone G F e σ a := by
    intro t a ho _ _ q
    rw [List.getElem?_set_self hσ] at q
    cases q
    cases r with
    | v d => cases ho
    | fl ds => obtain ⟨b, xs, eb, _, _, l⟩ := h; cases eb; exact l
    | fd ds => obtain ⟨b, xs, eb, _, _, l⟩ := h; cases eb; exact l
  refine ⟨S.sub, S.f0, by simp [S.len], fun j d q => ?_, fun j c fs q => ?_, fun j s q o => ?_, fun j k s t a q1 q2 o1 o2 h1 h2 => ?_, S.keep, S.new, S.ios⟩
  · rcases set_at q with ⟨z, w⟩ | ⟨z, w⟩
    · subst z
      cases r with
      | v d' => cases w; exact ⟨v, by rw [List.getElem?_set_self hσ], h⟩
      | _ => cases w
    · obtain ⟨u, h1, h2⟩ := S.fz j d w
      exact ⟨u, get_set h1 z, h2⟩
  · rcases set_at q with ⟨z, w⟩ | ⟨z, w⟩
    · cases r <;> cases w
    · obtain ⟨a, cl, x, h1, h2⟩ := S.xc j c fs w
      exact ⟨a, cl, x, get_set h1 z, h2⟩
  · rcases set_at q with ⟨z, w⟩ | ⟨z, w⟩
    · subst z
      subst w
      cases r with
      | v d' => cases o
      | fl ds =>
        obtain ⟨a, xs, ea, h1, h2, l⟩ := h
        exact ⟨a, _, by rw [List.getElem?_set_self hσ, ea], h1, ⟨xs, rfl, h2⟩, l.1, l.2.1⟩
      | fd ds =>
        obtain ⟨a, xs, ea, h1, h2, l⟩ := h
        exact ⟨a, _, by rw [List.getElem?_set_self hσ, ea], h1, ⟨xs, rfl, h2⟩, l.1, l.2.1⟩
    · obtain ⟨a, u, h1, h2⟩ := S.ow j s w o
      exact ⟨a, u, get_set h1 z, h2⟩
  · rcases set_at q1 with ⟨z, w⟩ | ⟨z, w⟩
    · rcases set_at q2 with ⟨z', w'⟩ | ⟨z', w'⟩
      · rw [z, z']
      · subst z
        have l := own s a (by rw [← w]; exact o1) w rfl h1
        exact absurd (set_get h2 z') (l.2.2 k t w' o2)
    · rcases set_at q2 with ⟨z', w'⟩ | ⟨z', w'⟩
      · subst z'
        have l := own t a (by rw [← w']; exact o2) w' rfl h2
        exact absurd (set_get h1 z) (l.2.2 j s w o1)
      · exact S.inj j k s t a w w' o1 o2 (set_get h1 z) (set_get h2 z')
end

/-! ### simple statements -/
def sA (i : Nat) (m : Ex) : Sm := fun e => (m e).bind fun r e1 => match putS i r.slot e1 with
  | some e2 => .ok .nx e2
  | none => .no
def sE (m : Ex) : Sm := fun e => (m e).bind fun _ e1 => .ok .nx e1
def sR (m : Ex) : Sm := fun e => (m e).bind fun r e1 => .ok (.rt r) e1
def sN : Sm := fun e => .ok .nx e
def sIf (t : Ex) (a b : Sm) : Sm := fun e => (mT t e).bind fun c e1 => if c = true then a e1 else b e1
def sSeq (a b : Sm) : Sm := fun e => match a e with
  | .ok .nx e1 => b e1
  | .ok f e1 => .ok f e1
  | .ex c fs e1 => .ex c fs e1
  | .no => .no
section
variable {X : Cx} {W : WX} {sx : Option (Addr × Value × Option Addr)}
theorem asg_read {C : Cw} {i : Nat} {m : Ex} {t : TE} (ht : ∀ σ H Q, teOf0 C m σ H Q → t σ H Q) {d : Ends} {σ : L2.St} {H : Hp} (q : tsOf C (sA i m) d σ H) : tAsg t (gName i) d σ H := by
  obtain ⟨G, F, e, S, h⟩ := q
  refine ht _ _ _ (te_bindR0 (pS C G d σ) S h fun r e1 F1 H1 v1 s1 S1 R1 h1 => ?_)
  cases qp : putS i r.slot e1 with
  | none => rw [qp] at h1; exact h1.elim
  | some e2 =>
    rw [qp] at h1
    obtain ⟨hl, rfl, _⟩ := putS_some qp
    exact h1 F1 _ H1 (Same.refl _) (S1.put hl R1)
theorem ds_set {i : Nat} {x : Str} {e : Expr} {m : Ex} {pos pos' : Pos} (hN : X.N.Nodup) (hi : X.N[i]? = some x) (hx : Loc X.env.scope x) (he : DE X W sx e m) (hs : swapsWith e (some (.Name x pos')) pos.line X.env = pure false := by rfl)
    (hf : X.fn x = true ∨ X.env.scope.names.lookup x = some .local := by first | exact .inl rfl | exact .inr rfl | assumption) : DS X W sx (.Assign [.Name x pos'] e pos) (sA i m) :=
  ts_imp (ps_set hN hi hx he hs hf) fun d σ H q => asg_read (fun _ _ _ z => z.lk) q
theorem ds_expr {e : Expr} {m : Ex} {pos : Pos} (he : DE X W sx e m) (hs : swapsWith e none pos.line X.env = pure false := by rfl) : DS X W sx (.Expr e pos) (sE m) :=
  ts_imp (ps_expr he hs) fun d σ H ⟨G, F, e, S, h⟩ => te_bindR (pS _ G d σ) S h fun r e1 F1 H1 v1 s1 S1 R1 h1 => h1 F1 σ H1 (Same.refl _) S1
theorem ds_ret {e : Expr} {m : Ex} {pos : Pos} (he : DE X W sx e m) : DS X W sx (.Return (some e) pos) (sR m) :=
  ts_imp (ps_ret he) fun d σ H ⟨G, F, e, S, h⟩ => te_bindR (pS _ G d σ) S h fun r e1 F1 H1 v1 s1 S1 R1 h1 => h1 F1 σ H1 (Same.refl _) S1 v1 R1
theorem ds_retN {pos : Pos} : DS X W sx (.Return none pos) (fun e => .ok (.rt (.v .none)) e) :=
  ts_imp ps_retN fun d σ H ⟨G, F, e, S, h⟩ => h F σ H (Same.refl _) S .non rfl
theorem ds_pass {pos : Pos} : DS X W sx (.Pass pos) sN := ts_imp ps_pass fun d σ H ⟨G, F, e, S, h⟩ => h F σ H (Same.refl _) S
theorem ds_break {pos : Pos} : DS X W sx (.Break pos) (fun e => .ok .bk e) := ts_imp ps_break fun d σ H ⟨G, F, e, S, h⟩ => h F σ H (Same.refl _) S
theorem ds_cont {pos : Pos} : DS X W sx (.Continue pos) (fun e => .ok .ct e) := ts_imp ps_continue fun d σ H ⟨G, F, e, S, h⟩ => h F σ H (Same.refl _) S
theorem db_nil : DB X W sx [] sN := tss_imp pss_nil fun d σ H ⟨G, F, e, S, h⟩ => h F σ H (Same.refl _) S
theorem db_one {s : Stmt} {m : Sm} (h : DS X W sx s m) : DB X W sx [s] m := pss_one h
theorem seq_read {C : Cw} {G : Gh} {d : Ends} {F H : Hp} {e : Ev} {σ : L2.St} {a b : Sm} (S : Sim C G F e σ H) (h : PS0 C G d F (sSeq a b e)) : PS0 C G { d with nx := tsOf C b d } F (a e) := by
  unfold sSeq at h
  cases ha : a e with
  | no => rw [ha] at h; exact h
  | ex c fs e1 => rw [ha] at h; exact h
  | ok f e1 =>
    rw [ha] at h
    cases f with
    | nx => exact fun F' σ' H' s S' => ⟨G, F', e1, S', PS0.mono s h⟩
    | bk => exact h
    | ct => exact h
    | rt r => exact h
theorem db_cons {s : Stmt} {l : List Stmt} {a b : Sm} (h : DS X W sx s a) (hl : DB X W sx l b) : DB X W sx (s :: l) (sSeq a b) :=
  tss_imp (pss_cons h hl) fun d σ H ⟨G, F, e, S, q⟩ => ⟨G, F, e, S, seq_read S q⟩
theorem ds_if {c : Expr} {a b : List Stmt} {mt : Ex} {ma mb : Sm} {pos : Pos} (ht : BE X W sx c mt) (ha : DB X W sx a ma) (hb : DB X W sx b mb) : DS X W sx (.If c a b pos) (sIf mt ma mb) :=
  ts_imp (ps_if ht.t ha hb) fun d σ H ⟨G, F, e, S, h⟩ => tt_bind (pS _ G d σ) S h fun c e1 F1 H1 s1 S1 h1 => by
    cases c with
    | true => exact ⟨G, F1, e1, S1, h1⟩
    | false => exact ⟨G, F1, e1, S1, h1⟩
end

/-! ### targets -/
inductive Tg where
  | nm (i : Nat)
  | tp (is : List Nat)
def putL : List Nat → List D → Ev → Option Ev
  | [], [], e => some e
  | i :: is, d :: ds, e => (putS i (.fz d) e).bind (putL is ds)
  | _, _, _ => none
def Tg.put : Tg → D → Ev → Option Ev
  | .nm i, d, e => putS i (.fz d) e
  | .tp is, .tuple ds, e => putL is ds e
  | _, _, _ => none
def gN : List Nat → TGs
  | [] => gNil
  | i :: is => gCons (gName i) (gN is)
def gT (K : PySem.W.Frag) : Tg → TG
  | .nm i => gName i
  | .tp is => gTup K is.length (gN is)
section
variable {C : Cw} {G : Gh} {F H : Hp} {e : Ev} {σ : L2.St}
theorem putL_length : ∀ {is : List Nat} {ds : List D} {e e' : Ev}, putL is ds e = some e' → ds.length = is.length
  | [], [], _, _, _ => rfl
  | i :: is, d :: ds, e, e', h => by
    unfold putL at h
    cases q : putS i (.fz d) e with
    | none => rw [q] at h; cases h
    | some e1 => rw [q] at h; simp [putL_length (is := is) (ds := ds) h]
  | [], _ :: _, _, _, h => by cases h
  | _ :: _, [], _, _, h => by cases h
theorem gN_read : ∀ {is : List Nat} {ds : List D} {vs : List V} {e e' : Ev} {σ : L2.St} {Q : L2.St → Hp → Prop}, Sim C G F e σ H → Reps C.K F ds vs → putL is ds e = some e' → (∀ σ', Sim C G F e' σ' H → Q σ' H) → gN is vs σ H Q
  | [], [], vs, e, e', σ, Q, S, r, h, q => by
    unfold Reps at r
    cases h
    exact ⟨r, q σ S⟩
  | i :: is, d :: ds, vs, e, e', σ, Q, S, r, h, q => by
    obtain ⟨x, xs, ev, r1, r2⟩ := r.uncons
    unfold putL at h
    cases qp : putS i (.fz d) e with
    | none => rw [qp] at h; cases h
    | some e1 =>
      rw [qp] at h
      obtain ⟨hl, rfl, _⟩ := putS_some qp
      exact ⟨x, xs, ev, gN_read (S.put (r := .v d) hl r1) r2 h q⟩
  | [], _ :: _, _, _, _, _, _, _, _, h, _ => by cases h
  | _ :: _, [], _, _, _, _, _, _, _, h, _ => by cases h
theorem gT_read {t : Tg} {d : D} {v : V} {e' : Ev} {Q : L2.St → Hp → Prop} (S : Sim C G F e σ H) (r : Rep C.K F d v) (h : t.put d e = some e') (q : ∀ σ', Sim C G F e' σ' H → Q σ' H) : gT C.K t v σ H Q := by
  cases t with
  | nm i =>
    obtain ⟨hl, rfl, _⟩ := putS_some (show putS i (.fz d) e = some e' from h)
    exact q _ (S.put (r := .v d) hl r)
  | tp is =>
    cases d with
    | tuple ds =>
      unfold Rep at r
      obtain ⟨a, xs, ev, hs, hr⟩ := r
      have h' : putL is ds e = some e' := h
      refine ⟨a, xs, ev, ?_, ?_, gN_read S hr h' q⟩
      · rcases hs with (z | ⟨o, z⟩) | z
        · exact .inl (.inl (S.sub _ _ z))
        · exact .inl (.inr ⟨o, S.sub _ _ z⟩)
        · exact .inr z
      · rw [hr.length]; exact putL_length h'
    | _ => cases h
end
/-- a, b = e -/
def sU (t : Tg) (m : Ex) : Sm := fun e => (val m e).bind fun d e1 => match t.put d e1 with
  | some e2 => .ok .nx e2
  | none => .no
section
variable {X : Cx} {W : WX} {sx : Option (Addr × Value × Option Addr)}
theorem ds_unp {t : Tg} {tg e : Expr} {m : Ex} {pos : Pos} (he : DE X W sx e m) (hg : PG X tg (gT X.K t)) (hs : swapsWithSole [tg] e pos.line X.env = pure false := by rfl) (hw : swappedStores [tg] e X.env = pure none := by rfl)
    (h1 : (assignEach [tg] X.env).map (·.2) = [assign tg X.env] := by rfl) : DS X W sx (.Assign [tg] e pos) (sU t m) :=
  ts_imp (ps_asg he hg hs hw h1) fun d σ H ⟨G, F, e, S, h⟩ => te_bind (pS _ G d σ) S h fun r e1 F1 H1 v1 s1 S1 R1 h1 => by
    cases qp : t.put r e1 with
    | none => rw [qp] at h1; exact h1.elim
    | some e2 =>
      rw [qp] at h1
      exact gT_read (C := ⟨X.K, X.mg, W, sx⟩) S1 R1 qp fun σ' S2 => h1 F1 σ' H1 (Same.refl _) S2
end

/-! ### what is walked -/
/-- J hands out what stands for ds, while the trees stay -/
structure ItOk (K : PySem.W.Frag) (J : It) (F : Hp) (ds : List D) : Prop where
  go : ∀ i H, Same F H → i < ds.length → J.go i H
  stop : ∀ i H, Same F H → i = ds.length → J.stop i H
  yld : ∀ i H x H' d, Same F H → ds[i]? = some d → J.yld i H x H' → (H' = H ∧ Rep K F d x) ∨ ∃ p xs l, H p = none ∧ H' = upd H p (.tup xs) ∧ x = .ref p ∧ d = .tuple l ∧ Reps K F l xs
theorem ItOk.mono {K : PySem.W.Frag} {J : It} {F F' : Hp} {ds : List D} (s : Same F F') (h : ItOk K J F ds) : ItOk K J F' ds :=
  ⟨fun i H s' => h.go i H (s.trans s'), fun i H s' => h.stop i H (s.trans s'), fun i H x H' d s' q y => by
    rcases h.yld i H x H' d (s.trans s') q y with ⟨e, r⟩ | ⟨p, xs, l, h1, h2, h3, h4, h5⟩
    · exact .inl ⟨e, Rep.mono s _ _ r⟩
    · exact .inr ⟨p, xs, l, h1, h2, h3, h4, h5.mono s⟩⟩
abbrev Im := Ev → Re (List D)
abbrev pI (C : Cw) (G : Gh) (σ : L2.St) (R : It → Hp → Prop) : Pst C G σ (List D) := pG C G σ fun ds e F' H' => ∀ J, ItOk C.K J F' ds → R J H'
def tiOf (C : Cw) (m : Im) : TI := fun σ H R => ∃ G F e, Sim C G F e σ H ∧ (pI C G σ R).P F (m e)
abbrev DI (X : Cx) (W : WX) (sx : Option (Addr × Value × Option Addr)) (tg it : Expr) (m : Im) : Prop := PI X tg it (tiOf ⟨X.K, X.mg, W, sx⟩ m)
theorem ti_bind {C : Cw} {G : Gh} {F H : Hp} {e : Ev} {σ : L2.St} {β : Type} {m : Im} {f : List D → Ev → Re β} {R : It → Hp → Prop} (P : Pst C G σ β) (S : Sim C G F e σ H) (h : P.P F ((m e).bind f))
    (k : ∀ ds e1 F1 H1 J, Same F F1 → Sim C G F1 e1 σ H1 → ItOk C.K J F1 ds → P.P F1 (f ds e1) → R J H1) : tiOf C m σ H R := by
  refine ⟨G, F, e, S, ?_⟩
  cases hm : m e with
  | no => rw [hm] at h; exact (P.no h).elim
  | ex c fs e1 => rw [hm] at h; exact P.ex h
  | ok r e1 =>
    rw [hm] at h
    exact fun F1 H1 s1 S1 J j => k r e1 F1 H1 J s1 S1 j (P.mono s1 h)
/-- an item has come -/
theorem Sim.item {C : Cw} {G : Gh} {F H H' : Hp} {e : Ev} {σ : L2.St} {J : It} {F0 : Hp} {ds : List D} {i : Nat} {x : V} {d : D} (S : Sim C G F e σ H) (j : ItOk C.K J F0 ds) (s : Same F0 F) (hd : ds[i]? = some d) (y : J.yld i H x H') :
    ∃ F', Same F F' ∧ Sim C G F' e σ H' ∧ Rep C.K F' d x := by
  rcases j.yld i H x H' d (s.trans S.sub) hd y with ⟨rfl, r⟩ | ⟨p, xs, l, h1, rfl, rfl, rfl, h5⟩
  · exact ⟨F, Same.refl F, S, Rep.mono s _ _ r⟩
  · refine ⟨upd F p (.tup xs), same_upd (S.f h1), (S.alloc h1).freeze (S.lone h1) upd_same, ?_⟩
    unfold Rep
    exact ⟨p, xs, rfl, SqT.of upd_same, h5.mono (s.trans (same_upd (S.f h1)))⟩

/-! ### for -/
def forL (t : Tg) (body : Sm) : List D → Ev → Re Fl
  | [], e => .ok .nx e
  | d :: ds, e => match t.put d e with
    | none => .no
    | some e1 => match body e1 with
      | .ok .nx e2 => forL t body ds e2
      | .ok .ct e2 => forL t body ds e2
      | .ok .bk e2 => .ok .nx e2
      | .ok (.rt r) e2 => .ok (.rt r) e2
      | .ex c fs e2 => .ex c fs e2
      | .no => .no
def sFor (t : Tg) (it : Im) (body : Sm) : Sm := fun e => (it e).bind fun ds e1 => forL t body ds e1
section
variable {X : Cx} {W : WX} {sx : Option (Addr × Value × Option Addr)}
theorem ds_for {t : Tg} {tg it : Expr} {body : List Stmt} {mi : Im} {mb : Sm} {pos : Pos} (hp : PassesOwn (model X.prog X.w) X.A X.env X.xe) (hc : X.calm = true) (hi : DI X W sx tg it mi) (hg : PG X tg (gT X.K t)) (hb : DB X W sx body mb)
    (hs : ∀ x, foldedSetIterable it X.env x = pure x := by intro _; rfl) : DS X W sx (.For tg it body [] pos) (sFor t mi mb) := by
  refine ts_imp (ps_for hp hc hi hg hb hs) fun d σ H ⟨G, F, e, S, h⟩ => ?_
  refine ti_bind (pS _ G d σ) S h fun ds e1 F1 H1 J s1 S1 j h1 => ?_
  refine ⟨fun i m σ' H' => i ≤ ds.length ∧ m = ds.length - i ∧ ∃ F' e', Same F1 F' ∧ Sim ⟨X.K, X.mg, W, sx⟩ G F' e' σ' H' ∧ PS0 ⟨X.K, X.mg, W, sx⟩ G d F' (forL t mb (ds.drop i) e'),
    ⟨ds.length, Nat.zero_le _, rfl, F1, e1, Same.refl _, S1, h1⟩, ?_⟩
  rintro i m σ2 H2 ⟨hi, rfl, F2, e2, s2, S2, h2⟩
  by_cases hlt : i < ds.length
  · refine .inr ⟨j.go i H2 (s2.trans S2.sub) hlt, fun σ' H' => ∃ F' e', Same F1 F' ∧ Sim ⟨X.K, X.mg, W, sx⟩ G F' e' σ' H' ∧ PS0 ⟨X.K, X.mg, W, sx⟩ G d F' (forL t mb (ds.drop (i + 1)) e'), fun σ' H' n => ⟨_, by omega, hlt, rfl, n⟩, fun x H' y => ?_⟩
    have hd : ds[i]? = some ds[i] := List.getElem?_eq_getElem hlt
    obtain ⟨F3, s3, S3, R3⟩ := S2.item j s2 hd y
    have ed : ds.drop i = ds[i] :: ds.drop (i + 1) := List.drop_eq_getElem_cons hlt
    rw [ed] at h2
    have h3 := PS0.mono s3 h2
    unfold forL at h3
    cases qp : t.put ds[i] e2 with
    | none => rw [qp] at h3; exact h3.elim
    | some e3 =>
      rw [qp] at h3
      dsimp only at h3
      refine gT_read (C := ⟨X.K, X.mg, W, sx⟩) S3 R3 qp fun σ3 S4 => ⟨G, F3, e3, S4, ?_⟩
      cases hm : mb e3 with
      | no => rw [hm] at h3; exact h3
      | ex c fs e4 => rw [hm] at h3; exact h3
      | ok f e4 =>
        rw [hm] at h3
        cases f with
        | nx => exact fun F' σ' H' s S' => ⟨F', e4, (s2.trans s3).trans s, S', PS0.mono s h3⟩
        | ct => exact fun F' σ' H' s S' => ⟨F', e4, (s2.trans s3).trans s, S', PS0.mono s h3⟩
        | bk => exact h3
        | rt r => exact h3
  · have e0 : i = ds.length := by omega
    subst e0
    rw [List.drop_length] at h2
    exact .inl ⟨j.stop _ H2 (s2.trans S2.sub) rfl, h2 F2 σ2 H2 (Same.refl _) S2⟩

/-! ### while -/
def whL (t : Ex) (body : Sm) : Nat → Ev → Re Fl
  | 0, _ => .no
  | n + 1, e => (mT t e).bind fun c e1 => match c with
    | false => .ok .nx e1
    | true => match body e1 with
      | .ok .nx e2 => whL t body n e2
      | .ok .ct e2 => whL t body n e2
      | .ok .bk e2 => .ok .nx e2
      | .ok (.rt r) e2 => .ok (.rt r) e2
      | .ex c fs e2 => .ex c fs e2
      | .no => .no
def sWhile (n : Nat) (t : Ex) (body : Sm) : Sm := fun e => whL t body n e
theorem ds_while {n : Nat} {c : Expr} {body : List Stmt} {mt : Ex} {mb : Sm} {pos : Pos} (hp : PassesOwn (model X.prog X.w) X.A X.env X.xe) (ht : BE X W sx c mt) (hb : DB X W sx body mb) : DS X W sx (.While c body [] pos) (sWhile n mt mb) := by
  refine ts_imp (ps_while hp ht.t hb) fun d σ H ⟨G, F, e, S, h⟩ => ?_
  refine ⟨fun m σ' H' => ∃ F' e', Sim ⟨X.K, X.mg, W, sx⟩ G F' e' σ' H' ∧ PS0 ⟨X.K, X.mg, W, sx⟩ G d F' (whL mt mb m e'), ⟨n, F, e, S, h⟩, ?_⟩
  rintro m σ2 H2 ⟨F2, e2, S2, h2⟩
  cases m with
  | zero => exact h2.elim
  | succ m =>
    unfold whL at h2
    refine tt_bind (pS _ G d σ2) S2 h2 fun b e3 F3 H3 s3 S3 h3 => ?_
    cases b with
    | false => exact h3 F3 σ2 H3 (Same.refl _) S3
    | true =>
      refine ⟨fun σ' H' => ∃ F' e', Sim ⟨X.K, X.mg, W, sx⟩ G F' e' σ' H' ∧ PS0 ⟨X.K, X.mg, W, sx⟩ G d F' (whL mt mb m e'), fun σ' H' q => ⟨m, Nat.lt_succ_self m, q⟩, G, F3, e3, S3, ?_⟩
      have h4 : PS0 ⟨X.K, X.mg, W, sx⟩ G d F3 (match mb e3 with
        | .ok .nx e2 => whL mt mb m e2
        | .ok .ct e2 => whL mt mb m e2
        | .ok .bk e2 => .ok .nx e2
        | .ok (.rt r) e2 => .ok (.rt r) e2
        | .ex c fs e2 => .ex c fs e2
        | .no => .no) := h3
      cases hm : mb e3 with
      | no => rw [hm] at h4; exact h4
      | ex c fs e4 => rw [hm] at h4; exact h4
      | ok f e4 =>
        rw [hm] at h4
        cases f with
        | nx => exact fun F' σ' H' s S' => ⟨F', e4, S', PS0.mono s h4⟩
        | ct => exact fun F' σ' H' s S' => ⟨F', e4, S', PS0.mono s h4⟩
        | bk => exact h4
        | rt r => exact h4
end
end RL

/-! RL3: arguments, displays, built-ins called, a def's promise, calls of defs, the rule for a def. -/
namespace RL
open PySem PySem.Spec PyProof.Rows L2

/-! ### values from the left, as trees -/
def valsE : List Ex → Ev → Re (List D)
  | [], e => .ok [] e
  | m :: ms, e => (val m e).bind fun d e1 => (valsE ms e1).bind fun ds e2 => .ok (d :: ds) e2
def taV (C : Cw) : List Ex → TA
  | [] => tNil
  | m :: ms => tCons (teOf C m) (taV C ms)
theorem ta_bind {C : Cw} {G : Gh} {σ : L2.St} {β : Type} (P : Pst C G σ β) : ∀ {ms : List Ex} {F H : Hp} {e : Ev} {f : List D → Ev → Re β} {Q : List V → Hp → Prop}, Sim C G F e σ H → P.P F ((valsE ms e).bind f) →
    (∀ ds e1 F1 H1 vs, Same F F1 → Sim C G F1 e1 σ H1 → Reps C.K F1 ds vs → P.P F1 (f ds e1) → Q vs H1) → taV C ms σ H Q
  | [], F, H, e, f, Q, S, h, k => k [] e F H [] (Same.refl F) S Reps.nil h
  | m :: ms, F, H, e, f, Q, S, h, k => by
    have h' : P.P F ((val m e).bind fun d e1 => (valsE ms e1).bind fun ds e2 => f (d :: ds) e2) := by
      have q : (valsE (m :: ms) e).bind f = (val m e).bind fun d e1 => (valsE ms e1).bind fun ds e2 => f (d :: ds) e2 := by
        show ((val m e).bind fun d e1 => (valsE ms e1).bind fun ds e2 => Re.ok (d :: ds) e2).bind f = _
        rw [bind_bind]
        congr 1
        funext d e1
        rw [bind_bind]
        rfl
      rw [← q]; exact h
    refine te_bind P S h' fun d e1 F1 H1 v1 s1 S1 R1 h1 => ?_
    exact ta_bind P S1 h1 fun ds e2 F2 H2 vs s2 S2 R2 h2 => k _ e2 F2 H2 _ (s1.trans s2) S2 (Reps.cons (Rep.mono s2 _ _ R1) R2) h2
def mTup (ms : List Ex) : Ex := fun e => (valsE ms e).bind fun ds e1 => .ok (.v (.tuple ds)) e1
def mLst (ms : List Ex) : Ex := fun e => (valsE ms e).bind fun ds e1 => .ok (.fl ds) e1
/-! ### operands from the left -/
def opsE : List Opd → Ev → Re (List Hd)
  | [], e => .ok [] e
  | o :: os, e => (o.ev e).bind fun h e1 => (opsE os e1).bind fun hs e2 => .ok (h :: hs) e2
def taO (C : Cw) : List Opd → TA
  | [] => tNil
  | o :: os => tCons (teO C o) (taO C os)
def HReps (K : PySem.W.Frag) (F : Hp) (σ : L2.St) : List Hd → List V → Prop
  | [], vs => vs = []
  | h :: hs, vs => ∃ x xs, vs = x :: xs ∧ HRep K F σ h x ∧ HReps K F σ hs xs
def RepTs (K : PySem.W.Frag) (F H : Hp) : List D → List V → Prop
  | [], vs => vs = []
  | d :: ds, vs => ∃ x xs, vs = x :: xs ∧ RepT K F H d x ∧ RepTs K F H ds xs
def resL : List Hd → Ev → Option (List D)
  | [], _ => some []
  | h :: hs, e => match h.res e, resL hs e with
    | some d, some ds => some (d :: ds)
    | _, _ => none
theorem HReps.mono {K : PySem.W.Frag} {F F' : Hp} {σ : L2.St} (s : Same F F') : ∀ {hs : List Hd} {vs : List V}, HReps K F σ hs vs → HReps K F' σ hs vs
  | [], _, r => r
  | h :: hs, _, ⟨x, xs, e, r1, r2⟩ => ⟨x, xs, e, r1.mono s, HReps.mono s r2⟩
theorem tao_bind {C : Cw} {G : Gh} {σ : L2.St} {β : Type} (P : Pst C G σ β) : ∀ {os : List Opd} {F H : Hp} {e : Ev} {f : List Hd → Ev → Re β} {Q : List V → Hp → Prop}, Sim C G F e σ H → P.P F ((opsE os e).bind f) →
    (∀ hs e1 F1 H1 vs, Same F F1 → Sim C G F1 e1 σ H1 → HReps C.K F1 σ hs vs → P.P F1 (f hs e1) → Q vs H1) → taO C os σ H Q
  | [], F, H, e, f, Q, S, h, k => k [] e F H [] (Same.refl F) S rfl h
  | o :: os, F, H, e, f, Q, S, h, k => by
    have h' : P.P F ((o.ev e).bind fun d e1 => (opsE os e1).bind fun ds e2 => f (d :: ds) e2) := by
      have q : (opsE (o :: os) e).bind f = (o.ev e).bind fun d e1 => (opsE os e1).bind fun ds e2 => f (d :: ds) e2 := by
        show ((o.ev e).bind fun d e1 => (opsE os e1).bind fun ds e2 => Re.ok (d :: ds) e2).bind f = _
        rw [bind_bind]
        congr 1
        funext d e1
        rw [bind_bind]
        rfl
      rw [← q]; exact h
    refine teO_bind P S h' fun d e1 F1 H1 v1 s1 S1 R1 h1 => ?_
    exact tao_bind P S1 h1 fun ds e2 F2 H2 vs s2 S2 R2 h2 => k _ e2 F2 H2 _ (s1.trans s2) S2 (show HReps C.K F2 σ (d :: ds) (v1 :: vs) from ⟨v1, vs, rfl, R1.mono s2, R2⟩) h2
theorem Sim.resL {C : Cw} {G : Gh} {F H : Hp} {e : Ev} {σ : L2.St} (S : Sim C G F e σ H) : ∀ {hs : List Hd} {vs : List V} {ds : List D}, HReps C.K F σ hs vs → RL.resL hs e = some ds → RepTs C.K F H ds vs
  | [], _, _, r, q => by cases q; exact r
  | h :: hs, vs, ds, ⟨x, xs, ev, r1, r2⟩, q => by
    unfold RL.resL at q
    cases q1 : h.res e with
    | none => rw [q1] at q; cases q
    | some d =>
      cases q2 : RL.resL hs e with
      | none => rw [q1, q2] at q; cases q
      | some ds' =>
        rw [q1, q2] at q
        cases q
        exact ⟨x, xs, ev, S.res r1 q1, S.resL r2 q2⟩
/-- a built-in called by values -/
def OpN (X : Cx) (f : Value) (g : List D → Option VR) : Prop :=
  ∃ r : List V → Hp → VK → Prop, CallR X f r ∧ ∀ F H ds vs Q, Same F H → RepTs X.K F H ds vs → OpPost X.K F H Q (g ds) → r vs H Q
def mCB (g : List D → Option VR) (os : List Opd) : Ex := fun e => (opsE os e).bind fun hs e1 => match resL hs e1 with
  | some ds => ofO (g ds) e1
  | none => .no
/-- a built-in type's method -/
def tyD : D → String
  | .str _ => "str"
  | .int _ => "int"
  | .list _ => "list"
  | _ => ""
def OpM (X : Cx) (T id : String) (g : D → List D → Option VR) : Prop :=
  ∃ r : V → List V → Hp → VK → Prop, MtR X id r ∧ ∀ F H d ds v vs Q, Same F H → RepT X.K F H d v → RepTs X.K F H ds vs → OpPost X.K F H Q (g d ds) → r v vs H Q
def mBM (T : String) (g : D → List D → Option VR) (o : Opd) (os : List Opd) : Ex := fun e => (o.ev e).bind fun h e1 => match h.res e1 with
  | none => .no
  | some d0 => if tyD d0 = T then (opsE os e1).bind fun hs e2 => match h.res e2, resL hs e2 with
      | some d, some ds => ofO (g d ds) e2
      | _, _ => .no
    else .no
theorem tyV_of {K : PySem.W.Frag} {F H : Hp} {T : String} : ∀ {d : D} {v : V}, RepT K F H d v → tyD d = T → T ≠ "" → tyV K T v H
  | .str x, v, r, e, _ => by
    unfold RepT Rep at r
    rw [r.1]
    exact e.symm
  | .int i, v, r, e, _ => by
    unfold RepT Rep at r
    rw [r]
    exact e.symm
  | .list ds, v, ⟨a, xs, ev, h, _⟩, e, _ => by
    subst ev
    exact .inl ⟨e.symm, xs, sqOf h⟩
  | .dict _, _, _, e, n => absurd e.symm n
  | .none, _, _, e, n => absurd e.symm n
  | .bool _, _, _, e, n => absurd e.symm n
  | .tuple _, _, _, e, n => absurd e.symm n

section
variable {X : Cx} {W : WX} {sx : Option (Addr × Value × Option Addr)}
abbrev DA (X : Cx) (W : WX) (sx : Option (Addr × Value × Option Addr)) (es : List Expr) (ms : List Ex) : Prop := PA X es (taV ⟨X.K, X.mg, W, sx⟩ ms)
abbrev DP (X : Cx) (W : WX) (sx : Option (Addr × Value × Option Addr)) (es : List Expr) (os : List Opd) : Prop := PA X es (taO ⟨X.K, X.mg, W, sx⟩ os)
theorem da_nil : DA X W sx [] [] := pa_nil
theorem da_cons {e : Expr} {es : List Expr} {m : Ex} {ms : List Ex} (h : DE X W sx e m) (r : DA X W sx es ms) (hs : starEach (e :: es) X.env = (false, eval e X.env) :: starEach es X.env := by rfl) : DA X W sx (e :: es) (m :: ms) := pa_cons h r hs
theorem dp_nil : DP X W sx [] [] := pa_nil
theorem dp_cons {e : Expr} {es : List Expr} {o : Opd} {os : List Opd} (h : DO X W sx e o) (r : DP X W sx es os) (hs : starEach (e :: es) X.env = (false, eval e X.env) :: starEach es X.env := by rfl) : DP X W sx (e :: es) (o :: os) := pa_cons h r hs
theorem valsE_length {ms : List Ex} : ∀ {e e1 : Ev} {ds : List D}, valsE ms e = .ok ds e1 → ds.length = ms.length := by
  induction ms with
  | nil => intro e e1 ds h; cases h; rfl
  | cons m ms ih =>
    intro e e1 ds h
    unfold valsE at h
    cases q : val m e with
    | no => rw [q] at h; cases h
    | ex c fs e' => rw [q] at h; cases h
    | ok d e' =>
      rw [q] at h
      simp only [Re.bind] at h
      cases q2 : valsE ms e' with
      | no => rw [q2] at h; cases h
      | ex c fs e'' => rw [q2] at h; cases h
      | ok ds' e'' =>
        rw [q2] at h
        cases h
        simp [ih q2]
theorem de_tup {es : List Expr} {ms : List Ex} {k : Nat} {pos : Pos} (h : DA X W sx es ms) (hl : ms.length ≤ 1000 := by decide) : DE X W sx (.Tuple es k pos) (mTup ms) :=
  te_imp (pe_tup h) fun σ H Q ⟨G, F, e, S, q⟩ => by
    have q' : (pE ⟨X.K, X.mg, W, sx⟩ G σ Q).P F ((valsE ms e).bind fun ds e1 => if ds.length = ms.length then ofO (some (.v (.tuple ds))) e1 else .no) := by
      have q2 : (pE ⟨X.K, X.mg, W, sx⟩ G σ Q).P F ((valsE ms e).bind fun ds e1 => .ok (.v (.tuple ds)) e1) := q
      cases h1 : valsE ms e with
      | no => rw [h1] at q2; exact q2
      | ex c fs e1 => rw [h1] at q2; exact q2
      | ok ds e1 => rw [h1] at q2; simp only [Re.bind] at q2 ⊢; rw [if_pos (valsE_length h1)]; exact q2
    refine ta_bind (pE _ G σ Q) S q' fun ds e1 F1 H1 vs s1 S1 R1 h1 => ?_
    by_cases hl2 : ds.length = ms.length
    · rw [if_pos hl2] at h1
      refine ⟨?_, fun p hp => (opPost_of S1 h1).2 ds rfl p vs hp R1⟩
      rw [R1.length, hl2]
      exact Nat.le_of_lt (small1000 hl)
    · rw [if_neg hl2] at h1; exact h1.elim
theorem de_lst {es : List Expr} {ms : List Ex} {pos : Pos} (h : DA X W sx es ms) (hl : ms.length ≤ 1000 := by decide) : DE X W sx (.List es pos) (mLst ms) :=
  te_imp (pe_lst h) fun σ H Q ⟨G, F, e, S, q⟩ => by
    have q' : (pE ⟨X.K, X.mg, W, sx⟩ G σ Q).P F ((valsE ms e).bind fun ds e1 => if ds.length = ms.length then ofO (some (.fl ds)) e1 else .no) := by
      have q2 : (pE ⟨X.K, X.mg, W, sx⟩ G σ Q).P F ((valsE ms e).bind fun ds e1 => .ok (.fl ds) e1) := q
      cases h1 : valsE ms e with
      | no => rw [h1] at q2; exact q2
      | ex c fs e1 => rw [h1] at q2; exact q2
      | ok ds e1 => rw [h1] at q2; simp only [Re.bind] at q2 ⊢; rw [if_pos (valsE_length h1)]; exact q2
    refine ta_bind (pE _ G σ Q) S q' fun ds e1 F1 H1 vs s1 S1 R1 h1 => ?_
    by_cases hl2 : ds.length = ms.length
    · rw [if_pos hl2] at h1
      refine ⟨?_, fun p hp => opPost_of S1 h1 p vs hp R1⟩
      rw [R1.length, hl2]
      exact Nat.le_of_lt (small1000 hl)
    · rw [if_neg hl2] at h1; exact h1.elim
theorem cb_read {C : Cw} {g : List D → Option VR} {r : List V → Hp → VK → Prop} {os : List Opd} (hs : ∀ F H ds vs Q, Same F H → RepTs C.K F H ds vs → OpPost C.K F H Q (g ds) → r vs H Q) {σ : L2.St} {H : Hp} {Q : VK}
    (q : teOf0 C (mCB g os) σ H Q) : tCB r (taO C os) σ H Q := by
  obtain ⟨G, F, e, S, h⟩ := q
  refine tao_bind (pE _ G σ Q) S h fun hs' e1 F1 H1 vs s1 S1 R1 h1 => ?_
  cases qd : resL hs' e1 with
  | none => rw [qd] at h1; exact h1.elim
  | some ds =>
    rw [qd] at h1
    exact hs F1 H1 ds vs Q S1.sub (S1.resL R1 qd) (opPost_of S1 h1)
/-- len(x), abs(n) .. -/
theorem de_callB {id : String} {x : Str} {g : List D → Option VR} {e : Expr} {es : List Expr} {os : List Opd} {p pos : Pos} (hc : OpN X (.builtin id) g) (hm : X.mg x = none) (ha : DP X W sx (e :: es) os) (hg : Gl X x := by rfl) (hv : bootBuiltins x = some (.builtin id) := by decide +kernel)
    (hn : x ≠ "__name__" := by decide) (hdb : (x == ("__debug__" : Str)) = false := by decide) (he : starEach (e :: es) X.env = (false, eval e X.env) :: starEach es X.env := by rfl) (hpl : (backTo pos (starEach es X.env)).any (·.1) = false := by rfl) :
    DE X W sx (.Call (.Name x p) (e :: es) [] pos) (mCB g os) := by
  obtain ⟨r, hr, hs⟩ := hc
  exact te_imp (pe_callB hr hg hm hv ha hn hdb he hpl) fun σ H Q q => cb_read (C := ⟨X.K, X.mg, W, sx⟩) hs q
/-- int(x), tuple(xs) .. -/
theorem de_callT {T : String} {x : Str} {g : List D → Option VR} {e : Expr} {es : List Expr} {os : List Opd} {p pos : Pos} (hc : OpN X (.type T) g) (hm : X.mg x = none) (ha : DP X W sx (e :: es) os) (hg : Gl X x := by rfl) (hv : bootBuiltins x = some (.type T) := by decide +kernel)
    (hn : x ≠ "__name__" := by decide) (hdb : (x == ("__debug__" : Str)) = false := by decide) (he : starEach (e :: es) X.env = (false, eval e X.env) :: starEach es X.env := by rfl) (hpl : (backTo pos (starEach es X.env)).any (·.1) = false := by rfl) :
    DE X W sx (.Call (.Name x p) (e :: es) [] pos) (mCB g os) := by
  obtain ⟨r, hr, hs⟩ := hc
  exact te_imp (pe_callTy hr hg hm hv ha hn hdb he hpl) fun σ H Q q => cb_read (C := ⟨X.K, X.mg, W, sx⟩) hs q
theorem bm_read {T : String} {g : D → List D → Option VR} {r : V → List V → Hp → VK → Prop} {o : Opd} {os : List Opd} (hT : T ≠ "") (hs : ∀ F H d ds v vs Q, Same F H → RepT X.K F H d v → RepTs X.K F H ds vs → OpPost X.K F H Q (g d ds) → r v vs H Q)
    {σ : L2.St} {H : Hp} {Q : VK} (q : teOf0 ⟨X.K, X.mg, W, sx⟩ (mBM T g o os) σ H Q) : tBM X.K T r (teO ⟨X.K, X.mg, W, sx⟩ o) (taO ⟨X.K, X.mg, W, sx⟩ os) σ H Q := by
  obtain ⟨G, F, e, S, h⟩ := q
  refine teO_bind (pE _ G σ Q) S h fun hd e1 F1 H1 v1 s1 S1 R1 h1 => ?_
  cases q0 : hd.res e1 with
  | none => rw [q0] at h1; exact h1.elim
  | some d0 =>
    rw [q0] at h1
    by_cases ht : tyD d0 = T
    · simp only [if_pos ht] at h1
      refine ⟨tyV_of (S1.res R1 q0) ht hT, ?_⟩
      refine tao_bind (pE _ G σ Q) S1 h1 fun hs' e2 F2 H2 vs s2 S2 R2 h2 => ?_
      cases q1 : hd.res e2 with
      | none => rw [q1] at h2; exact h2.elim
      | some d =>
        cases qd : resL hs' e2 with
        | none => rw [q1, qd] at h2; exact h2.elim
        | some ds =>
          rw [q1, qd] at h2
          exact hs F2 H2 d ds v1 vs Q S2.sub (S2.res (R1.mono s2) q1) (S2.resL R2 qd) (opPost_of S2 h2)
    · simp only [if_neg ht] at h1; exact h1.elim
theorem de_meth {T id : String} {g : D → List D → Option VR} {o e : Expr} {es : List Expr} {name : Str} {oo : Opd} {os : List Opd} {apos cpos : Pos} (pa : PlainAttrs T) (slot : PySem.Slot T name id) (hty : typeOf (.builtin id) = pure (.type "method_descriptor")) (hm : OpM X T id g) (ho : DO X W sx o oo) (ha : DP X W sx (e :: es) os)
    (hT : T ≠ "" := by decide) (hbase : attributeBase o name X.env (eval o X.env) = eval o X.env := by rfl)
    (hfew : ((backTo cpos (starEach (e :: es) X.env)).all (fun x => !x.1) && (backToKw cpos (keywordEach [] X.env)).all (fun x => x.1.isSome)
      && decide ((e :: es).length + ([] : List Keyword).length + (if ([] : List Keyword).isEmpty then 0 else 1) < 30)) = true := by rfl)
    (hline : (apos.endLine == cpos.line) = true := by rfl) (hs : starEach (e :: es) X.env = (false, eval e X.env) :: starEach es X.env := by rfl) (hplain : (backTo cpos (starEach es X.env)).any (·.1) = false := by rfl) :
    DE X W sx (.Call (.Attribute o name apos) (e :: es) [] cpos) (mBM T g oo os) := by
  obtain ⟨r, hr, hs2⟩ := hm
  exact te_imp (pe_bm pa slot hty hr ho ha hbase hfew hline hs hplain) fun σ H Q q => bm_read hT hs2 q
theorem de_meth0 {T id : String} {g : D → List D → Option VR} {o : Expr} {name : Str} {oo : Opd} {apos cpos : Pos} (pa : PlainAttrs T) (slot : PySem.Slot T name id) (hty : typeOf (.builtin id) = pure (.type "method_descriptor")) (hm : OpM X T id g) (ho : DO X W sx o oo)
    (hT : T ≠ "" := by decide) (hbase : attributeBase o name X.env (eval o X.env) = eval o X.env := by rfl) (hline : (apos.endLine == cpos.line) = true := by rfl) :
    DE X W sx (.Call (.Attribute o name apos) [] [] cpos) (mBM T g oo []) := by
  obtain ⟨r, hr, hs2⟩ := hm
  refine te_imp (pe_bm0 pa slot hty hr ho hbase hline) fun σ H Q q => ?_
  have z := bm_read (o := oo) (os := []) hT hs2 q
  exact z
end

/-! ### what a def promises -/
inductive FR where
  | ok (r : VR) (outs : List (List D))
  | ex (c : Str) (fs : List (Str × D)) (outs : List (List D))
  | no
  deriving Inhabited
abbrev MF := List D → FR
def ArgsOk (K : PySem.W.Frag) (F H : Hp) : List Bool → List D → List V → List Addr → Prop
  | [], ds, vs, as => ds = [] ∧ vs = [] ∧ as = []
  | false :: ms, ds, vs, as => ∃ d ds' v vs', ds = d :: ds' ∧ vs = v :: vs' ∧ Rep K F d v ∧ ArgsOk K F H ms ds' vs' as
  | true :: ms, ds, vs, as => ∃ l ds' a vs' as' xs, ds = .list l :: ds' ∧ vs = .ref a :: vs' ∧ as = a :: as' ∧ H a = some (.lst xs) ∧ Reps K F l xs ∧ F a = none ∧ ArgsOk K F H ms ds' vs' as'
structure Grow (F H F' H' : Hp) (as : List Addr) : Prop where
  f : Same F F'
  sub : Same F' H'
  h : ∀ b o, H b = some o → b ∉ as → H' b = some o
  new : ∀ b o, F' b = some o → F b = some o ∨ H b = none
def Outs (K : PySem.W.Frag) (F H : Hp) : List Addr → List (List D) → Prop
  | [], outs => outs = []
  | a :: as, outs => ∃ l ls xs, outs = l :: ls ∧ H a = some (.lst xs) ∧ Reps K F l xs ∧ Outs K F H as ls
def RepF (K : PySem.W.Frag) (H F' H' : Hp) (v : V) : VR → Prop
  | .v d => Rep K F' d v
  | .fl ds => ∃ a xs, v = .ref a ∧ H' a = some (.lst xs) ∧ Reps K F' ds xs ∧ F' a = none ∧ H a = none
  | .fd kvs => ∃ a kx, v = .ref a ∧ H' a = some (.dK kx) ∧ RepK K F' kvs kx ∧ F' a = none ∧ H a = none
def PostF (K : PySem.W.Frag) (mg : Str → Option Value) (F H : Hp) (as : List Addr) (Q : VK) (E : XK) : FR → Prop
  | .ok r outs => ∀ F' H' v, Grow F H F' H' as → Outs K F' H' as outs → RepF K H F' H' v r → Q v H'
  | .ex c fs outs => ∀ F' H' cl x, Grow F H F' H' as → Outs K F' H' as outs → RepX ⟨K, mg, fun _ _ _ _ => False, none⟩ F' cl x c fs → E (.ref cl) x H'
  | .no => False
def spM (K : PySem.W.Frag) (mg : Str → Option Value) (ms : List Bool) (f : MF) : Sp := fun vs H Q E => ∃ F ds as, Same F H ∧ ArgsOk K F H ms ds vs as ∧ as.Nodup ∧ PostF K mg F H as Q E (f ds)
theorem ArgsOk.len {K : PySem.W.Frag} {F H : Hp} : ∀ {ms : List Bool} {ds : List D} {vs : List V} {as : List Addr}, ArgsOk K F H ms ds vs as → vs.length = ms.length
  | [], _, _, _, ⟨_, e, _⟩ => by rw [e]; rfl
  | false :: ms, _, _, _, ⟨_, _, _, _, _, e, _, r⟩ => by rw [e]; simp [ArgsOk.len r]
  | true :: ms, _, _, _, ⟨_, _, _, _, _, _, _, e, _, _, _, _, r⟩ => by rw [e]; simp [ArgsOk.len r]

/-! ### the rule for a def -/
/-- the slots at the entry; k: how many lists have been handed in so far -/
def entry : List Bool → List D → Nat → List Slot
  | false :: ms, d :: ds, k => .fz d :: entry ms ds k
  | true :: ms, .list l :: ds, k => .io k l :: entry ms ds (k + 1)
  | _, _, _ => []
def outsOf (e : Ev) : List (List D) := e.filterMap fun s => match s with
  | .io _ l => some l
  | _ => none
def iosOf (e : Ev) : List Nat := e.filterMap fun s => match s with
  | .io k _ => some k
  | _ => none
/-- a def as a function on trees: its parameters' kinds, its number of slots, its body -/
def mEnd (n : Nat) : Re Fl → FR
  | .ok (.rt r) e => if iosOf e = List.range n then .ok r (outsOf e) else .no
  | .ok .nx e => if iosOf e = List.range n then .ok (.v .none) (outsOf e) else .no
  | .ok _ _ => .no
  | .ex c fs e => if iosOf e = List.range n then .ex c fs (outsOf e) else .no
  | .no => .no
def mFn (ms : List Bool) (n : Nat) (body : Sm) : MF := fun ds => mEnd (ms.count true) (body (entry ms ds 0 ++ List.replicate (n - ms.length) .un))
end RL

/-! RL4: the rule for a def; calls of defs. -/
namespace RL
open PySem PySem.Spec PyProof.Rows L2

section
variable {K : PySem.W.Frag} {F H : Hp}
theorem entry_get : ∀ {ms : List Bool} {ds : List D} {vs : List V} {as : List Addr} {k : Nat}, ArgsOk K F H ms ds vs as →
    (entry ms ds k).length = vs.length ∧ ∀ (i : Nat) (s : Slot), (entry ms ds k)[i]? = some s → ∃ v, vs[i]? = some v ∧
      ((∃ d, s = .fz d ∧ Rep K F d v) ∨ ∃ j l a xs, s = .io (k + j) l ∧ v = .ref a ∧ as[j]? = some a ∧ H a = some (.lst xs) ∧ Reps K F l xs ∧ F a = none)
  | [], ds, vs, as, k, ⟨e1, e2, e3⟩ => by subst e1 e2; exact ⟨rfl, fun i s h => by simp [entry] at h⟩
  | false :: ms, _, _, as, k, ⟨d, ds, v, vs, e1, e2, r, q⟩ => by
    subst e1 e2
    obtain ⟨l1, l2⟩ := entry_get (k := k) q
    refine ⟨by simp [entry, l1], fun i s h => ?_⟩
    cases i with
    | zero => simp [entry] at h; exact ⟨v, rfl, .inl ⟨d, h.symm, r⟩⟩
    | succ i => exact l2 i s (by simpa [entry] using h)
  | true :: ms, _, _, _, k, ⟨l, ds, a, vs, as, xs, e1, e2, e3, h1, h2, h3, q⟩ => by
    subst e1 e2 e3
    obtain ⟨l1, l2⟩ := entry_get (k := k + 1) q
    refine ⟨by simp [entry, l1], fun i s h => ?_⟩
    cases i with
    | zero => simp [entry] at h; exact ⟨.ref a, rfl, .inr ⟨0, l, a, xs, h.symm, rfl, rfl, h1, h2, h3⟩⟩
    | succ i =>
      obtain ⟨v, hv, z⟩ := l2 i s (by simpa [entry] using h)
      refine ⟨v, hv, ?_⟩
      rcases z with z | ⟨j, l', a', xs', z1, z2, z3, z4⟩
      · exact .inl z
      · exact .inr ⟨j + 1, l', a', xs', by rw [z1]; congr 1; omega, z2, z3, z4⟩
theorem ArgsOk.ios : ∀ {ms : List Bool} {ds : List D} {vs : List V} {as : List Addr}, ArgsOk K F H ms ds vs as → as.length = ms.count true ∧ ∀ a ∈ as, H a ≠ none ∧ F a = none
  | [], _, _, as, ⟨_, _, e⟩ => by subst e; exact ⟨rfl, fun a h => by cases h⟩
  | false :: ms, _, _, as, ⟨_, _, _, _, _, _, _, q⟩ => by
    obtain ⟨l1, l2⟩ := q.ios
    exact ⟨by simpa using l1, l2⟩
  | true :: ms, _, _, _, ⟨l, ds, a, vs, as, xs, e1, e2, e3, h1, h2, h3, q⟩ => by
    subst e3
    obtain ⟨l1, l2⟩ := q.ios
    refine ⟨by simp [l1], fun b hb => ?_⟩
    rcases List.mem_cons.mp hb with z | z
    · subst z; exact ⟨by rw [h1]; nofun, h3⟩
    · exact l2 b z
end
theorem start_get {N : List Str} {vs : List V} {i : Nat} {v : V} (h : vs[i]? = some v) : (L2.start N vs)[i]? = some (some v) := by
  unfold L2.start
  have hl := (List.getElem?_eq_some_iff.mp h).1
  rw [List.getElem?_append_left (by simpa using hl), List.getElem?_map, h]; rfl
theorem sim_start {C : Cw} {F H : Hp} {ms : List Bool} {ds : List D} {vs : List V} {as : List Addr} {N : List Str} (s : Same F H) (q : ArgsOk C.K F H ms ds vs as) (nd : as.Nodup) (hn : ms.length ≤ N.length) :
    Sim C ⟨H, F, as⟩ F (entry ms ds 0 ++ List.replicate (N.length - ms.length) .un) (L2.start N vs) H := by
  obtain ⟨l1, l2⟩ := entry_get (k := 0) q
  have lv := q.len
  have at_ : ∀ (i : Nat) (t : Slot), (entry ms ds 0 ++ List.replicate (N.length - ms.length) Slot.un)[i]? = some t → (entry ms ds 0)[i]? = some t ∨ t = .un := fun i t h => by
    by_cases hi : i < (entry ms ds 0).length
    · rw [List.getElem?_append_left hi] at h; exact .inl h
    · rw [List.getElem?_append_right (by omega), List.getElem?_replicate] at h
      split at h
      · cases h; exact .inr rfl
      · cases h
  refine ⟨s, Same.refl F, by unfold L2.start; simp [l1]; omega, fun i d h => ?_, fun i c fs h => ?_, fun i t h o => ?_, fun i j t u a h1 h2 o1 o2 g1 g2 => ?_, fun b o h _ => h, fun b o h => .inl h, fun a ha => ?_⟩
  · rcases at_ i _ h with h | h
    · obtain ⟨v, hv, z⟩ := l2 i _ h
      rcases z with ⟨d', e, r⟩ | ⟨j, l, a, xs, e, _⟩
      · cases e; exact ⟨v, start_get hv, r⟩
      · cases e
    · cases h
  · rcases at_ i _ h with h | h
    · obtain ⟨v, hv, z⟩ := l2 i _ h
      rcases z with ⟨d', e, r⟩ | ⟨j, l, a, xs, e, _⟩
      · cases e
      · cases e
    · cases h
  · rcases at_ i _ h with h | h
    · obtain ⟨v, hv, z⟩ := l2 i _ h
      rcases z with ⟨d', e, r⟩ | ⟨j, l, a, xs, e, ev, ha, h1, h2, h3⟩
      · subst e; cases o
      · subst e ev
        refine ⟨a, _, start_get hv, h1, ⟨xs, rfl, h2⟩, h3, ?_⟩
        show as[0 + j]? = some a
        rw [Nat.zero_add]; exact ha
    · subst h; cases o
  · rcases at_ i _ h1 with h1 | h1
    · rcases at_ j _ h2 with h2 | h2
      · obtain ⟨v, hv, z⟩ := l2 i _ h1
        obtain ⟨v', hv', z'⟩ := l2 j _ h2
        rcases z with ⟨d', e, r⟩ | ⟨p, l, b, xs, e, ev, hb, _⟩
        · subst e; cases o1
        rcases z' with ⟨d', e', r⟩ | ⟨p', l', b', xs', e', ev', hb', _⟩
        · subst e'; cases o2
        rw [start_get hv] at g1
        rw [start_get hv'] at g2
        subst ev ev'
        cases g1
        cases g2
        have hp : p = p' := by
          have w1 := List.getElem?_eq_some_iff.mp hb
          have w2 := List.getElem?_eq_some_iff.mp hb'
          obtain ⟨w1, w3⟩ := w1
          obtain ⟨w2, w4⟩ := w2
          exact (List.getElem_inj nd).mp (w3.trans w4.symm)
        subst hp
        -- the p-th list that was handed in stands in one slot alone
        have key : ∀ {ms : List Bool} {ds : List D} {k : Nat} {i j q : Nat} {l l' : List D}, (entry ms ds k)[i]? = some (.io q l) → (entry ms ds k)[j]? = some (.io q l') → k ≤ q ∧ i = j := by
          intro ms
          induction ms with
          | nil => intro ds k i j q l l' h; simp [entry] at h
          | cons m ms ih =>
            intro ds k i j q l l' h h'
            cases m with
            | false =>
              cases ds with
              | nil => simp [entry] at h
              | cons d ds =>
                cases i with
                | zero => simp [entry] at h
                | succ i =>
                  cases j with
                  | zero => simp [entry] at h'
                  | succ j =>
                    obtain ⟨w1, w2⟩ := ih (ds := ds) (k := k) (i := i) (j := j) (by simpa [entry] using h) (by simpa [entry] using h')
                    exact ⟨w1, by rw [w2]⟩
            | true =>
              cases ds with
              | nil => simp [entry] at h
              | cons d ds =>
                cases d with
                | list z =>
                  cases i with
                  | zero =>
                    simp [entry] at h
                    cases j with
                    | zero => exact ⟨by omega, rfl⟩
                    | succ j =>
                      have h'' : (entry ms ds (k + 1))[j]? = some (.io q l') := by simpa [entry] using h'
                      obtain ⟨w1, _⟩ := ih h'' h''
                      omega
                  | succ i =>
                    have h1 : (entry ms ds (k + 1))[i]? = some (.io q l) := by simpa [entry] using h
                    cases j with
                    | zero =>
                      simp [entry] at h'
                      obtain ⟨w1, _⟩ := ih h1 h1
                      omega
                    | succ j =>
                      obtain ⟨w1, w2⟩ := ih h1 (by simpa [entry] using h')
                      exact ⟨by omega, by rw [w2]⟩
                | _ => simp [entry] at h
        subst e e'
        exact (key h1 h2).2
      · subst h2; cases o2
    · subst h1; cases o1
  · obtain ⟨_, z⟩ := q.ios
    obtain ⟨z1, z2⟩ := z a ha
    exact ⟨z1, z1, z2⟩
/-- the lists that were handed in, at the end -/
theorem outs_of {C : Cw} {G : Gh} {F H : Hp} {e : Ev} {σ : L2.St} (S : Sim C G F e σ H) : ∀ (l : List Slot) (p k : Nat), (∀ (j : Nat) (s : Slot), l[j]? = some s → e[p + j]? = some s) → iosOf l = List.range' k (G.ios.length - k) → k ≤ G.ios.length →
    Outs C.K F H (G.ios.drop k) (outsOf l)
  | [], p, k, _, h, hk => by
    have hz : G.ios.length - k = 0 := by
      have := congrArg List.length h
      simpa [iosOf] using this.symm
    have : G.ios.drop k = [] := List.drop_eq_nil_of_le (by omega)
    rw [this]
    rfl
  | s :: l, p, k, hl, h, hk => by
    have hl' : ∀ (j : Nat) (t : Slot), l[j]? = some t → e[p + 1 + j]? = some t := fun j t q => by
      have := hl (j + 1) t (by simpa using q)
      rw [show p + 1 + j = p + (j + 1) by omega]; exact this
    have h0 := hl 0 s rfl
    cases s with
    | io q ds =>
      have h2 : q :: iosOf l = List.range' k (G.ios.length - k) := h
      have hlt : k < G.ios.length := by
        by_cases z : k < G.ios.length
        · exact z
        · have : G.ios.length - k = 0 := by omega
          rw [this] at h2; cases h2
      rw [show G.ios.length - k = (G.ios.length - (k + 1)) + 1 by omega, List.range'_succ] at h2
      obtain ⟨e1, e2⟩ := List.cons.inj h2
      subst e1
      obtain ⟨a, o, _, g2, ⟨xs, eo, g3⟩, _, g5⟩ := S.ow (p + 0) _ h0 rfl
      have g5' : G.ios[q]? = some a := g5
      have hd : G.ios.drop q = a :: G.ios.drop (q + 1) := by
        rw [List.drop_eq_getElem_cons hlt]
        congr 1
        rw [List.getElem?_eq_getElem hlt] at g5'
        exact Option.some.inj g5'
      rw [hd]
      subst eo
      exact ⟨ds, outsOf l, xs, rfl, g2, g3, outs_of S l (p + 1) (q + 1) hl' e2 hlt⟩
    | un => exact outs_of S l (p + 1) k hl' h hk
    | fz d => exact outs_of S l (p + 1) k hl' h hk
    | ol d => exact outs_of S l (p + 1) k hl' h hk
    | od d => exact outs_of S l (p + 1) k hl' h hk
    | xc c fs => exact outs_of S l (p + 1) k hl' h hk
theorem outs_end {C : Cw} {G : Gh} {F H : Hp} {e : Ev} {σ : L2.St} (S : Sim C G F e σ H) (h : iosOf e = List.range G.ios.length) : Outs C.K F H G.ios (outsOf e) := by
  have := outs_of S e 0 0 (fun j s q => by rw [Nat.zero_add]; exact q) (by rw [h, Nat.sub_zero, List.range_eq_range']) (Nat.zero_le _)
  simpa using this
theorem grow_end {C : Cw} {F0 H0 : Hp} {as : List Addr} {F H : Hp} {e : Ev} {σ : L2.St} (S : Sim C ⟨H0, F0, as⟩ F e σ H) : Grow F0 H0 F H as := ⟨S.f0, S.sub, S.keep, S.new⟩
theorem repF_end {C : Cw} {F0 H0 : Hp} {as : List Addr} {F H : Hp} {e : Ev} {σ : L2.St} {v : V} : ∀ {r : VR}, RepR C ⟨H0, F0, as⟩ F H e σ v r → RepF C.K H0 F H v r
  | .v d, r => r
  | .fl ds, ⟨a, xs, h1, h2, h3, l⟩ => ⟨a, xs, h1, h2, h3, l.1, l.2.1⟩
  | .fd kvs, ⟨a, xs, h1, h2, h3, l⟩ => ⟨a, xs, h1, h2, h3, l.1, l.2.1⟩

/-- THE RULE for a def: its body as a mirror -/
theorem fn_ok {P : Program} {w : World} {K : PySem.W.Frag} {mg : Str → Option Value} {base : Heap} {x qual : Str} {params : Arguments} {body : List Stmt} {scope : Scope} {f : Addr} {fd : FuncData} {N ps : List Str} {k : Nat} {ms : List Bool} {m : Sm}
    (Fd : FunD K x qual params body scope [] [] f fd) (S : FnScope N ps scope) (hl : ms.length = ps.length)
    (hb : ∀ (cdv : Value) (A : Around) (outer : List Env) (s : Shared) (H : Hp) (E : XK), Room k (A.deeper (envOfC qual scope s.heap.objs.size f cdv)) →
      Takes (cxOf (L2.CX P w) P w K mg base N qual scope f cdv A outer s H E) (fun cls d _ H => E cls d H) →
      PassesOwn (model P w) (A.deeper (envOfC qual scope s.heap.objs.size f cdv)) (envOfC qual scope s.heap.objs.size f cdv) (cxOf (L2.CX P w) P w K mg base N qual scope f cdv A outer s H E).xe →
      DB (cxOf (L2.CX P w) P w K mg base N qual scope f cdv A outer s H E) (fun cls d _ H => E cls d H) none body m) :
    FnOk P w K mg base (L2.CX P w) (k + 1) f fd ps (spM K mg ms (mFn ms N.length m)) := by
  have hn : ms.length ≤ N.length := by
    have := congrArg List.length S.pre
    rw [List.length_take] at this
    omega
  refine Fd.ok S (fun vs H Q E h => ?_) (fun cdv A outer s H vs Q E hr h => ⟨_, hb cdv A outer s H E hr (takes_of rfl rfl rfl rfl) (passes_of rfl), ?_⟩)
  · obtain ⟨F, ds, as, _, h2, _⟩ := h
    rw [h2.len, hl]
  · obtain ⟨F, ds, as, h1, h2, nd, h3⟩ := h
    have lio := (ArgsOk.ios h2).1
    refine ⟨⟨H, F, as⟩, F, _, sim_start (C := ⟨K, mg, fun cls d _ H => E cls d H, none⟩) (N := N) h1 h2 nd hn, ?_⟩
    unfold mFn at h3
    cases hm : m (entry ms ds 0 ++ List.replicate (N.length - ms.length) .un) with
    | no => rw [hm] at h3; exact h3
    | ex c fs e =>
      rw [hm] at h3
      unfold mEnd at h3
      by_cases z : iosOf e = List.range (ms.count true)
      · simp only [if_pos z] at h3
        rw [← lio] at z
        exact fun F' σ' H' cl d s' S' r => h3 F' H' cl d (grow_end S') (outs_end S' z) r
      · simp only [if_neg z] at h3; exact h3.elim
    | ok fl e =>
      rw [hm] at h3
      unfold mEnd at h3
      cases fl with
      | bk => exact h3.elim
      | ct => exact h3.elim
      | nx =>
        by_cases z : iosOf e = List.range (ms.count true)
        · simp only [if_pos z] at h3
          rw [← lio] at z
          exact fun F' σ' H' s' S' => h3 F' H' _ (grow_end S') (outs_end S' z) rfl
        · simp only [if_neg z] at h3; exact h3.elim
      | rt r =>
        by_cases z : iosOf e = List.range (ms.count true)
        · simp only [if_pos z] at h3
          rw [← lio] at z
          exact fun F' σ' H' s' S' v rv => h3 F' H' v (grow_end S') (outs_end S' z) (repF_end rv)
        · simp only [if_neg z] at h3; exact h3.elim

/-! ### calls -/
inductive Ar where
  | v (m : Ex)
  | b (i : Nat)
inductive Av where
  | d (d : D)
  | s (i : Nat)
/-- the list that a slot alone holds -/
def ownL (e : Ev) (i : Nat) : Option (List D) := match e[i]? with
  | some (.ol l) => some l
  | some (.io _ l) => some l
  | _ => none
def setL (e : Ev) (i : Nat) (l : List D) : Ev := match e[i]? with
  | some (.ol _) => e.set i (.ol l)
  | some (.io k _) => e.set i (.io k l)
  | _ => e
def Ar.ev (a : Ar) (e : Ev) : Re Av := match a with
  | .v m => (val m e).bind fun d e1 => .ok (.d d) e1
  | .b i => match ownL e i with
    | some _ => .ok (.s i) e
    | none => .no
def arsE : List Ar → Ev → Re (List Av)
  | [], e => .ok [] e
  | a :: as, e => (a.ev e).bind fun x e1 => (arsE as e1).bind fun xs e2 => .ok (x :: xs) e2
def avD (e : Ev) : List Av → Option (List D)
  | [] => some []
  | .d d :: r => (avD e r).map (d :: ·)
  | .s i :: r => match ownL e i with
    | some l => (avD e r).map (.list l :: ·)
    | none => none
def avS : List Av → List Nat
  | [] => []
  | .d _ :: r => avS r
  | .s i :: r => i :: avS r
def avB : List Av → List Bool
  | [] => []
  | .d _ :: r => false :: avB r
  | .s _ :: r => true :: avB r
def setLs : Ev → List Nat → List (List D) → Option Ev
  | e, [], [] => some e
  | e, i :: is, l :: ls => setLs (setL e i l) is ls
  | _, _, _ => none
def mRun (f : MF) (xs : List Av) (e : Ev) : Re VR := if (avS xs).Nodup then match avD e xs with
    | none => .no
    | some ds => match f ds with
      | .no => .no
      | .ok r outs => match setLs e (avS xs) outs with
        | some e2 => .ok r e2
        | none => .no
      | .ex c fs outs => match setLs e (avS xs) outs with
        | some e2 => .ex c fs e2
        | none => .no
  else .no
/-- f(..), its parameters' kinds ms -/
def mCall (ms : List Bool) (f : MF) (as : List Ar) : Ex := fun e => (arsE as e).bind fun xs e1 => if avB xs = ms then mRun f xs e1 else .no
def teA (C : Cw) : Ar → TE
  | .v m => teOf C m
  | .b i => tVar i
def taA (C : Cw) : List Ar → TA
  | [] => tNil
  | a :: as => tCons (teA C a) (taA C as)
def ARep (K : PySem.W.Frag) (F : Hp) (σ : L2.St) : Av → V → Prop
  | .d d, v => Rep K F d v
  | .s i, v => σ[i]? = some (some v)
def AReps (K : PySem.W.Frag) (F : Hp) (σ : L2.St) : List Av → List V → Prop
  | [], vs => vs = []
  | h :: hs, vs => ∃ x xs, vs = x :: xs ∧ ARep K F σ h x ∧ AReps K F σ hs xs
theorem ARep.mono {K : PySem.W.Frag} {F F' : Hp} {σ : L2.St} (s : Same F F') : ∀ {h : Av} {v : V}, ARep K F σ h v → ARep K F' σ h v
  | .d _, _, r => Rep.mono s _ _ r
  | .s _, _, r => r
section
variable {C : Cw} {G : Gh} {F H : Hp} {e : Ev} {σ : L2.St}
theorem Sim.ownL (S : Sim C G F e σ H) {i : Nat} {l : List D} (h : RL.ownL e i = some l) : ∃ a xs, σ[i]? = some (some (.ref a)) ∧ H a = some (.lst xs) ∧ Reps C.K F l xs ∧ F a = none := by
  unfold RL.ownL at h
  cases q : e[i]? with
  | none => rw [q] at h; cases h
  | some s =>
    rw [q] at h
    cases s with
    | ol d =>
      cases h
      obtain ⟨a, o, h1, h2, ⟨xs, eo, h3⟩, h4, _⟩ := S.ow i _ q rfl
      subst eo
      exact ⟨a, xs, h1, h2, h3, h4⟩
    | io k d =>
      cases h
      obtain ⟨a, o, h1, h2, ⟨xs, eo, h3⟩, h4, _⟩ := S.ow i _ q rfl
      subst eo
      exact ⟨a, xs, h1, h2, h3, h4⟩
    | _ => cases h
theorem ta_ars {β : Type} (P : Pst C G σ β) : ∀ {as : List Ar} {F H : Hp} {e : Ev} {f : List Av → Ev → Re β} {Q : List V → Hp → Prop}, Sim C G F e σ H → P.P F ((arsE as e).bind f) →
    (∀ xs e1 F1 H1 vs, Same F F1 → Sim C G F1 e1 σ H1 → AReps C.K F1 σ xs vs → P.P F1 (f xs e1) → Q vs H1) → taA C as σ H Q
  | [], F, H, e, f, Q, S, h, k => k [] e F H [] (Same.refl F) S rfl h
  | a :: as, F, H, e, f, Q, S, h, k => by
    have h' : P.P F ((a.ev e).bind fun d e1 => (arsE as e1).bind fun ds e2 => f (d :: ds) e2) := by
      have q : (arsE (a :: as) e).bind f = (a.ev e).bind fun d e1 => (arsE as e1).bind fun ds e2 => f (d :: ds) e2 := by
        show ((a.ev e).bind fun d e1 => (arsE as e1).bind fun ds e2 => Re.ok (d :: ds) e2).bind f = _
        rw [bind_bind]
        congr 1
        funext d e1
        rw [bind_bind]
        rfl
      rw [← q]; exact h
    cases a with
    | v m =>
      have h2 : P.P F ((val m e).bind fun d e1 => (arsE as e1).bind fun ds e2 => f (.d d :: ds) e2) := by
        have h3 : P.P F (((val m e).bind fun d e1 => Re.ok (Av.d d) e1).bind fun d e1 => (arsE as e1).bind fun ds e2 => f (d :: ds) e2) := h'
        rw [bind_bind] at h3
        exact h3
      refine te_bind P S h2 fun d e1 F1 H1 v1 s1 S1 R1 h1 => ?_
      exact ta_ars P S1 h1 fun ds e2 F2 H2 vs s2 S2 R2 h2 => k _ e2 F2 H2 _ (s1.trans s2) S2 (show AReps C.K F2 σ (.d d :: ds) (v1 :: vs) from ⟨v1, vs, rfl, Rep.mono s2 _ _ R1, R2⟩) h2
    | b i =>
      have h2 : P.P F ((match RL.ownL e i with
        | some _ => Re.ok (Av.s i) e
        | none => .no).bind fun d e1 => (arsE as e1).bind fun ds e2 => f (d :: ds) e2) := h'
      cases q : RL.ownL e i with
      | none => rw [q] at h2; exact (P.no h2).elim
      | some l =>
        rw [q] at h2
        obtain ⟨a, xs, g1, _⟩ := S.ownL q
        exact ⟨_, g1, ta_ars P S h2 fun ds e2 F2 H2 vs s2 S2 R2 h2 => k _ e2 F2 H2 _ s2 S2 (show AReps C.K F2 σ (.s i :: ds) (.ref a :: vs) from ⟨_, vs, rfl, g1, R2⟩) h2⟩
/-- what a call is handed -/
theorem args_of (S : Sim C G F e σ H) : ∀ {xs : List Av} {vs : List V} {ds : List D}, AReps C.K F σ xs vs → avD e xs = some ds →
    ∃ as, ArgsOk C.K F H (avB xs) ds vs as ∧ as.length = (avS xs).length ∧ ∀ (k : Nat) (i : Nat) (a : Addr), (avS xs)[k]? = some i → as[k]? = some a → σ[i]? = some (some (.ref a)) ∧ ∃ l, RL.ownL e i = some l
  | [], vs, ds, r, h => by
    cases h
    exact ⟨[], ⟨rfl, r, rfl⟩, rfl, fun k i a h => by simp [avS] at h⟩
  | .d d :: xs, vs, ds, ⟨x, ys, ev, r1, r2⟩, h => by
    unfold avD at h
    cases q : avD e xs with
    | none => rw [q] at h; cases h
    | some ds' =>
      rw [q] at h
      cases h
      obtain ⟨as, h1, h2, h3⟩ := args_of S r2 q
      exact ⟨as, ⟨d, ds', x, ys, rfl, ev, r1, h1⟩, h2, h3⟩
  | .s i :: xs, vs, ds, ⟨x, ys, ev, r1, r2⟩, h => by
    unfold avD at h
    cases ql : RL.ownL e i with
    | none => rw [ql] at h; cases h
    | some l =>
      rw [ql] at h
      cases q : avD e xs with
      | none => rw [q] at h; cases h
      | some ds' =>
        rw [q] at h
        cases h
        obtain ⟨as, h1, h2, h3⟩ := args_of S r2 q
        obtain ⟨a, zs, g1, g2, g3, g4⟩ := S.ownL ql
        have r1' : σ[i]? = some (some x) := r1
        rw [g1] at r1'
        cases r1'
        refine ⟨a :: as, ⟨l, ds', a, ys, as, zs, rfl, ev, rfl, g2, g3, g4, h1⟩, by simp [avS, h2], fun k j b hk hb => ?_⟩
        cases k with
        | zero =>
          simp [avS] at hk hb
          subst hk hb
          exact ⟨g1, l, ql⟩
        | succ k => exact h3 k j b (by simpa [avS] using hk) (by simpa using hb)
theorem ownL_own {i : Nat} {l : List D} (h : RL.ownL e i = some l) : ∃ s, e[i]? = some s ∧ s.own = true := by
  unfold RL.ownL at h
  cases q : e[i]? with
  | none => rw [q] at h; cases h
  | some s =>
    rw [q] at h
    cases s with
    | ol d => exact ⟨_, rfl, rfl⟩
    | io k d => exact ⟨_, rfl, rfl⟩
    | _ => cases h
theorem ownL_set {i j : Nat} {l : List D} : RL.ownL (setL e i l) j = if i = j then (RL.ownL e j).map fun _ => l else RL.ownL e j := by
  unfold setL RL.ownL
  cases q : e[i]? with
  | none =>
    by_cases hj : i = j
    · subst hj; rw [if_pos rfl, q]; rfl
    · rw [if_neg hj]
  | some s =>
    have hl := (List.getElem?_eq_some_iff.mp q).1
    by_cases hj : i = j
    · subst hj
      rw [if_pos rfl, q]
      cases s with
      | ol d => simp [List.getElem?_set_self hl]
      | io k d => simp [List.getElem?_set_self hl]
      | _ => simp [q]
    · rw [if_neg hj]
      cases s <;> simp [List.getElem?_set_ne hj]
theorem setL_get {i j : Nat} {l : List D} {s : Slot} (h : (setL e i l)[j]? = some s) : (∃ s0, e[j]? = some s0 ∧ ((s = s0 ∧ (j ≠ i ∨ s0.own = false ∨ ∃ kvs, s0 = .od kvs)) ∨ (j = i ∧ ((∃ l0, s0 = .ol l0 ∧ s = .ol l) ∨ ∃ k l0, s0 = .io k l0 ∧ s = .io k l)))) := by
  unfold setL at h
  cases q : e[i]? with
  | none => rw [q] at h; exact ⟨s, h, .inl ⟨rfl, .inl fun z => by rw [z, q] at h; cases h⟩⟩
  | some s0 =>
    rw [q] at h
    cases s0 with
    | ol l0 =>
      rcases set_at h with ⟨z, w⟩ | ⟨z, w⟩
      · subst z; exact ⟨_, q, .inr ⟨rfl, .inl ⟨l0, rfl, w⟩⟩⟩
      · exact ⟨s, w, .inl ⟨rfl, .inl z⟩⟩
    | io k l0 =>
      rcases set_at h with ⟨z, w⟩ | ⟨z, w⟩
      · subst z; exact ⟨_, q, .inr ⟨rfl, .inr ⟨k, l0, rfl, w⟩⟩⟩
      · exact ⟨s, w, .inl ⟨rfl, .inl z⟩⟩
    | od kvs =>
      by_cases z : j = i
      · subst z; rw [q] at h; cases h; exact ⟨_, q, .inl ⟨rfl, .inr (.inr ⟨kvs, rfl⟩)⟩⟩
      · exact ⟨s, h, .inl ⟨rfl, .inl z⟩⟩
    | _ =>
      by_cases z : j = i
      · subst z; rw [q] at h; cases h; exact ⟨_, q, .inl ⟨rfl, .inr (.inl rfl)⟩⟩
      · exact ⟨s, h, .inl ⟨rfl, .inl z⟩⟩
end

theorem setL_length {e : Ev} {i : Nat} {l : List D} : (setL e i l).length = e.length := by
  unfold setL
  cases e[i]? with
  | none => rfl
  | some s => cases s <;> simp
theorem setLs_length : ∀ {is : List Nat} {outs : List (List D)} {e e2 : Ev}, setLs e is outs = some e2 → e2.length = e.length
  | [], [], e, e2, h => by cases h; rfl
  | i :: is, l :: ls, e, e2, h => by
    have := setLs_length (is := is) (outs := ls) (e := setL e i l) h
    rw [this, setL_length]
  | [], _ :: _, _, _, h => by cases h
  | _ :: _, [], _, _, h => by cases h
theorem setLs_get : ∀ {is : List Nat} {outs : List (List D)} {e e2 : Ev}, setLs e is outs = some e2 → is.Nodup → (∀ i ∈ is, ∃ l, ownL e i = some l) → ∀ (j : Nat) (s : Slot), e2[j]? = some s →
    ∃ s0, e[j]? = some s0 ∧ ((s = s0 ∧ j ∉ is) ∨ ∃ (k : Nat) (l : List D), is[k]? = some j ∧ outs[k]? = some l ∧ ((∃ l0, s0 = .ol l0 ∧ s = .ol l) ∨ ∃ q l0, s0 = .io q l0 ∧ s = .io q l))
  | [], [], e, e2, h, _, _, j, s, q => by cases h; exact ⟨s, q, .inl ⟨rfl, by simp⟩⟩
  | i :: is, l :: ls, e, e2, h, nd, ho, j, s, q => by
    have nd' := List.nodup_cons.mp nd
    obtain ⟨s1, h1, z⟩ := setLs_get (is := is) (outs := ls) (e := setL e i l) h nd'.2 (fun i' hi' => by
      obtain ⟨l', hl'⟩ := ho i' (List.mem_cons_of_mem _ hi')
      rw [ownL_set]
      by_cases w : i = i'
      · subst w; exact absurd hi' nd'.1
      · rw [if_neg w]; exact ⟨l', hl'⟩) j s q
    obtain ⟨s0, h0, w⟩ := setL_get h1
    refine ⟨s0, h0, ?_⟩
    obtain ⟨li, hli⟩ := ho i (List.mem_cons_self ..)
    have notown : ∀ {s0 : Slot}, e[i]? = some s0 → (s0.own = false ∨ ∃ kvs, s0 = .od kvs) → False := fun {s0} g w => by
      unfold ownL at hli
      rw [g] at hli
      rcases w with w | ⟨kvs, w⟩
      · cases s0 with
        | ol d => cases w
        | io k d => cases w
        | _ => cases hli
      · subst w; cases hli
    rcases z with ⟨rfl, z⟩ | ⟨k, l', z1, z2, z3⟩
    · rcases w with ⟨rfl, w⟩ | ⟨rfl, w⟩
      · by_cases hj : j = i
        · subst hj
          rcases w with w | w
          · exact absurd rfl w
          · exact (notown h0 w).elim
        · exact .inl ⟨rfl, by simp [hj, z]⟩
      · exact .inr ⟨0, l, rfl, rfl, w⟩
    · have hj : j ≠ i := fun e' => nd'.1 (by rw [← e']; exact List.mem_of_getElem? z1)
      rcases w with ⟨rfl, _⟩ | ⟨e', _⟩
      · exact .inr ⟨k + 1, l', by simpa using z1, by simpa using z2, z3⟩
      · exact absurd e' hj
  | [], _ :: _, _, _, h, _, _, _, _, _ => by cases h
  | _ :: _, [], _, _, h, _, _, _, _, _ => by cases h
theorem Outs.get {K : PySem.W.Frag} {F H : Hp} : ∀ {as : List Addr} {outs : List (List D)}, Outs K F H as outs → ∀ (k : Nat) (a : Addr), as[k]? = some a → ∃ l xs, outs[k]? = some l ∧ H a = some (.lst xs) ∧ Reps K F l xs
  | [], _, _, k, a, h => by simp at h
  | b :: as, _, ⟨l, ls, xs, e, h1, h2, r⟩, 0, a, h => by
    simp at h
    subst h e
    exact ⟨l, xs, rfl, h1, h2⟩
  | b :: as, _, ⟨l, ls, xs, e, h1, h2, r⟩, k + 1, a, h => by
    subst e
    obtain ⟨l', xs', z1, z2⟩ := r.get k a (by simpa using h)
    exact ⟨l', xs', by simpa using z1, z2⟩
theorem Outs.len {K : PySem.W.Frag} {F H : Hp} : ∀ {as : List Addr} {outs : List (List D)}, Outs K F H as outs → outs.length = as.length
  | [], _, r => by
    have r' : _ = [] := r
    rw [r']; rfl
  | b :: as, _, ⟨l, ls, xs, e, h1, h2, r⟩ => by subst e; simp [r.len]
section
variable {C : Cw} {G : Gh} {F H F' H' : Hp} {e e2 : Ev} {σ : L2.St}
/-- behind a call -/
theorem sim_call (S : Sim C G F e σ H) {as : List Addr} {is : List Nat} {outs : List (List D)} (nd : is.Nodup) (la : as.length = is.length)
    (hat : ∀ (k : Nat) (i : Nat) (a : Addr), is[k]? = some i → as[k]? = some a → σ[i]? = some (some (.ref a)) ∧ ∃ l, ownL e i = some l)
    (g : Grow F H F' H' as) (o : Outs C.K F' H' as outs) (h : setLs e is outs = some e2) : Sim C G F' e2 σ H' := by
  have ho : ∀ i ∈ is, ∃ l, ownL e i = some l := fun i hi => by
    obtain ⟨k, hk, ek⟩ := List.getElem_of_mem hi
    have hk' : k < as.length := by omega
    exact (hat k i as[k] (by rw [List.getElem?_eq_getElem hk, ek]) (List.getElem?_eq_getElem hk')).2
  have get := setLs_get h nd ho
  have none' : ∀ {b : Addr} {u : HO}, H b = some u → F b = none → F' b = none := fun {b u} h1 h2 => by
    cases q : F' b with
    | none => rfl
    | some v =>
      rcases g.new b v q with z | z
      · rw [h2] at z; cases z
      · rw [h1] at z; cases z
  -- an owned slot that was not handed on
  have apart : ∀ {j : Nat} {s : Slot} {a : Addr}, e[j]? = some s → s.own = true → σ[j]? = some (some (.ref a)) → j ∉ is → a ∉ as := fun {j s a} h1 h2 h3 h4 hm => by
    obtain ⟨k, hk, ek⟩ := List.getElem_of_mem hm
    have hk' : k < is.length := by omega
    obtain ⟨z1, l, z2⟩ := hat k is[k] a (List.getElem?_eq_getElem hk') (by rw [List.getElem?_eq_getElem hk, ek])
    obtain ⟨t, z3, z4⟩ := ownL_own z2
    have := S.inj j is[k] s t a h1 z3 h2 z4 h3 z1
    exact h4 (by rw [this]; exact List.getElem_mem hk')
  have same : ∀ {a : Addr} {o : HO}, H a = some o → a ∈ as → G.H0 a = none ∨ a ∈ G.ios := fun {a o} h1 hm => by
    obtain ⟨k, hk, ek⟩ := List.getElem_of_mem hm
    have hk' : k < is.length := by omega
    obtain ⟨z1, l, z2⟩ := hat k is[k] a (List.getElem?_eq_getElem hk') (by rw [List.getElem?_eq_getElem hk, ek])
    obtain ⟨t, z3, z4⟩ := ownL_own z2
    obtain ⟨b, u, y1, y2, y3, y4, y5⟩ := S.ow _ t z3 z4
    rw [z1] at y1
    cases y1
    cases t with
    | io q d => exact .inr (List.mem_of_getElem? y5)
    | ol d => exact .inl y5
    | od d => exact .inl y5
    | _ => cases z4
  refine ⟨g.sub, S.f0.trans g.f, (setLs_length h).trans S.len, fun i d q => ?_, fun i c fs q => ?_, fun i s q os => ?_, fun i j s t a q1 q2 o1 o2 h1 h2 => ?_, fun b u q1 q2 => ?_, fun b u q => ?_, fun a ha => ?_⟩
  · obtain ⟨s0, z1, z⟩ := get i _ q
    rcases z with ⟨rfl, _⟩ | ⟨k, l, _, _, z | z⟩
    · obtain ⟨v, w1, w2⟩ := S.fz i d z1
      exact ⟨v, w1, Rep.mono g.f _ _ w2⟩
    · obtain ⟨_, _, w⟩ := z; cases w
    · obtain ⟨_, _, _, w⟩ := z; cases w
  · obtain ⟨s0, z1, z⟩ := get i _ q
    rcases z with ⟨rfl, _⟩ | ⟨k, l, _, _, z | z⟩
    · obtain ⟨a, cl, d, w1, w2, w3⟩ := S.xc i c fs z1
      exact ⟨a, cl, d, w1, w2, w3.mono g.f⟩
    · obtain ⟨_, _, w⟩ := z; cases w
    · obtain ⟨_, _, _, w⟩ := z; cases w
  · obtain ⟨s0, z1, z⟩ := get i _ q
    rcases z with ⟨rfl, hn⟩ | ⟨k, l, w1, w2, z⟩
    · obtain ⟨a, u, y1, y2, y3, y4, y5⟩ := S.ow i _ z1 os
      exact ⟨a, u, y1, g.h a u y2 (apart z1 os y1 hn), y3.mono g.f, none' y2 y4, y5⟩
    · have hk : k < as.length := by
        have := (List.getElem?_eq_some_iff.mp w1).1
        omega
      obtain ⟨y1, _⟩ := hat k i as[k] w1 (List.getElem?_eq_getElem hk)
      obtain ⟨l', xs, x1, x2, x3⟩ := o.get k as[k] (List.getElem?_eq_getElem hk)
      rw [w2] at x1
      cases x1
      rcases z with ⟨l0, e0, e1⟩ | ⟨qq, l0, e0, e1⟩
      · subst e0 e1
        obtain ⟨a, u, v1, v2, v3, v4, v5⟩ := S.ow i _ z1 rfl
        rw [y1] at v1
        cases v1
        exact ⟨_, _, y1, x2, ⟨xs, rfl, x3⟩, none' v2 v4, v5⟩
      · subst e0 e1
        obtain ⟨a, u, v1, v2, v3, v4, v5⟩ := S.ow i _ z1 rfl
        rw [y1] at v1
        cases v1
        exact ⟨_, _, y1, x2, ⟨xs, rfl, x3⟩, none' v2 v4, v5⟩
  · have own0 : ∀ {i : Nat} {s : Slot}, e2[i]? = some s → s.own = true → ∃ s0, e[i]? = some s0 ∧ s0.own = true := fun {i s} q os => by
      obtain ⟨s0, z1, z⟩ := get i _ q
      refine ⟨s0, z1, ?_⟩
      rcases z with ⟨rfl, _⟩ | ⟨k, l, _, _, ⟨_, e0, _⟩ | ⟨_, _, e0, _⟩⟩
      · exact os
      · subst e0; rfl
      · subst e0; rfl
    obtain ⟨s0, z1, z2⟩ := own0 q1 o1
    obtain ⟨t0, z3, z4⟩ := own0 q2 o2
    exact S.inj i j s0 t0 a z1 z3 z2 z4 h1 h2
  · have hb := S.keep b u q1 q2
    refine g.h b u hb fun hm => ?_
    rcases same hb hm with z | z
    · rw [z] at q1; cases q1
    · exact q2 z
  · rcases g.new b u q with z | z
    · exact S.new b u z
    · exact .inr (S.h0 z)
  · obtain ⟨y1, y2, y3⟩ := S.ios a ha
    refine ⟨y1, ?_, ?_⟩
    · by_cases hm : a ∈ as
      · obtain ⟨k, hk, ek⟩ := List.getElem_of_mem hm
        obtain ⟨l, xs, x1, x2, _⟩ := o.get k a (by rw [List.getElem?_eq_getElem hk, ek])
        rw [x2]; nofun
      · cases q : H a with
        | none => exact absurd q y2
        | some u => rw [g.h a u q hm]; nofun
    · cases q : H a with
      | none => exact absurd q y2
      | some u => exact none' q y3
theorem repR_call (S : Sim C G F e σ H) {as : List Addr} (S2 : Sim C G F' e2 σ H') (hown : ∀ (i : Nat) (s : Slot), e2[i]? = some s → s.own = true → ∃ s0, e[i]? = some s0 ∧ s0.own = true) {v : V} : ∀ {r : VR}, RepF C.K H F' H' v r → RepR C G F' H' e2 σ v r
  | .v d, h => h
  | .fl ds, ⟨a, xs, h1, h2, h3, h4, h5⟩ => ⟨a, xs, h1, h2, h3, h4, S.h0 h5, fun i s q o z => by
      obtain ⟨s0, w1, w2⟩ := hown i s q o
      obtain ⟨b, u, y1, y2, _⟩ := S.ow i s0 w1 w2
      rw [y1] at z
      cases z
      rw [h5] at y2; cases y2⟩
  | .fd ds, ⟨a, xs, h1, h2, h3, h4, h5⟩ => ⟨a, xs, h1, h2, h3, h4, S.h0 h5, fun i s q o z => by
      obtain ⟨s0, w1, w2⟩ := hown i s q o
      obtain ⟨b, u, y1, y2, _⟩ := S.ow i s0 w1 w2
      rw [y1] at z
      cases z
      rw [h5] at y2; cases y2⟩
end
section
variable {X : Cx} {W : WX} {sx : Option (Addr × Value × Option Addr)}
theorem nodup_of_slots {σ : L2.St} {as : List Addr} {is : List Nat} (nd : is.Nodup) (la : as.length = is.length) {C : Cw} {G : Gh} {F H : Hp} {e : Ev} (S : Sim C G F e σ H)
    (hat : ∀ (k : Nat) (i : Nat) (a : Addr), is[k]? = some i → as[k]? = some a → σ[i]? = some (some (.ref a)) ∧ ∃ l, ownL e i = some l) : as.Nodup := by
  refine List.pairwise_iff_getElem.mpr fun i j hi hj hij z' => ?_
  have hi' : i < is.length := by omega
  have hj' : j < is.length := by omega
  obtain ⟨w1, l1, w2⟩ := hat i is[i] as[i] (List.getElem?_eq_getElem hi') (List.getElem?_eq_getElem hi)
  obtain ⟨w3, l2, w4⟩ := hat j is[j] as[j] (List.getElem?_eq_getElem hj') (List.getElem?_eq_getElem hj)
  obtain ⟨s, y1, y2⟩ := ownL_own w2
  obtain ⟨t, y3, y4⟩ := ownL_own w4
  rw [← z'] at w3
  have := S.inj _ _ s t _ y1 y3 y2 y4 w1 w3
  have := (List.getElem_inj nd).mp this
  omega
/-- the promise of a def asks what the mirror of its call leaves -/
theorem run_read {sx : Option (Addr × Value × Option Addr)} {f : MF} {ms : List Bool} {G : Gh} {F H : Hp} {e : Ev} {σ : L2.St} {Q : VK} {E : XK} {xs : List Av} {vs : List V} (S : Sim ⟨X.K, X.mg, W, sx⟩ G F e σ H) (r : AReps X.K F σ xs vs)
    (hE : ∀ cl x H', W (.ref cl) x σ H' → E (.ref cl) x H') (h : (pE ⟨X.K, X.mg, W, sx⟩ G σ Q).P F (if avB xs = ms then mRun f xs e else .no)) : spM X.K X.mg ms f vs H Q E := by
  by_cases hm : avB xs = ms
  · rw [if_pos hm] at h
    unfold mRun at h
    by_cases nd : (avS xs).Nodup
    · rw [if_pos nd] at h
      cases qd : avD e xs with
      | none => rw [qd] at h; exact h.elim
      | some ds =>
        rw [qd] at h
        obtain ⟨as, h1, h2, h3⟩ := args_of S r qd
        refine ⟨F, ds, as, S.sub, hm ▸ h1, nodup_of_slots nd h2 S h3, ?_⟩
        dsimp only at h
        cases qf : f ds with
        | no => rw [qf] at h; exact h.elim
        | ok rr outs =>
          rw [qf] at h
          dsimp only at h
          intro F' H' v g o rf
          cases qs : setLs e (avS xs) outs with
          | none => rw [qs] at h; exact h.elim
          | some e2 =>
            rw [qs] at h
            have S2 := sim_call S nd h2 h3 g o qs
            have ho : ∀ i ∈ avS xs, ∃ l, ownL e i = some l := fun i hi => by
              obtain ⟨k, hk, ek⟩ := List.getElem_of_mem hi
              have hk' : k < as.length := by omega
              exact (h3 k i as[k] (by rw [List.getElem?_eq_getElem hk, ek]) (List.getElem?_eq_getElem hk')).2
            refine h F' H' g.f S2 v (repR_call (as := as) S S2 (fun i s q os => ?_) rf)
            obtain ⟨s0, z1, z⟩ := setLs_get qs nd ho i s q
            refine ⟨s0, z1, ?_⟩
            rcases z with ⟨rfl, _⟩ | ⟨k, l, _, _, ⟨_, e0, _⟩ | ⟨_, _, e0, _⟩⟩
            · exact os
            · subst e0; rfl
            · subst e0; rfl
        | ex c fs outs =>
          rw [qf] at h
          dsimp only at h
          intro F' H' cl x g o rx
          cases qs : setLs e (avS xs) outs with
          | none => rw [qs] at h; exact h.elim
          | some e2 =>
            rw [qs] at h
            exact hE cl x H' (h F' H' cl x g.f (sim_call S nd h2 h3 g o qs) rx)
    · rw [if_neg nd] at h; exact h.elim
  · rw [if_neg hm] at h; exact h.elim
section
variable {k : Nat} {f : Addr} {fd : FuncData} {ps : List Str} {ms : List Bool} {mf : MF} {x : Str} {p pos : Pos}
/-- f(e, ..) -/
theorem de_call {e : Expr} {es : List Expr} {as : List Ar} (tk : Takes X W) (Fn : FnOk X.prog X.w X.K X.mg X.base (L2.CX X.prog X.w) k f fd ps (spM X.K X.mg ms mf)) (hr : Room k X.A) (hm : X.mg x = some (.ref f)) (hk : PySem.W.keepIn X.K (.ref f) = true) (hb : Binds X.K fd ps [])
    (ha : PA X (e :: es) (taA ⟨X.K, X.mg, W, sx⟩ as)) (hg : Gl X x := by rfl) (hdb : (x == ("__debug__" : Str)) = false := by decide) (he : starEach (e :: es) X.env = (false, eval e X.env) :: starEach es X.env := by rfl) (hpl : (backTo pos (starEach es X.env)).any (·.1) = false := by rfl) :
    DE X W sx (.Call (.Name x p) (e :: es) [] pos) (mCall ms mf as) := by
  refine te_imp (pe_callS (E := WE W) Fn hr hg hm hk hb (fun σ => passAt tk σ) ha hdb he hpl) fun σ H Q ⟨G, F, e, S, h⟩ => ?_
  exact ta_ars (pE _ G σ Q) S h fun xs e1 F1 H1 vs s1 S1 R1 h1 => run_read S1 R1 (fun _ _ _ z => z) h1
/-- f() -/
theorem de_call0 (tk : Takes X W) (Fn : FnOk X.prog X.w X.K X.mg X.base (L2.CX X.prog X.w) k f fd ps (spM X.K X.mg ms mf)) (hr : Room k X.A) (hm : X.mg x = some (.ref f)) (hk : PySem.W.keepIn X.K (.ref f) = true) (hb : Binds X.K fd ps [])
    (hg : Gl X x := by rfl) (hdb : (x == ("__debug__" : Str)) = false := by decide) : DE X W sx (.Call (.Name x p) [] [] pos) (mCall ms mf []) := by
  refine te_imp (t := teOf0 ⟨X.K, X.mg, W, sx⟩ (mCall ms mf [])) ⟨fun pins s σ H Q I ⟨G, F, e, S, h⟩ => ?_⟩ fun _ _ _ z => z
  refine wpAny_Call_Name_kw (ld_glob I hg hm ?_ hdb)
  have sp0 : spM X.K X.mg ms mf [] H Q (WE W σ) := run_read (xs := []) S rfl (fun _ _ _ z => z) h
  exact PySem.W.callWith_K0 I.kIn hk (run_fnS Fn hr hb (fun p => passAt tk σ p) I .nil sp0)
end
abbrev DR (X : Cx) (W : WX) (sx : Option (Addr × Value × Option Addr)) (es : List Expr) (as : List Ar) : Prop := PA X es (taA ⟨X.K, X.mg, W, sx⟩ as)
theorem dr_nil : DR X W sx [] [] := pa_nil
theorem dr_v {e : Expr} {es : List Expr} {m : Ex} {as : List Ar} (h : DE X W sx e m) (r : DR X W sx es as) (hs : starEach (e :: es) X.env = (false, eval e X.env) :: starEach es X.env := by rfl) : DR X W sx (e :: es) (.v m :: as) := pa_cons h r hs
theorem dr_b {e : Expr} {es : List Expr} {i : Nat} {as : List Ar} (h : PE X e (tVar i)) (r : DR X W sx es as) (hs : starEach (e :: es) X.env = (false, eval e X.env) :: starEach es X.env := by rfl) : DR X W sx (e :: es) (.b i :: as) := pa_cons h r hs
end
end RL

/-! RL5: list comprehensions; lists that a slot alone holds, changed. -/
namespace RL
open PySem PySem.Spec PyProof.Rows L2

/-! ### an object that must stand -/
def Gh.guard (G : Gh) (p : Addr) (o : HO) : Gh := ⟨upd G.H0 p o, G.F0, G.ios⟩
section
variable {C : Cw} {G : Gh} {F H : Hp} {e : Ev} {σ : L2.St}
theorem Sim.guard (S : Sim C G F e σ H) {p : Addr} {o : HO} (l : Lone G F e σ p) (h : H p = some o) : Sim C (G.guard p o) F e σ H where
  sub := S.sub
  f0 := S.f0
  len := S.len
  fz := S.fz
  xc := S.xc
  ow := fun i s q os => by
    obtain ⟨a, u, h1, h2, h3, h4, h5⟩ := S.ow i s q os
    refine ⟨a, u, h1, h2, h3, h4, ?_⟩
    have ne : a ≠ p := fun z => by subst z; exact l.2.2 i s q os h1
    cases s with
    | io k d => exact h5
    | ol d => show upd G.H0 p o a = none; rw [upd_ne ne]; exact h5
    | od d => show upd G.H0 p o a = none; rw [upd_ne ne]; exact h5
    | _ => cases os
  inj := S.inj
  keep := fun b u q hb => by
    have q' : upd G.H0 p o b = some u := q
    by_cases z : b = p
    · subst z; rw [upd_same] at q'; cases q'; exact h
    · rw [upd_ne z] at q'; exact S.keep b u q' hb
  new := fun b u q => by
    rcases S.new b u q with z | z
    · exact .inl z
    · refine .inr ?_
      have ne : b ≠ p := fun z => by subst z; rw [l.1] at q; cases q
      show upd G.H0 p o b = none
      rw [upd_ne ne]; exact z
  ios := fun a ha => by
    obtain ⟨h1, h2, h3⟩ := S.ios a ha
    refine ⟨?_, h2, h3⟩
    by_cases z : a = p
    · subst z; show upd G.H0 a o a ≠ none; rw [upd_same]; nofun
    · show upd G.H0 p o a ≠ none; rw [upd_ne z]; exact h1
theorem Sim.noIo (S : Sim C G F e σ H) {p : Addr} (h : G.H0 p = none) : p ∉ G.ios := fun hm => (S.ios p hm).1 h
theorem Sim.unguard {p : Addr} {o : HO} (S : Sim C (G.guard p o) F e σ H) (h0 : G.H0 p = none) (f0 : G.F0 p = none) (ni : p ∉ G.ios) : Sim C G F e σ H ∧ H p = some o ∧ Lone G F e σ p := by
  have hp : H p = some o := S.keep p o upd_same ni
  have fp : F p = none := by
    cases q : F p with
    | none => rfl
    | some u =>
      rcases S.new p u q with z | z
      · have z' : G.F0 p = some u := z
        rw [f0] at z'; cases z'
      · have z' : upd G.H0 p o p = none := z
        rw [upd_same] at z'; cases z'
  have nown : ∀ (i : Nat) (s : Slot), e[i]? = some s → s.own = true → σ[i]? ≠ some (some (.ref p)) := fun i s q os z => by
    obtain ⟨a, u, h1, h2, h3, h4, h5⟩ := S.ow i s q os
    rw [h1] at z
    cases z
    cases s with
    | io k d =>
      have h6 : G.ios[k]? = some p := h5
      exact ni (List.mem_of_getElem? h6)
    | ol d =>
      have h6 : upd G.H0 p o p = none := h5
      rw [upd_same] at h6; cases h6
    | od d =>
      have h6 : upd G.H0 p o p = none := h5
      rw [upd_same] at h6; cases h6
    | _ => cases os
  have un : ∀ {b : Addr}, upd G.H0 p o b = none → G.H0 b = none := fun {b} z => by
    by_cases w : b = p
    · subst w; exact h0
    · rw [upd_ne w] at z; exact z
  refine ⟨⟨S.sub, S.f0, S.len, S.fz, S.xc, fun i s q os => ?_, S.inj, fun b u q hb => ?_, fun b u q => ?_, fun a ha => ?_⟩, hp, fp, h0, nown⟩
  · obtain ⟨a, u, h1, h2, h3, h4, h5⟩ := S.ow i s q os
    refine ⟨a, u, h1, h2, h3, h4, ?_⟩
    cases s with
    | io k d => exact h5
    | ol d => exact un h5
    | od d => exact un h5
    | _ => cases os
  · refine S.keep b u ?_ hb
    show upd G.H0 p o b = some u
    have w : b ≠ p := fun z => by subst z; rw [h0] at q; cases q
    rw [upd_ne w]; exact q
  · rcases S.new b u q with z | z
    · exact .inl z
    · exact .inr (un z)
  · obtain ⟨h1, h2, h3⟩ := S.ios a ha
    refine ⟨?_, h2, h3⟩
    have w : a ≠ p := fun z => ni (by rw [← z]; exact ha)
    have h1' : upd G.H0 p o a ≠ none := h1
    rw [upd_ne w] at h1'; exact h1'
theorem Sim.f0p (S : Sim C G F e σ H) {p : Addr} (h : F p = none) : G.F0 p = none := by
  cases q : G.F0 p with
  | none => rfl
  | some u => rw [S.f0 p u q] at h; cases h
/-- the list that a slot alone holds has changed -/
theorem Sim.setL (S : Sim C G F e σ H) {i : Nat} {l l' : List D} {a : Addr} {xs' : List V} (h : RL.ownL e i = some l) (ha : σ[i]? = some (some (.ref a))) (r : Reps C.K F l' xs') : Sim C G F (RL.setL e i l') σ (upd H a (.lst xs')) := by
  obtain ⟨b, xs, g1, g2, g3, g4⟩ := S.ownL h
  rw [ha] at g1
  cases g1
  obtain ⟨s, q1, q2⟩ := ownL_own h
  have other : ∀ {j : Nat} {t : Slot} {c : Addr}, e[j]? = some t → t.own = true → σ[j]? = some (some (.ref c)) → j ≠ i → c ≠ a := fun {j t c} h1 h2 h3 h4 z => by
    subst z
    exact h4 (S.inj j i t s c h1 q1 h2 q2 h3 ha)
  have a0 : ioAt G s a := by
    obtain ⟨c, u, y1, _, _, _, y5⟩ := S.ow i s q1 q2
    rw [ha] at y1; cases y1; exact y5
  have atk : ∀ b u, G.H0 b = some u → b ∉ G.ios → b ≠ a := fun b u z w y => by
    subst y
    cases s with
    | io k d => exact w (List.mem_of_getElem? a0)
    | ol d => have a1 : G.H0 b = none := a0; rw [a1] at z; cases z
    | od d => have a1 : G.H0 b = none := a0; rw [a1] at z; cases z
    | _ => cases q2
  refine ⟨fun b u q => ?_, S.f0, setL_length.trans S.len, fun j d q => ?_, fun j c fs q => ?_, fun j t q os => ?_, fun j k t u c h1 h2 o1 o2 y1 y2 => ?_, fun b u z w => ?_, S.new, fun c hc => ?_⟩
  · have ne : b ≠ a := fun z => by subst z; rw [g4] at q; cases q
    rw [upd_ne ne]; exact S.sub b u q
  · obtain ⟨t, z1, z | ⟨_, z | z⟩⟩ := setL_get q
    · obtain ⟨z, _⟩ := z; subst z; exact S.fz j d z1
    · obtain ⟨_, _, z⟩ := z; cases z
    · obtain ⟨_, _, _, z⟩ := z; cases z
  · obtain ⟨t, z1, z | ⟨_, z | z⟩⟩ := setL_get q
    · obtain ⟨z, _⟩ := z; subst z; exact S.xc j c fs z1
    · obtain ⟨_, _, z⟩ := z; cases z
    · obtain ⟨_, _, _, z⟩ := z; cases z
  · obtain ⟨t0, z1, z⟩ := setL_get q
    rcases z with ⟨z, w⟩ | ⟨rfl, ⟨l0, z, z2⟩ | ⟨k, l0, z, z2⟩⟩
    · subst z
      obtain ⟨c, u, y1, y2, y3, y4, y5⟩ := S.ow j _ z1 os
      have hj : j ≠ i := fun y => by
        subst y
        rw [q1] at z1
        cases z1
        rcases w with w | w | ⟨kvs, w⟩
        · exact w rfl
        · rw [q2] at w; cases w
        · subst w
          unfold RL.ownL at h
          rw [q1] at h; cases h
      exact ⟨c, u, y1, by rw [upd_ne (other z1 os y1 hj)]; exact y2, y3, y4, y5⟩
    · subst z z2
      rw [z1] at q1
      cases q1
      exact ⟨a, _, ha, upd_same, ⟨xs', rfl, r⟩, g4, a0⟩
    · subst z z2
      rw [z1] at q1
      cases q1
      exact ⟨a, _, ha, upd_same, ⟨xs', rfl, r⟩, g4, a0⟩
  · have own0 : ∀ {j : Nat} {t : Slot}, (RL.setL e i l')[j]? = some t → t.own = true → ∃ t0, e[j]? = some t0 ∧ t0.own = true := fun {j t} q os => by
      obtain ⟨t0, z1, z⟩ := setL_get q
      refine ⟨t0, z1, ?_⟩
      rcases z with ⟨z, _⟩ | ⟨_, ⟨l0, z, _⟩ | ⟨k, l0, z, _⟩⟩
      · subst z; exact os
      · subst z; rfl
      · subst z; rfl
    obtain ⟨t0, z1, z2⟩ := own0 h1 o1
    obtain ⟨u0, z3, z4⟩ := own0 h2 o2
    exact S.inj j k t0 u0 c z1 z3 z2 z4 y1 y2
  · rw [upd_ne (atk b u z w)]; exact S.keep b u z w
  · obtain ⟨y1, y2, y3⟩ := S.ios c hc
    refine ⟨y1, ?_, y3⟩
    by_cases z : c = a
    · subst z; rw [upd_same]; nofun
    · rw [upd_ne z]; exact y2
end

/-! ### methods that change a list -/
/-- xs.append(e) -/
def mApp (i : Nat) (m : Ex) : Ex := fun e => match ownL e i with
  | none => .no
  | some _ => (val m e).bind fun d e1 => match ownL e1 i with
    | some l => if l.length < sizeLine then .ok (.v .none) (setL e1 i (l ++ [d])) else .no
    | none => .no
/-- xs.extend(ys), ys a new list -/
def mExt (i : Nat) (m : Ex) : Ex := fun e => match ownL e i with
  | none => .no
  | some _ => (m e).bind fun r e1 => match r, ownL e1 i with
    | .fl ds, some l => if l.length + ds.length ≤ sizeLine then .ok (.v .none) (setL e1 i (l ++ ds)) else .no
    | _, _ => .no
/-- xs.pop() -/
def mPop (i : Nat) : Ex := fun e => match ownL e i with
  | none => .no
  | some l => match l[l.length - 1]? with
    | some d => .ok (.v d) (setL e i l.dropLast)
    | none => .no
/-- xs.pop(k) -/
def mPopAt (i : Nat) (m : Ex) : Ex := fun e => match ownL e i with
  | none => .no
  | some _ => (val m e).bind fun d e1 => match d, ownL e1 i with
    | .int k, some l => if -(2 ^ 63) ≤ k ∧ k < 2 ^ 63 then match seqIndex? k l.length with
        | some j => match l[j]? with
          | some d => .ok (.v d) (setL e1 i (l.eraseIdx j))
          | none => .no
        | none => .no
      else .no
    | _, _ => .no
theorem Reps.dropLast {K : PySem.W.Frag} {F : Hp} {ds : List D} {vs : List V} (r : Reps K F ds vs) : Reps K F ds.dropLast vs.dropLast := by
  rw [List.dropLast_eq_take, List.dropLast_eq_take, r.length]
  exact r.take _
theorem Reps.eraseIdx {K : PySem.W.Frag} {F : Hp} {ds : List D} {vs : List V} (r : Reps K F ds vs) (k : Nat) : Reps K F (ds.eraseIdx k) (vs.eraseIdx k) := by
  rw [List.eraseIdx_eq_take_drop_succ, List.eraseIdx_eq_take_drop_succ]
  exact (r.take k).append (r.drop (k + 1))
section
variable {X : Cx} {W : WX} {sx : Option (Addr × Value × Option Addr)}
theorem own_step {C : Cw} {G : Gh} {F H : Hp} {e : Ev} {σ : L2.St} (S : Sim C G F e σ H) {i : Nat} {l : List D} (h : ownL e i = some l) : ∃ a xs, σ[i]? = some (some (.ref a)) ∧ H a = some (.lst xs) ∧ Reps C.K F l xs := by
  obtain ⟨a, xs, h1, h2, h3, _⟩ := S.ownL h
  exact ⟨a, xs, h1, h2, h3⟩
theorem de_app {i : Nat} {o e : Expr} {m : Ex} {apos cpos : Pos} (ho : PE X o (tVar i)) (he : DE X W sx e m) (hbase : attributeBase o "append" X.env (eval o X.env) = eval o X.env := by rfl)
    (hfew : ((backTo cpos (starEach [e] X.env)).all (fun x => !x.1) && (backToKw cpos (keywordEach [] X.env)).all (fun x => x.1.isSome) && decide ([e].length + ([] : List Keyword).length + (if ([] : List Keyword).isEmpty then 0 else 1) < 30)) = true := by rfl)
    (hline : (apos.endLine == cpos.line) = true := by rfl) (hs : starEach [e] X.env = (false, eval e X.env) :: starEach [] X.env := by rfl) (hp : (backTo cpos (starEach [] X.env)).any (·.1) = false := by rfl) :
    DE X W sx (.Call (.Attribute o "append" apos) [e] [] cpos) (mApp i m) := by
  refine te_imp (pe_bm PySem.F.plainAttrs_list PySem.F.slot_list_append PySem.F.type_list_append mt_append ho (pa_cons he pa_nil hs) hbase hfew hline hs hp) fun σ H Q ⟨G, F, ev, S, h⟩ => ?_
  unfold mApp at h
  cases q : ownL ev i with
  | none => rw [q] at h; exact h.elim
  | some l0 =>
    rw [q] at h
    obtain ⟨a, xs, h1, h2, _⟩ := own_step S q
    refine ⟨_, h1, .inl ⟨rfl, xs, SqL.of h2⟩, ?_⟩
    refine te_bind (pE _ G σ Q) S h fun d e1 F1 H1 v1 s1 S1 R1 g => ?_
    cases q1 : ownL e1 i with
    | none => rw [q1] at g; exact g.elim
    | some l =>
      rw [q1] at g
      obtain ⟨a', ys, y1, y2, y3⟩ := own_step S1 q1
      rw [h1] at y1
      cases y1
      by_cases hz : l.length < sizeLine
      · simp only [if_pos hz] at g
        refine ⟨a, ys, v1, rfl, rfl, y2, by rw [y3.length]; exact hz, ?_⟩
        exact g F1 _ (Same.refl _) (S1.setL q1 h1 (y3.append (Reps.one R1))) _ rfl
      · simp only [if_neg hz] at g; exact g.elim
theorem de_ext {i : Nat} {o e : Expr} {m : Ex} {apos cpos : Pos} (ho : PE X o (tVar i)) (he : DE X W sx e m) (hbase : attributeBase o "extend" X.env (eval o X.env) = eval o X.env := by rfl)
    (hfew : ((backTo cpos (starEach [e] X.env)).all (fun x => !x.1) && (backToKw cpos (keywordEach [] X.env)).all (fun x => x.1.isSome) && decide ([e].length + ([] : List Keyword).length + (if ([] : List Keyword).isEmpty then 0 else 1) < 30)) = true := by rfl)
    (hline : (apos.endLine == cpos.line) = true := by rfl) (hs : starEach [e] X.env = (false, eval e X.env) :: starEach [] X.env := by rfl) (hp : (backTo cpos (starEach [] X.env)).any (·.1) = false := by rfl) :
    DE X W sx (.Call (.Attribute o "extend" apos) [e] [] cpos) (mExt i m) := by
  refine te_imp (pe_bm PySem.F.plainAttrs_list PySem.F.slot_list_extend PySem.F.type_list_extend mt_extend ho (pa_cons he pa_nil hs) hbase hfew hline hs hp) fun σ H Q ⟨G, F, ev, S, h⟩ => ?_
  unfold mExt at h
  cases q : ownL ev i with
  | none => rw [q] at h; exact h.elim
  | some l0 =>
    rw [q] at h
    obtain ⟨a, xs, h1, h2, _⟩ := own_step S q
    refine ⟨_, h1, .inl ⟨rfl, xs, SqL.of h2⟩, ?_⟩
    refine te_bindR (pE _ G σ Q) S h fun r e1 F1 H1 v1 s1 S1 R1 g => ?_
    cases r with
    | fl ds =>
      cases q1 : ownL e1 i with
      | none => rw [q1] at g; exact g.elim
      | some l =>
        rw [q1] at g
        obtain ⟨a', ys, y1, y2, y3⟩ := own_step S1 q1
        rw [h1] at y1
        cases y1
        obtain ⟨b, zs, eb, z1, z2, _⟩ := R1
        subst eb
        by_cases hz : l.length + ds.length ≤ sizeLine
        · simp only [if_pos hz] at g
          refine ⟨a, b, ys, zs, rfl, rfl, y2, z1, by rw [y3.length, z2.length]; exact hz, ?_⟩
          exact g F1 _ (Same.refl _) (S1.setL q1 h1 (y3.append z2)) _ rfl
        · simp only [if_neg hz] at g; exact g.elim
    | _ => exact g.elim
theorem de_pop {i : Nat} {o : Expr} {apos cpos : Pos} (ho : PE X o (tVar i)) (hbase : attributeBase o "pop" X.env (eval o X.env) = eval o X.env := by rfl) (hline : (apos.endLine == cpos.line) = true := by rfl) :
    DE X W sx (.Call (.Attribute o "pop" apos) [] [] cpos) (mPop i) := by
  refine te_imp (pe_bm0 PySem.F.plainAttrs_list PySem.F.slot_list_pop PySem.F.type_list_pop mt_pop ho hbase hline) fun σ H Q ⟨G, F, ev, S, h⟩ => ?_
  unfold mPop at h
  cases q : ownL ev i with
  | none => rw [q] at h; exact h.elim
  | some l =>
    rw [q] at h
    obtain ⟨a, xs, h1, h2, h3⟩ := own_step S q
    refine ⟨_, h1, .inl ⟨rfl, xs, SqL.of h2⟩, ?_⟩
    dsimp only at h
    cases qd : l[l.length - 1]? with
    | none => rw [qd] at h; exact h.elim
    | some d =>
      rw [qd] at h
      obtain ⟨y, hy, ry⟩ := h3.get qd
      refine ⟨a, xs, y, rfl, rfl, h2, by rw [h3.length]; exact hy, ?_⟩
      exact h F _ (Same.refl _) (S.setL q h1 h3.dropLast) _ ry
theorem de_popAt {i : Nat} {o e : Expr} {m : Ex} {apos cpos : Pos} (ho : PE X o (tVar i)) (he : DE X W sx e m) (hbase : attributeBase o "pop" X.env (eval o X.env) = eval o X.env := by rfl)
    (hfew : ((backTo cpos (starEach [e] X.env)).all (fun x => !x.1) && (backToKw cpos (keywordEach [] X.env)).all (fun x => x.1.isSome) && decide ([e].length + ([] : List Keyword).length + (if ([] : List Keyword).isEmpty then 0 else 1) < 30)) = true := by rfl)
    (hline : (apos.endLine == cpos.line) = true := by rfl) (hs : starEach [e] X.env = (false, eval e X.env) :: starEach [] X.env := by rfl) (hp : (backTo cpos (starEach [] X.env)).any (·.1) = false := by rfl) :
    DE X W sx (.Call (.Attribute o "pop" apos) [e] [] cpos) (mPopAt i m) := by
  refine te_imp (pe_bm PySem.F.plainAttrs_list PySem.F.slot_list_pop PySem.F.type_list_pop mt_popAt ho (pa_cons he pa_nil hs) hbase hfew hline hs hp) fun σ H Q ⟨G, F, ev, S, h⟩ => ?_
  unfold mPopAt at h
  cases q : ownL ev i with
  | none => rw [q] at h; exact h.elim
  | some l0 =>
    rw [q] at h
    obtain ⟨a, xs, h1, h2, _⟩ := own_step S q
    refine ⟨_, h1, .inl ⟨rfl, xs, SqL.of h2⟩, ?_⟩
    refine te_bind (pE _ G σ Q) S h fun d e1 F1 H1 v1 s1 S1 R1 g => ?_
    cases d with
    | int k =>
      cases q1 : ownL e1 i with
      | none => rw [q1] at g; exact g.elim
      | some l =>
        rw [q1] at g
        obtain ⟨a', ys, y1, y2, y3⟩ := own_step S1 q1
        rw [h1] at y1
        cases y1
        have ev1 : v1 = .int k := R1
        subst ev1
        by_cases hz : -(2 ^ 63) ≤ k ∧ k < 2 ^ 63
        · simp only [if_pos hz] at g
          cases qj : seqIndex? k l.length with
          | none => rw [qj] at g; exact g.elim
          | some j =>
            rw [qj] at g
            dsimp only at g
            cases qd : l[j]? with
            | none => rw [qd] at g; exact g.elim
            | some d =>
              rw [qd] at g
              obtain ⟨y, hy, ry⟩ := y3.get qd
              refine ⟨a, ys, k, j, y, rfl, rfl, y2, hz.1, hz.2, by rw [y3.length]; exact qj, hy, ?_⟩
              exact g F1 _ (Same.refl _) (S1.setL q1 h1 (y3.eraseIdx j)) _ ry
        · simp only [if_neg hz] at g; exact g.elim
    | _ => exact g.elim
/-- xs[i] = e -/
def sPut (i : Nat) (mi m : Ex) : Sm := fun e => (val m e).bind fun d e1 => match ownL e1 i with
  | none => .no
  | some _ => (val mi e1).bind fun k e2 => match k, ownL e2 i with
    | .int k, some l => match ixN l.length k with
      | some j => .ok .nx (setL e2 i (l.set j d))
      | none => .no
    | _, _ => .no
theorem ds_put {i : Nat} {o ie e : Expr} {mi m : Ex} {p1 pos : Pos} (ho : PE X o (tVar i)) (hi : DE X W sx ie mi) (he : DE X W sx e m)
    (ha : ∀ v, assign (.Subscript o ie p1) X.env v = (do
      let ov ← holding [v] (eval o X.env)
      let iv ← holding [v, ov] (eval ie X.env)
      standAt p1
      holding [v, ov, iv] (setItem ov iv v)
      release [v, ov, iv] []) := by intro _; rfl)
    (hs : swapsWithSole [.Subscript o ie p1] e pos.line X.env = pure false := by rfl) (hw : swappedStores [.Subscript o ie p1] e X.env = pure none := by rfl)
    (h1 : (assignEach [.Subscript o ie p1] X.env).map (·.2) = [assign (.Subscript o ie p1) X.env] := by rfl) : DS X W sx (.Assign [.Subscript o ie p1] e pos) (sPut i mi m) :=
  ts_imp (ps_asg he (pg_sub ho hi set_list ha) hs hw h1) fun d σ H ⟨G, F, ev, S, h⟩ => by
    refine te_bind (pS _ G d σ) S h fun x e1 F1 H1 v1 s1 S1 R1 g => ?_
    cases q : ownL e1 i with
    | none => rw [q] at g; exact g.elim
    | some l0 =>
      rw [q] at g
      obtain ⟨a, xs, h1, h2, _⟩ := own_step S1 q
      refine ⟨_, h1, ?_⟩
      refine te_bind (pS _ G d σ) S1 g fun k e2 F2 H2 v2 s2 S2 R2 g2 => ?_
      cases k with
      | int k =>
        cases q1 : ownL e2 i with
        | none => rw [q1] at g2; exact g2.elim
        | some l =>
          rw [q1] at g2
          obtain ⟨a', ys, y1, y2, y3⟩ := own_step S2 q1
          rw [h1] at y1
          cases y1
          have ev2 : v2 = .int k := R2
          subst ev2
          dsimp only at g2
          cases qj : ixN l.length k with
          | none => rw [qj] at g2; exact g2.elim
          | some j =>
            rw [qj] at g2
            refine ⟨a, ys, k, j, rfl, rfl, y2, by rw [y3.length]; exact qj, ?_⟩
            exact g2 F2 σ _ (Same.refl _) (S2.setL q1 h1 (Reps.set 0 (Rep.mono s2 _ _ R1) y3))
      | _ => exact g2.elim
end
end RL

/-! RL6: list comprehensions. -/
namespace RL
open PySem PySem.Spec PyProof.Rows L2

def Tg.slots : Tg → List Nat
  | .nm i => [i]
  | .tp is => is
def wipeE (e : Ev) : List Nat → Ev
  | [] => e
  | v :: vs => (wipeE e vs).set v .un
def backE (e0 e : Ev) : List Nat → Ev
  | [] => e
  | v :: vs => match e0[v]? with
    | some s => (backE e0 e vs).set v s
    | none => backE e0 e vs
def plainS : Slot → Bool
  | .un => true
  | .fz _ => true
  | _ => false
def plainE (e : Ev) (own : List Nat) : Bool := own.all fun v => match e[v]? with
  | some s => plainS s
  | none => true
def noEx {α : Type} (r : Re α) : Re α := match r with
  | .ok a e => .ok a e
  | _ => .no
def lcL (own : List Nat) (t : Tg) (cond : Ev → Re Bool) (elt : Ex) : List D → List D → Ev → Re (List D)
  | [], acc, e => .ok acc e
  | d :: ds, acc, e => match t.put d (wipeE e own) with
    | none => .no
    | some e1 => (noEx (cond e1)).bind fun b e2 => if b = true then (noEx (val elt e2)).bind fun y e3 => lcL own t cond elt ds (acc ++ [y]) (backE e e3 own) else lcL own t cond elt ds acc (backE e e2 own)
def mLc (own : List Nat) (t : Tg) (it : Im) (cond : Ev → Re Bool) (elt : Ex) : Ex := fun e => (it e).bind fun ds e1 => if plainE e1 own = true ∧ ds.length < sizeLine then (lcL own t cond elt ds [] e1).bind fun l e2 => .ok (.fl l) e2 else .no
def mYes : Ev → Re Bool := fun e => .ok true e

theorem wipeE_length {e : Ev} : ∀ {vs : List Nat}, (wipeE e vs).length = e.length
  | [] => rfl
  | v :: vs => by unfold wipeE; rw [List.length_set, wipeE_length]
theorem backE_length {e0 e : Ev} : ∀ {vs : List Nat}, (backE e0 e vs).length = e.length
  | [] => rfl
  | v :: vs => by
    unfold backE
    cases e0[v]? with
    | none => exact backE_length
    | some s => simp only [List.length_set]; exact backE_length
theorem backE_get {e0 e : Ev} (hl : e.length = e0.length) : ∀ {vs : List Nat} (j : Nat), (backE e0 e vs)[j]? = if j ∈ vs then e0[j]? else e[j]?
  | [], j => by simp [backE]
  | v :: vs, j => by
    unfold backE
    cases q : e0[v]? with
    | none =>
      rw [backE_get hl j]
      by_cases hj : j = v
      · subst hj
        have : e[j]? = none := by rw [List.getElem?_eq_none_iff] at q ⊢; omega
        simp [q, this]
      · simp [hj]
    | some s =>
      have hv : v < (backE e0 e vs).length := by rw [backE_length, hl]; exact (List.getElem?_eq_some_iff.mp q).1
      by_cases hj : j = v
      · subst hj; simp [List.getElem?_set_self hv, q]
      · simp only [List.getElem?_set_ne (Ne.symm hj), List.mem_cons, hj, false_or]
        exact backE_get hl j
theorem wipe_get {σ : L2.St} : ∀ {vs : List Nat} (j : Nat), (wipe σ vs)[j]? = if j ∈ vs ∧ j < σ.length then some none else σ[j]?
  | [], j => by simp [wipe]
  | v :: vs, j => by
    unfold wipe
    by_cases hj : j = v
    · subst hj
      by_cases hl : j < σ.length
      · rw [List.getElem?_set_self (by rw [wipe_length]; exact hl), if_pos ⟨by simp, hl⟩]
      · rw [List.getElem?_eq_none (by rw [List.length_set, wipe_length]; omega), if_neg (fun z => hl z.2), List.getElem?_eq_none (by omega)]
    · rw [List.getElem?_set_ne (Ne.symm hj), wipe_get j]
      simp [hj]
section
variable {C : Cw} {G : Gh} {F H : Hp} {e : Ev} {σ : L2.St}
theorem Sim.drop1 (S : Sim C G F e σ H) {i : Nat} {x : Option V} (h : e[i]? = some .un ∨ e[i]? = none) : Sim C G F e (σ.set i x) H := by
  have ne : ∀ {j : Nat} {s : Slot}, e[j]? = some s → s ≠ .un → j ≠ i := fun {j s} q n z => by
    subst z
    rcases h with h | h
    · rw [h] at q; cases q; exact n rfl
    · rw [h] at q; cases q
  refine ⟨S.sub, S.f0, by rw [List.length_set]; exact S.len, fun j d q => ?_, fun j c fs q => ?_, fun j s q o => ?_, fun j k s t a q1 q2 o1 o2 h1 h2 => ?_, S.keep, S.new, S.ios⟩
  · obtain ⟨v, h1, h2⟩ := S.fz j d q
    exact ⟨v, get_set h1 (ne q nofun), h2⟩
  · obtain ⟨a, cl, d, h1, h2⟩ := S.xc j c fs q
    exact ⟨a, cl, d, get_set h1 (ne q nofun), h2⟩
  · obtain ⟨a, u, h1, h2⟩ := S.ow j s q o
    exact ⟨a, u, get_set h1 (ne q fun z => by subst z; cases o), h2⟩
  · exact S.inj j k s t a q1 q2 o1 o2 (set_get h1 (ne q1 fun z => by subst z; cases o1)) (set_get h2 (ne q2 fun z => by subst z; cases o2))
theorem Sim.wiped (S : Sim C G F e σ H) : ∀ {vs : List Nat}, Sim C G F (wipeE e vs) (wipe σ vs) H
  | [] => S
  | v :: vs => by
    have S1 := (S.wiped (vs := vs)).leave v
    unfold wipeE wipe
    refine S1.drop1 ?_
    by_cases hv : v < (wipeE e vs).length
    · exact .inl (List.getElem?_set_self hv)
    · exact .inr (List.getElem?_eq_none (by rw [List.length_set]; omega))
theorem Sim.back {F3 H4 : Hp} {e3 : Ev} {σ2 : L2.St} {own : List Nat} (S : Sim C G F e σ H) (S3 : Sim C G F3 e3 σ2 H4) (s : Same F F3) (hp : plainE e own = true) (hl : σ2.length = σ.length) (hσ : ∀ j, j ∉ own → σ2[j]? = σ[j]?) : Sim C G F3 (backE e e3 own) σ H4 := by
  have le : e3.length = e.length := by rw [S3.len, hl, S.len]
  have get : ∀ {j : Nat} {t : Slot}, (backE e e3 own)[j]? = some t → (j ∈ own ∧ e[j]? = some t ∧ plainS t = true) ∨ (j ∉ own ∧ e3[j]? = some t) := fun {j t} q => by
    rw [backE_get le] at q
    by_cases hj : j ∈ own
    · rw [if_pos hj] at q
      refine .inl ⟨hj, q, ?_⟩
      have z := List.all_eq_true.mp hp j hj
      rw [q] at z
      exact z
    · rw [if_neg hj] at q; exact .inr ⟨hj, q⟩
  refine ⟨S3.sub, S3.f0, by rw [backE_length, S3.len, hl], fun j d q => ?_, fun j c fs q => ?_, fun j t q o => ?_, fun j k t u a q1 q2 o1 o2 h1 h2 => ?_, S3.keep, S3.new, S3.ios⟩
  · rcases get q with ⟨_, z, _⟩ | ⟨hj, z⟩
    · obtain ⟨v, h1, h2⟩ := S.fz j d z
      exact ⟨v, h1, Rep.mono s _ _ h2⟩
    · obtain ⟨v, h1, h2⟩ := S3.fz j d z
      exact ⟨v, by rw [← hσ j hj]; exact h1, h2⟩
  · rcases get q with ⟨_, z, p⟩ | ⟨hj, z⟩
    · cases p
    · obtain ⟨a, cl, d, h1, h2⟩ := S3.xc j c fs z
      exact ⟨a, cl, d, by rw [← hσ j hj]; exact h1, h2⟩
  · rcases get q with ⟨_, z, p⟩ | ⟨hj, z⟩
    · cases t <;> first | (cases o; done) | (cases p; done)
    · obtain ⟨a, u, h1, h2⟩ := S3.ow j t z o
      exact ⟨a, u, by rw [← hσ j hj]; exact h1, h2⟩
  · have g2 : ∀ {j : Nat} {t : Slot}, (backE e e3 own)[j]? = some t → t.own = true → j ∉ own ∧ e3[j]? = some t := fun {j t} q o => by
      rcases get q with ⟨_, z, p⟩ | z
      · cases t <;> first | (cases o; done) | (cases p; done)
      · exact z
    obtain ⟨y1, y2⟩ := g2 q1 o1
    obtain ⟨y3, y4⟩ := g2 q2 o2
    exact S3.inj j k t u a y2 y4 o1 o2 (by rw [hσ j y1]; exact h1) (by rw [hσ k y3]; exact h2)
theorem Sim.w {K : PySem.W.Frag} {mg : Str → Option Value} {W W' : WX} {sx : Option (Addr × Value × Option Addr)} (S : Sim ⟨K, mg, W, sx⟩ G F e σ H) : Sim ⟨K, mg, W', sx⟩ G F e σ H :=
  ⟨S.sub, S.f0, S.len, S.fz, S.xc, S.ow, S.inj, S.keep, S.new, S.ios⟩
theorem gN_read2 : ∀ {is : List Nat} {ds : List D} {vs : List V} {e e' : Ev} {σ : L2.St} {Q : L2.St → Hp → Prop}, Sim C G F e σ H → Reps C.K F ds vs → putL is ds e = some e' →
    (∀ σ', Sim C G F e' σ' H → σ'.length = σ.length → (∀ j, j ∉ is → σ'[j]? = σ[j]?) → Q σ' H) → gN is vs σ H Q
  | [], [], vs, e, e', σ, Q, S, r, h, q => by
    unfold Reps at r
    cases h
    exact ⟨r, q σ S rfl fun _ _ => rfl⟩
  | i :: is, d :: ds, vs, e, e', σ, Q, S, r, h, q => by
    obtain ⟨x, xs, ev, r1, r2⟩ := r.uncons
    unfold putL at h
    cases qp : putS i (.fz d) e with
    | none => rw [qp] at h; cases h
    | some e1 =>
      rw [qp] at h
      obtain ⟨hl, rfl, _⟩ := putS_some qp
      refine ⟨x, xs, ev, gN_read2 (S.put (r := .v d) hl r1) r2 h fun σ' S' l' g' => q σ' S' (by rw [l', List.length_set]) fun j hj => ?_⟩
      have hj2 : j ≠ i ∧ j ∉ is := by simpa using hj
      rw [g' j hj2.2, List.getElem?_set_ne (Ne.symm hj2.1)]
  | [], _ :: _, _, _, _, _, _, _, _, h, _ => by cases h
  | _ :: _, [], _, _, _, _, _, _, _, h, _ => by cases h
theorem gT_read2 {t : Tg} {d : D} {v : V} {e' : Ev} {Q : L2.St → Hp → Prop} (S : Sim C G F e σ H) (r : Rep C.K F d v) (h : t.put d e = some e')
    (q : ∀ σ', Sim C G F e' σ' H → σ'.length = σ.length → (∀ j, j ∉ t.slots → σ'[j]? = σ[j]?) → Q σ' H) : gT C.K t v σ H Q := by
  cases t with
  | nm i =>
    obtain ⟨hl, rfl, _⟩ := putS_some (show putS i (.fz d) e = some e' from h)
    refine q _ (S.put (r := .v d) hl r) (List.length_set ..) fun j hj => List.getElem?_set_ne (fun z => hj ?_)
    subst z
    exact List.mem_singleton.mpr rfl
  | tp is =>
    cases d with
    | tuple ds =>
      unfold Rep at r
      obtain ⟨a, xs, ev, hs, hr⟩ := r
      have h' : putL is ds e = some e' := h
      refine ⟨a, xs, ev, ?_, ?_, gN_read2 S hr h' q⟩
      · rcases hs with (z | ⟨o, z⟩) | z
        · exact .inl (.inl (S.sub _ _ z))
        · exact .inl (.inr ⟨o, S.sub _ _ z⟩)
        · exact .inr z
      · rw [hr.length]; exact putL_length h'
    | _ => cases h
end
/-- no exception is taken -/
abbrev WF : WX := fun _ _ _ _ => False
theorem noEx_ok {α : Type} {r : Re α} {a : α} {e : Ev} (h : noEx r = .ok a e) : r = .ok a e := by
  cases r <;> first | exact h | cases h
section
variable {X : Cx} {W : WX}
theorem lc_read {own : List Nat} {t : Tg} {mi : Im} {mc : Ev → Re Bool} {me : Ex} (ht : ∀ j ∈ t.slots, j ∈ own) {σ : L2.St} {H : Hp} {Q : VK} (q : teOf0 ⟨X.K, X.mg, W, none⟩ (mLc own t mi mc me) σ H Q) :
    tLc (tiOf ⟨X.K, X.mg, W, none⟩ mi) (gT X.K t) (ttOf ⟨X.K, X.mg, WF, none⟩ mc) (teOf ⟨X.K, X.mg, WF, none⟩ me) own σ H Q := by
  obtain ⟨G, F, e, S, h⟩ := q
  refine ti_bind (pE _ G σ Q) S h fun ds e1 F1 H1 J s1 S1 j h1 => ?_
  by_cases hz : plainE e1 own = true ∧ ds.length < sizeLine
  · rw [if_pos hz] at h1
    intro D0 hD
    have l1 : Lone G F1 e1 σ D0 := S1.lone hD
    have h0 := l1.2.1
    have f0 := S1.f0p l1.1
    have ni := S1.noIo h0
    refine ⟨fun i m H' => i ≤ ds.length ∧ m = ds.length - i ∧ ∃ F' e' acc vs, Same F1 F' ∧ Sim ⟨X.K, X.mg, W, none⟩ G F' e' σ H' ∧ H' D0 = some (.lst vs) ∧ Lone G F' e' σ D0 ∧ Reps X.K F' acc vs ∧ vs.length ≤ i ∧ plainE e' own = true ∧
      (pE ⟨X.K, X.mg, W, none⟩ G σ Q).P F' ((lcL own t mc me (ds.drop i) acc e').bind fun l e2 => .ok (.fl l) e2),
      ⟨ds.length, Nat.zero_le _, rfl, F1, e1, [], [], Same.refl _, S1.alloc hD, upd_same, l1, Reps.nil, Nat.zero_le _, hz.1, h1⟩, ?_⟩
    rintro i m H2 ⟨hi, rfl, F2, e2, acc, vs, s2, S2, hv, l2, ra, hlen, hp2, h2⟩
    by_cases hlt : i < ds.length
    · refine .inr ⟨j.go i H2 (s2.trans S2.sub) hlt, fun H' => ∃ F' e' acc vs, Same F1 F' ∧ Sim ⟨X.K, X.mg, W, none⟩ G F' e' σ H' ∧ H' D0 = some (.lst vs) ∧ Lone G F' e' σ D0 ∧ Reps X.K F' acc vs ∧ vs.length ≤ i + 1 ∧ plainE e' own = true ∧
        (pE ⟨X.K, X.mg, W, none⟩ G σ Q).P F' ((lcL own t mc me (ds.drop (i + 1)) acc e').bind fun l e2 => .ok (.fl l) e2), fun H' n => ⟨_, by omega, hlt, rfl, n⟩, fun x H' y => ?_⟩
      have hd : ds[i]? = some ds[i] := List.getElem?_eq_getElem hlt
      have ed : ds.drop i = ds[i] :: ds.drop (i + 1) := List.drop_eq_getElem_cons hlt
      rw [ed] at h2
      -- the new list is guarded
      have S2g := S2.guard l2 hv
      obtain ⟨F3, s3, S3, R3⟩ := S2g.item j s2 hd y
      have h3 := (pE ⟨X.K, X.mg, W, none⟩ G σ Q).mono s3 h2
      unfold lcL at h3
      cases qp : t.put ds[i] (wipeE e2 own) with
      | none => rw [qp] at h3; exact h3.elim
      | some e3 =>
        rw [qp] at h3
        dsimp only at h3
        have S4 : Sim ⟨X.K, X.mg, WF, none⟩ (G.guard D0 (.lst vs)) F3 (wipeE e2 own) (wipe σ own) H' := (S3.wiped (vs := own)).w
        refine gT_read2 (C := ⟨X.K, X.mg, WF, none⟩) S4 R3 qp fun σ2 S5 hl5 hg5 => ⟨?_, ?_⟩
        · -- the slots of its own are wiped alike
          apply List.ext_getElem?
          intro k
          rw [wipe_get, wipe_get]
          have hl6 : σ2.length = σ.length := by rw [hl5, wipe_length]
          by_cases hk : k ∈ own
          · by_cases hk2 : k < σ.length
            · rw [if_pos ⟨hk, by omega⟩, if_pos ⟨hk, hk2⟩]
            · rw [if_neg (fun z => hk2 (by omega)), if_neg (fun z => hk2 z.2), List.getElem?_eq_none (by omega), List.getElem?_eq_none (by omega)]
          · rw [if_neg (fun z => hk z.1), if_neg (fun z => hk z.1), hg5 k (fun z => hk (ht k z)), wipe_get, if_neg (fun z => hk z.1)]
        · have hl6 : σ2.length = σ.length := by rw [hl5, wipe_length]
          have hg6 : ∀ k, k ∉ own → σ2[k]? = σ[k]? := fun k hk => by rw [hg5 k (fun z => hk (ht k z)), wipe_get, if_neg (fun z => hk z.1)]
          have fin : ∀ {F5 H5 : Hp} {e5 : Ev}, Same F3 F5 → Sim ⟨X.K, X.mg, WF, none⟩ (G.guard D0 (.lst vs)) F5 e5 σ2 H5 → Sim ⟨X.K, X.mg, W, none⟩ G F5 (backE e2 e5 own) σ H5 ∧ H5 D0 = some (.lst vs) ∧ Lone G F5 (backE e2 e5 own) σ D0 := fun {F5 H5 e5} s5 S5 =>
            (Sim.back (S2g.w (W' := W)) (S5.w (W' := W)) (s3.trans s5) hp2 hl6 hg6).unguard h0 f0 ni
          have pl : ∀ {e5 : Ev}, e5.length = e2.length → plainE (backE e2 e5 own) own = true := fun {e5} he => List.all_eq_true.mpr fun v hv => by
            rw [backE_get he, if_pos hv]
            exact List.all_eq_true.mp hp2 v hv
          cases qc : noEx (mc e3) with
          | no => rw [qc] at h3; exact h3.elim
          | ex c fs e4 => exact absurd qc (by cases mc e3 <;> nofun)
          | ok b e4 =>
            rw [qc] at h3
            have qc' := noEx_ok qc
            refine ⟨G.guard D0 (.lst vs), F3, e3, S5, ?_⟩
            rw [qc']
            intro F5 H5 s5 S6
            simp only [Re.bind] at h3
            cases b with
            | false =>
              rw [if_neg Bool.false_ne_true] at h3 ⊢
              obtain ⟨z1, z2, z3⟩ := fin s5 S6
              exact ⟨F5, _, acc, vs, (s2.trans s3).trans s5, z1, z2, z3, (ra.mono s3).mono s5, by omega, pl (by rw [S6.len, hl6, S2.len]), (pE ⟨X.K, X.mg, W, none⟩ G σ Q).mono s5 h3⟩
            | true =>
              rw [if_pos rfl] at h3 ⊢
              cases qe : noEx (val me e4) with
              | no => rw [qe] at h3; exact h3.elim
              | ex c fs e6 => exact absurd qe (by cases val me e4 <;> nofun)
              | ok dy e6 =>
                rw [qe] at h3
                have qe' := noEx_ok qe
                have h4 : (pG (α := D) ⟨X.K, X.mg, WF, none⟩ (G.guard D0 (.lst vs)) σ2 fun a e F' H' => a = dy ∧ e = e6 ∧ Same F5 F' ∧ Sim ⟨X.K, X.mg, WF, none⟩ (G.guard D0 (.lst vs)) F' e σ2 H').P F5 ((val me e4).bind fun a e => .ok a e) := by
                  rw [qe']
                  exact fun F' H' s' S' => ⟨rfl, rfl, s', S'⟩
                refine te_bind _ S6 h4 fun dy' e7 F7 H7 v7 s7 S7 R7 h7 => ?_
                obtain ⟨rfl, rfl, _, _⟩ := h7 F7 H7 (Same.refl _) S7
                obtain ⟨z1, z2, z3⟩ := fin (s5.trans s7) S7
                refine ⟨vs, z2, Nat.lt_of_le_of_lt hlen (by omega), F7, _, acc ++ [dy'], vs ++ [v7], ((s2.trans s3).trans s5).trans s7, ?_, upd_same, z3, (((ra.mono s3).mono s5).mono s7).append (Reps.one R7), by simp; omega, pl (by rw [S7.len, hl6, S2.len]),
                  (pE ⟨X.K, X.mg, W, none⟩ G σ Q).mono (s5.trans s7) h3⟩
                -- the guarded list has grown
                refine ⟨fun b u q => ?_, z1.f0, z1.len, z1.fz, z1.xc, fun k s q o => ?_, z1.inj, fun b u q hb => ?_, z1.new, fun a ha => ?_⟩
                · have ne : b ≠ D0 := fun z => by subst z; rw [z3.1] at q; cases q
                  rw [upd_ne ne]; exact z1.sub b u q
                · obtain ⟨a, u, y1, y2, y3⟩ := z1.ow k s q o
                  have ne : a ≠ D0 := fun z => by subst z; exact z3.2.2 k s q o y1
                  exact ⟨a, u, y1, by rw [upd_ne ne]; exact y2, y3⟩
                · have ne : b ≠ D0 := fun z => by subst z; rw [h0] at q; cases q
                  rw [upd_ne ne]; exact z1.keep b u q hb
                · obtain ⟨y1, y2, y3⟩ := z1.ios a ha
                  have ne : a ≠ D0 := fun z => ni (by rw [← z]; exact ha)
                  exact ⟨y1, by rw [upd_ne ne]; exact y2, y3⟩
    · have e0 : i = ds.length := by omega
      subst e0
      rw [List.drop_length] at h2
      refine .inl ⟨j.stop _ H2 (s2.trans S2.sub) rfl, ?_⟩
      exact h2 F2 H2 (Same.refl _) S2 _ ⟨D0, vs, rfl, hv, ra, l2⟩
  · rw [if_neg hz] at h1; exact h1.elim
abbrev DT (X : Cx) (ifs : List Expr) (m : Ev → Re Bool) : Prop := PTs X ifs (ttOf ⟨X.K, X.mg, WF, none⟩ m)
theorem dt_nil : DT X [] mYes := ⟨fun pins s σ H Q I ⟨G, F, e, S, h⟩ => pts_nil.run pins s σ H Q I (h F H (Same.refl _) S)⟩
theorem dt_one {c : Expr} {m : Ex} (h : BE X WF none c m) : DT X [c] (mT m) := pts_one h.t
theorem de_lc {own : List (Str × Nat)} {t : Tg} {elt tg iter : Expr} {ifs : List Expr} {scope : Scope} {pos : Pos} {mi : Im} {mc : Ev → Re Bool} {me : Ex} (hc : X.calm = true) (hN : X.N.Nodup) (hi : DI X W none tg iter mi) (ok : BlkOk X.N X.env.scope scope own)
    (hg : ∀ (s : Shared) (H : Hp) (C : Addr) (cl : List (Str × Addr)) (fp : List Addr), PG (X.blk s H scope (compEnvC scope cl C X.env) fp) tg (gT X.K t)) (hif : ∀ (s : Shared) (H : Hp) (C : Addr) (cl : List (Str × Addr)) (fp : List Addr), DT (X.blk s H scope (compEnvC scope cl C X.env) fp) ifs mc)
    (he : ∀ (s : Shared) (H : Hp) (C : Addr) (cl : List (Str × Addr)) (fp : List Addr), DE (X.blk s H scope (compEnvC scope cl C X.env) fp) WF none elt me) (ht : ∀ j ∈ t.slots, j ∈ own.map (·.2) := by decide) (hs : ∀ x, foldedSetIterable iter X.env x = pure x := by intro _; rfl) :
    DE X W none (.ListComp elt [⟨tg, iter, ifs, 0⟩] scope pos) (mLc (own.map (·.2)) t mi mc me) :=
  te_imp (pe_lc hc hN hi ok hg hif he hs) fun σ H Q q => lc_read ht q
theorem ds_setLc {i : Nat} {y : Str} {py : Pos} {own : List (Str × Nat)} {t : Tg} {elt tg iter : Expr} {ifs : List Expr} {scope : Scope} {pos spos : Pos} {mi : Im} {mc : Ev → Re Bool} {me : Ex} (hc : X.calm = true) (hN : X.N.Nodup) (hy : X.N[i]? = some y) (hyl : X.env.scope.names.lookup y = some .local)
    (hsw : swapsWith (.ListComp elt [⟨tg, iter, ifs, 0⟩] scope pos) (some (.Name y py)) spos.line X.env = pure true) (hi : DI X W none tg iter mi) (ok : BlkOk X.N X.env.scope scope own)
    (hg : ∀ (s : Shared) (H : Hp) (C : Addr) (cl : List (Str × Addr)) (fp : List Addr), PG (X.blk s H scope (compEnvC scope cl C X.env) fp) tg (gT X.K t)) (hif : ∀ (s : Shared) (H : Hp) (C : Addr) (cl : List (Str × Addr)) (fp : List Addr), DT (X.blk s H scope (compEnvC scope cl C X.env) fp) ifs mc)
    (he : ∀ (s : Shared) (H : Hp) (C : Addr) (cl : List (Str × Addr)) (fp : List Addr), DE (X.blk s H scope (compEnvC scope cl C X.env) fp) WF none elt me) (ht : ∀ j ∈ t.slots, j ∈ own.map (·.2) := by decide) (hs : ∀ x, foldedSetIterable iter X.env x = pure x := by intro _; rfl) :
    DS X W none (.Assign [.Name y py] (.ListComp elt [⟨tg, iter, ifs, 0⟩] scope pos) spos) (sA i (mLc (own.map (·.2)) t mi mc me)) :=
  ts_imp (ps_setLc hc hN hy hyl hsw hi ok hg hif he hs) fun d σ H q => asg_read (fun _ _ _ z => lc_read ht z) q
end
end RL

/-! RL7: raise, try, calls by keywords. -/
namespace RL
open PySem PySem.Spec PyProof.Rows L2

/-! ### own exceptions -/
/-- __init__: self.f = f for each field -/
def spI (K : PySem.W.Frag) (fns : List Str) : Sp := fun vs H Q _ => ∃ (a C : Addr) (xs : List V), vs = .ref a :: xs ∧ xs.length = fns.length ∧ OexC K C ∧ (∀ f ∈ fns, PySem.W.findIn K (.ref C) f = some none) ∧ H a = some (exo a C none) ∧
  ∀ dx, H dx = none → dx ≠ a → Q .non (upd (upd H dx (exd dx (fns.zip xs).reverse)) a (exo a C (some dx)))
/-- what is known of the class c at C -/
structure XcOk (P : Program) (w : World) (K : PySem.W.Frag) (mg : Str → Option Value) (base : Heap) (c : Str) (C : Addr) (fns : List Str) : Prop where
  gl : mg c = some (.ref C)
  ox : OexC K C
  na : ∀ f ∈ fns, PySem.W.findIn K (.ref C) f = some none
  ini : ∃ fI fd ps, PySem.W.findIn K (.ref C) "__init__" = some (some (.ref fI)) ∧ PySem.W.typeIn K (.ref fI) = some (.type "function") ∧ Binds K fd ps [] ∧ FnOk P w K mg base (L2.CX P w) 1 fI fd ps (spI K fns)
def sRaise (c : Str) (fns : List Str) (ms : List Ex) : Sm := fun e => (valsE ms e).bind fun ds e1 => if ds.length = fns.length then .ex c (fns.zip ds).reverse e1 else .no
theorem zip_map1 {α β : Type} : ∀ {l : List α} {m : List β}, m.length = l.length → (l.zip m).map (·.1) = l
  | [], [], _ => rfl
  | a :: l, b :: m, h => by simp [zip_map1 (l := l) (m := m) (by simpa using h)]
  | [], _ :: _, h => by cases h
  | _ :: _, [], h => by cases h
theorem zip_map2 {α β : Type} : ∀ {l : List α} {m : List β}, m.length = l.length → (l.zip m).map (·.2) = m
  | [], [], _ => rfl
  | a :: l, b :: m, h => by simp [zip_map2 (l := l) (m := m) (by simpa using h)]
  | [], _ :: _, h => by cases h
  | _ :: _, [], h => by cases h
section
variable {X : Cx} {W : WX}
theorem ds_raise {c : Str} {C : Addr} {fns : List Str} {e : Expr} {es : List Expr} {ms : List Ex} {p pos pos2 : Pos} (hc : X.calm = true) (tk : Takes X W) (T : XcOk X.prog X.w X.K X.mg X.base c C fns) (hr : Room 2 X.A) (ha : DA X W none (e :: es) ms) (hg : Gl X c := by rfl)
    (hl : ms.length ≤ 1000 := by decide) (hdb : (c == ("__debug__" : Str)) = false := by decide) (he : starEach (e :: es) X.env = (false, eval e X.env) :: starEach es X.env := by rfl) (hpl : (backTo pos (starEach es X.env)).any (·.1) = false := by rfl) :
    DS X W none (.Raise (some (.Call (.Name c p) (e :: es) [] pos)) none pos2) (sRaise c fns ms) := by
  obtain ⟨fI, fd, ps, i1, i2, i3, i4⟩ := T.ini
  refine ts_imp (ps_raise hc tk (pmk_oex T.ox i1 i2 i4 hr i3 .nil passL hg T.gl ha hdb he hpl)) fun d σ H ⟨G, F, ev, S, h⟩ => ?_
  have h' : PS0 ⟨X.K, X.mg, W, none⟩ G d F ((valsE ms ev).bind fun ds e1 => if ds.length = ms.length ∧ ds.length = fns.length then .ex c (fns.zip ds).reverse e1 else .no) := by
    unfold sRaise at h
    cases q : valsE ms ev with
    | no => rw [q] at h; exact h
    | ex c fs e1 => rw [q] at h; exact h
    | ok ds e1 =>
      rw [q] at h
      simp only [Re.bind] at h ⊢
      by_cases z : ds.length = fns.length
      · rw [if_pos z] at h; rw [if_pos ⟨valsE_length q, z⟩]; exact h
      · rw [if_neg z] at h; exact h.elim
  refine ta_bind (pS _ G d σ) S h' fun ds e1 F1 H1 vs s1 S1 R1 h1 => ?_
  by_cases z : ds.length = ms.length ∧ ds.length = fns.length
  · rw [if_pos z] at h1
    have lv := R1.length
    refine ⟨by omega, fun a hn => ⟨a, C, vs, by simp, by omega, T.ox, T.na, upd_same, fun dx hd ne => ⟨rfl, dx, (fns.zip vs).reverse, upd_same, ?_, ?_, ?_⟩⟩⟩
    · rw [upd_ne ne, upd_same]
    · rw [upd_ne ne] at hd; exact hd
    · rw [upd_ne ne] at hd
      have eh : upd (del (upd (upd (upd H1 a (exo a C none)) dx (exd dx (fns.zip vs).reverse)) a (exo a C (some dx))) a) dx (.xd (fns.zip vs).reverse) = upd H1 dx (.xd (fns.zip vs).reverse) := by
        funext b
        by_cases h1 : b = dx
        · subst h1; rw [upd_same, upd_same]
        · rw [upd_ne h1, upd_ne h1]
          by_cases h2 : b = a
          · subst h2; rw [del_same, hn]
          · rw [del_ne h2, upd_ne h2, upd_ne h1, upd_ne h2]
      show W (.ref C) (some dx) σ _
      rw [eh]
      have S2 := (S1.alloc (o := .xd (fns.zip vs).reverse) hd).freeze (S1.lone hd) upd_same
      refine h1 _ σ _ C (some dx) (same_upd (S1.f hd)) S2 ⟨T.gl, .inr ⟨dx, _, rfl, upd_same, ?_, ?_⟩⟩
      · rw [List.map_reverse, List.map_reverse, zip_map1 (by omega), zip_map1 (by omega)]
      · rw [List.map_reverse, List.map_reverse, zip_map2 (by omega), zip_map2 (by omega)]
        exact (R1.mono (same_upd (S1.f hd))).reverse
  · rw [if_neg z] at h1; exact h1.elim
end

/-! ### try -/
abbrev Suite := Addr → Value → Option Addr → TS
def resetE (i : Nat) (d : Ends) : Ends := ⟨fun σ H => d.nx (σ.set i none) H, d.rt, fun σ H => d.bk (σ.set i none) H, fun σ H => d.ct (σ.set i none) H⟩
/-- what the clauses want of an exception, one behind the other -/
def wTry (K : PySem.W.Frag) (Wo : WX) (d : Ends) : List (Value × Option Nat × Suite) → WX
  | [] => Wo
  | (c, none, t) :: r => fun cls x σ H => ∃ b, PySem.W.exmOne K cls c = some b ∧ (b = true → ∀ a, H a = none → t a cls x d σ H) ∧ (b = false → wTry K Wo d r cls x σ H)
  | (c, some i, t) :: r => fun cls x σ H => ∃ b, PySem.W.exmOne K cls c = some b ∧ (b = true → ∀ a, H a = none → t a cls x (resetE i d) (σ.set i (some (.ref a))) H) ∧ (b = false → wTry K Wo d r cls x σ H)
inductive HdN (X : Cx) : List ExceptHandler → List (Value × Option Nat × Suite) → Prop
  | nil : HdN X [] []
  | plain {x : Str} {c : Value} {t : Suite} {st : Stmt} {su : List Stmt} {np p' : Pos} {hds : List ExceptHandler} {l : List (Value × Option Nat × Suite)} (hc : Names X x c)
      (hs : ∀ (a : Addr) (oe : Obj) (cls : Value) (x : Option Addr) (pn : List (Addr × Obj)), Zc cls x oe → (∃ vs, oe.data = .fields vs) → PSs (X.suite a ((a, oe) :: pn)) (st :: su) (t a cls x)) (r : HdN X hds l) :
      HdN X (.ExceptHandler (some (.Name x np)) none (st :: su) p' :: hds) ((c, none, t) :: l)
  | named {x n : Str} {i : Nat} {c : Value} {t : Suite} {st : Stmt} {su : List Stmt} {np p' : Pos} {hds : List ExceptHandler} {l : List (Value × Option Nat × Suite)} (hc : Names X x c) (hi : X.N[i]? = some n) (hl : X.env.kindOf n = some .local)
      (hs : ∀ (a : Addr) (oe : Obj) (cls : Value) (x : Option Addr) (pn : List (Addr × Obj)), Zc cls x oe → (∃ vs, oe.data = .fields vs) → PSs (X.suite a ((a, oe) :: pn)) (st :: su) (t a cls x)) (r : HdN X hds l) :
      HdN X (.ExceptHandler (some (.Name x np)) (some n) (st :: su) p' :: hds) ((c, some i, t) :: l)
section
variable {X : Cx}
/-- try with clauses of either form -/
theorem ps_tryN {body : List Stmt} {h0 : ExceptHandler} {hds : List ExceptHandler} {l : List (Value × Option Nat × Suite)} {pos : Pos} {tb : WX → TS} {Wo : WX} (hst : X.stack = X.env :: X.outer) (hfr0 : X.env.frame = some X.env.locals) (hN : X.N.Nodup) (tk : Takes X Wo)
    (hb : ∀ (W : WX) (pn : List (Addr × Obj)) (xe : Value → Shared → Prop), Takes (X.tr pn xe) W → PassesOwn (model X.prog X.w) X.A X.env xe → PSs (X.tr pn xe) body (tb W))
    (hh : HdN X (h0 :: hds) l) : PS X (.Try body (h0 :: hds) [] [] pos) (fun d σ H => tb (wTry X.K Wo d l) d σ H) := by
  refine ⟨fun pins s σ H d I h => ?_⟩
  have okX := I.ok
  have frX : X.A.frames = some (X.env :: X.outer) := by rw [okX.frames, hst]
  refine wpAny_Try_except ?_
  have run := (hb (wTry X.K Wo d l) (X.pn ++ pins) (fun ev s₁ => wpAny (model X.prog X.w) X.A (noteFrame ev X.env) (fun _ s₂ => wpAny (model X.prog X.w) X.A (setFlight ev none) (fun _ s₃ =>
    wpAny (model X.prog X.w) X.A (handleBy ev X.env (h0 :: hds)) (SP X pins d) X.xe s₃) X.xe s₂) X.xe s₁) ?T PassesOwn.looking).run [] s σ H d (I.toTry _) h
  case T =>
    intro u z xx
    obtain ⟨a, B, sI, pinsJ, σJ, HJ, cls, x, rfl, J0, nb, up, sky, na, os, ag, w⟩ := xx
    have J : Inv X pins σJ HJ sI := J0.ofTry okX
    have skyX : Sky B (X.env :: X.outer) a (Zc cls x) X.env.locals z.heap := by rw [← hst]; exact sky
    show wpAny (model X.prog X.w) X.A (noteFrame (.ref a) X.env) _ _ _
    refine Sky.land Zc.steady frX hfr0 skyX fun hA flA upA => ?_
    have JA : Inv X pins σJ HJ { z with heap := hA } := J.landed nb flA.1 (up.trans upA) os ag
    obtain ⟨oA, vA, heA, hzA, hdA⟩ := flA.there
    have outF : ∀ {hh : Heap} {o : Obj} {vs : Array Value}, hh.FunFrames B (X.env :: X.outer) → hh.get? a = some o → o.data = .fields vs → a ∉ frs (X.env :: X.outer) := fun {hh o vs} ff e dd hm => by
      obtain ⟨_, o1, e1, hn1⟩ := ff.mem hm
      rw [e] at e1; cases e1
      exact hn1 _ dd
    have nF := outF flA.2.2.1 heA hdA
    have nL : a ≠ X.env.locals := fun y => nF (List.mem_filterMap.mpr ⟨X.env, List.mem_cons_self, by rw [hfr0, y]⟩)
    have nX : a ∉ X.fs := fun hm => by
      obtain ⟨en, he, q⟩ := List.mem_filterMap.mp hm
      exact nF (List.mem_filterMap.mpr ⟨en, List.mem_cons_of_mem _ he, q⟩)
    have SA := JA.suite heA hdA na nL nX
    have LT : PySem.W.Looks (model X.prog X.w) hA (typeOf (.ref a)) cls := fun A Q E s k q => wpAny_typeOf_ref (k _ _ heA) (by rw [hzA.1]; exact q)
    have nameIs : ∀ {xn : Str} {c : Value} {np : Pos} {Q : Value → Shared → Prop} {E : Value → Shared → Prop}, Names X xn c → Q c { z with heap := hA } → wpAny (model X.prog X.w) (X.A.mark (some (.ref a))) (eval (.Name xn np) X.env) Q E { z with heap := hA } := fun {xn c np Q E} hc q => by
      obtain ⟨hg, hdbg, hm | ⟨hm, hv, hnn⟩⟩ := hc
      · exact ld_glob (X := X.suite a ((a, oA) :: (X.pn ++ pins))) SA hg hm q hdbg
      · exact ld_blt (X := X.suite a ((a, oA) :: (X.pn ++ pins))) SA hg hm hv q hnn hdbg
    have go : ∀ {hk : List ExceptHandler} {lk : List (Value × Option Nat × Suite)}, HdN X hk lk → wTry X.K Wo d lk cls x σJ HJ → wpAny (model X.prog X.w) X.A (handleBy (.ref a) X.env hk) (SP X pins d) X.xe { z with heap := hA } := by
      intro hk lk hd
      induction hd with
      | nil =>
        intro wn
        refine wpAny_handleBy_nil ?_
        obtain ⟨k1, k2, k3, oT, vT, T, oU, ts', heT, hzT, hdT, hT1, hTr⟩ := id flA
        unfold PySem.passOn
        refine wpAny_bind (wpAny_field heT hdT hT1 ?_)
        rw [if_neg (show ¬ ((Value.ref T == Value.none) = true) from by simp)]
        have fin : wpAny (model X.prog X.w) X.A (setFlight (.ref a) X.env.frame) (fun _ s4 => wpAny (model X.prog X.w) X.A (throw (.ref a) : Sem Flow) (SP X pins d) X.xe s4) X.xe { z with heap := hA } := by
          rw [hfr0]
          exact HandSPX.setFlight_upZ flA fun hB hhB upB => wpAny_throw (tk _ _ ⟨a, B, sI, pins, σJ, HJ, cls, x, rfl, J, nb, (up.trans upA).trans upB, .inr (.inr (by rw [hst]; exact hhB)), na, os, ag, wn⟩)
        first
          | exact wpAny_bind (wpAny_pure (wpAny_bind fin))
          | exact wpAny_bind fin
      | @plain xn c t st su np p' hds2 l2 hc hsu r ih =>
        intro wn
        obtain ⟨b, hb1, hyes, hno⟩ := wn
        refine wpAny_handleBy_cons (codeAny_handlers_test ?_) (by intro q; cases q)
        refine nameIs hc ((PySem.W.exm_one (M := model X.prog X.w) JA.kIn LT hb1).here ?_)
        cases b with
        | false => exact ih (hno rfl)
        | true =>
          refine codeAny_handlers_suite ?_
          refine HandSPX.lands_againZ flA fun hB flB upB => ?_
          have JB : Inv X pins σJ HJ { z with heap := hB } := J.landed nb flB.1 ((up.trans upA).trans upB) os ag
          obtain ⟨oB, vB, heB, hzB, hdB⟩ := flB.there
          have SB := JB.suite heB hdB na nL nX
          refine wpAny_mono ((hsu a oB cls x (X.pn ++ pins) hzB ⟨_, hdB⟩).run [] _ _ HJ _ SB (hyes rfl a na)) (fun f s6 hsp => ?_) (fun _ _ y => False.elim y)
          cases f with
          | next => obtain ⟨σ6, H6, S6, q6⟩ := hsp; exact ⟨_, _, S6.unsuite okX, q6⟩
          | brk => obtain ⟨σ6, H6, S6, q6⟩ := hsp; exact ⟨_, _, S6.unsuite okX, q6⟩
          | cont => obtain ⟨σ6, H6, S6, q6⟩ := hsp; exact ⟨_, _, S6.unsuite okX, q6⟩
          | ret u => obtain ⟨v6, σ6, H6, S6, r6, q6⟩ := hsp; exact ⟨_, _, _, S6.unsuite okX, r6, q6⟩
      | @named xn n i c t st su np p' hds2 l2 hc hi hl hsu r ih =>
        intro wn
        obtain ⟨b, hb1, hyes, hno⟩ := wn
        refine wpAny_handleBy_cons (codeAny_handlers_test ?_) (by intro q; cases q)
        refine nameIs hc ((PySem.W.exm_one (M := model X.prog X.w) JA.kIn LT hb1).here ?_)
        cases b with
        | false => exact ih (hno rfl)
        | true =>
          refine codeAny_handlers_suite_as ?_
          refine HandSPX.lands_againZ flA fun hB flB upB => ?_
          have JB : Inv X pins σJ HJ { z with heap := hB } := J.landed nb flB.1 ((up.trans upA).trans upB) os ag
          obtain ⟨oB, vB, heB, hzB, hdB⟩ := flB.there
          have SB := JB.suite heB hdB na nL nX
          refine store_ok (X := X.suite a ((a, oB) :: (X.pn ++ pins))) (v := .ref a) SB hN hi (.inl hl) rfl (fun s5 S5 => ?_) (.inr hl)
          refine wpAny_mono ((hsu a oB cls x (X.pn ++ pins) hzB ⟨_, hdB⟩).run [] s5 _ HJ _ S5 (hyes rfl a na)) (fun f s6 hsp => ?_) (fun _ _ y => False.elim y)
          have gone : ∀ {σ6 : L2.St} {H6 : Hp} {Q : Shared → Prop}, Inv (X.suite a ((a, oB) :: (X.pn ++ pins))) [] σ6 H6 s6 → (∀ s7, Inv X pins (σ6.set i none) H6 s7 → Q s7) →
              wpAny (model X.prog X.w) X.A (do bindName X.env n .none; unbindBehindTheSuite X.env n p') (fun _ s7 => Q s7) X.xe s6 := fun {σ6 H6 Q} S6 hq => gone_ok (S6.unsuite okX) hN hi hl hq
          cases f with
          | next => obtain ⟨σ6, H6, S6, q6⟩ := hsp; exact gone S6 fun s7 J7 => ⟨_, _, J7, q6⟩
          | brk => obtain ⟨σ6, H6, S6, q6⟩ := hsp; exact gone S6 fun s7 J7 => ⟨_, _, J7, q6⟩
          | cont => obtain ⟨σ6, H6, S6, q6⟩ := hsp; exact gone S6 fun s7 J7 => ⟨_, _, J7, q6⟩
          | ret u => obtain ⟨v6, σ6, H6, S6, r6, q6⟩ := hsp; exact gone S6 fun s7 J7 => ⟨_, _, _, J7, r6, q6⟩
    exact go hh w
  refine wpAny_mono run (fun f s1 hsp => ?_) (fun ev s1 he => he)
  cases f with
  | next => obtain ⟨σ1, H1, J1, q⟩ := hsp; exact wpAny_execs_nil ⟨σ1, H1, J1.ofTry okX, q⟩
  | brk => obtain ⟨σ1, H1, J1, q⟩ := hsp; exact ⟨σ1, H1, J1.ofTry okX, q⟩
  | cont => obtain ⟨σ1, H1, J1, q⟩ := hsp; exact ⟨σ1, H1, J1.ofTry okX, q⟩
  | ret u => obtain ⟨v, σ1, H1, J1, r, q⟩ := hsp; exact ⟨v, σ1, H1, J1.ofTry okX, r, q⟩
end
/-- no exception stands in a slot -/
def noXc (e : Ev) : Bool := e.all fun s => match s with
  | .xc _ _ => false
  | _ => true
theorem noXc_get {e : Ev} (h : noXc e = true) (j : Nat) (c : Str) (fs : List (Str × D)) : e[j]? ≠ some (.xc c fs) := fun q => by
  have z := List.all_eq_true.mp h _ (List.mem_of_getElem? q)
  cases z
/-- behind a suite -/
def cleanS (r : Re Fl) : Re Fl := match r with
  | .ok f e => if noXc e = true then .ok f e else .no
  | _ => .no
/-- .. its name goes -/
def closeS (i : Nat) (r : Re Fl) : Re Fl := match r with
  | .ok f e => if noXc (e.set i .un) = true then .ok f (e.set i .un) else .no
  | _ => .no
abbrev Hm := Str × Option Nat × Sm
def hTry (c : Str) (fs : List (Str × D)) : List Hm → Ev → Re Fl
  | [], e => .ex c fs e
  | (x, none, m) :: r, e => if c = x then cleanS (m e) else hTry c fs r e
  | (x, some i, m) :: r, e => if c = x then (match putS i (.xc c fs) e with
    | some e2 => closeS i (m e2)
    | none => .no) else hTry c fs r e
/-- L: the classes that may come -/
def sTry (L : List Str) (body : Sm) (hs : List Hm) : Sm := fun e => match body e with
  | .ex c fs e1 => if c ∈ L then hTry c fs hs e1 else .no
  | r => r
/-- which class a clause's class takes -/
def Tells (X : Cx) (L : List Str) (x : Str) (cv : Value) : Prop := ∀ c ∈ L, ∀ cl, X.mg c = some (.ref cl) → PySem.W.exmOne X.K (.ref cl) cv = some (decide (c = x))
inductive HmOk (X : Cx) (L : List Str) : List ExceptHandler → List Hm → Prop
  | nil : HmOk X L [] []
  | plain {x : Str} {cv : Value} {m : Sm} {st : Stmt} {su : List Stmt} {np p' : Pos} {hds : List ExceptHandler} {l : List Hm} (hc : Names X x cv) (ht : Tells X L x cv)
      (hs : ∀ (a : Addr) (oe : Obj) (cls : Value) (x : Option Addr) (pn : List (Addr × Obj)), Zc cls x oe → (∃ vs, oe.data = .fields vs) → DB (X.suite a ((a, oe) :: pn)) WF (some (a, cls, x)) (st :: su) m) (r : HmOk X L hds l) :
      HmOk X L (.ExceptHandler (some (.Name x np)) none (st :: su) p' :: hds) ((x, none, m) :: l)
  | named {x n : Str} {i : Nat} {cv : Value} {m : Sm} {st : Stmt} {su : List Stmt} {np p' : Pos} {hds : List ExceptHandler} {l : List Hm} (hc : Names X x cv) (ht : Tells X L x cv) (hi : X.N[i]? = some n) (hl : X.env.kindOf n = some .local)
      (hs : ∀ (a : Addr) (oe : Obj) (cls : Value) (x : Option Addr) (pn : List (Addr × Obj)), Zc cls x oe → (∃ vs, oe.data = .fields vs) → DB (X.suite a ((a, oe) :: pn)) WF (some (a, cls, x)) (st :: su) m) (r : HmOk X L hds l) :
      HmOk X L (.ExceptHandler (some (.Name x np)) (some n) (st :: su) p' :: hds) ((x, some i, m) :: l)
/-- an exception comes to its slot -/
theorem Sim.putX {K : PySem.W.Frag} {mg : Str → Option Value} {W : WX} {G : Gh} {F H : Hp} {e e2 : Ev} {σ : L2.St} {i : Nat} {c : Str} {fs : List (Str × D)} {a cl : Addr} {x : Option Addr} (S : Sim ⟨K, mg, W, none⟩ G F e σ H) (h : putS i (.xc c fs) e = some e2)
    (r : RepX ⟨K, mg, W, none⟩ F cl x c fs) : Sim ⟨K, mg, WF, some (a, .ref cl, x)⟩ G F e2 (σ.set i (some (.ref a))) H := by
  obtain ⟨hl, rfl, _⟩ := putS_some h
  have hσ : i < σ.length := by rw [← S.len]; exact hl
  refine ⟨S.sub, S.f0, by simp [S.len], fun j d q => ?_, fun j c' fs' q => ?_, fun j s q o => ?_, fun j k s t b q1 q2 o1 o2 h1 h2 => ?_, S.keep, S.new, S.ios⟩
  · rcases set_at q with ⟨_, w⟩ | ⟨n, w⟩
    · cases w
    · obtain ⟨v, h1, h2⟩ := S.fz j d w
      exact ⟨v, get_set h1 n, h2⟩
  · rcases set_at q with ⟨z, w⟩ | ⟨n, w⟩
    · cases w
      subst z
      exact ⟨a, cl, x, List.getElem?_set_self hσ, rfl, r⟩
    · obtain ⟨b, cl', d, _, h2, _⟩ := S.xc j c' fs' w
      cases h2
  · rcases set_at q with ⟨_, w⟩ | ⟨n, w⟩
    · subst w; cases o
    · obtain ⟨b, u, h1, h2⟩ := S.ow j s w o
      exact ⟨b, u, get_set h1 n, h2⟩
  · rcases set_at q1 with ⟨_, w⟩ | ⟨n, w⟩
    · subst w; cases o1
    rcases set_at q2 with ⟨_, w'⟩ | ⟨n', w'⟩
    · subst w'; cases o2
    exact S.inj j k s t b w w' o1 o2 (set_get h1 n) (set_get h2 n')
/-- .. and goes -/
theorem Sim.dropX {K : PySem.W.Frag} {mg : Str → Option Value} {W W' : WX} {G : Gh} {F H : Hp} {e : Ev} {σ : L2.St} {sx : Option (Addr × Value × Option Addr)} (S : Sim ⟨K, mg, W, sx⟩ G F e σ H) (h : ∀ (j : Nat) (c : Str) (fs : List (Str × D)), e[j]? ≠ some (.xc c fs)) : Sim ⟨K, mg, W', none⟩ G F e σ H :=
  ⟨S.sub, S.f0, S.len, S.fz, fun j c fs q => absurd q (h j c fs), S.ow, S.inj, S.keep, S.new, S.ios⟩
theorem PS0.clean {K : PySem.W.Frag} {mg : Str → Option Value} {W : WX} {G : Gh} {d : Ends} {F : Hp} {sx : Option (Addr × Value × Option Addr)} {r : Re Fl} (h : PS0 ⟨K, mg, W, none⟩ G d F (cleanS r)) : PS0 ⟨K, mg, WF, sx⟩ G d F r := by
  cases r with
  | no => exact h
  | ex c fs e => exact h.elim
  | ok f e =>
    unfold cleanS at h
    by_cases z : noXc e = true
    · simp only [if_pos z] at h
      cases f with
      | nx => exact fun F' σ' H' s S => h F' σ' H' s (S.dropX (noXc_get z))
      | bk => exact fun F' σ' H' s S => h F' σ' H' s (S.dropX (noXc_get z))
      | ct => exact fun F' σ' H' s S => h F' σ' H' s (S.dropX (noXc_get z))
      | rt r =>
        intro F' σ' H' s S v rv
        refine h F' σ' H' s (S.dropX (noXc_get z)) v ?_
        cases r <;> exact rv
    · simp only [if_neg z] at h; exact h.elim
theorem PS0.close {K : PySem.W.Frag} {mg : Str → Option Value} {W : WX} {G : Gh} {d : Ends} {F : Hp} {sx : Option (Addr × Value × Option Addr)} {i : Nat} {r : Re Fl} (h : PS0 ⟨K, mg, W, none⟩ G d F (closeS i r)) : PS0 ⟨K, mg, WF, sx⟩ G (resetE i d) F r := by
  cases r with
  | no => exact h
  | ex c fs e => exact h.elim
  | ok f e =>
    unfold closeS at h
    by_cases z : noXc (e.set i .un) = true
    · simp only [if_pos z] at h
      have dr : ∀ {F' σ' H'}, Sim ⟨K, mg, WF, sx⟩ G F' e σ' H' → Sim ⟨K, mg, W, none⟩ G F' (e.set i .un) (σ'.set i none) H' := fun {F' σ' H'} S =>
        ((S.leave i).dropX (W' := W) (noXc_get z)).drop1 (by
          by_cases hi : i < e.length
          · exact .inl (List.getElem?_set_self hi)
          · exact .inr (List.getElem?_eq_none (by rw [List.length_set]; omega)))
      cases f with
      | nx => exact fun F' σ' H' s S => h F' _ H' s (dr S)
      | bk => exact fun F' σ' H' s S => h F' _ H' s (dr S)
      | ct => exact fun F' σ' H' s S => h F' _ H' s (dr S)
      | rt r =>
        intro F' σ' H' s S v rv
        refine h F' σ' H' s ((S.leave i).dropX (noXc_get z)) v ?_
        have less : ∀ {a : Addr}, Lone G F' e σ' a → Lone G F' (e.set i .un) σ' a := fun {a} l => ⟨l.1, l.2.1, fun j t q o => by
          rcases set_at q with ⟨_, w⟩ | ⟨_, w⟩
          · subst w; cases o
          · exact l.2.2 j t w o⟩
        cases r with
        | v d => exact rv
        | fl ds => obtain ⟨a, xs, h1, h2, h3, l⟩ := rv; exact ⟨a, xs, h1, h2, h3, less l⟩
        | fd ds => obtain ⟨a, xs, h1, h2, h3, l⟩ := rv; exact ⟨a, xs, h1, h2, h3, less l⟩
    · simp only [if_neg z] at h; exact h.elim
theorem noXcIn {K : PySem.W.Frag} {mg : Str → Option Value} {W : WX} {G : Gh} {F H : Hp} {e : Ev} {σ : L2.St} (S : Sim ⟨K, mg, W, none⟩ G F e σ H) {i : Nat} {c : Str} {fs : List (Str × D)} {P : Prop} (q : e[i]? = some (.xc c fs)) : P := by
  obtain ⟨_, _, _, _, z, _⟩ := S.xc i c fs q
  cases z
section
variable {X : Cx} {W : WX}
theorem hm_read {L : List Str} {hds : List ExceptHandler} {lm : List Hm} (h : HmOk X L hds lm) : ∃ l, HdN X hds l ∧ ∀ (G : Gh) (d : Ends) (c : Str) (fs : List (Str × D)) (F : Hp) (cl : Addr) (x : Option Addr) (σ : L2.St) (H : Hp) (e : Ev), c ∈ L → Sim ⟨X.K, X.mg, W, none⟩ G F e σ H →
    RepX ⟨X.K, X.mg, W, none⟩ F cl x c fs → PS0 ⟨X.K, X.mg, W, none⟩ G d F (hTry c fs lm e) → wTry X.K W d l (.ref cl) x σ H := by
  induction h with
  | nil => exact ⟨[], .nil, fun G d c fs F cl x σ H e _ S r q => q F σ H cl x (Same.refl _) S r⟩
  | @plain xn cv m st su np p' hds l hc ht hs r ih =>
    obtain ⟨l', h1, h2⟩ := ih
    refine ⟨(cv, none, fun a cls x => tsOf ⟨X.K, X.mg, WF, some (a, cls, x)⟩ m) :: l', .plain hc hs h1, fun G d c fs F cl x σ H e hL S rx q => ?_⟩
    refine ⟨_, ht c hL cl rx.1, fun hb a ha => ?_, fun hb => ?_⟩
    · unfold hTry at q
      rw [if_pos (of_decide_eq_true hb)] at q
      exact ⟨G, F, e, ⟨S.sub, S.f0, S.len, S.fz, fun i c fs q => noXcIn S q, S.ow, S.inj, S.keep, S.new, S.ios⟩, PS0.clean q⟩
    · unfold hTry at q
      rw [if_neg (of_decide_eq_false hb)] at q
      exact h2 G d c fs F cl x σ H e hL S rx q
  | @named xn n i cv m st su np p' hds l hc ht hi hl hs r ih =>
    obtain ⟨l', h1, h2⟩ := ih
    refine ⟨(cv, some i, fun a cls x => tsOf ⟨X.K, X.mg, WF, some (a, cls, x)⟩ m) :: l', .named hc hi hl hs h1, fun G d c fs F cl x σ H e hL S rx q => ?_⟩
    refine ⟨_, ht c hL cl rx.1, fun hb a ha => ?_, fun hb => ?_⟩
    · unfold hTry at q
      rw [if_pos (of_decide_eq_true hb)] at q
      cases qp : putS i (.xc c fs) e with
      | none => rw [qp] at q; exact q.elim
      | some e2 =>
        rw [qp] at q
        exact ⟨G, F, e2, S.putX qp rx, PS0.close q⟩
    · unfold hTry at q
      rw [if_neg (of_decide_eq_false hb)] at q
      exact h2 G d c fs F cl x σ H e hL S rx q
theorem ds_try {L : List Str} {body : List Stmt} {h0 : ExceptHandler} {hds : List ExceptHandler} {lm : List Hm} {mb : Sm} {pos : Pos} (hst : X.stack = X.env :: X.outer) (hfr0 : X.env.frame = some X.env.locals) (hN : X.N.Nodup) (tk : Takes X W)
    (hb : ∀ (W' : WX) (pn : List (Addr × Obj)) (xe : Value → Shared → Prop), Takes (X.tr pn xe) W' → PassesOwn (model X.prog X.w) X.A X.env xe → DB (X.tr pn xe) W' none body mb)
    (hh : HmOk X L (h0 :: hds) lm) : DS X W none (.Try body (h0 :: hds) [] [] pos) (sTry L mb lm) := by
  obtain ⟨l, hl, hr⟩ := hm_read (W := W) hh
  refine ts_imp (ps_tryN hst hfr0 hN tk (tb := fun W' => tsOf ⟨X.K, X.mg, W', none⟩ mb) hb hl) fun d σ H ⟨G, F, e, S, h⟩ => ⟨G, F, e, S.w, ?_⟩
  unfold sTry at h
  cases hm : mb e with
  | no => rw [hm] at h; exact h
  | ex c fs e1 =>
    rw [hm] at h
    dsimp only at h
    by_cases hL : c ∈ L
    · rw [if_pos hL] at h
      intro F' σ' H' cl x s S' rx
      exact hr G d c fs F' cl x σ' H' e1 hL S'.w rx (PS0.mono s h)
    · rw [if_neg hL] at h; exact h.elim
  | ok f e1 =>
    rw [hm] at h
    cases f with
    | nx => exact fun F' σ' H' s S' => h F' σ' H' s S'.w
    | bk => exact fun F' σ' H' s S' => h F' σ' H' s S'.w
    | ct => exact fun F' σ' H' s S' => h F' σ' H' s S'.w
    | rt r =>
      intro F' σ' H' s S' v rv
      refine h F' σ' H' s S'.w v ?_
      cases r <;> exact rv
end

/-! ### calls by keywords -/
/-- the parameters' values out of the written ones: place by place -/
def pick {α : Type} (p : List Nat) (l : List α) : Option (List α) := match p with
  | [] => some []
  | i :: r => match l[i]?, pick r l with
    | some x, some y => some (x :: y)
    | _, _ => none
def mCallK (p : List Nat) (f : MF) (ms : List Ex) : Ex := fun e => (valsE ms e).bind fun ds e1 => match pick p ds with
  | none => .no
  | some ds' => match f ds' with
    | .ok r [] => .ok r e1
    | .ex c fs [] => .ex c fs e1
    | _ => .no
structure KwB (K : PySem.W.Frag) (fd : FuncData) (ps ks : List Str) (p : List Nat) : Prop where
  to : ∀ (s : Shared) (ws us : List Value), K.In s.heap → ws.length = ks.length → pick p ws = some us → BindsTo s fd ⟨[], ks.zip ws⟩ (ps.zip us)
theorem pick_rel {K : PySem.W.Frag} {F : Hp} : ∀ {p : List Nat} {ds ds' : List D} {vs : List V}, Reps K F ds vs → pick p ds = some ds' → ∃ vs', pick p vs = some vs' ∧ Reps K F ds' vs' ∧ ds'.length = p.length
  | [], ds, ds', vs, r, h => by cases h; exact ⟨[], rfl, Reps.nil, rfl⟩
  | i :: p, ds, ds', vs, r, h => by
    unfold pick at h
    cases q : ds[i]? with
    | none => rw [q] at h; cases h
    | some d =>
      cases q2 : pick p ds with
      | none => rw [q, q2] at h; cases h
      | some ds2 =>
        rw [q, q2] at h
        cases h
        obtain ⟨x, hx, rx⟩ := r.get q
        obtain ⟨vs2, h1, h2, h3⟩ := pick_rel r q2
        refine ⟨x :: vs2, ?_, Reps.cons rx h2, by simp [h3]⟩
        unfold pick
        rw [hx, h1]
theorem pick_vals : ∀ {p : List Nat} {vs vs' : List V} {us : List Value}, Vals vs us → pick p vs = some vs' → ∃ us', pick p us = some us' ∧ Vals vs' us'
  | [], vs, vs', us, r, h => by cases h; exact ⟨[], rfl, .nil⟩
  | i :: p, vs, vs', us, r, h => by
    unfold pick at h
    cases q : vs[i]? with
    | none => rw [q] at h; cases h
    | some x =>
      cases q2 : pick p vs with
      | none => rw [q, q2] at h; cases h
      | some vs2 =>
        rw [q, q2] at h
        cases h
        obtain ⟨u, hu, ru⟩ := r.get q
        obtain ⟨us2, h1, h2⟩ := pick_vals r q2
        refine ⟨u :: us2, ?_, .cons ru h2⟩
        unfold pick
        rw [hu, h1]
theorem args_all {K : PySem.W.Frag} {F H : Hp} : ∀ {ds : List D} {vs : List V}, Reps K F ds vs → ArgsOk K F H (List.replicate ds.length false) ds vs []
  | [], vs, r => by unfold Reps at r; exact ⟨rfl, r, rfl⟩
  | d :: ds, vs, r => by
    obtain ⟨x, xs, e, r1, r2⟩ := r.uncons
    exact ⟨d, ds, x, xs, rfl, e, r1, args_all r2⟩
section
variable {X : Cx} {W : WX} {sx : Option (Addr × Value × Option Addr)}
abbrev DK (X : Cx) (W : WX) (sx : Option (Addr × Value × Option Addr)) (kws : List Keyword) (ms : List Ex) : Prop := PK X kws (taV ⟨X.K, X.mg, W, sx⟩ ms)
theorem dk_nil : DK X W sx [] [] := pk_nil
theorem dk_cons {nm : Option Str} {e : Expr} {kpos : Pos} {kws : List Keyword} {m : Ex} {ms : List Ex} (h : DE X W sx e m) (r : DK X W sx kws ms) : DK X W sx (⟨nm, e, kpos⟩ :: kws) (m :: ms) := pk_cons h r
/-- f(k = e, ..) -/
theorem de_callK {k n : Nat} {f : Addr} {fd : FuncData} {ps ks : List Str} {mf : MF} {x : Str} {p pos : Pos} {kws : List Keyword} {ms : List Ex} {pr : List Nat} (tk : Takes X W) (Fn : FnOk X.prog X.w X.K X.mg X.base (L2.CX X.prog X.w) k f fd ps (spM X.K X.mg (List.replicate n false) mf)) (hr : Room k X.A)
    (hm : X.mg x = some (.ref f)) (hk : PySem.W.keepIn X.K (.ref f) = true) (hb : KwB X.K fd ps ks pr) (ha : DK X W sx kws ms) (hn : pr.length = n := by rfl) (hl : ms.length = ks.length := by rfl) (hg : Gl X x := by rfl) (hdb : (x == ("__debug__" : Str)) = false := by decide)
    (hall : (backToKw pos (keywordEach kws X.env)).all (·.1.isSome) = true := by rfl) (hks : (backToKw pos (keywordEach kws X.env)).filterMap (·.1) = ks := by rfl) (hpl : ((backTo pos (starEach [] X.env)).any (·.1) || (backToKw pos (keywordEach kws X.env)).any (·.1.isNone)) = false := by rfl) :
    DE X W sx (.Call (.Name x p) [] kws pos) (mCallK pr mf ms) := by
  refine te_imp (t := teOf0 ⟨X.K, X.mg, W, sx⟩ (mCallK pr mf ms)) ⟨fun pins s σ H Q I ⟨G, F, e, S, h⟩ => ?_⟩ fun _ _ _ z => z
  refine wpAny_Call_Name_kw (ld_glob I hg hm ?_ hdb)
  refine PySem.W.callWith_KW0 (h₀ := X.base) I.ok.mod.kin hk hall ?_ hpl
  have h' : (pE ⟨X.K, X.mg, W, sx⟩ G σ Q).P F ((valsE ms e).bind fun ds e1 => if ds.length = ks.length then (match pick pr ds with
    | none => .no
    | some ds' => match mf ds' with
      | .ok r [] => .ok r e1
      | .ex c fs [] => .ex c fs e1
      | _ => .no) else .no) := by
    unfold mCallK at h
    cases q : valsE ms e with
    | no => rw [q] at h; exact h
    | ex c fs e1 => rw [q] at h; exact h
    | ok ds e1 =>
      rw [q] at h
      simp only [Re.bind] at h ⊢
      rw [if_pos ((valsE_length q).trans hl)]; exact h
  have t0 : taV ⟨X.K, X.mg, W, sx⟩ ms σ H (fun vs H1 => vs.length = ks.length ∧ ∃ vs', pick pr vs = some vs' ∧ spM X.K X.mg (List.replicate n false) mf vs' H1 Q (WE W σ)) := by
    refine ta_bind (pE _ G σ Q) S h' fun ds e1 F1 H1 vs s1 S1 R1 h1 => ?_
    by_cases hz : ds.length = ks.length
    · rw [if_pos hz] at h1
      refine ⟨R1.length.trans hz, ?_⟩
      cases qp : pick pr ds with
      | none => rw [qp] at h1; exact h1.elim
      | some ds' =>
        rw [qp] at h1
        obtain ⟨vs', y1, y2, y3⟩ := pick_rel R1 qp
        refine ⟨vs', y1, F1, ds', [], S1.sub, ?_, List.nodup_nil, ?_⟩
        · have := args_all (H := H1) y2
          rw [y3, hn] at this
          exact this
        · dsimp only at h1
          have ev1 : ∀ {F' H' : Hp} {outs : List (List D)}, Outs X.K F' H' [] outs → outs = [] := fun o => o
          cases qf : mf ds' with
          | no => rw [qf] at h1; exact h1.elim
          | ok r outs =>
            rw [qf] at h1
            intro F' H' v g o rf
            have eo := ev1 o
            subst eo
            have S2 : Sim ⟨X.K, X.mg, W, sx⟩ G F' e1 σ H' := sim_call (is := []) (outs := []) S1 List.nodup_nil rfl (fun k i a q => by simp at q) g rfl rfl
            exact h1 F' H' g.f S2 v (repR_call (as := []) S1 S2 (fun i s q o => ⟨s, q, o⟩) rf)
          | ex c fs outs =>
            rw [qf] at h1
            intro F' H' cl y g o rx
            have eo := ev1 o
            subst eo
            have S2 : Sim ⟨X.K, X.mg, W, sx⟩ G F' e1 σ H' := sim_call (is := []) (outs := []) S1 List.nodup_nil rfl (fun k i a q => by simp at q) g rfl rfl
            exact h1 F' H' cl y g.f S2 rx
    · rw [if_neg hz] at h1; exact h1.elim
  refine thn (ha.run pos pins s σ H _ I t0) fun ws s2 ⟨vs, H2, I2, rz, hz, vs', hp, hsp⟩ => ⟨I2.kIn, ?_⟩
  rw [hks]
  obtain ⟨us', q1, q2⟩ := pick_vals rz hp
  have b := hb.to s2 ws us' I2.kIn (rz.length.symm.trans hz) q1
  refine wpAny_call (codeAny_mono (Fn.run X.A X.stack s2 H2 ⟨[], ks.zip ws⟩ us' vs' Q (WE W σ) hr I2.env0 b q2 hsp) fun r s' hq => ?_)
  cases r with
  | error er => exact (passAt tk σ) pins H2 s2 er s' I2 hq
  | ok fl =>
    cases fl with
    | ret u => exact I2.after hq
    | next => exact False.elim hq
    | brk => exact False.elim hq
    | cont => exact False.elim hq
end
end RL

/-! RL8: operations on trees. -/
namespace RL
open PySem PySem.Spec PyProof.Rows L2

/-! ### trees without dicts, read off the heap -/
mutual
def plainD : D → Bool
  | .dict _ => false
  | .list ds => plainDs ds
  | .tuple ds => plainDs ds
  | .none => true
  | .bool _ => true
  | .int _ => true
  | .str _ => true
def plainDs : List D → Bool
  | [] => true
  | d :: ds => plainD d && plainDs ds
end
section
variable {K : PySem.W.Frag} {H : Hp}
mutual
theorem Rep.dp : ∀ (d : D) (v : V), plainD d = true → Rep K H d v → Dp K H v d
  | .none, _, _, r => by unfold Rep at r; subst r; exact .non
  | .bool b, _, _, r => by unfold Rep at r; subst r; exact .bl b
  | .int i, _, _, r => by unfold Rep at r; subst r; exact .int i
  | .str x, _, _, r => by unfold Rep at r; obtain ⟨rfl, _⟩ := r; exact .str x
  | .list ds, _, p, r => by
    unfold Rep at r
    obtain ⟨a, xs, rfl, h, q⟩ := r
    exact .lst (sqOf h) (Reps.dp ds xs (by unfold plainD at p; exact p) q)
  | .tuple ds, _, p, r => by
    unfold Rep at r
    obtain ⟨a, xs, rfl, h, q⟩ := r
    exact .tup h (Reps.dp ds xs (by unfold plainD at p; exact p) q)
  | .dict _, _, p, _ => by unfold plainD at p; cases p
theorem Reps.dp : ∀ (ds : List D) (vs : List V), plainDs ds = true → Reps K H ds vs → DpAll K H vs ds
  | [], _, _, r => by unfold Reps at r; subst r; exact .nil
  | d :: ds, _, p, r => by
    obtain ⟨x, xs, rfl, r1, r2⟩ := r.uncons
    unfold plainDs at p
    rw [Bool.and_eq_true] at p
    exact .cons (Rep.dp d x p.1 r1) (Reps.dp ds xs p.2 r2)
end
mutual
theorem plain_lay : ∀ (d : D), d.canLay0 = true → plainD d = true
  | .none, _ => by unfold plainD; rfl
  | .bool b, _ => by unfold plainD; rfl
  | .int i, _ => by unfold plainD; rfl
  | .str x, _ => by unfold plainD; rfl
  | .list ds, h => by unfold plainD; exact plain_lays ds (by unfold PyData.canLay0 at h; exact h)
  | .tuple ds, h => by unfold plainD; exact plain_lays ds (by unfold PyData.canLay0 at h; exact h)
  | .dict _, h => by unfold PyData.canLay0 at h; cases h
theorem plain_lays : ∀ (ds : List D), PyData.canLayAll0 ds = true → plainDs ds = true
  | [], _ => by unfold plainDs; rfl
  | d :: ds, h => by
    unfold PyData.canLayAll0 at h
    rw [Bool.and_eq_true] at h
    unfold plainDs
    rw [Bool.and_eq_true]
    exact ⟨plain_lay d h.1, plain_lays ds h.2⟩
end
theorem RepT.dp {F : Hp} (s : Same F H) {d : D} {v : V} (r : RepT K F H d v) (p : plainD d = true) : Dp K H v d := by
  cases d with
  | list ds =>
    obtain ⟨a, xs, e, h, q⟩ := r
    subst e
    exact .lst (sqOf h) (Reps.dp ds xs (by unfold plainD at p; exact p) (q.mono s))
  | dict kvs => unfold plainD at p; cases p
  | none => exact Rep.dp _ _ p (Rep.mono s _ _ (show Rep K F .none v from r))
  | bool b => exact Rep.dp _ _ p (Rep.mono s _ _ (show Rep K F (.bool b) v from r))
  | int b => exact Rep.dp _ _ p (Rep.mono s _ _ (show Rep K F (.int b) v from r))
  | str b => exact Rep.dp _ _ p (Rep.mono s _ _ (show Rep K F (.str b) v from r))
  | tuple b => exact Rep.dp _ _ p (Rep.mono s _ _ (show Rep K F (.tuple b) v from r))
theorem shaped_plain {d : D} (h : SeqAt.shaped d = true) : plainD d = true := plain_lay d (SeqAt.canLay_of_shaped h)
end

/-! ### combining -/
def orO (a b : Option VR) : Option VR := match a with
  | some r => some r
  | none => b
section
variable {X : Cx} {f : Value → Value → Sem Value} {g g' : D → D → Option VR}
theorem Op2.imp (h : Op2 X f g) (i : ∀ x y r, g' x y = some r → g x y = some r) : Op2 X f g' := by
  obtain ⟨r, hr, hs⟩ := h
  refine ⟨r, hr, fun F H x y v u Q s rx ry p => hs F H x y v u Q s rx ry ?_⟩
  cases q : g' x y with
  | none => rw [q] at p; exact p.elim
  | some z => rw [q] at p; rw [i x y z q]; exact p
theorem Op2.or (h : Op2 X f g) (h' : Op2 X f g') : Op2 X f (fun x y => orO (g x y) (g' x y)) := by
  obtain ⟨r, hr, hs⟩ := h
  obtain ⟨r', hr', hs'⟩ := h'
  refine ⟨_, OpR.or hr hr', fun F H x y v u Q s rx ry p => ?_⟩
  cases q : g x y with
  | none =>
    have p' : OpPost X.K F H Q (orO none (g' x y)) := by rw [← q]; exact p
    exact .inr (hs' F H x y v u Q s rx ry p')
  | some z =>
    have p' : OpPost X.K F H Q (orO (some z) (g' x y)) := by rw [← q]; exact p
    exact .inl (hs F H x y v u Q s rx ry (by rw [q]; exact p'))
/-- an operation of one reading, read off the trees -/
theorem Op2.of {r : R2} (h : OpR X f r) (s : ∀ F H x y v u Q, Same F H → RepT X.K F H x v → RepT X.K F H y u → OpPost X.K F H Q (g x y) → r v u H Q) : Op2 X f g := ⟨r, h, s⟩
end
theorem rep_int {K : PySem.W.Frag} {F H : Hp} {i : Int} {v : V} (r : RepT K F H (.int i) v) : v = .int i := by
  have r' : Rep K F (.int i) v := r
  unfold Rep at r'; exact r'
theorem rep_bool {K : PySem.W.Frag} {F H : Hp} {i : Bool} {v : V} (r : RepT K F H (.bool i) v) : v = .bl i := by
  have r' : Rep K F (.bool i) v := r
  unfold Rep at r'; exact r'
theorem rep_none {K : PySem.W.Frag} {F H : Hp} {v : V} (r : RepT K F H .none v) : v = .non := by
  have r' : Rep K F .none v := r
  unfold Rep at r'; exact r'
theorem rep_str {K : PySem.W.Frag} {F H : Hp} {x : Str} {v : V} (r : RepT K F H (.str x) v) : v = .str x ∧ x.length ≤ sizeLine := by
  have r' : Rep K F (.str x) v := r
  unfold Rep at r'; exact r'
theorem rep_tup {K : PySem.W.Frag} {F H : Hp} {ds : List D} {v : V} (s : Same F H) (r : RepT K F H (.tuple ds) v) : ∃ a xs, v = .ref a ∧ SqT K F a xs ∧ SqT K H a xs ∧ Reps K F ds xs := by
  have r' : Rep K F (.tuple ds) v := r
  unfold Rep at r'
  obtain ⟨a, xs, e, h, q⟩ := r'
  refine ⟨a, xs, e, h, ?_, q⟩
  rcases h with (h | ⟨o, h⟩) | h
  · exact .inl (.inl (s _ _ h))
  · exact .inl (.inr ⟨o, s _ _ h⟩)
  · exact .inr h
theorem post_int {K : PySem.W.Frag} {F H : Hp} {Q : VK} {i : Int} (p : OpPost K F H Q (some (.v (.int i)))) : Q (.int i) H := p.1 _ (by unfold Rep; rfl)
theorem post_bool {K : PySem.W.Frag} {F H : Hp} {Q : VK} {i : Bool} (p : OpPost K F H Q (some (.v (.bool i)))) : Q (.bl i) H := p.1 _ (by unfold Rep; rfl)
theorem post_none {K : PySem.W.Frag} {F H : Hp} {Q : VK} (p : OpPost K F H Q (some (.v .none))) : Q .non H := p.1 _ (by unfold Rep; rfl)
theorem post_str {K : PySem.W.Frag} {F H : Hp} {Q : VK} {x : Str} (p : OpPost K F H Q (some (.v (.str x)))) (h : x.length ≤ sizeLine) : Q (.str x) H := p.1 _ (by unfold Rep; exact ⟨rfl, h⟩)

/-! ### arithmetic of ints -/
/-- an int operation: c is its condition -/
def gI (c : Int → Int → Bool) (f : Int → Int → Int) : D → D → Option VR
  | .int i, .int j => if c i j = true then some (.v (.int (f i j))) else none
  | _, _ => none
def gI0 (f : Int → Int → Int) : D → D → Option VR
  | .int i, .int j => some (.v (.int (f i j)))
  | _, _ => none
section
variable {X : Cx} {f : Value → Value → Sem Value}
theorem op2_I {C : Int → Int → Prop} {c : Int → Int → Bool} {k : Int → Int → Int} (h : OpR X f (rI C fun i j => .int (k i j))) (hc : ∀ i j, c i j = true → C i j) : Op2 X f (gI c k) := by
  refine Op2.of h fun F H x y v u Q s rx ry p => ?_
  cases x <;> cases y <;> try exact p.elim
  case int.int i j =>
    unfold gI at p
    by_cases z : c i j = true
    · simp only [if_pos z] at p
      exact ⟨i, j, rep_int rx, rep_int ry, hc i j z, post_int p⟩
    · simp only [if_neg z] at p; exact p.elim
theorem op2_I0 {k : Int → Int → Int} (h : OpR X f (rI0 fun i j => .int (k i j))) : Op2 X f (gI0 k) := by
  refine Op2.of h fun F H x y v u Q s rx ry p => ?_
  cases x <;> cases y <;> try exact p.elim
  case int.int i j => exact ⟨i, j, rep_int rx, rep_int ry, post_int p⟩
end
def gSub : D → D → Option VR := gI0 (· - ·)
def gAnd : D → D → Option VR := gI0 Builtin.bitAnd
def gOr : D → D → Option VR := gI0 Builtin.bitOr
def gXor : D → D → Option VR := gI0 Builtin.bitXor
def gFdiv : D → D → Option VR := gI (fun _ j => decide (0 < j) && decide (j.natAbs.log2 < 9000)) (· / ·)
def gMod : D → D → Option VR := gI (fun _ j => decide (0 < j)) (· % ·)
def gPow : D → D → Option VR := gI (fun i j => decide (0 ≤ j) && decide (j ≤ 1000000) && decide (i.natAbs < 2 ^ 64)) (fun i j => i ^ j.toNat)
def gShl : D → D → Option VR := gI (fun i j => decide (0 ≤ j) && decide (j ≤ 1000000) && decide (i.natAbs < 2 ^ 64)) (fun i j => i * 2 ^ j.toNat)
def gShr : D → D → Option VR := gI (fun _ j => decide (0 ≤ j)) (fun i j => i / 2 ^ j.toNat)
section
variable {X : Cx}
theorem o_sub : Op2 X (binaryOp .Sub) gSub := op2_I0 op_sub
theorem o_and : Op2 X (binaryOp .BitAnd) gAnd := op2_I0 op_and
theorem o_or : Op2 X (binaryOp .BitOr) gOr := op2_I0 op_or
theorem o_xor : Op2 X (binaryOp .BitXor) gXor := op2_I0 op_xor
theorem o_fdiv : Op2 X (binaryOp .FloorDiv) gFdiv := op2_I op_fdivW fun i j h => by
  rw [Bool.and_eq_true] at h
  exact ⟨of_decide_eq_true h.1, of_decide_eq_true h.2⟩
theorem o_mod : Op2 X (binaryOp .Mod) gMod := op2_I op_mod fun i j h => of_decide_eq_true h
theorem o_pow : Op2 X (binaryOp .Pow) gPow := op2_I op_pow fun i j h => by
  rw [Bool.and_eq_true, Bool.and_eq_true] at h
  exact ⟨of_decide_eq_true h.1.1, of_decide_eq_true h.1.2, of_decide_eq_true h.2⟩
theorem o_shl : Op2 X (binaryOp .LShift) gShl := op2_I op_shl fun i j h => by
  rw [Bool.and_eq_true, Bool.and_eq_true] at h
  exact ⟨of_decide_eq_true h.1.1, of_decide_eq_true h.1.2, of_decide_eq_true h.2⟩
theorem o_shr : Op2 X (binaryOp .RShift) gShr := op2_I op_shr fun i j h => of_decide_eq_true h
end

/-! ### + and * -/
def gAdd : D → D → Option VR
  | .int i, .int j => some (.v (.int (i + j)))
  | .str x, .str y => if x.length + y.length ≤ sizeLine then some (.v (.str (x ++ y))) else none
  | .list xs, .list ys => if xs.length + ys.length ≤ sizeLine then some (.fl (xs ++ ys)) else none
  | .tuple xs, .tuple ys => if xs.length + ys.length ≤ sizeLine then some (.v (.tuple (xs ++ ys))) else none
  | _, _ => none
/-- x * n of a text -/
def repS (x : Str) (n : Nat) : Str := ⟨(List.replicate n x.cps.toList).flatten.toArray⟩
def gMul : D → D → Option VR
  | .int i, .int j => if i.natAbs.log2 + j.natAbs.log2 < 1000000 then some (.v (.int (i * j))) else none
  | .str x, .int k => if k < 2 ^ 63 ∧ -(2 ^ 63) ≤ k ∧ x.length * k.toNat ≤ sizeLine then some (.v (.str (repS x k.toNat))) else none
  | .list xs, .int k => if -(2 ^ 63) ≤ k ∧ k < 2 ^ 63 ∧ xs.length * k.toNat ≤ sizeLine then some (.fl (List.replicate k.toNat xs).flatten) else none
  | .tuple xs, .int k => if xs ≠ [] ∧ 2 ≤ k ∧ k ≤ 1000 ∧ xs.length ≤ 1000 then some (.v (.tuple (List.replicate k.toNat xs).flatten)) else none
  | _, _ => none
theorem reps_flat {K : PySem.W.Frag} {F : Hp} {ds : List D} {vs : List V} (r : Reps K F ds vs) : ∀ n : Nat, Reps K F (List.replicate n ds).flatten (List.replicate n vs).flatten
  | 0 => Reps.nil
  | n + 1 => by
    rw [List.replicate_succ, List.replicate_succ, List.flatten_cons, List.flatten_cons]
    exact r.append (reps_flat r n)
theorem reps_nil {K : PySem.W.Frag} {F : Hp} {vs : List V} (r : Reps K F [] vs) : vs = [] := by unfold Reps at r; exact r
theorem reps_nil' {K : PySem.W.Frag} {F : Hp} {ds : List D} (r : Reps K F ds []) : ds = [] := by
  cases ds with
  | nil => rfl
  | cons d ds => obtain ⟨x, xs, e, _⟩ := r.uncons; cases e
theorem repS_fold (x : Str) (n : Nat) : (⟨(List.replicate n x.cps).foldl (· ++ ·) #[]⟩ : Str) = repS x n := by
  have key : ∀ (n : Nat) (a : List Nat), (List.replicate n x.cps).foldl (· ++ ·) a.toArray = (a ++ (List.replicate n x.cps.toList).flatten).toArray := by
    intro n
    induction n with
    | zero => intro a; simp
    | succ n ih =>
      intro a
      rw [List.replicate_succ, List.foldl_cons, List.replicate_succ, List.flatten_cons]
      have e : a.toArray ++ x.cps = (a ++ x.cps.toList).toArray := by simp
      rw [e, ih, List.append_assoc]
  unfold repS
  congr 1
  have := key n []
  simpa using this
theorem repS_length (x : Str) (n : Nat) : (repS x n).length = x.length * n := by
  show (List.replicate n x.cps.toList).flatten.toArray.size = x.cps.size * n
  rw [List.size_toArray, List.length_flatten, List.map_replicate, List.sum_replicate_nat, Array.length_toList, Nat.mul_comm]
theorem repS_one (x : Str) : repS x 1 = x := by
  unfold repS
  cases x
  simp [List.replicate]
theorem repS_zero (x : Str) : repS x 0 = Str.empty := rfl
theorem repS_empty (x : Str) (n : Nat) (h : x.length = 0) : repS x n = x := by
  have hx : x.cps = #[] := Array.eq_empty_of_size_eq_zero h
  unfold repS
  cases x
  simp only at hx
  subst hx
  simp
section
variable {X : Cx}
/-- list + list, a list times an int: the lists may be frozen -/
theorem lstR {pins : List (Addr × Obj)} {σ : L2.St} {H : Hp} {s : Shared} {a : Addr} {xs : List V} (I : Inv X pins σ H s) (h : Rd H a (.lst xs)) : ∃ (its : List Value) (n : Nat), Vals xs its ∧ s.heap.get? a = some { cls := .type "list", data := .seq its.toArray n } ∧ xs.length ≤ sizeLine := by
  obtain ⟨z, its, n, r, e⟩ := h.ok I.hok
  exact ⟨its, n, r, e, z⟩
theorem op_catR : OpR X (binaryOp .Add) (fun x y H Q => ∃ l b xs zs, x = .ref l ∧ y = .ref b ∧ Rd H l (.lst xs) ∧ Rd H b (.lst zs) ∧ xs.length + zs.length ≤ sizeLine ∧ ∀ p, H p = none → Q (.ref p) (upd H p (.lst (xs ++ zs)))) := by
  intro pins s σ H x y v u Q I rx ry h
  obtain ⟨l, b, xs, zs, rfl, rfl, hH, hB, hz, q⟩ := h
  cases rx
  cases ry
  obtain ⟨its, n, r, e, _⟩ := lstR I hH
  obtain ⟨its2, n2, r2, e2, _⟩ := lstR I hB
  have hl := r.length
  have hl2 := r2.length
  refine PySem.P.add_list e e2 ?_ (by rw [List.size_toArray, List.size_toArray]; omega)
  have ea : its.toArray ++ its2.toArray = (its ++ its2).toArray := by simp
  rw [ea]
  exact ⟨.ref _, _, I.lnew (t' := s.toks) (r.append r2) (by rw [List.length_append]; omega), rfl, q _ I.fresh⟩
theorem op_repR : OpR X (binaryOp .Mult) (fun x y H Q => ∃ l k xs, x = .ref l ∧ y = .int k ∧ Rd H l (.lst xs) ∧ -(2 ^ 63) ≤ k ∧ k < 2 ^ 63 ∧ xs.length * k.toNat ≤ sizeLine ∧ ∀ p, H p = none → Q (.ref p) (upd H p (.lst (List.replicate k.toNat xs).flatten))) := by
  intro pins s σ H x y v u Q I rx ry h
  obtain ⟨l, k, xs, rfl, rfl, hH, h1, h2, hz, q⟩ := h
  cases rx
  obtain ⟨t, rfl⟩ := ry
  obtain ⟨its, n, r, e, _⟩ := lstR I hH
  have hl := r.length
  have hlen : its.toArray.size * k.toNat ≤ sizeLine := by rw [List.size_toArray, ← hl]; exact hz
  have hcap : ¬ its.toArray.size * k.toNat > (2 ^ 63 - 1) / 8 := by
    have : (sizeLine : Nat) ≤ (2 ^ 63 - 1) / 8 := by decide
    omega
  have hfit : ¬ (!Builtin.List.listFitsIndex k) = true := by
    rw [fitsIndex_both h1 h2]
    exact Bool.false_ne_true
  have hlong : ¬ Builtin.List.listTooLong (its.toArray.size * k.toNat) = true := by
    rw [notLongL hlen]
    exact Bool.false_ne_true
  have hnew : List.foldl (fun x1 x2 => x1 ++ x2) #[] (List.replicate (if its.toArray.isEmpty = true then 0 else k.toNat) its.toArray) = (List.replicate k.toNat its).flatten.toArray := by
    have f0 : ∀ m : Nat, List.foldl (fun x1 x2 => x1 ++ x2) #[] (List.replicate m its.toArray) = (List.replicate m its).flatten.toArray := fun m => by
      have := L2.foldl_rep its m []
      rw [List.nil_append] at this
      exact this
    rw [f0]
    cases its with
    | nil => simp
    | cons a r' => rw [if_neg (by simp)]
  refine wpAny_binaryOp_repeat_ref (T := "list") (U := "int") (by decide) ⟨_, e, rfl⟩ (fun s' => typeIs_int s' k t) noFill_list_mul F.fills_int_mul F.slot_int_rmul repeat_list F.slot_int_index.lookup
    (call_meets F.slot_int_rmul (typeIs_int s k t) F.entry_int_rmul (F.args_int_rmul_2 _ _) (int___rmul___int_list k t l its.toArray n)
      ⟨e, rfl, ⟨_, e, rfl⟩, call_meets F.slot_list_mul ⟨_, e, rfl⟩ F.entry_list_mul (F.args_list_mul_2 _ _) (AutoListH.list___mul___list_int_3 l its.toArray n k t hfit hcap hlong) ⟨e, ?_⟩⟩)
  rw [hnew]
  exact ⟨.ref _, _, I.lnew (t' := s.toks) (r.rep k.toNat) (by rw [PyProof.Rows.lm_len_rep_flat, Nat.mul_comm]; exact hz), rfl, q _ I.fresh⟩
theorem o_add : Op2 X (binaryOp .Add) gAdd := by
  refine Op2.of (OpR.or op_add (OpR.or op_add_str (OpR.or op_catR op_catA))) fun F H x y v u Q s rx ry p => ?_
  cases x <;> cases y <;> try exact p.elim
  case int.int i j => exact .inl ⟨i, j, rep_int rx, rep_int ry, post_int p⟩
  case str.str x y =>
    unfold gAdd at p
    by_cases z : x.length + y.length ≤ sizeLine
    · simp only [if_pos z] at p
      obtain ⟨e1, _⟩ := rep_str rx
      obtain ⟨e2, _⟩ := rep_str ry
      refine .inr (.inl ⟨x, y, e1, e2, z, post_str p ?_⟩)
      show (x.cps ++ y.cps).size ≤ sizeLine
      rw [Array.size_append]; exact z
    · simp only [if_neg z] at p; exact p.elim
  case list.list xs ys =>
    unfold gAdd at p
    by_cases z : xs.length + ys.length ≤ sizeLine
    · simp only [if_pos z] at p
      obtain ⟨a, vs, e1, h1, r1⟩ := rx
      obtain ⟨b, us, e2, h2, r2⟩ := ry
      exact .inr (.inr (.inl ⟨a, b, vs, us, e1, e2, h1, h2, by rw [r1.length, r2.length]; exact z, fun q hq => p q _ hq (r1.append r2)⟩))
    · simp only [if_neg z] at p; exact p.elim
  case tuple.tuple xs ys =>
    unfold gAdd at p
    by_cases z : xs.length + ys.length ≤ sizeLine
    · simp only [if_pos z] at p
      obtain ⟨a, vs, e1, h1, h1', r1⟩ := rep_tup s rx
      obtain ⟨b, us, e2, h2, h2', r2⟩ := rep_tup s ry
      refine .inr (.inr (.inr ⟨a, b, vs, us, e1, e2, h1', h2', by rw [r1.length, r2.length]; exact z, fun ev => ?_, fun _ eu => ?_, fun _ _ q hq => p.2 _ rfl q _ hq (r1.append r2)⟩))
      · subst ev
        have := reps_nil' r1
        subst this
        refine p.1 _ ?_
        unfold Rep
        exact ⟨b, us, rfl, h2, r2⟩
      · subst eu
        have := reps_nil' r2
        subst this
        refine p.1 _ ?_
        unfold Rep
        exact ⟨a, vs, rfl, h1, by rw [List.append_nil]; exact r1⟩
    · simp only [if_neg z] at p; exact p.elim
/-- a text times an int -/
theorem op_mulS : OpR X (binaryOp .Mult) (fun x y H Q => ∃ (z : Str) (k : Int), x = .str z ∧ y = .int k ∧ -(2 ^ 63) ≤ k ∧ k < 2 ^ 63 ∧ z.length * k.toNat ≤ sizeLine ∧ Q (.str (repS z k.toNat)) H) := by
  intro pins s σ H x y v u Q I rx ry h
  obtain ⟨z, k, rfl, rfl, h1, h2, h3, q⟩ := h
  obtain ⟨t, rfl⟩ := rx
  obtain ⟨t', rfl⟩ := ry
  have hm : (z.length * k.toNat : Nat) = (repS z k.toNat).length := (repS_length z k.toNat).symm
  have hL : (sizeLine : Nat) ≤ 2 ^ 62 := by decide
  refine PySem.P.mul_str (by rw [decide_eq_false (by omega), decide_eq_false (by omega)]; rfl) (fun h4 h5 => ?_) (fun h4 h5 => ?_) ?_
  · have hk : 0 < k := by omega
    intro h6
    have h7 : (z.length : Int) * k ≤ 2 ^ 62 := by
      have : ((z.length * k.toNat : Nat) : Int) ≤ ((2 ^ 62 : Nat) : Int) := Int.ofNat_le.mpr (Nat.le_trans h3 hL)
      rw [Int.natCast_mul, Int.toNat_of_nonneg (by omega)] at this
      exact_mod_cast this
    have h8 : (z.length : Int) ≤ (2 ^ 63 - 1) / k := (Int.le_ediv_iff_mul_le hk).mpr (by omega)
    omega
  · exact by unfold Builtin.Str.tooLong; exact decide_eq_false (by omega)
  · by_cases h4 : k < 1
    · rw [if_pos h4]
      have e : k.toNat = 0 := by omega
      rw [e, repS_zero] at q
      exact ⟨by decide, ⟨.str Str.empty, H, I.tok _, ⟨_, rfl⟩, q⟩⟩
    · rw [if_neg h4]
      by_cases h5 : (k == 1 || z.length == 0) = true
      · rw [if_pos h5]
        have e : repS z k.toNat = z := by
          rw [Bool.or_eq_true] at h5
          rcases h5 with h5 | h5
          · have : k = 1 := by simpa using h5
            subst this
            exact repS_one z
          · exact repS_empty z _ (by simpa using h5)
        rw [e] at q
        exact ⟨.str z, H, I, ⟨_, rfl⟩, q⟩
      · rw [if_neg h5, repS_fold]
        exact ⟨by rw [← hm]; exact h3, ⟨.str (repS z k.toNat), H, I.tok _, ⟨_, rfl⟩, q⟩⟩
theorem o_mul : Op2 X (binaryOp .Mult) gMul := by
  refine Op2.of (OpR.or op_mulW (OpR.or op_mulS (OpR.or op_repR op_repT))) fun F H x y v u Q s rx ry p => ?_
  cases x <;> cases y <;> try exact p.elim
  case int.int i j =>
    unfold gMul at p
    by_cases z : i.natAbs.log2 + j.natAbs.log2 < 1000000
    · simp only [if_pos z] at p
      exact .inl ⟨i, j, rep_int rx, rep_int ry, z, post_int p⟩
    · simp only [if_neg z] at p; exact p.elim
  case str.int x k =>
    unfold gMul at p
    by_cases z : k < 2 ^ 63 ∧ -(2 ^ 63) ≤ k ∧ x.length * k.toNat ≤ sizeLine
    · simp only [if_pos z] at p
      exact .inr (.inl ⟨x, k, (rep_str rx).1, rep_int ry, z.2.1, z.1, z.2.2, post_str p (by rw [repS_length]; exact z.2.2)⟩)
    · simp only [if_neg z] at p; exact p.elim
  case list.int xs k =>
    unfold gMul at p
    by_cases z : -(2 ^ 63) ≤ k ∧ k < 2 ^ 63 ∧ xs.length * k.toNat ≤ sizeLine
    · simp only [if_pos z] at p
      obtain ⟨a, vs, e1, h1, r1⟩ := rx
      exact .inr (.inr (.inl ⟨a, k, vs, e1, rep_int ry, h1, z.1, z.2.1, by rw [r1.length]; exact z.2.2, fun q hq => p q _ hq (reps_flat r1 _)⟩))
    · simp only [if_neg z] at p; exact p.elim
  case tuple.int xs k =>
    unfold gMul at p
    by_cases z : xs ≠ [] ∧ 2 ≤ k ∧ k ≤ 1000 ∧ xs.length ≤ 1000
    · simp only [if_pos z] at p
      obtain ⟨a, vs, e1, h1, h1', r1⟩ := rep_tup s rx
      refine .inr (.inr (.inr ⟨a, k, vs, e1, rep_int ry, h1', fun e => z.1 ?_, z.2.1, z.2.2.1, by rw [r1.length]; exact z.2.2.2, fun q hq => p.2 _ rfl q _ hq (reps_flat r1 _)⟩))
      subst e
      exact reps_nil' r1
    · simp only [if_neg z] at p; exact p.elim
end
end RL

/-! RL9: comparisons, membership, indices, slices, isinstance. -/
namespace RL
open PySem PySem.Spec PyProof.Rows L2

/-! ### order -/
def ltB : D → D → Bool
  | .int i, .int j => decide (i < j)
  | .str x, .str y => decide (x.cps.toList < y.cps.toList)
  | x, y => PySem.W.dataLt x y
theorem ltB_eq (x y : D) : ltB x y = PySem.W.dataLt x y := by
  unfold ltB
  split
  · exact (PySem.W.dataLt_int _ _).symm
  · exact (PySem.W.dataLt_str _ _).symm
  · rfl
def isNone : D → Bool
  | .none => true
  | _ => false
def cmpOk : D → D → Bool
  | .int _, .int _ => true
  | .str _, .str _ => true
  | x, y => PySem.W.alike x y && !isNone x && plainD x && plainD y && decide (x.depth ≤ 60)
theorem cmpOk_of {x y : D} (h : cmpOk x y = true) : PySem.W.alike x y = true ∧ x ≠ .none ∧ plainD x = true ∧ plainD y = true ∧ x.depth ≤ 60 := by
  unfold cmpOk at h
  split at h
  · exact ⟨by unfold PySem.W.alike; rfl, nofun, by unfold plainD; rfl, by unfold plainD; rfl, by unfold PyData.depth; omega⟩
  · exact ⟨by unfold PySem.W.alike; rfl, nofun, by unfold plainD; rfl, by unfold plainD; rfl, by unfold PyData.depth; omega⟩
  · rw [Bool.and_eq_true, Bool.and_eq_true, Bool.and_eq_true, Bool.and_eq_true] at h
    obtain ⟨⟨⟨⟨h1, h2⟩, h3⟩, h4⟩, h5⟩ := h
    exact ⟨h1, (fun e => by subst e; cases h2), h3, h4, of_decide_eq_true h5⟩
def gCmp (f : D → D → Bool) (x y : D) : Option VR := if cmpOk x y = true then some (.v (.bool (f x y))) else none
def gLt : D → D → Option VR := gCmp fun x y => ltB x y
def gGt : D → D → Option VR := gCmp fun x y => ltB y x
def gLe : D → D → Option VR := gCmp fun x y => !ltB y x
def gGe : D → D → Option VR := gCmp fun x y => !ltB x y
section
variable {X : Cx}
def rCmpD (K : PySem.W.Frag) (f : D → D → Bool) : R2 := fun x y H Q => ∃ d e, Dp K H x d ∧ Dp K H y e ∧ PySem.W.alike d e = true ∧ d ≠ .none ∧ d.depth ≤ 60 ∧ Q (.bl (f d e)) H
theorem o_cmp {op : Value → Value → Sem Value} {f g : D → D → Bool} (h : OpR X op (rCmpD X.K f)) (e : ∀ x y, g x y = f x y) : Op2 X op (gCmp g) := by
  refine Op2.of h fun F H x y v u Q s rx ry p => ?_
  unfold gCmp at p
  by_cases z : cmpOk x y = true
  · rw [if_pos z] at p
    obtain ⟨h1, h2, h3, h4, h5⟩ := cmpOk_of z
    exact ⟨x, y, rx.dp s h3, ry.dp s h4, h1, h2, h5, by rw [← e]; exact post_bool p⟩
  · rw [if_neg z] at p; exact p.elim
theorem room_min {X : Cx} {d e : D} (hu : X.A.units + 65 < cLine) (h : d.depth ≤ 60) : X.A.units + min d.depth e.depth < cLine := by
  have := Nat.min_le_left d.depth e.depth
  omega
theorem o_lt (hu : X.A.units + 65 < cLine) : Op2 X (compareOp .Lt) gLt := o_cmp (f := fun x y => PySem.W.dataLt x y) (fun pins s σ H x y v u Q I rx ry ⟨d, e, hd, he, h1, h2, h3, q⟩ => by
  obtain ⟨as, r1⟩ := Dp.reads I d x v hd rx
  obtain ⟨bs, r2⟩ := Dp.reads I e y u he ry
  exact PySem.W.lt_data r1 r2 h1 h2 (room_min hu h3) ⟨.bl _, H, I, rfl, q⟩) fun x y => ltB_eq x y
theorem o_gt (hu : X.A.units + 65 < cLine) : Op2 X (compareOp .Gt) gGt := o_cmp (f := fun x y => PySem.W.dataLt y x) (fun pins s σ H x y v u Q I rx ry ⟨d, e, hd, he, h1, h2, h3, q⟩ => by
  obtain ⟨as, r1⟩ := Dp.reads I d x v hd rx
  obtain ⟨bs, r2⟩ := Dp.reads I e y u he ry
  exact PySem.W.gt_data r1 r2 h1 h2 (room_min hu h3) ⟨.bl _, H, I, rfl, q⟩) fun x y => ltB_eq y x
theorem o_le (hu : X.A.units + 65 < cLine) : Op2 X (compareOp .LtE) gLe := o_cmp (f := fun x y => !PySem.W.dataLt y x) (fun pins s σ H x y v u Q I rx ry ⟨d, e, hd, he, h1, h2, h3, q⟩ => by
  obtain ⟨as, r1⟩ := Dp.reads I d x v hd rx
  obtain ⟨bs, r2⟩ := Dp.reads I e y u he ry
  exact PySem.W.le_data r1 r2 h1 h2 (room_min hu h3) ⟨.bl _, H, I, rfl, q⟩) fun x y => by rw [ltB_eq]
theorem o_ge (hu : X.A.units + 65 < cLine) : Op2 X (compareOp .GtE) gGe := o_cmp (f := fun x y => !PySem.W.dataLt x y) (fun pins s σ H x y v u Q I rx ry ⟨d, e, hd, he, h1, h2, h3, q⟩ => by
  obtain ⟨as, r1⟩ := Dp.reads I d x v hd rx
  obtain ⟨bs, r2⟩ := Dp.reads I e y u he ry
  exact PySem.W.ge_data r1 r2 h1 h2 (room_min hu h3) ⟨.bl _, H, I, rfl, q⟩) fun x y => by rw [ltB_eq]
end

/-! ### equality -/
def scalD : D → Bool
  | .none => true
  | .bool _ => true
  | .int _ => true
  | .str _ => true
  | _ => false
def gEqv (neg : Bool) (x y : D) : Option VR := if ((scalD x && scalD y) || (SeqAt.shaped x && SeqAt.shaped y)) = true then some (.v (.bool (if neg = true then !PyData.eqv x y else PyData.eqv x y))) else none
def gEq : D → D → Option VR := gEqv false
def gNe : D → D → Option VR := gEqv true
theorem shaped_small {d : D} (h : d.canLay0 = true) (h2 : d.depth = 0) : SeqAt.shaped d = true := by
  unfold SeqAt.shaped
  rw [h, h2]
  rfl
section
variable {X : Cx}
theorem str_beq_dec (i j : Str) : (i == j) = decide (V.str i = V.str j) := by
  rw [Bool.eq_iff_iff]
  simp
theorem scal_dp {K : PySem.W.Frag} {F H : Hp} {x y : D} {v u : V} (rx : RepT K F H x v) (ry : RepT K F H y u) (h : (scalD x && scalD y) = true) : (scal v u = true ∧ PyData.eqv x y = decide (v = u)) ∨ (SeqAt.shaped x && SeqAt.shaped y) = true := by
  rw [Bool.and_eq_true] at h
  cases x <;> cases y <;> simp only [scalD, Bool.false_eq_true, and_false, false_and] at h
  case none.none => rw [rep_none rx, rep_none ry]; exact .inl ⟨rfl, rfl⟩
  case none.bool => rw [rep_none rx, rep_bool ry]; exact .inl ⟨rfl, by simp [PyData.eqv]⟩
  case none.int => rw [rep_none rx, rep_int ry]; exact .inl ⟨rfl, by simp [PyData.eqv]⟩
  case none.str => rw [rep_none rx, (rep_str ry).1]; exact .inl ⟨rfl, by simp [PyData.eqv]⟩
  case bool.none => rw [rep_bool rx, rep_none ry]; exact .inl ⟨rfl, by simp [PyData.eqv]⟩
  case bool.bool a b => rw [rep_bool rx, rep_bool ry]; exact .inl ⟨rfl, by rw [dec_bl]; unfold PyData.eqv; rfl⟩
  case bool.int a b => exact .inr (by rw [shaped_small (by unfold PyData.canLay0; rfl) (by unfold PyData.depth; rfl), shaped_small (by unfold PyData.canLay0; rfl) (by unfold PyData.depth; rfl)]; rfl)
  case bool.str => rw [rep_bool rx, (rep_str ry).1]; exact .inl ⟨rfl, by simp [PyData.eqv]⟩
  case int.none => rw [rep_int rx, rep_none ry]; exact .inl ⟨rfl, by simp [PyData.eqv]⟩
  case int.bool a b => exact .inr (by rw [shaped_small (by unfold PyData.canLay0; rfl) (by unfold PyData.depth; rfl), shaped_small (by unfold PyData.canLay0; rfl) (by unfold PyData.depth; rfl)]; rfl)
  case int.int a b => rw [rep_int rx, rep_int ry]; exact .inl ⟨rfl, by rw [dec_int]; unfold PyData.eqv; rfl⟩
  case int.str => rw [rep_int rx, (rep_str ry).1]; exact .inl ⟨rfl, by simp [PyData.eqv]⟩
  case str.none => rw [(rep_str rx).1, rep_none ry]; exact .inl ⟨rfl, by simp [PyData.eqv]⟩
  case str.bool => rw [(rep_str rx).1, rep_bool ry]; exact .inl ⟨rfl, by simp [PyData.eqv]⟩
  case str.int => rw [(rep_str rx).1, rep_int ry]; exact .inl ⟨rfl, by simp [PyData.eqv]⟩
  case str.str a b => rw [(rep_str rx).1, (rep_str ry).1]; exact .inl ⟨rfl, by unfold PyData.eqv; exact str_beq_dec a b⟩
theorem o_eq (hu : X.A.units + 65 < cLine) : Op2 X (compareOp .Eq) gEq := by
  refine Op2.of (OpR.or op_eq (op_eqD (by omega))) fun F H x y v u Q s rx ry p => ?_
  unfold gEq gEqv at p
  by_cases z : ((scalD x && scalD y) || (SeqAt.shaped x && SeqAt.shaped y)) = true
  · rw [if_pos z] at p
    have p' := post_bool p
    have sh : (SeqAt.shaped x && SeqAt.shaped y) = true → rEqD X.K v u H Q := fun h => by
      rw [Bool.and_eq_true] at h
      exact ⟨x, y, rx.dp s (shaped_plain h.1), ry.dp s (shaped_plain h.2), h.1, h.2, p'⟩
    rw [Bool.or_eq_true] at z
    rcases z with z | z
    · rcases scal_dp rx ry z with ⟨h1, h2⟩ | h
      · exact .inl ⟨h1, by rw [← h2]; exact p'⟩
      · exact .inr (sh h)
    · exact .inr (sh z)
  · rw [if_neg z] at p; exact p.elim
theorem o_ne (hu : X.A.units + 65 < cLine) : Op2 X (compareOp .NotEq) gNe := by
  refine Op2.of (OpR.or op_ne (op_neD (by omega))) fun F H x y v u Q s rx ry p => ?_
  unfold gNe gEqv at p
  by_cases z : ((scalD x && scalD y) || (SeqAt.shaped x && SeqAt.shaped y)) = true
  · rw [if_pos z] at p
    have p' := post_bool p
    have sh : (SeqAt.shaped x && SeqAt.shaped y) = true → rNeD X.K v u H Q := fun h => by
      rw [Bool.and_eq_true] at h
      exact ⟨x, y, rx.dp s (shaped_plain h.1), ry.dp s (shaped_plain h.2), h.1, h.2, p'⟩
    rw [Bool.or_eq_true] at z
    rcases z with z | z
    · rcases scal_dp rx ry z with ⟨h1, h2⟩ | h
      · exact .inl ⟨h1, by rw [← h2]; exact p'⟩
      · exact .inr (sh h)
    · exact .inr (sh z)
  · rw [if_neg z] at p; exact p.elim
/-! ### is -/
def gIsV : D → D → Option Bool
  | x, .none => some (isNone x)
  | .bool a, .bool b => some (a == b)
  | _, _ => none
def gIs (x y : D) : Option VR := (gIsV x y).map fun b => .v (.bool b)
def gIsNot (x y : D) : Option VR := (gIsV x y).map fun b => .v (.bool (!b))
theorem none_iff {K : PySem.W.Frag} {F H : Hp} {x : D} {v : V} (r : RepT K F H x v) : decide (v = .non) = isNone x := by
  cases x with
  | none => rw [rep_none r]; rfl
  | bool b => rw [rep_bool r]; rfl
  | int b => rw [rep_int r]; rfl
  | str b => rw [(rep_str r).1]; rfl
  | list ds => obtain ⟨a, xs, e, _⟩ := r; subst e; rfl
  | dict ds => obtain ⟨a, xs, e, _⟩ := r; subst e; rfl
  | tuple ds =>
    have r' : Rep K F (.tuple ds) v := r
    unfold Rep at r'
    obtain ⟨a, xs, e, _⟩ := r'
    subst e; rfl
theorem o_is : Op2 X (compareOp .Is) gIs := by
  refine Op2.of (OpR.or op_isN op_isBl) fun F H x y v u Q s rx ry p => ?_
  unfold gIs at p
  cases y with
  | none =>
    have p' := post_bool (show OpPost X.K F H Q (some (.v (.bool (isNone x)))) by cases x <;> exact p)
    exact .inl ⟨rep_none ry, by rw [none_iff rx]; exact p'⟩
  | bool b =>
    cases x with
    | bool a => exact .inr ⟨a, b, rep_bool rx, rep_bool ry, by rw [show decide (a = b) = (a == b) by cases a <;> cases b <;> rfl]; exact post_bool p⟩
    | _ => exact p.elim
  | _ => cases x <;> exact p.elim
theorem o_isNot : Op2 X (compareOp .IsNot) gIsNot := by
  refine Op2.of (OpR.or op_notN op_notBl) fun F H x y v u Q s rx ry p => ?_
  unfold gIsNot at p
  cases y with
  | none =>
    have p' := post_bool (show OpPost X.K F H Q (some (.v (.bool (!isNone x)))) by cases x <;> exact p)
    exact .inl ⟨rep_none ry, by rw [none_iff rx]; exact p'⟩
  | bool b =>
    cases x with
    | bool a => exact .inr ⟨a, b, rep_bool rx, rep_bool ry, by rw [show (!decide (a = b)) = !(a == b) by cases a <;> cases b <;> rfl]; exact post_bool p⟩
    | _ => exact p.elim
  | _ => cases x <;> exact p.elim
end

/-! ### dicts -/
def keyIs (k : Key) : D → Bool
  | .int i => decide (k = .inl i)
  | .str x => decide (k = .inr x)
  | _ => false
def keyOf : D → Option Key
  | .int i => some (.inl i)
  | .str x => some (.inr x)
  | _ => none
def getK (kvs : List (D × D)) (k : Key) : Option D := (kvs.find? fun p => keyIs k p.1).map (·.2)
theorem keyIs_key {k c : Key} : keyIs k (keyD c) = decide (c = k) := by
  rw [show decide (c = k) = decide (k = c) by simp [eq_comm]]
  cases c <;> rfl
theorem repK_get {K : PySem.W.Frag} {F : Hp} {k : Key} : ∀ {kvs : List (D × D)} {kx : List (Key × V)}, RepK K F kvs kx → (getK kvs k = none ∧ valV kx k = none) ∨ ∃ d x, getK kvs k = some d ∧ valV kx k = some x ∧ Rep K F d x
  | [], _, r => by unfold RepK at r; subst r; exact .inl ⟨rfl, rfl⟩
  | (a, d) :: kvs, _, r => by
    unfold RepK at r
    obtain ⟨c, x, t, rfl, rfl, r1, r2⟩ := r
    unfold getK valV
    rw [List.find?_cons, List.find?_cons, keyIs_key]
    by_cases z : c = k
    · simp only [decide_eq_true z]
      exact .inr ⟨d, x, rfl, rfl, r1⟩
    · simp only [decide_eq_false z]
      exact repK_get r2
theorem keyOf_rep {K : PySem.W.Frag} {F H : Hp} {y : D} {k : Key} {v : V} (h : keyOf y = some k) (r : RepT K F H y v) : v = kV k := by
  cases y <;> cases h
  · exact rep_int r
  · exact (rep_str r).1

/-! ### in -/
def flatD : D → Bool := scalD
def strIn (x z : Str) : Bool := match x.cps.toList with
  | [c] => decide (c ∈ z.cps.toList)
  | _ => !(Builtin.Str.occurrences z x 0 z.length 1).isEmpty
def inB (x : D) : D → Option Bool
  | .str z => match x with
    | .str y => some (strIn y z)
    | _ => none
  | .dict kvs => (keyOf x).map fun k => (getK kvs k).isSome
  | .list ds => if (flatD x && ds.all flatD) || (SeqAt.shaped x && SeqAt.shaped (.list ds)) then some (ds.any fun z => PyData.eqv z x) else none
  | .tuple ds => if flatD x && ds.all flatD then some (ds.any fun z => PyData.eqv z x) else none
  | _ => none
def gIn (x y : D) : Option VR := (inB x y).map fun b => .v (.bool b)
def gNotIn (x y : D) : Option VR := (inB x y).map fun b => .v (.bool (!b))
theorem flat_rep {K : PySem.W.Frag} {F H : Hp} {x : D} {v : V} (r : RepT K F H x v) (h : flatD x = true) : flatV v = true := by
  cases x <;> simp only [flatD, scalD, Bool.false_eq_true] at h
  · rw [rep_none r]; rfl
  · rw [rep_bool r]; rfl
  · rw [rep_int r]; rfl
  · rw [(rep_str r).1]; rfl
theorem eqV_eqv {K : PySem.W.Frag} {F H : Hp} {x y : D} {v u : V} (rx : RepT K F H x v) (ry : RepT K F H y u) (hx : flatD x = true) (hy : flatD y = true) : eqV v u = PyData.eqv x y := by
  cases x <;> simp only [flatD, scalD, Bool.false_eq_true] at hx <;> cases y <;> simp only [flatD, scalD, Bool.false_eq_true] at hy
  all_goals
    first
    | rw [rep_none rx]
    | rw [rep_bool rx]
    | rw [rep_int rx]
    | rw [(rep_str rx).1]
  all_goals
    first
    | rw [rep_none ry]
    | rw [rep_bool ry]
    | rw [rep_int ry]
    | rw [(rep_str ry).1]
  all_goals (unfold eqV PyData.eqv; rfl)
theorem RepT.of_flat {K : PySem.W.Frag} {F H : Hp} {x : D} {v : V} (h : flatD x = true) (r : Rep K F x v) : RepT K F H x v := by
  cases x <;> simp only [flatD, scalD, Bool.false_eq_true] at h <;> exact r
theorem flats_rep {K : PySem.W.Frag} {F H : Hp} {x : D} {v : V} (rx : RepT K F H x v) (hx : flatD x = true) : ∀ {ds : List D} {vs : List V}, Reps K F ds vs → ds.all flatD = true → vs.all flatV = true ∧ (inV v vs = ds.any fun z => PyData.eqv z x)
  | [], vs, r, _ => by rw [reps_nil r]; exact ⟨rfl, rfl⟩
  | d :: ds, vs, r, h => by
    obtain ⟨w, ws, rfl, r1, r2⟩ := r.uncons
    rw [List.all_cons, Bool.and_eq_true] at h
    obtain ⟨i1, i2⟩ := flats_rep rx hx r2 h.2
    have rw' : RepT K F H d w := RepT.of_flat h.1 r1
    refine ⟨by rw [List.all_cons, flat_rep rw' h.1, i1]; rfl, ?_⟩
    unfold inV at i2 ⊢
    rw [List.any_cons, List.any_cons, eqV_eqv rw' rx h.1 hx, i2]
section
variable {X : Cx}
theorem op_inDict (hu : X.A.units + 1 < cLine) : OpR X (compareOp .In) (fun x y H Q => ∃ a o, y = .ref a ∧ DGet H a x o ∧ Q (.bl o.isSome) H) := by
  intro pins s σ H x y v u Q I rx ry ⟨a, o, e, g, q⟩
  subst e
  obtain rfl : u = Value.ref a := ry
  exact d_in hu I g rx fun s3 I3 => ⟨.bl o.isSome, H, I3, rfl, q⟩
theorem op_notInDict (hu : X.A.units + 1 < cLine) : OpR X (compareOp .NotIn) (fun x y H Q => ∃ a o, y = .ref a ∧ DGet H a x o ∧ Q (.bl (!o.isSome)) H) := by
  intro pins s σ H x y v u Q I rx ry ⟨a, o, e, g, q⟩
  subst e
  obtain rfl : u = Value.ref a := ry
  exact d_notIn hu I g rx fun s3 I3 => ⟨.bl (!o.isSome), H, I3, rfl, q⟩
theorem dget_rep {K : PySem.W.Frag} {F H : Hp} {kvs : List (D × D)} {y : D} {v u : V} {k : Key} (rx : RepT K F H (.dict kvs) v) (ry : RepT K F H y u) (h : keyOf y = some k) :
    ∃ a o, v = .ref a ∧ DGet H a u o ∧ o.isSome = (getK kvs k).isSome ∧ ∀ d, getK kvs k = some d → ∃ x, o = some x ∧ Rep K F d x := by
  obtain ⟨a, kx, e, hH, r⟩ := rx
  rcases repK_get (k := k) r with ⟨h1, h2⟩ | ⟨d, x, h1, h2, h3⟩
  · exact ⟨a, none, e, .inl ⟨kx, k, hH, keyOf_rep h ry, h2.symm⟩, by rw [h1]; rfl, fun d q => by rw [h1] at q; cases q⟩
  · exact ⟨a, some x, e, .inl ⟨kx, k, hH, keyOf_rep h ry, h2.symm⟩, by rw [h1]; rfl, fun d' q => by rw [h1] at q; cases q; exact ⟨x, rfl, h3⟩⟩
theorem strIn_post {z : Str} {c : Nat} (y : Str) (h : y.cps.toList = [c]) : y = ⟨#[c]⟩ := by
  cases y with
  | mk cps => congr 1; exact Array.toList_inj.mp h
theorem o_in (hu : X.A.units + 65 < cLine) : Op2 X (compareOp .In) gIn := by
  refine Op2.of (OpR.or op_in_str (OpR.or op_in_sign (OpR.or op_in_seq (OpR.or (op_inD hu) (op_inDict (by omega)))))) fun F H x y v u Q s rx ry p => ?_
  unfold gIn at p
  cases y with
  | none => exact p.elim
  | bool b => exact p.elim
  | int i => exact p.elim
  | str z =>
    cases x with
    | str y =>
      have p' := post_bool (show OpPost X.K F H Q (some (.v (.bool (strIn y z)))) from p)
      unfold strIn at p'
      split at p'
      · rename_i c hc
        exact .inr (.inl ⟨c, z, by rw [(rep_str rx).1, strIn_post (z := z) y hc], (rep_str ry).1, p'⟩)
      · exact .inl ⟨y, z, (rep_str rx).1, (rep_str ry).1, p'⟩
    | _ => exact p.elim
  | dict kvs =>
    cases hk : keyOf x with
    | none => rw [show inB x (.dict kvs) = none by unfold inB; rw [hk]; rfl] at p; exact p.elim
    | some k =>
      rw [show inB x (.dict kvs) = some (getK kvs k).isSome by unfold inB; rw [hk]; rfl] at p
      obtain ⟨a, o, e, g, h1, _⟩ := dget_rep ry rx hk
      exact .inr (.inr (.inr (.inr ⟨a, o, e, g, by rw [h1]; exact post_bool p⟩)))
  | list ds =>
    unfold inB at p
    by_cases z : ((flatD x && ds.all flatD) || (SeqAt.shaped x && SeqAt.shaped (.list ds))) = true
    · simp only [if_pos z] at p
      have p' := post_bool p
      rw [Bool.or_eq_true] at z
      rcases z with z | z
      · rw [Bool.and_eq_true] at z
        obtain ⟨a, xs, e, h1, r⟩ := ry
        obtain ⟨q1, q2⟩ := flats_rep rx z.1 r z.2
        exact .inr (.inr (.inl ⟨a, xs, e, .inl (sqOf h1), flat_rep rx z.1, q1, by rw [if_neg Bool.false_ne_true, q2]; exact p'⟩))
      · rw [Bool.and_eq_true] at z
        exact .inr (.inr (.inr (.inl ⟨x, ds, rx.dp s (shaped_plain z.1), ry.dp s (shaped_plain z.2), z.1, z.2, p'⟩)))
    · simp only [if_neg z] at p; exact p.elim
  | tuple ds =>
    unfold inB at p
    by_cases z : (flatD x && ds.all flatD) = true
    · simp only [if_pos z] at p
      have p' := post_bool p
      rw [Bool.and_eq_true] at z
      obtain ⟨a, xs, e, _, h1, r⟩ := rep_tup s ry
      obtain ⟨q1, q2⟩ := flats_rep rx z.1 r z.2
      exact .inr (.inr (.inl ⟨a, xs, e, .inr h1, flat_rep rx z.1, q1, by rw [if_neg Bool.false_ne_true, q2]; exact p'⟩))
    · simp only [if_neg z] at p; exact p.elim
theorem o_notIn (hu : X.A.units + 65 < cLine) : Op2 X (compareOp .NotIn) gNotIn := by
  refine Op2.of (OpR.or op_notin_str (OpR.or op_notIn_sign (OpR.or op_notIn_seq (OpR.or (op_notInD hu) (op_notInDict (by omega)))))) fun F H x y v u Q s rx ry p => ?_
  unfold gNotIn at p
  cases y with
  | none => exact p.elim
  | bool b => exact p.elim
  | int i => exact p.elim
  | str z =>
    cases x with
    | str y =>
      have p' := post_bool (show OpPost X.K F H Q (some (.v (.bool (!strIn y z)))) from p)
      unfold strIn at p'
      split at p'
      · rename_i c hc
        exact .inr (.inl ⟨c, z, by rw [(rep_str rx).1, strIn_post (z := z) y hc], (rep_str ry).1, p'⟩)
      · exact .inl ⟨y, z, (rep_str rx).1, (rep_str ry).1, p'⟩
    | _ => exact p.elim
  | dict kvs =>
    cases hk : keyOf x with
    | none => rw [show inB x (.dict kvs) = none by unfold inB; rw [hk]; rfl] at p; exact p.elim
    | some k =>
      rw [show inB x (.dict kvs) = some (getK kvs k).isSome by unfold inB; rw [hk]; rfl] at p
      obtain ⟨a, o, e, g, h1, _⟩ := dget_rep ry rx hk
      exact .inr (.inr (.inr (.inr ⟨a, o, e, g, by rw [h1]; exact post_bool p⟩)))
  | list ds =>
    unfold inB at p
    by_cases z : ((flatD x && ds.all flatD) || (SeqAt.shaped x && SeqAt.shaped (.list ds))) = true
    · simp only [if_pos z] at p
      have p' := post_bool p
      rw [Bool.or_eq_true] at z
      rcases z with z | z
      · rw [Bool.and_eq_true] at z
        obtain ⟨a, xs, e, h1, r⟩ := ry
        obtain ⟨q1, q2⟩ := flats_rep rx z.1 r z.2
        exact .inr (.inr (.inl ⟨a, xs, e, .inl (sqOf h1), flat_rep rx z.1, q1, by rw [if_pos rfl, q2]; exact p'⟩))
      · rw [Bool.and_eq_true] at z
        exact .inr (.inr (.inr (.inl ⟨x, ds, rx.dp s (shaped_plain z.1), ry.dp s (shaped_plain z.2), z.1, z.2, p'⟩)))
    · simp only [if_neg z] at p; exact p.elim
  | tuple ds =>
    unfold inB at p
    by_cases z : (flatD x && ds.all flatD) = true
    · simp only [if_pos z] at p
      have p' := post_bool p
      rw [Bool.and_eq_true] at z
      obtain ⟨a, xs, e, _, h1, r⟩ := rep_tup s ry
      obtain ⟨q1, q2⟩ := flats_rep rx z.1 r z.2
      exact .inr (.inr (.inl ⟨a, xs, e, .inr h1, flat_rep rx z.1, q1, by rw [if_pos rfl, q2]; exact p'⟩))
    · simp only [if_neg z] at p; exact p.elim

end

/-! ### indices -/
def gIx : D → D → Option VR
  | .list xs, .int i => (atI xs i).map .v
  | .tuple xs, .int i => (atI xs i).map .v
  | .str z, .int i => (atI z.cps.toList i).map fun c => .v (.str ⟨#[c]⟩)
  | .dict kvs, y => (keyOf y).bind fun k => (getK kvs k).map .v
  | _, _ => none
def Ix2 (X : Cx) (g : D → D → Option VR) : Prop :=
  ∃ r : R2, IxR X r ∧ ∀ F H x y v u Q, Same F H → RepT X.K F H x v → RepT X.K F H y u → OpPost X.K F H Q (g x y) → r v u H Q
theorem reps_at {K : PySem.W.Frag} {F : Hp} {ds : List D} {vs : List V} {i : Int} {d : D} (r : Reps K F ds vs) (h : atI ds i = some d) : ∃ x, atI vs i = some x ∧ Rep K F d x := by
  unfold atI at h ⊢
  rw [r.length]
  cases q : ixN ds.length i with
  | none => rw [q] at h; cases h
  | some j => rw [q] at h; exact r.get h
/-- an item out of a tree: whatever it is, it is no new object -/
theorem post_old {K : PySem.W.Frag} {F H : Hp} {Q : VK} {d : D} {x : V} (p : OpPost K F H Q (some (.v d))) (r : Rep K F d x) : Q x H := p.1 _ r
section
variable {X : Cx}
theorem ix_dict (hu : X.A.units + 1 < cLine) : IxR X (fun x y H Q => ∃ a v, x = .ref a ∧ DGet H a y (some v) ∧ Q v H) := by
  intro value slice pins s σ H x y o i Q I rx ry ⟨a, v, e, g, q⟩ hs
  subst e
  obtain rfl : o = Value.ref a := rx
  have hT := dict_typeIs I g
  unfold subscriptTail
  refine wpAny_bind ?_
  rw [getitemInPython_of_ne hT.not_modules]
  refine wpAny_bind (wpAny_specialOf hT PySem.F.slot_dict_getitem.lookup ?_)
  have fin : wpAny (model X.prog X.w) X.A (subscripted slice false (Value.ref a) i) (fun r s₃ => wpAny (model X.prog X.w) X.A (letTemporaryGo value (Value.ref a) r >>= fun _ => pure r) (EP X pins σ Q) X.xe s₃) X.xe s := by
    rw [hs]
    exact wpAny_operating (wpAny_mono (d_getItem hu I g ry fun w' s3 I3 rw' => (⟨v, H, I3, rw', q⟩ : EP X pins σ Q w' s3)) (fun r s₃ h₃ => wpAny_bind (wpAny_letTemporaryGo (wpAny_pure h₃))) fun _ _ x => x)
  first
    | exact wpAny_pure (wpAny_bind fin)
    | exact wpAny_bind (wpAny_pure (wpAny_bind fin))
    | exact wpAny_bind fin
theorem o_ix (hu : X.A.units + 65 < cLine) : Ix2 X gIx := by
  refine ⟨_, IxR.or ix_list (IxR.or ix_tup (IxR.or ix_str (ix_dict (by omega)))), fun F H x y v u Q s rx ry p => ?_⟩
  cases x with
  | none => exact p.elim
  | bool b => exact p.elim
  | int i => exact p.elim
  | dict kvs =>
    dsimp only [gIx] at p
    cases hk : keyOf y with
    | none => rw [hk] at p; exact p.elim
    | some k =>
      rw [hk] at p
      obtain ⟨a, o, e, g, _, h2⟩ := dget_rep rx ry hk
      cases hg : getK kvs k with
      | none => rw [show ((some k).bind fun k => (getK kvs k).map VR.v) = none by rw [Option.bind_some, hg]; rfl] at p; exact p.elim
      | some d =>
        rw [show ((some k).bind fun k => (getK kvs k).map VR.v) = some (.v d) by rw [Option.bind_some, hg]; rfl] at p
        obtain ⟨x, e2, r2⟩ := h2 d hg
        subst e2
        exact .inr (.inr (.inr ⟨a, x, e, g, post_old p r2⟩))
  | list ds =>
    cases y with
    | int i =>
      dsimp only [gIx] at p
      cases q : atI ds i with
      | none => rw [q] at p; exact p.elim
      | some d =>
        rw [q] at p
        obtain ⟨a, xs, e, h1, r⟩ := rx
        obtain ⟨x, h2, r2⟩ := reps_at r q
        exact .inl ⟨a, xs, i, x, e, rep_int ry, sqOf h1, h2, post_old p r2⟩
    | _ => exact p.elim
  | tuple ds =>
    cases y with
    | int i =>
      dsimp only [gIx] at p
      cases q : atI ds i with
      | none => rw [q] at p; exact p.elim
      | some d =>
        rw [q] at p
        obtain ⟨a, xs, e, _, h1, r⟩ := rep_tup s rx
        obtain ⟨x, h2, r2⟩ := reps_at r q
        exact .inr (.inl ⟨a, xs, i, x, e, rep_int ry, h1, h2, post_old p r2⟩)
    | _ => exact p.elim
  | str z =>
    cases y with
    | int i =>
      dsimp only [gIx] at p
      cases q : atI z.cps.toList i with
      | none => rw [q] at p; exact p.elim
      | some c =>
        rw [q] at p
        exact .inr (.inr (.inl ⟨z, i, c, (rep_str rx).1, rep_int ry, (rep_str rx).2, q, post_str p (show 1 ≤ sizeLine by decide)⟩))
    | _ => exact p.elim
end
section
variable {X : Cx} {W : WX} {sx : Option (Addr × Value × Option Addr)}
theorem de_ix {a b : Expr} {oa ob : Opd} {g : D → D → Option VR} {pos : Pos} (ho : Ix2 X g) (ha : DO X W sx a oa) (hb : DO X W sx b ob) (hs : PlainIx b := by intro _ _; rfl) : DE X W sx (.Subscript a b pos) (mB g oa ob) := by
  obtain ⟨r, hr, hs2⟩ := ho
  exact te_imp (pe_ix hr ha hb hs) fun σ H Q q => op2_read hs2 q

/-! ### slices -/
def cutL {α : Type} (xs : List α) (lo hi : Option Int) : List α := (xs.drop (HT.sIx xs.length 0 lo)).take (HT.sIx xs.length xs.length hi - HT.sIx xs.length 0 lo)
def gSl (x : D) (lo hi : Option Int) : Option VR := match x with
  | .list xs => some (.fl (cutL xs lo hi))
  | .tuple xs => some (.v (.tuple (cutL xs lo hi)))
  | .str z => some (.v (.str (cutS z lo hi)))
  | _ => none
def parE (m : Option Ex) (e : Ev) : Re (Option Int) := match m with
  | none => .ok none e
  | some m => (val m e).bind fun d e1 => match d with
    | .int i => .ok (some i) e1
    | _ => .no
def mSl (o : Opd) (lo hi : Option Ex) : Ex := fun e => (o.ev e).bind fun h e1 => (parE lo e1).bind fun l e2 => (parE hi e2).bind fun u e3 => match h.res e3 with
  | some x => ofO (gSl x l u) e3
  | none => .no
def toOf (C : Cw) (m : Option Ex) : TO := match m with
  | none => tNoPart
  | some m => tPart (teOf C m)
abbrev DPo (X : Cx) (W : WX) (sx : Option (Addr × Value × Option Addr)) (e : Option Expr) (m : Option Ex) : Prop := PO X e (toOf ⟨X.K, X.mg, W, sx⟩ m)
theorem dpo_none : DPo X W sx none none := po_none
theorem dpo_some {e : Expr} {m : Ex} (h : DE X W sx e m) : DPo X W sx (some e) (some m) := po_some h
theorem to_bind {C : Cw} {G : Gh} {F H : Hp} {e : Ev} {σ : L2.St} {β : Type} {m : Option Ex} {f : Option Int → Ev → Re β} {Q : Option Int → Hp → Prop} (P : Pst C G σ β) (S : Sim C G F e σ H) (h : P.P F ((parE m e).bind f))
    (k : ∀ o e1 F1 H1, Same F F1 → Sim C G F1 e1 σ H1 → P.P F1 (f o e1) → Q o H1) : toOf C m σ H Q := by
  cases m with
  | none => exact k none e F H (Same.refl F) S h
  | some m =>
    have h' : P.P F ((val m e).bind fun d e1 => (match d with
      | .int i => Re.ok (some i) e1
      | _ => .no : Re (Option Int)).bind f) := by
      rw [show (parE (some m) e).bind f = (val m e).bind fun d e1 => (match d with
        | .int i => Re.ok (some i) e1
        | _ => .no : Re (Option Int)).bind f from bind_bind ..] at h
      exact h
    refine te_bind P S h' fun d e1 F1 H1 v1 s1 S1 R1 h1 => ?_
    cases d with
    | int i =>
      have ev : v1 = .int i := R1
      exact ⟨i, ev, k (some i) e1 F1 H1 s1 S1 h1⟩
    | _ => exact (P.no h1).elim
theorem Reps.cut {K : PySem.W.Frag} {F : Hp} {ds : List D} {vs : List V} (r : Reps K F ds vs) (lo hi : Option Int) : Reps K F (cutL ds lo hi) (cutV vs lo hi) := by
  unfold cutL cutV
  rw [r.length]
  exact (r.drop _).take _
theorem cut_whole {α : Type} {xs : List α} {lo hi : Option Int} (h : HT.sIx xs.length 0 lo = 0 ∧ HT.sIx xs.length xs.length hi = xs.length) : cutL xs lo hi = xs := by
  unfold cutL
  rw [h.1, h.2]
  simp
theorem de_sl {a : Expr} {lo hi : Option Expr} {oa : Opd} {ml mh : Option Ex} {p2 pos : Pos} (ha : DO X W sx a oa) (hl : DPo X W sx lo ml) (hh : DPo X W sx hi mh) : DE X W sx (.Subscript a (.Slice lo hi none p2) pos) (mSl oa ml mh) := by
  refine te_imp (pe_slice (SlR.or sl_list (SlR.or sl_str sl_tupA)) ha hl hh) fun σ H Q ⟨G, F, e, S, h⟩ => ?_
  refine teO_bind (pE _ G σ Q) S h fun x e1 F1 H1 v1 s1 S1 R1 h1 => ?_
  refine to_bind (pE _ G σ Q) S1 h1 fun l e2 F2 H2 s2 S2 h2 => ?_
  refine to_bind (pE _ G σ Q) S2 h2 fun u e3 F3 H3 s3 S3 h3 => ?_
  cases qx : x.res e3 with
  | none => rw [qx] at h3; exact h3.elim
  | some d =>
    rw [qx] at h3
    have rx := S3.res (R1.mono (s2.trans s3)) qx
    have p := opPost_of S3 h3
    cases d with
    | list ds =>
      obtain ⟨b, xs, ev, hb, r⟩ := rx
      exact .inl ⟨b, xs, ev, sqOf hb, fun q hq => p q _ hq (r.cut l u)⟩
    | str z => exact .inr (.inl ⟨z, (rep_str rx).1, (rep_str rx).2, post_str p (Nat.le_trans (cutS_length z l u) (rep_str rx).2)⟩)
    | tuple ds =>
      obtain ⟨b, xs, ev, hF, hb, r⟩ := rep_tup S3.sub rx
      refine .inr (.inr ⟨b, xs, ev, hb, fun hw => ?_, fun _ q hq => p.2 _ rfl q _ hq (r.cut l u)⟩)
      refine p.1 _ ?_
      rw [r.length] at hw
      rw [cut_whole hw]
      unfold Rep
      exact ⟨b, xs, rfl, hF, r⟩
    | _ => exact p.elim

/-! ### a < b < c -/
def mChain (g g' : D → D → Option VR) (a b c : Opd) : Ex := fun e => (a.ev e).bind fun h1 e1 => (b.ev e1).bind fun h2 e2 => match h1.res e2, h2.res e2 with
  | some x, some y => match g x y with
    | some (.v (.bool true)) => (c.ev e2).bind fun h3 e3 => match h2.res e3, h3.res e3 with
      | some y', some z => ofO (g' y' z) e3
      | _, _ => .no
    | some (.v (.bool false)) => .ok (.v (.bool false)) e2
    | _ => .no
  | _, _ => .no
theorem chain_read {r r' : R2} {g g' : D → D → Option VR} {a b c : Opd} (hr : ∀ F H x y v u Q, Same F H → RepT X.K F H x v → RepT X.K F H y u → OpPost X.K F H Q (g x y) → r v u H Q)
    (hr' : ∀ F H x y v u Q, Same F H → RepT X.K F H x v → RepT X.K F H y u → OpPost X.K F H Q (g' x y) → r' v u H Q) {σ : L2.St} {H : Hp} {Q : VK} (q : teOf0 ⟨X.K, X.mg, W, sx⟩ (mChain g g' a b c) σ H Q) :
    tChain r r' (teO ⟨X.K, X.mg, W, sx⟩ a) (teO ⟨X.K, X.mg, W, sx⟩ b) (teO ⟨X.K, X.mg, W, sx⟩ c) σ H Q := by
  obtain ⟨G, F, e, S, h⟩ := q
  refine teO_bind (pE _ G σ Q) S h fun x e1 F1 H1 v1 s1 S1 R1 h1 => ?_
  refine teO_bind (pE _ G σ Q) S1 h1 fun y e2 F2 H2 v2 s2 S2 R2 h2 => ?_
  cases qx : x.res e2 with
  | none => rw [qx] at h2; exact h2.elim
  | some dx =>
    cases qy : y.res e2 with
    | none => rw [qx, qy] at h2; exact h2.elim
    | some dy =>
      rw [qx, qy] at h2
      dsimp only at h2
      refine hr F2 H2 dx dy v1 v2 _ S2.sub (S2.res (R1.mono s2) qx) (S2.res R2 qy) ?_
      cases qg : g dx dy with
      | none => rw [qg] at h2; exact h2.elim
      | some z =>
        cases z with
        | v d =>
          cases d with
          | bool k =>
            refine ⟨fun v rv => ?_, fun l el => by cases el⟩
            have ev : v = .bl k := rv
            refine ⟨k, ev, ?_⟩
            cases k with
            | false =>
              rw [if_neg Bool.false_ne_true]
              rw [qg] at h2
              exact h2 F2 H2 (Same.refl _) S2 _ rfl
            | true =>
              rw [if_pos rfl]
              rw [qg] at h2
              refine teO_bind (pE _ G σ Q) S2 h2 fun z e3 F3 H3 v3 s3 S3 R3 h3 => ?_
              cases qy2 : y.res e3 with
              | none => rw [qy2] at h3; exact h3.elim
              | some dy' =>
                cases qz : z.res e3 with
                | none => rw [qy2, qz] at h3; exact h3.elim
                | some dz =>
                  rw [qy2, qz] at h3
                  dsimp only at h3
                  exact hr' F3 H3 dy' dz v2 v3 Q S3.sub (S3.res (R2.mono s3) qy2) (S3.res R3 qz) (opPost_of S3 h3)
          | _ => rw [qg] at h2; exact h2.elim
        | _ => rw [qg] at h2; exact h2.elim
theorem be_chain {a b c : Expr} {op op' : CmpOp} {oa ob oc : Opd} {g g' : D → D → Option VR} {pos : Pos} (ho : Op2 X (compareOp op) g) (ho' : Op2 X (compareOp op') g') (ha : DO X W sx a oa) (hb : DO X W sx b ob) (hc : DO X W sx c oc)
    (hm : lastMarks [op, op'] [b, c] = false := by with_unfolding_all rfl) : BE X W sx (.Compare a [op, op'] [b, c] pos) (mChain g g' oa ob oc) := by
  obtain ⟨r, hr, hs⟩ := ho
  obtain ⟨r', hr', hs'⟩ := ho'
  refine ⟨te_imp (pe_chain hr hr' ha hb hc hm) fun σ H Q q => chain_read hs hs' q, tt_imp (pt_chain hr hr' ha hb hc hm) fun σ H Q q => ?_⟩
  exact chain_read hs hs' (tb_read0 q)

/-! ### isinstance -/
def tyN : D → String
  | .none => "NoneType"
  | .bool _ => "bool"
  | .int _ => "int"
  | .str _ => "str"
  | .list _ => "list"
  | .tuple _ => "tuple"
  | .dict _ => "dict"
def isT (t : String) (d : D) : Bool := match d with
  | .none => t == "NoneType"
  | .bool _ => t == "bool" || t == "int"
  | .int _ => t == "int"
  | .str _ => t == "str"
  | .list _ => t == "list"
  | .tuple _ => t == "tuple"
  | .dict _ => t == "dict"
def mIsi (ts : List String) (o : Opd) : Ex := fun e => (o.ev e).bind fun h e1 => match h.res e1 with
  | some d => .ok (.v (.bool (ts.any fun t => isT t d))) e1
  | none => .no
theorem tyX_of {K : PySem.W.Frag} {F H : Hp} (s : Same F H) {d : D} {v : V} (r : RepT K F H d v) : TyX K H v (.type (tyN d)) := by
  cases d with
  | none => rw [rep_none r]; exact .base .non
  | bool b => rw [rep_bool r]; exact .base (.bl b)
  | int b => rw [rep_int r]; exact .base (.int b)
  | str b => rw [(rep_str r).1]; exact .base (.str b)
  | list ds =>
    obtain ⟨a, xs, e, h, _⟩ := r
    subst e
    rcases h with h | ⟨o, h⟩
    · exact .base (.lst h)
    · exact .base (.frz h)
  | dict ds =>
    obtain ⟨a, xs, e, h, _⟩ := r
    subst e
    rcases h with h | ⟨o, h⟩
    · exact .base (.dK h)
    · exact .fDict h
  | tuple ds =>
    obtain ⟨a, xs, e, _, h, _⟩ := rep_tup s r
    subst e
    rcases h with (h | ⟨o, h⟩) | ⟨o, its, n, h1, h2, _⟩
    · exact .base (.tup h)
    · exact .fTuple h
    · exact .kTuple h1 h2
/-- the built-in classes whose isinstance is known -/
structure TyK (t : String) : Prop where
  k : ∀ (K : PySem.W.Frag) (d : D), PySem.W.kitOne K (.type (tyN d)) (.type t) = some (isT t d)
theorem tk_int : TyK "int" := ⟨fun K d => by cases d <;> rfl⟩
theorem tk_bool : TyK "bool" := ⟨fun K d => by cases d <;> rfl⟩
theorem tk_str : TyK "str" := ⟨fun K d => by cases d <;> rfl⟩
theorem tk_list : TyK "list" := ⟨fun K d => by cases d <;> rfl⟩
theorem tk_tuple : TyK "tuple" := ⟨fun K d => by cases d <;> rfl⟩
theorem tk_dict : TyK "dict" := ⟨fun K d => by cases d <;> rfl⟩
theorem kit_any {K : PySem.W.Frag} {d : D} : ∀ {ts : List String}, (∀ t ∈ ts, TyK t) → PySem.W.kitAny K (.type (tyN d)) (ts.map Value.type) = some (ts.any fun t => isT t d)
  | [], _ => rfl
  | t :: ts, h => by
    have h1 := (h t List.mem_cons_self).k K d
    have h2 := kit_any (K := K) (d := d) (ts := ts) fun t' m => h t' (List.mem_cons_of_mem _ m)
    rw [List.map_cons]
    unfold PySem.W.kitAny
    rw [h1, List.any_cons]
    cases isT t d with
    | true => rfl
    | false => exact h2
theorem mIsi_cmp {C : Cw} {ts : List String} {o : Opd} {r : V → Hp → VK → Prop} (hr : ∀ F H d v Q, Same F H → RepT C.K F H d v → Q (.bl (ts.any fun t => isT t d)) H → r v H Q) {σ : L2.St} {H : Hp} {Q : VK} (q : teOf0 C (mIsi ts o) σ H Q) : teO C o σ H (fun x H1 => r x H1 Q) := by
  obtain ⟨G, F, e, S, h⟩ := q
  refine teO_bind (pE _ G σ Q) S h fun x e1 F1 H1 v1 s1 S1 R1 h1 => ?_
  cases qx : x.res e1 with
  | none => rw [qx] at h1; exact h1.elim
  | some d =>
    rw [qx] at h1
    exact hr F1 H1 d v1 Q S1.sub (S1.res R1 qx) (h1 F1 H1 (Same.refl _) S1 _ rfl)
/-- the name of a built-in class -/
structure NT (X : Cx) (e : Expr) (t : String) : Prop where
  pe : PE X e (tC (.ty t))
theorem nt_of {t : String} {x : Str} {pos : Pos} (hm : X.mg x = none) (hg : Gl X x := by rfl) (hv : bootBuiltins x = some (.type t) := by decide +kernel) (hn : x ≠ "__name__" := by decide) (hdb : (x == ("__debug__" : Str)) = false := by decide) : NT X (.Name x pos) t :=
  ⟨pe_bltn hg hm hv rfl hn hdb⟩
theorem be_isi1 {t : String} {e : Expr} {o : Opd} {c : Expr} {p pos : Pos} (k : TyK t) (hm : X.mg "isinstance" = none) (ho : DO X W sx e o) (hc : NT X c t) (hg : Gl X "isinstance" := by rfl) (hs : starEach [e, c] X.env = (false, eval e X.env) :: starEach [c] X.env := by rfl)
    (hs1 : starEach [c] X.env = (false, eval c X.env) :: starEach [] X.env := by rfl) (hpl : (backTo pos (starEach [c] X.env)).any (·.1) = false := by rfl)
    (hb : ∀ whole, isTrue (.Call (.Name "isinstance" p) [e, c] [] pos) X.env whole = (do let v ← whole; standAt pos; holding [v] (truthy v)) := by intro _; rfl) : BE X W sx (.Call (.Name "isinstance" p) [e, c] [] pos) (mIsi [t] o) := by
  refine be_val (te_imp (pe_callB call_isi hg hm PyProof.Rows.boot_isinstance (pa_cons ho (pa_cons hc.pe pa_nil hs1) hs) (by decide) (by decide) hs hpl) fun σ H Q q => ?_) hb
  refine mIsi_cmp (C := ⟨X.K, X.mg, W, sx⟩) (r := fun x H1 Q => rIsi X.K [x, .ty t] H1 Q) (fun F H d v Q s r q => ?_) q
  refine ⟨v, .ty t, .type (tyN d), .type t, isT t d, rfl, .ty t, tyX_of s r, k.k X.K d, ?_⟩
  rw [show ([t].any fun t => isT t d) = isT t d by simp] at q
  exact q
inductive NTs (X : Cx) : List Expr → List String → Prop
  | nil : NTs X [] []
  | cons {e : Expr} {es : List Expr} {t : String} {ts : List String} (h : NT X e t) (r : NTs X es ts) (hs : starEach (e :: es) X.env = (false, eval e X.env) :: starEach es X.env := by rfl) : NTs X (e :: es) (t :: ts)
def tTys : List String → TA
  | [] => tNil
  | t :: ts => tCons (tC (.ty t)) (tTys ts)
theorem NTs.pa {es : List Expr} {ts : List String} (h : NTs X es ts) : PA X es (tTys ts) := by
  induction h with
  | nil => exact pa_nil
  | cons h r hs ih => exact pa_cons h.pe ih hs
theorem tTys_read {σ : L2.St} {H : Hp} : ∀ {ts : List String} {Q : List V → Hp → Prop}, Q (ts.map V.ty) H → tTys ts σ H Q
  | [], Q, q => q
  | t :: ts, Q, q => tTys_read (ts := ts) q
theorem paired_tys : ∀ ts : List String, Paired ClsV (ts.map V.ty) (ts.map Value.type)
  | [] => .nil
  | t :: ts => .cons (.ty t) (paired_tys ts)
theorem be_isiT {ts : List String} {e : Expr} {o : Opd} {cs : List Expr} {k : Nat} {tp p pos : Pos} (hk : ∀ t ∈ ts, TyK t) (hm : X.mg "isinstance" = none) (ho : DO X W sx e o) (hc : NTs X cs ts) (hl : ts.length ≤ 1000 := by decide) (hg : Gl X "isinstance" := by rfl)
    (hs : starEach [e, .Tuple cs k tp] X.env = (false, eval e X.env) :: starEach [.Tuple cs k tp] X.env := by rfl) (hs1 : starEach [.Tuple cs k tp] X.env = (false, eval (.Tuple cs k tp) X.env) :: starEach [] X.env := by rfl) (hpl : (backTo pos (starEach [.Tuple cs k tp] X.env)).any (·.1) = false := by rfl)
    (hb : ∀ whole, isTrue (.Call (.Name "isinstance" p) [e, .Tuple cs k tp] [] pos) X.env whole = (do let v ← whole; standAt pos; holding [v] (truthy v)) := by intro _; rfl) : BE X W sx (.Call (.Name "isinstance" p) [e, .Tuple cs k tp] [] pos) (mIsi ts o) := by
  refine be_val (te_imp (pe_callB call_isiT hg hm PyProof.Rows.boot_isinstance (pa_cons ho (pa_cons (pe_tup hc.pa) pa_nil hs1) hs) (by decide) (by decide) hs hpl) fun σ H Q ⟨G, F, ev, S, h⟩ => ?_) hb
  refine teO_bind (pE _ G σ Q) S h fun x e1 F1 H1 v1 s1 S1 R1 h1 => ?_
  refine tTys_read ⟨by rw [List.length_map]; exact Nat.le_of_lt (small1000 hl), fun q hq => ?_⟩
  cases qx : x.res e1 with
  | none => rw [qx] at h1; exact h1.elim
  | some d =>
    rw [qx] at h1
    have S2 : Sim ⟨X.K, X.mg, W, sx⟩ G F1 e1 σ (upd H1 q (.tup (ts.map V.ty))) := S1.alloc hq
    exact ⟨v1, q, ts.map V.ty, .type (tyN d), ts.map Value.type, _, rfl, upd_same, paired_tys ts, tyX_of S2.sub (S2.res R1 qx), kit_any hk, h1 F1 _ (Same.refl _) S2 _ rfl⟩
end
end RL

/-! RL10: what is walked: values, ranges, enumerate, zip. -/
namespace RL
open PySem PySem.Spec PyProof.Rows L2

theorem vals_back {xs : List V} {us : List Value} {i : Nat} {u : Value} (r : Vals xs us) (h : us[i]? = some u) : ∃ x, xs[i]? = some x ∧ RelV x u := by
  have hl := r.length
  have hi : i < xs.length := by rw [hl]; exact (List.getElem?_eq_some_iff.mp h).1
  obtain ⟨w, hw, rw'⟩ := r.get (List.getElem?_eq_getElem hi)
  rw [h] at hw
  cases hw
  exact ⟨_, List.getElem?_eq_getElem hi, rw'⟩
/-! ### a source of items -/
inductive Src where
  | l (a : Addr)
  | t (a : Addr)
  | s (x : Str)
def signV (x : Str) : List V := x.cps.toList.map fun c => .str ⟨#[c]⟩
def Src.at (K : PySem.W.Frag) (H : Hp) : Src → List V → Prop
  | .l a, xs => SqL K H a xs
  | .t a, xs => SqT K H a xs
  | .s x, xs => xs = signV x
def Src.v : Src → V
  | .l a => .ref a
  | .t a => .ref a
  | .s x => .str x
def Src.adr : Src → Option Addr
  | .l a => some a
  | .t a => some a
  | .s _ => none
/-- the source lies apart -/
def Far (S : Src) (bs : List Addr) : Prop := ∀ a, S.adr = some a → a ∉ bs
/-- the iterator's state -/
def Src.it (S : Src) (it : Addr) (i : Nat) (h : Heap) : Prop := match S with
  | .l a => h.IsListIter it a i
  | .t a => h.IsTupleIter it a i
  | .s x => ∃ t, h.IsStrIter it (strIterType x) x t i
theorem Src.it_at {S : Src} {it : Addr} {i : Nat} {h h' : Heap} (x : S.it it i h) (k : ∀ o, h.get? it = some o → h'.get? it = some o) : S.it it i h' := by
  cases S with
  | l a => exact Heap.IsListIter.at x k
  | t a => exact Heap.IsTupleIter.at x k
  | s y => obtain ⟨t, o, ho, r⟩ := x; exact ⟨t, o, k o ho, r⟩
theorem Src.it_get {S : Src} {it : Addr} {i : Nat} {h : Heap} (x : S.it it i h) : ∃ o vs, h.get? it = some o ∧ o.data = .fields vs := by
  cases S with
  | l a => obtain ⟨o, ho, hc, hd⟩ := x; exact ⟨o, _, ho, hd⟩
  | t a => obtain ⟨o, ho, hc, hd⟩ := x; exact ⟨o, _, ho, hd⟩
  | s y => obtain ⟨t, o, ho, hc, hd⟩ := x; exact ⟨o, _, ho, hd⟩
/-- what the iterator draws, now -/
structure Drw (X : Cx) (s : Shared) (S : Src) (it : Addr) (j : Nat) (xs : List V) (fp : List Addr) (P : Nat → Value → Prop) (St : Nat → Heap → Prop) : Prop where
  d : Draws X.prog X.w X.A.in1 it fp xs.length P St
  st : St j s.heap
  out : ∀ i h, St i h → S.it it i h
  val : ∀ i u, P i u → ∃ x, xs[i]? = some x ∧ RelV x u
  mem : it ∈ fp
  far : ∀ b ∈ fp, b ≠ it → S.adr = some b
theorem Src.draws {X : Cx} {pins : List (Addr × Obj)} {σ : L2.St} {H : Hp} {s : Shared} {S : Src} {xs : List V} {it : Addr} {j : Nat} (hc : X.calm = true) (I : Inv X pins σ H s) (hx : S.at X.K H xs) (st : S.it it j s.heap) : ∃ fp P St, Drw X s S it j xs fp P St := by
  have hh : X.A.in1.handled = none := I.ok.hd hc
  obtain ⟨oi, vi, hoi, hdi⟩ := Src.it_get st
  cases S with
  | l a =>
    obtain ⟨its, rv, p, hz⟩ := I.list hx
    obtain ⟨o, n, ho, hcl, hdd, hd⟩ := id p
    have ne : a ≠ it := fun e => by subst e; rw [ho] at hoi; cases hoi; rw [hd] at hdi; cases hdi
    refine ⟨[it, a], (fun i v => its.toArray[i]? = some v), (fun i h => h.IsListIter it a i ∧ h.IsList a its.toArray), ⟨?_, ⟨st, p.isList⟩, fun i h q => q.1, fun i u q => ?_, by simp, fun b hb nb => ?_⟩⟩
    · rw [rv.length]
      exact Draws.list hh it a ne its.toArray
    · have q' : its[i]? = some u := by simpa using q
      obtain ⟨x, h1, h2⟩ := vals_back rv q'
      exact ⟨x, h1, h2⟩
    · have e : b = it ∨ b = a := by simpa using hb
      rcases e with e | e
      · exact absurd e nb
      · subst e; rfl
  | t a =>
    obtain ⟨its, rv, p, hz⟩ := I.tuple hx
    obtain ⟨o, ho, hcl, n, hd⟩ := id p
    have ne : a ≠ it := fun e => by subst e; rw [ho] at hoi; cases hoi; rw [hd] at hdi; cases hdi
    refine ⟨[it, a], (fun i v => its.toArray[i]? = some v), (fun i h => h.IsTupleIter it a i ∧ h.IsTuple a its.toArray), ⟨?_, ⟨st, p⟩, fun i h q => q.1, fun i u q => ?_, by simp, fun b hb nb => ?_⟩⟩
    · rw [rv.length]
      exact Draws.tuple hh it a ne its.toArray
    · have q' : its[i]? = some u := by simpa using q
      obtain ⟨x, h1, h2⟩ := vals_back rv q'
      exact ⟨x, h1, h2⟩
    · have e : b = it ∨ b = a := by simpa using hb
      rcases e with e | e
      · exact absurd e nb
      · subst e; rfl
  | s x =>
    obtain ⟨t, st⟩ := st
    have hx' : xs = signV x := hx
    subst hx'
    refine ⟨[it], (fun i v => ∃ c u, x.cps[i]? = some c ∧ v = .str ⟨#[c]⟩ u), (fun i h => h.IsStrIter it (strIterType x) x t i), ⟨?_, st, fun i h q => ⟨t, q⟩, fun i u q => ?_, by simp, fun b hb nb => absurd (by simpa using hb) nb⟩⟩
    · rw [show (signV x).length = x.cps.size by simp [signV]]
      exact Draws.text hh it x t
    · obtain ⟨c, v, h1, h2⟩ := q
      subst h2
      refine ⟨.str ⟨#[c]⟩, ?_, ⟨v, rfl⟩⟩
      simp [signV, h1]
theorem Drw.no {X : Cx} {s : Shared} {S : Src} {it : Addr} {j : Nat} {xs : List V} {fp : List Addr} {P : Nat → Value → Prop} {St : Nat → Heap → Prop} (D : Drw X s S it j xs fp P St) {bs : List Addr} (f : Far S bs) {b : Addr} (h : b ∈ bs) (n : b ≠ it) : b ∉ fp :=
  fun hm => f b (D.far b hm n) h
theorem Src.far {X : Cx} {pins : List (Addr × Obj)} {σ : L2.St} {H : Hp} {s : Shared} {S : Src} {xs : List V} (I : Inv X pins σ H s) (h : S.at X.K H xs) {bs : List Addr} (hb : ∀ b ∈ bs, s.heap.objs.size ≤ b) : Far S bs := by
  intro a e hm
  have hl := hb a hm
  cases S with
  | l b => cases e; obtain ⟨its, rv, p, hz⟩ := I.list h; exact absurd p.lt (Nat.not_lt.mpr hl)
  | t b => cases e; obtain ⟨its, rv, ⟨o, ho, _⟩, hz⟩ := I.tuple h; exact absurd (Heap.lt_size ho) (Nat.not_lt.mpr hl)
  | s x => cases e
theorem Src.inj {X : Cx} {pins : List (Addr × Obj)} {σ : L2.St} {H : Hp} {s : Shared} {S : Src} {xs ys : List V} (I : Inv X pins σ H s) (h : S.at X.K H xs) (h' : S.at X.K H ys) : xs = ys := by
  cases S with
  | l a => exact I.list_inj h h'
  | t a => exact I.tuple_inj h h'
  | s x => exact (show xs = signV x from h).trans (show ys = signV x from h').symm

/-! ### enumerate -/
def IteS (K : PySem.W.Frag) (S : Src) : It :=
  ⟨fun i H => ∃ (xs : List V) (x : V), S.at K H xs ∧ xs[i]? = some x, fun i H v H' => ∃ T x, v = .ref T ∧ H T = none ∧ H' = upd H T (.tup [.int (i : Nat), x]) ∧ ∀ xs, S.at K H xs → xs[i]? = some x, fun i H => ∃ xs : List V, S.at K H xs ∧ xs.length = i⟩
theorem turn_enumS {P : Program} {w : World} {K : PySem.W.Frag} {elts : List Expr} {kk : Nat} {tpos : Pos} (S : Src) (e it : Addr) :
    Turn P w K (.Tuple elts kk tpos) (IteS K S) [e, it] e (fun i h => (∃ old, IsEnum h e it ((i : Nat) : Int) old) ∧ S.it it i h ∧ e ≠ it ∧ Far S [e]) where
  mem := by simp
  obj := fun i h st b hb => by
    obtain ⟨⟨old, he⟩, hi, _, _⟩ := st
    have e' : b = e ∨ b = it := by simpa using hb
    rcases e' with z | z
    · rw [z]; exact ⟨_, he, fun v q => nomatch q⟩
    · obtain ⟨o, vs, ho, hd⟩ := Src.it_get hi
      rw [z]; exact ⟨o, ho, fun v q => by rw [hd] at q; cases q⟩
  keep := fun i h h' st k => let ⟨⟨old, he⟩, hi, hne, hfa⟩ := st; ⟨⟨old, k e (by simp) _ he⟩, Src.it_at hi fun o q => k it (by simp) o q, hne, hfa⟩
  item := by
    intro X hP hw hK hc i pins s σ H E I hf st hg
    subst hP hw hK
    obtain ⟨⟨old, he⟩, hit, hne, hfa⟩ := st
    obtain ⟨xs, x, hq, hx⟩ := hg
    obtain ⟨fp, Pv, St, D⟩ := Src.draws hc I hq hit
    have hel : e < s.heap.objs.size := Heap.lt_size he
    have hil : it < s.heap.objs.size := by obtain ⟨_, _, q, _⟩ := Src.it_get hit; exact Heap.lt_size q
    have hef : e ∉ fp := D.no hfa (by simp) hne
    refine wpAny_pyNext_enum_itemD D.d he D.st (List.getElem?_eq_some_iff.mp hx).1 hne hef fun u h' tk hP ho hs' hT hsz hk => ?_
    obtain ⟨x', hx', ru⟩ := D.val i u hP
    rw [hx] at hx'
    cases hx'
    refine ⟨_, rfl, wpAny_letOwnedTupleGo_enum (s := { s with heap := h', toks := tk + 1 }) ho fun h'' he' sb => ?_⟩
    have hT2 : h''.get? s.heap.objs.size = some { cls := .type "tuple", data := .seq #[.int i tk, u] } := (sb.2 _ (Nat.ne_of_gt hel)).trans hT
    have new : ObjOk X.prog X.w (upd H s.heap.objs.size (.tup [.int (i : Nat), x])) h'' s.heap.objs.size (.tup [.int (i : Nat), x]) :=
      ⟨by show 2 ≤ sizeLine; decide, [.int i tk, u], .cons ⟨_, rfl⟩ (.cons ru .nil), ⟨_, hT2, rfl, _, rfl⟩⟩
    have I1 : Inv X pins σ (upd H s.heap.objs.size (.tup [.int (i : Nat), x])) { s with heap := h'', toks := tk + 1 } :=
      I.turnedNew (ch := [e, it]) (fun b ob hb q => (sb.2 b (fun z => hb (by simp [z]))).trans (hk b ob (fun z => hb (by simp [z])) (fun z => hb (by simp [z])) q)) hf (Nat.le_refl _) new
    refine ⟨.ref s.heap.objs.size, _, I1, rfl, ⟨_, x, rfl, I.hok.fresh (Nat.le_refl _), rfl, fun ys hy => by rw [Src.inj I hy hq]; exact hx⟩, ⟨⟨u, ?_⟩, Src.it_at (D.out _ _ hs') fun o q => (sb.2 it (Ne.symm hne)).trans q, hne, hfa⟩, fun b hb => ?_⟩
    · have e1 : ((i + 1 : Nat) : Int) = (i : Int) + 1 := by omega
      rw [e1]; exact he'
    · have hb' : b < s.heap.objs.size := by
        have e' : b = e ∨ b = it := by simpa using hb
        rcases e' with z | z
        · rw [z]; exact hel
        · rw [z]; exact hil
      rw [upd_ne (Nat.ne_of_lt hb')]
      exact (hf b hb).1
  done := by
    intro X hP hw hK hc i pins s σ H E I hf st hg
    subst hP hw hK
    obtain ⟨⟨old, he⟩, hit, hne, hfa⟩ := st
    obtain ⟨xs, hq, hx⟩ := hg
    obtain ⟨fp, Pv, St, D⟩ := Src.draws hc I hq hit
    obtain ⟨f0, f1, f2, f3, f4, f5⟩ := hf it (by simp)
    exact wpAny_pyNext_enum_endD D.d he (by rw [hx]; exact D.st) fun h' eb => ⟨rfl, I.turned (t' := s.toks) (fun b o hb q => eb b o hb q) f0 f1 f3 f4 f5⟩
  self := fun A i s Q E st h => let ⟨⟨_, he⟩, _⟩ := st; wpAny_pyIter_enum he h
theorem meets_enum1 {v : Value} {o : Obj} {H : Heap → Prop} (B : Begins v o H) :
    Meets (Builtin.«enumerate.__new__» ⟨[.type "enumerate", v], []⟩) (fun _ R s => H s.heap ∧
      R (.ok (.ret (.ref (s.heap.push o).objs.size))) { s with heap := (s.heap.push o).push { cls := .type "enumerate", data := .fields #[.none, .bool false, .ref s.heap.objs.size, rawInt 0, .none, .none] } }) :=
  .of_wp fun prog w A R s h => by
    obtain ⟨hp, g, d, tk, os⟩ := s; obtain ⟨h1, h⟩ := h
    have hsub := sub_enumerate
    have q1 : ∀ {A' : Around} {E : Value → Shared → Prop} {Q : Value → Shared → Prop}, Q (.ref hp.objs.size) ⟨hp.push o, g, d, tk, os⟩ → wpAny (model prog w) A' (pyIter v) Q E ⟨hp, g, d, tk, os⟩ :=
      fun q => B.iter prog w _ _ ⟨hp, g, d, tk, os⟩ _ h1 q
    wp_walk using q1
    refine wpAny_stack_any fun st => wpAny_pure ?_
    split
    · rename_i c _ _ _ _ _
      cases (c == Value.type "enumerate")
      · wp_walk using q1
        exact ⟨_, rfl, h⟩
      · wp_walk using q1
        exact ⟨_, rfl, h⟩
    · wp_walk using q1
      exact ⟨_, rfl, h⟩
theorem enum_begins1 {prog : Program} {w : World} {A : Around} {E : Value → Shared → Prop} {s : Shared} {v : Value} {o : Obj} {H : Heap → Prop} {Q : Value → Shared → Prop} (B : Begins v o H) (h1 : H s.heap)
    (h : ∀ h', IsEnum h' (s.heap.objs.size + 1) s.heap.objs.size 0 .none → h'.get? s.heap.objs.size = some o → h'.objs.size = s.heap.objs.size + 2 →
      (∀ b o, s.heap.get? b = some o → h'.get? b = some o) → Q (.ref (s.heap.objs.size + 1)) { s with heap := h' }) :
    wpAny (model prog w) A (call (.type "enumerate") [v]) Q E s := by
  refine callType_new F.called_enumerate (by decide) (F.typeCall_enumerate_1 _) (F.newCall_enumerate_1 _) (fun obj => F.args_object_init_2 obj _) F.entry_enumerate_new
    (meets_enum1 B) ⟨h1, ?_⟩
  have hz : (s.heap.push o).objs.size = s.heap.objs.size + 1 := Heap.size_push ..
  show _ ∧ _
  rw [hz]
  have he : IsEnum ((s.heap.push o).push { cls := .type "enumerate", data := .fields #[.none, .bool false, .ref s.heap.objs.size, rawInt 0, .none, .none] }) (s.heap.objs.size + 1) s.heap.objs.size 0 .none := by
    have := Heap.get?_push_size (s.heap.push o) (o := { cls := .type "enumerate", data := .fields #[.none, .bool false, .ref s.heap.objs.size, rawInt 0, .none, .none] }) rfl
    rw [hz] at this; exact this
  refine ⟨⟨_, he, rfl⟩, h _ he (Heap.get?_push_of_some _ (Heap.get?_push_size _ B.free)) (by rw [Heap.size_push, hz]) fun b o x => Heap.get?_push_of_some _ (Heap.get?_push_of_some _ x)⟩
/-- how the source begins -/
structure Bgn (s : Shared) (S : Src) (u : Value) (o : Obj) (Hh : Heap → Prop) : Prop where
  b : Begins u o Hh
  h : Hh s.heap
  st : ∀ (h' : Heap) (it : Addr), h'.get? it = some o → S.it it 0 h'
theorem Src.begins {X : Cx} {pins : List (Addr × Obj)} {σ : L2.St} {H : Hp} {s : Shared} {S : Src} {xs : List V} {u : Value} (I : Inv X pins σ H s) (hx : S.at X.K H xs) (r : RelV S.v u) : ∃ o Hh, Bgn s S u o Hh := by
  cases S with
  | l a =>
    obtain rfl : u = .ref a := r
    obtain ⟨its, rv, p, hz⟩ := I.list hx
    exact ⟨_, _, begins_list a its.toArray, p.isList, fun h' it q => ⟨_, q, rfl, rfl⟩⟩
  | t a =>
    obtain rfl : u = .ref a := r
    obtain ⟨its, rv, p, hz⟩ := I.tuple hx
    exact ⟨_, _, begins_tuple a its.toArray, p, fun h' it q => ⟨_, q, rfl, rfl⟩⟩
  | s x =>
    obtain ⟨t, rfl⟩ := r
    exact ⟨_, _, begins_text x t, trivial, fun h' it q => ⟨t, _, q, rfl, rfl⟩⟩
def iEnumS (K : PySem.W.Frag) (ta : TA) : TI := fun σ H R => ta σ H fun vs H1 => ∃ (S : Src) (xs : List V), vs = [S.v] ∧ S.at K H1 xs ∧ R (IteS K S) H1
theorem pi_enumS {X : Cx} {e : Expr} {ta : TA} {p pos tpos : Pos} {elts : List Expr} {kk : Nat} (hg : Gl X "enumerate") (hm : X.mg "enumerate" = none) (ha : PA X [e] ta) (hs : starEach [e] X.env = [(false, eval e X.env)] := by rfl) :
    PI X (.Tuple elts kk tpos) (.Call (.Name "enumerate" p) [e] [] pos) (iEnumS X.K ta) := by
  refine ⟨fun pins s σ H R I h => ?_⟩
  refine Call_ (ld_blt I hg hm boot_enumerate (PyProof.Rows.callWith_type1 (thn (ha.run pos pins s σ H _ I h) fun us s1 ⟨vs, H1, I1, r1, q1⟩ => ?_) hs rfl))
  obtain ⟨S, xs, ex, hq, q⟩ := q1
  subst ex
  cases r1 with
  | cons r rr =>
    cases rr
    obtain ⟨o, Hh, B⟩ := Src.begins I1 hq r
    refine enum_begins1 B.b B.h fun h' he hit hsz hk => wpAny_pyIter_enum he ?_
    have I2 : Inv X pins σ H1 { s1 with heap := h' } := I1.kept (t' := s1.toks) hk
    refine ⟨s1.heap.objs.size + 1, [s1.heap.objs.size + 1, s1.heap.objs.size], _, _, H1, rfl, I2, turn_enumS S (s1.heap.objs.size + 1) s1.heap.objs.size, ⟨⟨.none, he⟩, B.st _ _ hit, Nat.succ_ne_self _, Src.far I1 hq (fun b hb => by rw [List.mem_singleton.mp hb]; exact Nat.le_add_right _ _)⟩, fun b hb => ?_, q⟩
    have e' : b = s1.heap.objs.size + 1 ∨ b = s1.heap.objs.size := by simpa using hb
    have hle : s1.heap.objs.size ≤ b := by
      rcases e' with z | z
      · rw [z]; exact Nat.le_add_right _ _
      · rw [z]; exact Nat.le_refl _
    exact I1.fpOk hle (I1.hok.fresh hle)

/-! ### zip of two -/
def ItzS (K : PySem.W.Frag) (S1 S2 : Src) : It :=
  ⟨fun i H => ∃ (xs ys : List V) (x y : V), S1.at K H xs ∧ S2.at K H ys ∧ xs[i]? = some x ∧ ys[i]? = some y,
    fun i H v H' => ∃ T x y, v = .ref T ∧ H T = none ∧ H' = upd H T (.tup [x, y]) ∧ (∀ xs, S1.at K H xs → xs[i]? = some x) ∧ ∀ ys, S2.at K H ys → ys[i]? = some y,
    fun i H => ∃ xs ys : List V, S1.at K H xs ∧ S2.at K H ys ∧ i ≤ xs.length ∧ i ≤ ys.length ∧ (i = xs.length ∨ i = ys.length)⟩
structure Apart (z TI TO i1 i2 : Addr) : Prop where
  zTI : TI ≠ z
  zTO : TO ≠ z
  TT : TI ≠ TO
  zi1 : z ≠ i1
  zi2 : z ≠ i2
  TIi1 : TI ≠ i1
  TIi2 : TI ≠ i2
  TOi1 : TO ≠ i1
  TOi2 : TO ≠ i2
  ii : i1 ≠ i2
theorem Apart.sep {z TI TO i1 i2 : Addr} (A : Apart z TI TO i1 i2) {X : Cx} {s : Shared} {S1 S2 : Src} {j : Nat} {xs ys : List V} {fp1 fp2 : List Addr} {P1 P2 : Nat → Value → Prop} {St1 St2 : Nat → Heap → Prop} (D1 : Drw X s S1 i1 j xs fp1 P1 St1) (D2 : Drw X s S2 i2 j ys fp2 P2 St2)
    (f1 : Far S1 [z, TI, TO, i1, i2]) (f2 : Far S2 [z, TI, TO, i1, i2]) : ZipSep2 z TI TO i1 i2 fp1 fp2 where
  TIz := A.zTI
  TOz := A.zTO
  TITO := A.TT
  TIi1 := A.TIi1
  mem1 := D1.mem
  zf1 := D1.no f1 (by simp) A.zi1
  Tf1 := D1.no f1 (by simp) A.TOi1
  TIi2 := A.TIi2
  mem2 := D2.mem
  zf2 := D2.no f2 (by simp) A.zi2
  Tf2 := D2.no f2 (by simp) A.TOi2
  sep1_2 := D2.no f2 (by simp) A.ii
  sep2_1 := D1.no f1 (by simp) A.ii.symm
theorem turn_zipS {P : Program} {w : World} {K : PySem.W.Frag} {elts : List Expr} {kk : Nat} {tpos : Pos} {S1 S2 : Src} {z TI TO i1 i2 : Addr} (A : Apart z TI TO i1 i2) (f1 : Far S1 [z, TI, TO, i1, i2]) (f2 : Far S2 [z, TI, TO, i1, i2]) :
    Turn P w K (.Tuple elts kk tpos) (ItzS K S1 S2) [z, TI, TO, i1, i2] z (fun i h => IsZip h z TI TO .none ∧ IsTupOf2 h TI (.ref i1) (.ref i2) ∧ (∃ x y, IsTupOf2 h TO x y) ∧ S1.it i1 i h ∧ S2.it i2 i h) where
  mem := by simp
  obj := fun i h st c hc => by
    obtain ⟨hz, hTI, ⟨x, y, hTO⟩, h1, h2⟩ := st
    have e' : c = z ∨ c = TI ∨ c = TO ∨ c = i1 ∨ c = i2 := by simpa using hc
    rcases e' with q | q | q | q | q
    · rw [q]; exact ⟨_, hz, fun v q => nomatch q⟩
    · rw [q]; exact ⟨_, hTI, fun v q => nomatch q⟩
    · rw [q]; exact ⟨_, hTO, fun v q => nomatch q⟩
    · obtain ⟨o, vs, ho, hd⟩ := Src.it_get h1
      rw [q]; exact ⟨o, ho, fun v q => by rw [hd] at q; cases q⟩
    · obtain ⟨o, vs, ho, hd⟩ := Src.it_get h2
      rw [q]; exact ⟨o, ho, fun v q => by rw [hd] at q; cases q⟩
  keep := fun i h h' st k => by
    obtain ⟨hz, hTI, ⟨x, y, hTO⟩, h1, h2⟩ := st
    exact ⟨k z (by simp) _ hz, k TI (by simp) _ hTI, ⟨x, y, k TO (by simp) _ hTO⟩, Src.it_at h1 fun o q => k i1 (by simp) o q, Src.it_at h2 fun o q => k i2 (by simp) o q⟩
  item := by
    intro X hP hw hK hc i pins s σ H E I hf st hg
    subst hP hw hK
    obtain ⟨hz, hTI, ⟨x0, y0, hTO⟩, h1, h2⟩ := st
    obtain ⟨xs, ys, x, y, hqx, hqy, hx, hy⟩ := hg
    obtain ⟨fp1, P1, St1, D1⟩ := Src.draws hc I hqx h1
    obtain ⟨fp2, P2, St2, D2⟩ := Src.draws hc I hqy h2
    have hzl : z < s.heap.objs.size := Heap.lt_size hz
    refine wpAny_pyNext_zipD2_item (A.sep D1 D2 f1 f2) D1.d D2.d hz hTI hTO D1.st D2.st (List.getElem?_eq_some_iff.mp hx).1 (List.getElem?_eq_some_iff.mp hy).1 fun u u2 h' tk hp1 hp2 z' TO' h1' h2' hT hsz hk => ?_
    obtain ⟨x', hx', ru⟩ := D1.val i u hp1
    rw [hx] at hx'
    cases hx'
    obtain ⟨y', hy', ru2⟩ := D2.val i u2 hp2
    rw [hy] at hy'
    cases hy'
    refine ⟨_, rfl, wpAny_letOwnedTupleGo_zip (s := { s with heap := h', toks := tk }) z' fun h'' z'' sb => ?_⟩
    have hT2 : h''.get? s.heap.objs.size = some { cls := .type "tuple", data := .seq #[u, u2] } := (sb.2 _ (Nat.ne_of_gt hzl)).trans hT
    have new : ObjOk X.prog X.w (upd H s.heap.objs.size (.tup [x, y])) h'' s.heap.objs.size (.tup [x, y]) :=
      ⟨by show 2 ≤ sizeLine; decide, [u, u2], .cons ru (.cons ru2 .nil), ⟨_, hT2, rfl, _, rfl⟩⟩
    have I1 : Inv X pins σ (upd H s.heap.objs.size (.tup [x, y])) { s with heap := h'', toks := tk } :=
      I.turnedNew (ch := [z, TI, TO, i1, i2]) (fun c o hb q => (sb.2 c (fun q' => hb (by simp [q']))).trans (hk c o (fun q' => hb (by simp [q'])) (fun q' => hb (by simp [q'])) (fun q' => hb (by simp [q'])) (fun q' => hb (by simp [q'])) q)) hf (Nat.le_refl _) new
    refine ⟨.ref s.heap.objs.size, _, I1, rfl, ⟨_, x, y, rfl, I.hok.fresh (Nat.le_refl _), rfl, fun l hl => by rw [Src.inj I hl hqx]; exact hx, fun l hl => by rw [Src.inj I hl hqy]; exact hy⟩, ⟨z'', ?_, ⟨u, u2, ?_⟩, ?_, ?_⟩, fun c hcm => ?_⟩
    · exact (sb.2 _ A.zTI).trans (hk _ _ A.zTI A.TT A.TIi1 A.TIi2 hTI)
    · exact (sb.2 _ A.zTO).trans TO'
    · exact Src.it_at (D1.out _ _ h1') fun o q => (sb.2 _ A.zi1.symm).trans q
    · exact Src.it_at (D2.out _ _ h2') fun o q => (sb.2 _ A.zi2.symm).trans q
    · have hlt : c < s.heap.objs.size := by
        have e' : c = z ∨ c = TI ∨ c = TO ∨ c = i1 ∨ c = i2 := by simpa using hcm
        rcases e' with q | q | q | q | q
        · rw [q]; exact hzl
        · rw [q]; exact Heap.lt_size hTI
        · rw [q]; exact Heap.lt_size hTO
        · rw [q]; obtain ⟨_, _, e1, _⟩ := Src.it_get h1; exact Heap.lt_size e1
        · rw [q]; obtain ⟨_, _, e2, _⟩ := Src.it_get h2; exact Heap.lt_size e2
      rw [upd_ne (Nat.ne_of_lt hlt)]
      exact (hf c hcm).1
  done := by
    intro X hP hw hK hc i pins s σ H E I hf st hg
    subst hP hw hK
    obtain ⟨hz, hTI, ⟨x0, y0, hTO⟩, h1, h2⟩ := st
    obtain ⟨xs, ys, hqx, hqy, l1, l2, hend⟩ := hg
    obtain ⟨fp1, P1, St1, D1⟩ := Src.draws hc I hqx h1
    obtain ⟨fp2, P2, St2, D2⟩ := Src.draws hc I hqy h2
    exact wpAny_pyNext_zipD2_end (A.sep D1 D2 f1 f2) D1.d D2.d hz hTI hTO D1.st D2.st l1 l2 hend fun h' tk hk => ⟨rfl, I.turnedL (t' := tk) (ch := [z, TI, TO, i1, i2]) (fun c o hb q =>
      hk c o (fun q' => hb (by simp [q'])) (fun q' => hb (by simp [q'])) (fun q' => hb (by simp [q'])) (fun q' => hb (by simp [q'])) q) hf⟩
  self := fun A i s Q E st h => wpAny_pyIter_zip st.1 h
def iZipS (K : PySem.W.Frag) (ta : TA) : TI := fun σ H R => ta σ H fun vs H1 => ∃ (S1 S2 : Src) (xs ys : List V), vs = [S1.v, S2.v] ∧ S1.at K H1 xs ∧ S2.at K H1 ys ∧ R (ItzS K S1 S2) H1
theorem pi_zipS {X : Cx} {e e2 : Expr} {ta : TA} {p pos tpos : Pos} {elts : List Expr} {kk : Nat} (hg : Gl X "zip") (hm : X.mg "zip" = none) (ha : PA X [e, e2] ta)
    (hs : starEach [e, e2] X.env = (false, eval e X.env) :: starEach [e2] X.env := by rfl) (hpl : (backTo pos (starEach [e2] X.env)).any (·.1) = false := by rfl) :
    PI X (.Tuple elts kk tpos) (.Call (.Name "zip" p) [e, e2] [] pos) (iZipS X.K ta) := by
  refine ⟨fun pins s σ H R I h => ?_⟩
  refine Call_ (ld_blt I hg hm PyProof.Rows.boot_zip (PyProof.Rows.callWith_type1 (thn (ha.run pos pins s σ H _ I h) fun us s1 ⟨vs, H1, I1, r1, q1⟩ => ?_) hs hpl))
  obtain ⟨S1, S2, xs, ys, ex, hqx, hqy, q⟩ := q1
  subst ex
  cases r1 with
  | cons r rr =>
    cases rr with
    | cons r' rr =>
      cases rr
      obtain ⟨o1, Hh1, B1⟩ := Src.begins I1 hqx r
      obtain ⟨o2, Hh2, B2⟩ := Src.begins I1 hqy r'
      have fresh : ∀ b ∈ [s1.heap.objs.size + 4, s1.heap.objs.size + 2, s1.heap.objs.size + 3, s1.heap.objs.size, s1.heap.objs.size + 1], s1.heap.objs.size ≤ b := fun c hcm => by
        have e' : c = s1.heap.objs.size + 4 ∨ c = s1.heap.objs.size + 2 ∨ c = s1.heap.objs.size + 3 ∨ c = s1.heap.objs.size ∨ c = s1.heap.objs.size + 1 := by simpa using hcm
        rcases e' with z | z | z | z | z <;> rw [z] <;> first | exact Nat.le_refl _ | exact Nat.le_add_right _ _
      refine zip_begins2 B1.b B2.b B1.h B2.h fun h' hz hTI hTO h1 h2 hsz hk => wpAny_pyIter_zip hz ?_
      have I2 : Inv X pins σ H1 { s1 with heap := h' } := I1.kept (t' := s1.toks) hk
      have ap : Apart (s1.heap.objs.size + 4) (s1.heap.objs.size + 2) (s1.heap.objs.size + 3) s1.heap.objs.size (s1.heap.objs.size + 1) := by
        constructor <;> intro e <;> have e' : (_ : Nat) = _ := e <;> omega
      exact ⟨s1.heap.objs.size + 4, [s1.heap.objs.size + 4, s1.heap.objs.size + 2, s1.heap.objs.size + 3, s1.heap.objs.size, s1.heap.objs.size + 1], _, _, H1, rfl, I2, turn_zipS ap (Src.far I1 hqx fresh) (Src.far I1 hqy fresh),
        ⟨hz, hTI, ⟨_, _, hTO⟩, B1.st _ _ h1, B2.st _ _ h2⟩, fun c hcm => I1.fpOk (fresh c hcm) (I1.hok.fresh (fresh c hcm)), q⟩

/-! ### the mirrors -/
/-- the items of a tree that is walked -/
def items : D → Option (List D)
  | .list ds => some ds
  | .tuple ds => some ds
  | .str x => some (x.cps.toList.map fun c => .str ⟨#[c]⟩)
  | _ => none
def mIt (m : Ex) : Im := fun e => (val m e).bind fun d e1 => match items d with
  | some ds => .ok ds e1
  | none => .no
/-- the first that can -/
def iOr (a b : Im) : Im := fun e => match a e with
  | .no => b e
  | r => r
section
variable {X : Cx} {W : WX} {sx : Option (Addr × Value × Option Addr)}
theorem di_or {tg it : Expr} {a b : Im} (ha : DI X W sx tg it a) (hb : DI X W sx tg it b) : DI X W sx tg it (iOr a b) := ⟨fun pins s σ H R I ⟨G, F, e, S, h⟩ => by
  unfold iOr at h
  cases q : a e with
  | no => rw [q] at h; exact hb.run pins s σ H R I ⟨G, F, e, S, h⟩
  | ok r e1 => rw [q] at h; exact ha.run pins s σ H R I ⟨G, F, e, S, by rw [q]; exact h⟩
  | ex c fs e1 => rw [q] at h; exact ha.run pins s σ H R I ⟨G, F, e, S, by rw [q]; exact h⟩⟩
/-- the first that can, of expressions -/
def eOr (a b : Ex) : Ex := fun e => match a e with
  | .no => b e
  | r => r
theorem de_or {x : Expr} {a b : Ex} (ha : DE X W sx x a) (hb : DE X W sx x b) : DE X W sx x (eOr a b) := ⟨fun pins s σ H R I ⟨G, F, e, S, h⟩ => by
  unfold eOr at h
  cases q : a e with
  | no => rw [q] at h; exact hb.run pins s σ H R I ⟨G, F, e, S, h⟩
  | ok r e1 => rw [q] at h; exact ha.run pins s σ H R I ⟨G, F, e, S, by rw [q]; exact h⟩
  | ex c fs e1 => rw [q] at h; exact ha.run pins s σ H R I ⟨G, F, e, S, by rw [q]; exact h⟩⟩
theorem signs_rep {K : PySem.W.Frag} {F : Hp} (x : Str) : Reps K F (x.cps.toList.map fun c => .str ⟨#[c]⟩) (signV x) :=
  Reps.map (f := fun c => (PyData.str ⟨#[c]⟩ : D)) (g := fun c => V.str ⟨#[c]⟩) (fun c => by unfold Rep; exact ⟨rfl, show 1 ≤ sizeLine by decide⟩) _
/-- a tree's source -/
theorem src_of {K : PySem.W.Frag} {F H : Hp} (s : Same F H) {d : D} {v : V} {ds : List D} (r : Rep K F d v) (h : items d = some ds) : ∃ (S : Src) (xs : List V), v = S.v ∧ S.at K F xs ∧ S.at K H xs ∧ Reps K F ds xs := by
  cases d with
  | list l =>
    have e0 : l = ds := Option.some.inj h
    subst e0
    unfold Rep at r
    obtain ⟨a, xs, e, q, rr⟩ := r
    exact ⟨.l a, xs, e, sqOf q, sqOf (rdUp s q), rr⟩
  | tuple l =>
    have e0 : l = ds := Option.some.inj h
    subst e0
    obtain ⟨a, xs, e, q1, q2, rr⟩ := rep_tup s (show RepT K F H (.tuple l) v from r)
    exact ⟨.t a, xs, e, q1, q2, rr⟩
  | str x =>
    have e0 : (x.cps.toList.map fun c => PyData.str ⟨#[c]⟩) = ds := Option.some.inj h
    subst e0
    unfold Rep at r
    exact ⟨.s x, signV x, r.1, rfl, rfl, signs_rep x⟩
  | _ => cases h
theorem Src.at_mono {K : PySem.W.Frag} {F H : Hp} (s : Same F H) {S : Src} {xs : List V} (h : S.at K F xs) : S.at K H xs := by
  cases S with
  | l a => exact s.seq h
  | t a =>
    rcases (show SqT K F a xs from h) with (h | ⟨o, h⟩) | h
    · exact .inl (.inl (s _ _ h))
    · exact .inl (.inr ⟨o, s _ _ h⟩)
    · exact .inr h
  | s x => exact h
/-- a walked list, tuple or text -/
theorem di_v {tg it : Expr} {m : Ex} (h : DE X W sx it m) : DI X W sx tg it (mIt m) := by
  have key : ∀ {σ : L2.St} {H : Hp} {R : It → Hp → Prop}, tiOf ⟨X.K, X.mg, W, sx⟩ (mIt m) σ H R → teOf ⟨X.K, X.mg, W, sx⟩ m σ H (fun v H1 => ∃ (S : Src) (xs : List V), v = S.v ∧ S.at X.K H1 xs ∧
      ∀ J : It, (∀ (i : Nat) (H2 : Hp), Same H1 H2 → True) → ((∀ H2 i, S.at X.K H2 xs → i < xs.length → J.go i H2) ∧ (∀ H2 i, S.at X.K H2 xs → i = xs.length → J.stop i H2) ∧ ∀ H2 i x H3, S.at X.K H2 xs → J.yld i H2 x H3 → H3 = H2 ∧ xs[i]? = some x) → R J H1) := by
    intro σ H R ⟨G, F, e, S, q⟩
    have q' : (pI ⟨X.K, X.mg, W, sx⟩ G σ R).P F ((val m e).bind fun d e1 => match items d with
      | some ds => .ok ds e1
      | none => .no) := q
    refine te_bind (pI _ G σ R) S q' fun d e1 F1 H1 v1 s1 S1 R1 h1 => ?_
    cases qi : items d with
    | none => rw [qi] at h1; exact h1.elim
    | some ds =>
      rw [qi] at h1
      obtain ⟨Sr, xs, e1', a1, a2, rr⟩ := src_of S1.sub R1 qi
      refine ⟨Sr, xs, e1', a2, fun J _ ⟨j1, j2, j3⟩ => h1 F1 H1 (Same.refl _) S1 J ⟨fun i H2 s2 hi => j1 H2 i (Src.at_mono s2 a1) (by rw [rr.length]; exact hi), fun i H2 s2 hi => j2 H2 i (Src.at_mono s2 a1) (by rw [rr.length]; exact hi), fun i H2 x H3 d s2 hd y => ?_⟩⟩
      obtain ⟨k1, k2⟩ := j3 H2 i x H3 (Src.at_mono s2 a1) y
      obtain ⟨z, hz, rz⟩ := rr.get hd
      rw [k2] at hz
      cases hz
      exact .inl ⟨k1, rz⟩
  refine ⟨fun pins s σ H R I q => ?_⟩
  have q2 := key q
  -- which kind it is is known behind the evaluation
  refine thn (h.run pins s σ H _ I q2) fun v s1 ⟨x, H1, I1, r1, S, xs, ev, hx, k⟩ => ?_
  subst ev
  cases S with
  | l a =>
    obtain rfl : v = .ref a := r1
    obtain ⟨its, rv, p, hz⟩ := I1.list hx
    refine wpAny_pyIter_list p.isList ?_
    refine ⟨s1.heap.objs.size, [s1.heap.objs.size], _, _, H1, rfl, I1.kept (t' := s1.toks) fun b o e => Heap.get?_push_of_some _ e, turn_list a _, ⟨_, Heap.get?_push_size _ rfl, rfl, rfl⟩, fun b hb => ?_,
      k (Itl X.K a) (fun _ _ _ => trivial) ⟨fun H2 i ha hi => ⟨xs, xs[i], ha, List.getElem?_eq_getElem hi⟩, fun H2 i ha hi => ⟨xs, ha, by omega⟩, fun H2 i x H3 ha y => ⟨y.1, y.2 xs ha⟩⟩⟩
    have e : b = s1.heap.objs.size := by simpa using hb
    subst e
    exact I1.fpOk (Nat.le_refl _) (I1.hok.fresh (Nat.le_refl _))
  | t a =>
    obtain rfl : v = .ref a := r1
    obtain ⟨its, rv, p, hz⟩ := I1.tuple hx
    refine wpAny_pyIter_tuple (show s1.heap.IsTuple a its.toArray from p) ?_
    refine ⟨s1.heap.objs.size, [s1.heap.objs.size], _, _, H1, rfl, I1.kept (t' := s1.toks) fun b o e => Heap.get?_push_of_some _ e, turn_tuple a _, ⟨_, Heap.get?_push_size _ rfl, rfl, rfl⟩, fun b hb => ?_,
      k (Itt X.K a) (fun _ _ _ => trivial) ⟨fun H2 i ha hi => ⟨xs, xs[i], ha, List.getElem?_eq_getElem hi⟩, fun H2 i ha hi => ⟨xs, ha, by omega⟩, fun H2 i x H3 ha y => ⟨y.1, y.2 xs ha⟩⟩⟩
    have e : b = s1.heap.objs.size := by simpa using hb
    subst e
    exact I1.fpOk (Nat.le_refl _) (I1.hok.fresh (Nat.le_refl _))
  | s x =>
    obtain ⟨t, rfl⟩ := r1
    have hx' : xs = signV x := hx
    subst hx'
    have hl : (signV x).length = x.cps.size := by simp [signV]
    have kk := k (Its x) (fun _ _ _ => trivial) ⟨fun H2 i _ hi => show i < x.cps.size by omega, fun H2 i _ hi => show x.cps.size ≤ i by omega, fun H2 i y H3 _ ⟨y1, c, y2, y3⟩ => ⟨y1, by subst y3; simp [signV, y2]⟩⟩
    cases ha : x.cps.all (· < 128)
    · exact wpAny_pyIter_wide ha (pi_one (tk := s1.toks) I1 _ (turn_str _ x t "str_iterator" (.inr rfl)) ⟨_, Heap.get?_push_size _ rfl, rfl, rfl⟩ kk)
    · exact wpAny_pyIter_ascii ha (pi_one (tk := s1.toks) I1 _ (turn_str _ x t "str_ascii_iterator" (.inl rfl)) ⟨_, Heap.get?_push_size _ rfl, rfl, rfl⟩ kk)
end
end RL

/-! RL11: the walked things as mirrors: ranges, enumerate, zip, reversed, dicts. -/
namespace RL
open PySem PySem.Spec PyProof.Rows L2

/-! ### ranges -/
def rngL (lo c : Int) (n : Nat) : List D := (List.range n).map fun (k : Nat) => .int (lo + (k : Int) * c)
def gRng1 : List D → Option (List D)
  | [.int j] => if -(2 ^ 62) ≤ j ∧ j < 2 ^ 62 then some (rngL 0 1 j.toNat) else none
  | _ => none
def gRng2 : List D → Option (List D)
  | [.int i, .int j] => if -(2 ^ 62) ≤ i ∧ i < 2 ^ 62 ∧ -(2 ^ 62) ≤ j ∧ j < 2 ^ 62 then some (rngL i 1 (j - i).toNat) else none
  | _ => none
def gRng3 : List D → Option (List D)
  | [.int i, .int j, .int c] => if c ≠ 0 ∧ c.natAbs < 1073741824 ∧ Builtin.Range.small i j c = true ∧ 0 ≤ Builtin.Range.rangeSize i j c then some (rngL i c (Builtin.Range.rangeSize i j c).toNat) else none
  | _ => none
/-- what is walked, told by values -/
def mIv (g : List D → Option (List D)) (ms : List Ex) : Im := fun e => (valsE ms e).bind fun ds e1 => match g ds with
  | some l => .ok l e1
  | none => .no
theorem rngL_length (lo c : Int) (n : Nat) : (rngL lo c n).length = n := by simp [rngL]
theorem rngL_get {lo c : Int} {n i : Nat} {d : D} (h : (rngL lo c n)[i]? = some d) : i < n ∧ d = .int (lo + (i : Int) * c) := by
  have hi : i < n := by
    have := (List.getElem?_eq_some_iff.mp h).1
    rwa [rngL_length] at this
  refine ⟨hi, ?_⟩
  unfold rngL at h
  rw [List.getElem?_map, List.getElem?_range hi] at h
  exact (Option.some.inj h).symm
theorem it_rng {K : PySem.W.Frag} {F : Hp} {lo c : Int} {n : Nat} : ItOk K (Itc lo c n) F (rngL lo c n) :=
  ⟨fun i H _ hi => by rw [rngL_length] at hi; exact hi, fun i H _ hi => by rw [rngL_length] at hi; exact Nat.le_of_eq hi.symm, fun i H x H' d _ hd y => by
    obtain ⟨_, rfl⟩ := rngL_get hd
    obtain ⟨y1, y2⟩ := y
    refine .inl ⟨y1, ?_⟩
    subst y2
    unfold Rep; rfl⟩
theorem it_rng1 {K : PySem.W.Frag} {F : Hp} {lo : Int} {n : Nat} : ItOk K (Itr lo n) F (rngL lo 1 n) :=
  ⟨fun i H _ hi => by rw [rngL_length] at hi; exact hi, fun i H _ hi => by rw [rngL_length] at hi; exact Nat.le_of_eq hi.symm, fun i H x H' d _ hd y => by
    obtain ⟨_, rfl⟩ := rngL_get hd
    obtain ⟨y1, y2⟩ := y
    refine .inl ⟨y1, ?_⟩
    subst y2
    unfold Rep
    rw [Int.mul_one]⟩
theorem rep_ints1 {K : PySem.W.Frag} {F : Hp} {d1 : D} {vs : List V} (r : Reps K F [d1] vs) : ∃ v1, vs = [v1] ∧ Rep K F d1 v1 := by
  obtain ⟨x, xs, rfl, r1, r2⟩ := r.uncons
  rw [reps_nil r2]
  exact ⟨x, rfl, r1⟩
theorem rep_ints2 {K : PySem.W.Frag} {F : Hp} {d1 d2 : D} {vs : List V} (r : Reps K F [d1, d2] vs) : ∃ v1 v2, vs = [v1, v2] ∧ Rep K F d1 v1 ∧ Rep K F d2 v2 := by
  obtain ⟨x, xs, rfl, r1, r2⟩ := r.uncons
  obtain ⟨y, rfl, r3⟩ := rep_ints1 r2
  exact ⟨x, y, rfl, r1, r3⟩
theorem rep_ints3 {K : PySem.W.Frag} {F : Hp} {d1 d2 d3 : D} {vs : List V} (r : Reps K F [d1, d2, d3] vs) : ∃ v1 v2 v3, vs = [v1, v2, v3] ∧ Rep K F d1 v1 ∧ Rep K F d2 v2 ∧ Rep K F d3 v3 := by
  obtain ⟨x, xs, rfl, r1, r2⟩ := r.uncons
  obtain ⟨y, z, rfl, r3, r4⟩ := rep_ints2 r2
  exact ⟨x, y, z, rfl, r1, r3, r4⟩
section
variable {X : Cx} {W : WX} {sx : Option (Addr × Value × Option Addr)}
theorem ti_imp {tg it : Expr} {t t' : TI} (h : PI X tg it t) (i : ∀ σ H R, t' σ H R → t σ H R) : PI X tg it t' := ⟨fun pins s σ H R I q => h.run pins s σ H R I (i σ H R q)⟩
theorem iv_read {g : List D → Option (List D)} {ms : List Ex} {C : Cw} {σ : L2.St} {H : Hp} {R : It → Hp → Prop} (q : tiOf C (mIv g ms) σ H R) : taV C ms σ H (fun vs H1 => ∃ ds F1 l, g ds = some l ∧ Same F1 H1 ∧ Reps C.K F1 ds vs ∧ ∀ J, ItOk C.K J F1 l → R J H1) := by
  obtain ⟨G, F, e, S, h⟩ := q
  refine ta_bind (pI C G σ R) S h fun ds e1 F1 H1 vs s1 S1 R1 h1 => ?_
  cases qg : g ds with
  | none => rw [qg] at h1; exact h1.elim
  | some l =>
    rw [qg] at h1
    exact ⟨ds, F1, l, qg, S1.sub, R1, fun J j => h1 F1 H1 (Same.refl _) S1 J j⟩
theorem taV_imp {C : Cw} {ms : List Ex} {σ : L2.St} {H : Hp} {Q Q' : List V → Hp → Prop} (h : taV C ms σ H Q) (i : ∀ vs H1, Q vs H1 → Q' vs H1) : taV C ms σ H Q' := by
  induction ms generalizing σ H Q Q' with
  | nil => exact i _ _ h
  | cons m ms ih =>
    obtain ⟨G, F, e, S, q⟩ := h
    refine ⟨G, F, e, S, ?_⟩
    cases hm : m e with
    | no => rw [hm] at q; exact q
    | ex c fs e1 => rw [hm] at q; exact q
    | ok r e1 =>
      rw [hm] at q
      intro F1 H1 s1 S1 v1 r1
      rcases q F1 H1 s1 S1 v1 r1 with z | ⟨a, kx, ev, ha, z⟩
      · exact .inl (ih z fun vs H2 w => i _ _ w)
      · exact .inr ⟨a, kx, ev, ha, fun od => ih (z od) fun vs H2 w => i _ _ w⟩
theorem di_rng1 {tg a : Expr} {m : Ex} {p pos : Pos} (hm : X.mg "range" = none) (ha : DE X W sx a m) (hg : Gl X "range" := by rfl) (hs : starEach [a] X.env = [(false, eval a X.env)] := by rfl) : DI X W sx tg (.Call (.Name "range" p) [a] [] pos) (mIv gRng1 [m]) :=
  ti_imp (pi_range1 hg hm (da_cons ha da_nil hs) hs) fun σ H R q => taV_imp (iv_read q) fun vs H1 ⟨ds, F1, l, hn, sm, r, k⟩ => by
    unfold gRng1 at hn
    split at hn
    · rename_i j
      obtain ⟨v1, rfl, r1⟩ := rep_ints1 r
      by_cases z : -(2 ^ 62) ≤ j ∧ j < 2 ^ 62
      · simp only [if_pos z] at hn
        cases hn
        have e1 : v1 = .int j := r1
        exact ⟨j, by rw [e1], z.1, z.2, k _ it_rng1⟩
      · simp only [if_neg z] at hn; cases hn
    · cases hn
theorem di_rng2 {tg a b : Expr} {m m2 : Ex} {p pos : Pos} (hm : X.mg "range" = none) (ha : DE X W sx a m) (hb : DE X W sx b m2) (hg : Gl X "range" := by rfl) (hs : starEach [a, b] X.env = [(false, eval a X.env), (false, eval b X.env)] := by rfl) (hs2 : starEach [b] X.env = [(false, eval b X.env)] := by rfl) :
    DI X W sx tg (.Call (.Name "range" p) [a, b] [] pos) (mIv gRng2 [m, m2]) :=
  ti_imp (pi_range2 hg hm (da_cons ha (da_cons hb da_nil hs2) (by rw [hs, hs2])) hs hs2) fun σ H R q => taV_imp (iv_read q) fun vs H1 ⟨ds, F1, l, hn, sm, r, k⟩ => by
    unfold gRng2 at hn
    split at hn
    · rename_i i j
      obtain ⟨v1, v2, rfl, r1, r2⟩ := rep_ints2 r
      by_cases z : -(2 ^ 62) ≤ i ∧ i < 2 ^ 62 ∧ -(2 ^ 62) ≤ j ∧ j < 2 ^ 62
      · simp only [if_pos z] at hn
        cases hn
        have e1 : v1 = .int i := r1
        have e2 : v2 = .int j := r2
        exact ⟨i, j, by rw [e1, e2], z, k _ it_rng1⟩
      · simp only [if_neg z] at hn; cases hn
    · cases hn
theorem di_rng3 {tg a b c : Expr} {m m2 m3 : Ex} {p pos : Pos} (hm : X.mg "range" = none) (ha : DE X W sx a m) (hb : DE X W sx b m2) (hc : DE X W sx c m3) (hg : Gl X "range" := by rfl)
    (hs : starEach [a, b, c] X.env = (false, eval a X.env) :: starEach [b, c] X.env := by rfl) (hs2 : starEach [b, c] X.env = (false, eval b X.env) :: starEach [c] X.env := by rfl) (hs3 : starEach [c] X.env = (false, eval c X.env) :: starEach [] X.env := by rfl)
    (hpl : (backTo pos (starEach [b, c] X.env)).any (·.1) = false := by rfl) : DI X W sx tg (.Call (.Name "range" p) [a, b, c] [] pos) (mIv gRng3 [m, m2, m3]) :=
  ti_imp (pi_range3 hg hm (da_cons ha (da_cons hb (da_cons hc da_nil hs3) hs2) hs) hs hpl) fun σ H R q => taV_imp (iv_read q) fun vs H1 ⟨ds, F1, l, hn, sm, r, k⟩ => by
    unfold gRng3 at hn
    split at hn
    · rename_i i j c
      obtain ⟨v1, v2, v3, rfl, r1, r2, r3⟩ := rep_ints3 r
      by_cases z : c ≠ 0 ∧ c.natAbs < 1073741824 ∧ Builtin.Range.small i j c = true ∧ 0 ≤ Builtin.Range.rangeSize i j c
      · simp only [if_pos z] at hn
        cases hn
        have e1 : v1 = .int i := r1
        have e2 : v2 = .int j := r2
        have e3 : v3 = .int c := r3
        exact ⟨i, j, c, _, by rw [e1, e2, e3], ⟨z.1, z.2.1, z.2.2.1, (Int.toNat_of_nonneg z.2.2.2).symm⟩, k _ it_rng⟩
      · simp only [if_neg z] at hn; cases hn
    · cases hn

/-! ### enumerate, zip, reversed -/
def enumL (n : Nat) : List D → List D
  | [] => []
  | d :: ds => .tuple [.int n, d] :: enumL (n + 1) ds
def gEnum : List D → Option (List D)
  | [d] => (items d).map (enumL 0)
  | _ => none
def zipL : List D → List D → List D
  | a :: as, b :: bs => .tuple [a, b] :: zipL as bs
  | _, _ => []
def gZip : List D → Option (List D)
  | [d, d2] => match items d, items d2 with
    | some l, some l2 => some (zipL l l2)
    | _, _ => none
  | _ => none
theorem enumL_length : ∀ (l : List D) (n : Nat), (enumL n l).length = l.length
  | [], _ => rfl
  | d :: ds, n => by unfold enumL; rw [List.length_cons, enumL_length ds, List.length_cons]
theorem enumL_get : ∀ {l : List D} {n i : Nat} {d : D}, (enumL n l)[i]? = some d → ∃ x, l[i]? = some x ∧ d = .tuple [.int ((n + i : Nat) : Int), x]
  | [], n, i, d, h => by simp [enumL] at h
  | a :: l, n, 0, d, h => by
    unfold enumL at h
    simp at h
    exact ⟨a, rfl, by rw [← h]; simp⟩
  | a :: l, n, i + 1, d, h => by
    unfold enumL at h
    obtain ⟨x, h1, h2⟩ := enumL_get (l := l) (n := n + 1) (i := i) (by simpa using h)
    exact ⟨x, by simpa using h1, by rw [h2]; congr 4; omega⟩
theorem zipL_length : ∀ (l m : List D), (zipL l m).length = min l.length m.length
  | [], _ => by simp [zipL]
  | _ :: _, [] => by simp [zipL]
  | a :: l, b :: m => by unfold zipL; rw [List.length_cons, zipL_length l m, List.length_cons, List.length_cons]; omega
theorem zipL_get : ∀ {l m : List D} {i : Nat} {d : D}, (zipL l m)[i]? = some d → ∃ x y, l[i]? = some x ∧ m[i]? = some y ∧ d = .tuple [x, y]
  | [], _, _, _, h => by simp [zipL] at h
  | _ :: _, [], _, _, h => by simp [zipL] at h
  | a :: l, b :: m, 0, d, h => by
    unfold zipL at h
    simp at h
    exact ⟨a, b, rfl, rfl, h.symm⟩
  | a :: l, b :: m, i + 1, d, h => by
    unfold zipL at h
    obtain ⟨x, y, h1, h2, h3⟩ := zipL_get (l := l) (m := m) (i := i) (by simpa using h)
    exact ⟨x, y, by simpa using h1, by simpa using h2, h3⟩
theorem it_enum {K : PySem.W.Frag} {F : Hp} {S : Src} {xs : List V} {l : List D} (a : S.at K F xs) (r : Reps K F l xs) : ItOk K (IteS K S) F (enumL 0 l) :=
  ⟨fun i H s hi => by
    rw [enumL_length, ← r.length] at hi
    exact ⟨xs, xs[i], Src.at_mono s a, List.getElem?_eq_getElem hi⟩, fun i H s hi => ⟨xs, Src.at_mono s a, by rw [hi, enumL_length, r.length]⟩, fun i H x H' d s hd ⟨T, y, e1, hT, e2, hy⟩ => by
    obtain ⟨z, h1, rfl⟩ := enumL_get hd
    obtain ⟨u, hu, ru⟩ := r.get h1
    have h2 := hy xs (Src.at_mono s a)
    rw [hu] at h2
    have h3 := Option.some.inj h2
    subst h3
    refine .inr ⟨T, [.int (i : Nat), u], [.int (i : Nat), z], hT, e2, e1, by rw [Nat.zero_add], Reps.cons ?_ (Reps.one ru)⟩
    unfold Rep; rfl⟩
theorem it_zip {K : PySem.W.Frag} {F : Hp} {S S2 : Src} {xs ys : List V} {l m : List D} (a : S.at K F xs) (r : Reps K F l xs) (a2 : S2.at K F ys) (r2 : Reps K F m ys) : ItOk K (ItzS K S S2) F (zipL l m) :=
  ⟨fun i H s hi => by
    rw [zipL_length, ← r.length, ← r2.length] at hi
    have h1 : i < xs.length := by omega
    have h2 : i < ys.length := by omega
    exact ⟨xs, ys, xs[i], ys[i], Src.at_mono s a, Src.at_mono s a2, List.getElem?_eq_getElem h1, List.getElem?_eq_getElem h2⟩, fun i H s hi => by
    rw [zipL_length, ← r.length, ← r2.length] at hi
    exact ⟨xs, ys, Src.at_mono s a, Src.at_mono s a2, by omega, by omega, by omega⟩, fun i H x H' d s hd ⟨T, y1, y2, e1, hT, e2, hy1, hy2⟩ => by
    obtain ⟨z1, z2, h1, h2, rfl⟩ := zipL_get hd
    obtain ⟨u, hu, ru⟩ := r.get h1
    obtain ⟨u2, hu2, ru2⟩ := r2.get h2
    have k1 := hy1 xs (Src.at_mono s a)
    have k2 := hy2 ys (Src.at_mono s a2)
    rw [hu] at k1
    rw [hu2] at k2
    have k3 := Option.some.inj k1
    have k4 := Option.some.inj k2
    subst k3 k4
    exact .inr ⟨T, [u, u2], [z1, z2], hT, e2, e1, rfl, Reps.cons ru (Reps.one ru2)⟩⟩
theorem di_enum {e : Expr} {m : Ex} {p pos tpos : Pos} {elts : List Expr} {kk : Nat} (hm : X.mg "enumerate" = none) (ha : DE X W sx e m) (hg : Gl X "enumerate" := by rfl) (hs : starEach [e] X.env = [(false, eval e X.env)] := by rfl) :
    DI X W sx (.Tuple elts kk tpos) (.Call (.Name "enumerate" p) [e] [] pos) (mIv gEnum [m]) :=
  ti_imp (pi_enumS hg hm (da_cons ha da_nil hs) hs) fun σ H R q => taV_imp (iv_read q) fun vs H1 ⟨ds, F1, l, hn, sm, r, k⟩ => by
    unfold gEnum at hn
    split at hn
    · rename_i d
      obtain ⟨v1, rfl, r1⟩ := rep_ints1 r
      cases qi : items d with
      | none => rw [qi] at hn; cases hn
      | some ds =>
        rw [qi] at hn
        cases hn
        obtain ⟨S, xs, e1, a1, a2, rr⟩ := src_of sm r1 qi
        exact ⟨S, xs, by rw [e1], a2, k _ (it_enum a1 rr)⟩
    · cases hn
theorem di_zip {e e2 : Expr} {m m2 : Ex} {p pos tpos : Pos} {elts : List Expr} {kk : Nat} (hm : X.mg "zip" = none) (ha : DE X W sx e m) (hb : DE X W sx e2 m2) (hg : Gl X "zip" := by rfl)
    (hs : starEach [e, e2] X.env = (false, eval e X.env) :: starEach [e2] X.env := by rfl) (hs2 : starEach [e2] X.env = (false, eval e2 X.env) :: starEach [] X.env := by rfl) (hpl : (backTo pos (starEach [e2] X.env)).any (·.1) = false := by rfl) :
    DI X W sx (.Tuple elts kk tpos) (.Call (.Name "zip" p) [e, e2] [] pos) (mIv gZip [m, m2]) :=
  ti_imp (pi_zipS hg hm (da_cons ha (da_cons hb da_nil hs2) hs) hs hpl) fun σ H R q => taV_imp (iv_read q) fun vs H1 ⟨ds, F1, l, hn, sm, r, k⟩ => by
    unfold gZip at hn
    split at hn
    · rename_i d d2
      obtain ⟨v1, v2, rfl, r1, r2⟩ := rep_ints2 r
      split at hn
      · rename_i l1 l2 q1 q2
        cases hn
        obtain ⟨S, xs, e1, a1, a2, rr⟩ := src_of sm r1 q1
        obtain ⟨S2, ys, e2, b1, b2, rr2⟩ := src_of sm r2 q2
        exact ⟨S, S2, xs, ys, by rw [e1, e2], a2, b2, k _ (it_zip a1 rr b1 rr2)⟩
      · cases hn
    · cases hn
def gRev : D → Option (List D)
  | .list ds => some ds.reverse
  | .tuple ds => some ds.reverse
  | _ => none
def mRev (m : Ex) : Im := fun e => (val m e).bind fun d e1 => match gRev d with
  | some l => .ok l e1
  | none => .no
theorem di_rev {tg e : Expr} {m : Ex} {p pos : Pos} (hm : X.mg "reversed" = none) (he : DE X W sx e m) (hg : Gl X "reversed" := by rfl) (hs : starEach [e] X.env = (false, eval e X.env) :: starEach [] X.env := by rfl) : DI X W sx tg (.Call (.Name "reversed" p) [e] [] pos) (mRev m) := by
  refine ti_imp (RT.pi_revA hg hm he hs) fun σ H R ⟨G, F, ev, S, h⟩ => ?_
  refine te_bind (pI _ G σ R) S h fun d e1 F1 H1 v1 s1 S1 R1 h1 => ?_
  have rv : ∀ {ds : List D} {xs : List V} {i : Nat} {d : D}, Reps X.K F1 ds xs → ds.reverse[i]? = some d → ∃ x, xs[ds.length - 1 - i]? = some x ∧ Rep X.K F1 d x := fun {ds xs i d} r hd => by
    have hi : i < ds.length := by
      have := (List.getElem?_eq_some_iff.mp hd).1
      rwa [List.length_reverse] at this
    rw [List.getElem?_reverse hi] at hd
    exact r.get hd
  cases d with
  | list ds =>
    have R1' : Rep X.K F1 (.list ds) v1 := R1
    unfold Rep at R1'
    obtain ⟨a, xs, ev, hF, r⟩ := R1'
    refine ⟨a, xs, ev, .inl ⟨sqOf (rdUp S1.sub hF), h1 F1 H1 (Same.refl _) S1 _ ⟨fun i H2 s hi => ?_, fun i H2 s hi => ?_, fun i H2 x H3 d s hd y => ?_⟩⟩⟩
    · rw [List.length_reverse] at hi
      have hl := r.length
      exact ⟨by omega, xs, xs[xs.length - 1 - i], sqOf (rdUp s hF), List.getElem?_eq_getElem (by omega)⟩
    · rw [List.length_reverse] at hi
      show xs.length ≤ i
      rw [r.length, hi]; exact Nat.le_refl _
    · obtain ⟨y1, y2⟩ := y
      obtain ⟨z, hz, rz⟩ := rv r hd
      have k := y2 xs (sqOf (rdUp s hF))
      rw [r.length, hz] at k
      cases k
      exact .inl ⟨y1, rz⟩
  | tuple ds =>
    obtain ⟨a, xs, ev, hF, hH, r⟩ := rep_tup S1.sub (show RepT X.K F1 H1 (.tuple ds) v1 from R1)
    refine ⟨a, xs, ev, .inr ⟨hH, h1 F1 H1 (Same.refl _) S1 _ ⟨fun i H2 s hi => ?_, fun i H2 s hi => ?_, fun i H2 x H3 d s hd y => ?_⟩⟩⟩
    · rw [List.length_reverse] at hi
      have hl := r.length
      exact ⟨by omega, xs, xs[xs.length - 1 - i], Src.at_mono (S := .t a) s hF, List.getElem?_eq_getElem (by omega)⟩
    · rw [List.length_reverse] at hi
      show xs.length ≤ i
      rw [r.length, hi]; exact Nat.le_refl _
    · obtain ⟨y1, y2⟩ := y
      obtain ⟨z, hz, rz⟩ := rv r hd
      have k := y2 xs (Src.at_mono (S := .t a) s hF)
      rw [r.length, hz] at k
      cases k
      exact .inl ⟨y1, rz⟩
  | _ => exact h1.elim

/-! ### dicts -/
def gKeys : D → Option (List D)
  | .dict kvs => some (kvs.map (·.1))
  | _ => none
def gItems : D → Option (List D)
  | .dict kvs => some (kvs.map fun p => .tuple [p.1, p.2])
  | _ => none
def gVals : D → Option (List D)
  | .dict kvs => some (kvs.map (·.2))
  | _ => none
/-- a walked value, told by a function -/
def mIg (g : D → Option (List D)) (m : Ex) : Im := fun e => (val m e).bind fun d e1 => match g d with
  | some l => .ok l e1
  | none => .no
theorem repK_at {K : PySem.W.Frag} {F : Hp} : ∀ {kvs : List (D × D)} {kx : List (Key × V)} {i : Nat} {p : D × D}, RepK K F kvs kx → kvs[i]? = some p → ∃ c x, kx[i]? = some (c, x) ∧ p.1 = keyD c ∧ Rep K F p.2 x
  | [], _, _, _, _, h => by simp at h
  | (k, d) :: kvs, _, 0, p, r, h => by
    unfold RepK at r
    obtain ⟨c, x, t, rfl, e, r1, r2⟩ := r
    simp at h
    subst h
    exact ⟨c, x, rfl, e, r1⟩
  | (k, d) :: kvs, _, i + 1, p, r, h => by
    unfold RepK at r
    obtain ⟨c, x, t, rfl, e, r1, r2⟩ := r
    obtain ⟨c', x', h1, h2⟩ := repK_at (i := i) r2 (by simpa using h)
    exact ⟨c', x', by simpa using h1, h2⟩
theorem repK_length {K : PySem.W.Frag} {F : Hp} : ∀ {kvs : List (D × D)} {kx : List (Key × V)}, RepK K F kvs kx → kx.length = kvs.length
  | [], _, r => by unfold RepK at r; subst r; rfl
  | (k, d) :: kvs, _, r => by
    unfold RepK at r
    obtain ⟨c, x, t, rfl, e, r1, r2⟩ := r
    simp [repK_length r2]
theorem rep_key {K : PySem.W.Frag} {F : Hp} {c : Key} (h : ∀ x, c = .inr x → x.length ≤ sizeLine) : Rep K F (keyD c) (kV c) := by
  cases c with
  | inl i => unfold keyD kV Rep; rfl
  | inr x => unfold keyD kV Rep; exact ⟨rfl, h x rfl⟩
/-- the keys' texts are short (as the walk shows them) -/
def keysOk (kvs : List (D × D)) : Bool := kvs.all fun p => match p.1 with
  | .str x => decide (x.length ≤ sizeLine)
  | _ => true
def gD (g : D → Option (List D)) : D → Option (List D)
  | .dict kvs => if keysOk kvs = true then g (.dict kvs) else none
  | _ => none
theorem keysOk_at {kvs : List (D × D)} {i : Nat} {p : D × D} {c : Key} (h : keysOk kvs = true) (hp : kvs[i]? = some p) (e : p.1 = keyD c) : ∀ x, c = .inr x → x.length ≤ sizeLine := fun x ec => by
  have z := List.all_eq_true.mp h p (List.mem_of_getElem? hp)
  subst ec
  rw [e] at z
  exact of_decide_eq_true z
theorem rep_dict {K : PySem.W.Frag} {F : Hp} {kvs : List (D × D)} {v : V} (r : Rep K F (.dict kvs) v) : ∃ a o kx, v = .ref a ∧ F a = some (.frz o (.dK kx)) ∧ RepK K F kvs kx := by
  unfold Rep at r; exact r
theorem di_keys {tg e : Expr} {m : Ex} (he : DE X W sx e m) : DI X W sx tg e (mIg (gD gKeys) m) := by
  refine ti_imp (pi_keys he) fun σ H R ⟨G, F, ev, S, h⟩ => ?_
  refine te_bind (pI _ G σ R) S h fun d e1 F1 H1 v1 s1 S1 R1 h1 => ?_
  cases d with
  | dict kvs =>
    by_cases hk : keysOk kvs = true
    · simp only [gD, if_pos hk, gKeys] at h1
      obtain ⟨a, o, kx, ev, hF, r⟩ := rep_dict R1
      have hl := repK_length r
      refine ⟨a, o, ev, .inl ⟨kx, S1.sub _ _ hF, h1 F1 H1 (Same.refl _) S1 _ ⟨fun i H2 s hi => ⟨s _ _ hF, by rw [List.length_map] at hi; omega⟩, fun i H2 s hi => ⟨s _ _ hF, by rw [List.length_map] at hi; omega⟩, fun i H2 x H3 d s hd ⟨y1, k, v, y2, y3⟩ => ?_⟩⟩⟩
      rw [List.getElem?_map] at hd
      cases hp : kvs[i]? with
      | none => rw [hp] at hd; cases hd
      | some p =>
        rw [hp] at hd
        cases hd
        obtain ⟨c, z, z1, z2, z3⟩ := repK_at r hp
        rw [z1] at y2
        cases y2
        refine .inl ⟨y1, ?_⟩
        subst y3
        show Rep X.K F1 p.1 (kV k)
        rw [z2]
        exact rep_key (keysOk_at hk hp z2)
    · simp only [gD, if_neg hk] at h1; exact h1.elim
  | _ => exact h1.elim
theorem di_items {e : Expr} {m : Ex} {apos cpos tpos : Pos} {elts : List Expr} {kk : Nat} (he : DE X W sx e m) (hbase : attributeBase e "items" X.env (eval e X.env) = eval e X.env := by rfl) (hline : (apos.endLine == cpos.line) = true := by rfl) :
    DI X W sx (.Tuple elts kk tpos) (.Call (.Attribute e "items" apos) [] [] cpos) (mIg (gD gItems) m) := by
  refine ti_imp (pi_items he hbase hline) fun σ H R ⟨G, F, ev, S, h⟩ => ?_
  refine te_bind (pI _ G σ R) S h fun d e1 F1 H1 v1 s1 S1 R1 h1 => ?_
  cases d with
  | dict kvs =>
    by_cases hk : keysOk kvs = true
    · simp only [gD, if_pos hk, gItems] at h1
      obtain ⟨a, o, kx, ev, hF, r⟩ := rep_dict R1
      have hl := repK_length r
      refine ⟨a, o, kx, ev, S1.sub _ _ hF, h1 F1 H1 (Same.refl _) S1 _ ⟨fun i H2 s hi => ⟨s _ _ hF, by rw [List.length_map] at hi; omega⟩, fun i H2 s hi => ⟨s _ _ hF, by rw [List.length_map] at hi; omega⟩, fun i H2 x H3 d s hd ⟨T, k, v, y2, y3, y4, y5⟩ => ?_⟩⟩
      rw [List.getElem?_map] at hd
      cases hp : kvs[i]? with
      | none => rw [hp] at hd; cases hd
      | some p =>
        rw [hp] at hd
        cases hd
        obtain ⟨c, z, z1, z2, z3⟩ := repK_at r hp
        rw [z1] at y2
        have y6 := Option.some.inj y2
        have y7 : c = k := congrArg Prod.fst y6
        have y8 : z = v := congrArg Prod.snd y6
        subst y7 y8
        refine .inr ⟨T, [kV c, z], [p.1, p.2], y4, y5, y3, rfl, Reps.cons ?_ (Reps.one z3)⟩
        rw [z2]
        exact rep_key (keysOk_at hk hp z2)
    · simp only [gD, if_neg hk] at h1; exact h1.elim
  | _ => exact h1.elim
end
end RL

/-! RL12: built-ins and methods as mirrors. -/
namespace RL
open PySem PySem.Spec PyProof.Rows L2

/-! ### lists of one kind -/
def boolsOf : List D → Option (List Bool)
  | [] => some []
  | .bool b :: ds => (boolsOf ds).map (b :: ·)
  | _ :: _ => none
def intsOf : List D → Option (List Int)
  | [] => some []
  | .int b :: ds => (intsOf ds).map (b :: ·)
  | _ :: _ => none
def strsOf : List D → Option (List Str)
  | [] => some []
  | .str b :: ds => (strsOf ds).map (b :: ·)
  | _ :: _ => none
section
variable {K : PySem.W.Frag} {F : Hp}
theorem bools_rep : ∀ {ds : List D} {vs : List V} {bs : List Bool}, Reps K F ds vs → boolsOf ds = some bs → vs = bs.map V.bl
  | [], vs, bs, r, h => by cases h; exact reps_nil r
  | d :: ds, vs, bs, r, h => by
    obtain ⟨x, xs, rfl, r1, r2⟩ := r.uncons
    cases d with
    | bool b =>
      unfold boolsOf at h
      cases q : boolsOf ds with
      | none => rw [q] at h; cases h
      | some cs =>
        rw [q] at h
        cases h
        rw [bools_rep r2 q]
        have e : x = .bl b := r1
        rw [e]; rfl
    | _ => cases h
theorem ints_rep : ∀ {ds : List D} {vs : List V} {bs : List Int}, Reps K F ds vs → intsOf ds = some bs → vs = bs.map V.int
  | [], vs, bs, r, h => by cases h; exact reps_nil r
  | d :: ds, vs, bs, r, h => by
    obtain ⟨x, xs, rfl, r1, r2⟩ := r.uncons
    cases d with
    | int b =>
      unfold intsOf at h
      cases q : intsOf ds with
      | none => rw [q] at h; cases h
      | some cs =>
        rw [q] at h
        cases h
        rw [ints_rep r2 q]
        have e : x = .int b := r1
        rw [e]; rfl
    | _ => cases h
theorem strs_rep : ∀ {ds : List D} {vs : List V} {bs : List Str}, Reps K F ds vs → strsOf ds = some bs → vs = bs.map V.str
  | [], vs, bs, r, h => by cases h; exact reps_nil r
  | d :: ds, vs, bs, r, h => by
    obtain ⟨x, xs, rfl, r1, r2⟩ := r.uncons
    cases d with
    | str b =>
      unfold strsOf at h
      cases q : strsOf ds with
      | none => rw [q] at h; cases h
      | some cs =>
        rw [q] at h
        cases h
        rw [strs_rep r2 q]
        unfold Rep at r1
        rw [r1.1]; rfl
    | _ => cases h
end
/-! ### combining built-ins -/
section
variable {X : Cx} {f : Value} {g g' : List D → Option VR}
theorem OpN.imp (h : OpN X f g) (i : ∀ ds r, g' ds = some r → g ds = some r) : OpN X f g' := by
  obtain ⟨r, hr, hs⟩ := h
  refine ⟨r, hr, fun F H ds vs Q s rr p => hs F H ds vs Q s rr ?_⟩
  cases q : g' ds with
  | none => rw [q] at p; exact p.elim
  | some z => rw [q] at p; rw [i ds z q]; exact p
theorem OpN.or (h : OpN X f g) (h' : OpN X f g') : OpN X f (fun ds => orO (g ds) (g' ds)) := by
  obtain ⟨r, hr, hs⟩ := h
  obtain ⟨r', hr', hs'⟩ := h'
  refine ⟨_, CallR.or hr hr', fun F H ds vs Q s rr p => ?_⟩
  cases q : g ds with
  | none =>
    have p' : OpPost X.K F H Q (orO none (g' ds)) := by rw [← q]; exact p
    exact .inr (hs' F H ds vs Q s rr p')
  | some z =>
    have p' : OpPost X.K F H Q (orO (some z) (g' ds)) := by rw [← q]; exact p
    exact .inl (hs F H ds vs Q s rr (by rw [q]; exact p'))
end
theorem repTs1 {K : PySem.W.Frag} {F H : Hp} {d : D} {vs : List V} (r : RepTs K F H [d] vs) : ∃ v, vs = [v] ∧ RepT K F H d v := by
  obtain ⟨x, xs, e, r1, r2⟩ := r
  have r2' : xs = [] := r2
  subst r2'
  exact ⟨x, e, r1⟩
theorem repTs2 {K : PySem.W.Frag} {F H : Hp} {d d2 : D} {vs : List V} (r : RepTs K F H [d, d2] vs) : ∃ v v2, vs = [v, v2] ∧ RepT K F H d v ∧ RepT K F H d2 v2 := by
  obtain ⟨x, xs, e, r1, r2⟩ := r
  obtain ⟨y, e2, r3⟩ := repTs1 r2
  subst e2
  exact ⟨x, y, e, r1, r3⟩
/-- a built-in of one argument -/
def g1 (g : D → Option VR) : List D → Option VR
  | [d] => g d
  | _ => none
def g2 (g : D → D → Option VR) : List D → Option VR
  | [d, d2] => g d d2
  | _ => none
theorem OpN.of1 {X : Cx} {f : Value} {g : D → Option VR} {r : List V → Hp → VK → Prop} (h : CallR X f r) (s : ∀ F H d v Q, Same F H → RepT X.K F H d v → OpPost X.K F H Q (g d) → r [v] H Q) : OpN X f (g1 g) := by
  refine ⟨r, h, fun F H ds vs Q sm rr p => ?_⟩
  unfold g1 at p
  split at p
  · obtain ⟨v, rfl, r1⟩ := repTs1 rr
    exact s F H _ v Q sm r1 p
  · exact p.elim
theorem OpN.of2 {X : Cx} {f : Value} {g : D → D → Option VR} {r : List V → Hp → VK → Prop} (h : CallR X f r) (s : ∀ F H d d2 v v2 Q, Same F H → RepT X.K F H d v → RepT X.K F H d2 v2 → OpPost X.K F H Q (g d d2) → r [v, v2] H Q) : OpN X f (g2 g) := by
  refine ⟨r, h, fun F H ds vs Q sm rr p => ?_⟩
  unfold g2 at p
  split at p
  · obtain ⟨v, v2, rfl, r1, r2⟩ := repTs2 rr
    exact s F H _ _ v v2 Q sm r1 r2 p
  · exact p.elim

/-! ### len, abs, int, sum, all, any -/
def gLen (d : D) : Option VR := match d with
  | .list ds => some (.v (.int ds.length))
  | .tuple ds => some (.v (.int ds.length))
  | .dict kvs => some (.v (.int kvs.length))
  | .str x => some (.v (.int x.length))
  | _ => none
def gAbs (d : D) : Option VR := match d with
  | .int i => some (.v (.int (if i < 0 then -i else i)))
  | _ => none
def gInt (d : D) : Option VR := match d with
  | .int i => some (.v (.int i))
  | .bool b => some (.v (.int (if b then 1 else 0)))
  | .str x => if x.length ≤ 640 then (PySem.intText? x).map fun n => .v (.int n) else none
  | _ => none
def gBool (d : D) : Option VR := match d with
  | .int i => some (.v (.bool (i != 0)))
  | .bool b => some (.v (.bool b))
  | _ => none
def gSum (d : D) : Option VR := match d with
  | .list ds => (intsOf ds).map fun ns => .v (.int ns.sum)
  | _ => none
def gAll (d : D) : Option VR := match d with
  | .list ds => (boolsOf ds).map fun ns => .v (.bool (ns.all id))
  | _ => none
def gAny (d : D) : Option VR := match d with
  | .list ds => (boolsOf ds).map fun ns => .v (.bool (ns.any id))
  | _ => none
section
variable {X : Cx}
theorem call_lenRd : CallR X (.builtin "len") (fun xs H Q => ∃ a kvs, xs = [V.ref a] ∧ Rd H a (.dK kvs) ∧ Q (.int kvs.length) H) := by
  intro pins s σ H xs us Q I r h
  obtain ⟨a, kvs, rfl, ha, q⟩ := h
  obtain ⟨u, rfl, ru⟩ := vals1 r
  cases ru
  exact d_len I ha fun t s' I' => ⟨.int kvs.length, H, I', ⟨t, rfl⟩, q⟩
theorem b_len : OpN X (.builtin "len") (g1 gLen) := by
  refine OpN.of1 (CallR.or call_len_seq (CallR.or call_len_str call_lenRd)) fun F H d v Q s r p => ?_
  cases d with
  | list ds =>
    obtain ⟨a, xs, e, h, q⟩ := r
    subst e
    exact .inl ⟨a, xs, rfl, .inl (sqOf h), by rw [q.length]; exact post_int p⟩
  | tuple ds =>
    obtain ⟨a, xs, e, _, h, q⟩ := rep_tup s r
    subst e
    exact .inl ⟨a, xs, rfl, .inr h, by rw [q.length]; exact post_int p⟩
  | str x => exact .inr (.inl ⟨x, by rw [(rep_str r).1], (rep_str r).2, post_int p⟩)
  | dict kvs =>
    obtain ⟨a, kx, e, h, q⟩ := r
    subst e
    exact .inr (.inr ⟨a, kx, rfl, h, by rw [repK_length q]; exact post_int p⟩)
  | _ => exact p.elim
theorem b_abs : OpN X (.builtin "abs") (g1 gAbs) := by
  refine OpN.of1 call_abs fun F H d v Q s r p => ?_
  cases d with
  | int i => exact ⟨i, by rw [rep_int r], post_int p⟩
  | _ => exact p.elim
theorem b_int : OpN X (.type "int") (g1 gInt) := by
  refine OpN.of1 (CallR.or call_int1 call_int_str) fun F H d v Q s r p => ?_
  cases d with
  | int i => exact .inl (.inl ⟨i, by rw [rep_int r], post_int p⟩)
  | bool b => exact .inl (.inr ⟨b, by rw [rep_bool r], post_int p⟩)
  | str x =>
    dsimp only [gInt] at p
    by_cases z : x.length ≤ 640
    · rw [if_pos z] at p
      cases q : PySem.intText? x with
      | none => rw [q] at p; exact p.elim
      | some n =>
        rw [q] at p
        exact .inr ⟨x, n, by rw [(rep_str r).1], q, z, post_int p⟩
    · rw [if_neg z] at p; exact p.elim
  | _ => exact p.elim
theorem b_bool : OpN X (.type "bool") (g1 gBool) := by
  refine OpN.of1 call_bool1 fun F H d v Q s r p => ?_
  cases d with
  | int i => exact .inl ⟨i, by rw [rep_int r], post_bool p⟩
  | bool b => exact .inr ⟨b, by rw [rep_bool r], post_bool p⟩
  | _ => exact p.elim
theorem b_sum (hc : X.calm = true) : OpN X (.builtin "sum") (g1 gSum) := by
  refine OpN.of1 (cr_sum hc) fun F H d v Q s r p => ?_
  cases d with
  | list ds =>
    dsimp only [gSum] at p
    cases q : intsOf ds with
    | none => rw [q] at p; exact p.elim
    | some ns =>
      rw [q] at p
      obtain ⟨a, xs, e, h, rr⟩ := r
      subst e
      have e2 := ints_rep rr q
      subst e2
      exact ⟨a, ns, rfl, sqOf h, post_int p⟩
  | _ => exact p.elim
theorem b_all (hc : X.calm = true) : OpN X (.builtin "all") (g1 gAll) := by
  refine OpN.of1 (cr_all hc) fun F H d v Q s r p => ?_
  cases d with
  | list ds =>
    dsimp only [gAll] at p
    cases q : boolsOf ds with
    | none => rw [q] at p; exact p.elim
    | some ns =>
      rw [q] at p
      obtain ⟨a, xs, e, h, rr⟩ := r
      subst e
      have e2 := bools_rep rr q
      subst e2
      exact ⟨a, ns, rfl, sqOf h, post_bool p⟩
  | _ => exact p.elim
theorem b_any (hc : X.calm = true) : OpN X (.builtin "any") (g1 gAny) := by
  refine OpN.of1 (cr_any hc) fun F H d v Q s r p => ?_
  cases d with
  | list ds =>
    dsimp only [gAny] at p
    cases q : boolsOf ds with
    | none => rw [q] at p; exact p.elim
    | some ns =>
      rw [q] at p
      obtain ⟨a, xs, e, h, rr⟩ := r
      subst e
      have e2 := bools_rep rr q
      subst e2
      exact ⟨a, ns, rfl, sqOf h, post_bool p⟩
  | _ => exact p.elim

/-! ### list, tuple of a list or tuple -/
def gList (d : D) : Option VR := match d with
  | .list ds => some (.fl ds)
  | .tuple ds => some (.fl ds)
  | _ => none
def gTuple (d : D) : Option VR := match d with
  | .list ds => some (.v (.tuple ds))
  | .tuple ds => some (.v (.tuple ds))
  | _ => none
theorem b_list : OpN X (.type "list") (g1 gList) := by
  refine OpN.of1 call_list_of fun F H d v Q s r p => ?_
  cases d with
  | list ds =>
    obtain ⟨a, xs, e, h, q⟩ := r
    subst e
    exact ⟨a, xs, rfl, .inl (sqOf h), fun l hl => p l xs hl q⟩
  | tuple ds =>
    obtain ⟨a, xs, e, _, h, q⟩ := rep_tup s r
    subst e
    exact ⟨a, xs, rfl, .inr h, fun l hl => p l xs hl q⟩
  | _ => exact p.elim
theorem b_tuple : OpN X (.type "tuple") (g1 gTuple) := by
  refine OpN.of1 call_tuple_of fun F H d v Q s r p => ?_
  cases d with
  | list ds =>
    obtain ⟨a, xs, e, h, q⟩ := r
    subst e
    exact ⟨a, xs, rfl, .inl ⟨sqOf h, fun l hl => p.2 ds rfl l xs hl q⟩⟩
  | tuple ds =>
    obtain ⟨a, xs, e, h0, h, q⟩ := rep_tup s r
    subst e
    refine ⟨a, xs, rfl, .inr ⟨h, p.1 _ ?_⟩⟩
    unfold Rep
    exact ⟨a, xs, rfl, h0, q⟩
  | _ => exact p.elim
end

/-! ### sorted, min, max -/
def alikeB (ds : List D) : Bool := ds.all fun d => ds.all fun e => PySem.W.alike d e
def sortB (ds : List D) : Bool := (ds.all fun d => match d with
    | .tuple (_ :: _) => true
    | _ => false) || (ds.all fun d => match d with
    | .tuple _ => false
    | .none => false
    | _ => true)
def leB (x y : D) : Bool := PySem.W.dataLe false id x y
def ordOk (ds : List D) : Bool := alikeB ds && plainDs ds && ds.all fun d => decide (d.depth ≤ 60)
def gSorted (d : D) : Option VR := match d with
  | .list ds => if ordOk ds = true ∧ sortB ds = true then some (.fl (ds.mergeSort leB)) else none
  | _ => none
def gMin1 (d : D) : Option VR := match d with
  | .list (x :: xs) => if ordOk (x :: xs) = true ∧ (x :: xs).all (fun d => !isNone d) = true then some (.v (PySem.W.minD x xs)) else none
  | .tuple (x :: xs) => if ordOk (x :: xs) = true ∧ (x :: xs).all (fun d => !isNone d) = true then some (.v (PySem.W.minD x xs)) else none
  | _ => none
def gMax1 (d : D) : Option VR := match d with
  | .list (x :: xs) => if ordOk (x :: xs) = true ∧ (x :: xs).all (fun d => !isNone d) = true then some (.v (PySem.W.maxD x xs)) else none
  | .tuple (x :: xs) => if ordOk (x :: xs) = true ∧ (x :: xs).all (fun d => !isNone d) = true then some (.v (PySem.W.maxD x xs)) else none
  | _ => none
def gMin2 (x y : D) : Option VR := match x, y with
  | .int i, .int j => some (.v (.int (if j < i then j else i)))
  | _, _ => none
def gMax2 (x y : D) : Option VR := match x, y with
  | .int i, .int j => some (.v (.int (if j > i then j else i)))
  | _, _ => none
theorem ordOk_of {ds : List D} (h : ordOk ds = true) : PySem.W.AllAlike ds ∧ plainDs ds = true ∧ ∀ d ∈ ds, d.depth ≤ 60 := by
  unfold ordOk at h
  rw [Bool.and_eq_true, Bool.and_eq_true] at h
  obtain ⟨⟨h1, h2⟩, h3⟩ := h
  refine ⟨fun d hd e he => ?_, h2, fun d hd => of_decide_eq_true (List.all_eq_true.mp h3 d hd)⟩
  exact List.all_eq_true.mp (List.all_eq_true.mp h1 d hd) e he
theorem sortB_of {ds : List D} (h : sortB ds = true) : PySem.W.Sortable ds := by
  unfold sortB at h
  rw [Bool.or_eq_true] at h
  rcases h with h | h
  · refine .inl fun d hd => ?_
    have z := List.all_eq_true.mp h d hd
    split at z
    · exact ⟨_, _, rfl⟩
    · cases z
  · refine .inr fun d hd => ?_
    have z := List.all_eq_true.mp h d hd
    split at z
    · cases z
    · cases z
    · rename_i h1 h2
      exact ⟨h2, fun xs e => h1 xs e⟩
theorem each_of {K : PySem.W.Frag} {F : Hp} : ∀ {ds : List D} {xs : List V} {us : List Value}, Reps K F ds xs → Vals xs us → PySem.W.EachIs (fun u d => ∃ x, RelV x u ∧ Rep K F d x) us ds
  | [], xs, us, r, v => by
    have e := reps_nil r
    subst e
    cases v
    exact .nil
  | d :: ds, xs, us, r, v => by
    obtain ⟨x, xs', rfl, r1, r2⟩ := r.uncons
    cases v with
    | cons v1 v2 => exact .cons ⟨x, v1, r1⟩ (each_of r2 v2)
theorem each_back {K : PySem.W.Frag} {F : Hp} {us : List Value} {ds : List D} (h : PySem.W.EachIs (fun u d => ∃ x, RelV x u ∧ Rep K F d x) us ds) : ∃ ys, Vals ys us ∧ Reps K F ds ys := by
  induction h with
  | nil => exact ⟨[], .nil, Reps.nil⟩
  | cons h1 _ ih =>
    obtain ⟨x, h1, h2⟩ := h1
    obtain ⟨ys, k1, k2⟩ := ih
    exact ⟨x :: ys, .cons h1 k1, Reps.cons h2 k2⟩
theorem plain_mem {ds : List D} : ∀ {d : D}, plainDs ds = true → d ∈ ds → plainD d = true := by
  induction ds with
  | nil => intro d _ h; cases h
  | cons x xs ih =>
    intro d h m
    unfold plainDs at h
    rw [Bool.and_eq_true] at h
    rcases List.mem_cons.mp m with e | m
    · subst e; exact h.1
    · exact ih h.2 m
section
variable {X : Cx}
theorem each_mem2 {α β : Type} {R R' : α → β → Prop} {us : List α} {ds : List β} (h : PySem.W.EachIs R us ds) (i : ∀ u d, d ∈ ds → R u d → R' u d) : PySem.W.EachIs R' us ds := by
  induction h with
  | nil => exact .nil
  | cons h1 _ ih => exact .cons (i _ _ List.mem_cons_self h1) (ih fun u d m r => i u d (List.mem_cons_of_mem _ m) r)
/-- sorted(xs) of alike things -/
def rSortedA (K : PySem.W.Frag) : List V → Hp → VK → Prop := fun vs H Q => ∃ (a : Addr) (xs : List V) (F : Hp) (ds : List D), vs = [V.ref a] ∧ SqL K H a xs ∧ Same F H ∧ Reps K F ds xs ∧ ordOk ds = true ∧ sortB ds = true ∧
  ∀ ys p, Reps K F (ds.mergeSort leB) ys → H p = none → Q (.ref p) (upd H p (.lst ys))
theorem cr_sortedA (hu : X.A.units + 65 < cLine) : CallR X (.builtin "sorted") (rSortedA X.K) := by
  intro pins s σ H vs us Q I r h
  obtain ⟨a, xs, F, ds, rfl, hs, sm, rr, ho, hb, q⟩ := h
  obtain ⟨its, rv, hl, hz⟩ := I.list hs
  rw [Vals.ref1 r]
  obtain ⟨h1, h2, h3⟩ := ordOk_of ho
  have e := each_of rr rv
  have em : ds.map id = ds := List.map_id ds
  refine PySem.W.sorted_data (enc := id) hl.isList e ?_ (by rw [em]; exact h1) (by rw [em]; exact sortB_of hb) (by rw [← rr.length]; exact hz) (fun b hb => by have := h3 b hb; show X.A.units + 2 + b.depth < cLine; omega) fun out ol eo => ?_
  · refine each_mem2 e fun u d m ⟨x, x1, x2⟩ => ?_
    exact Dp.reads I d x u (Rep.dp d x (plain_mem h2 m) (Rep.mono sm _ _ x2)) x1
  · obtain ⟨ys, k1, k2⟩ := each_back eo
    obtain ⟨ep, he'⟩ := PyProof.Rows.sortedAll_at s.heap its out.toArray
    have hlen : ys.length ≤ sizeLine := by
      rw [k2.length, List.length_mergeSort, ← rr.length]; exact hz
    exact ⟨.ref _, upd H (s.heap.objs.size + 1) (.lst ys), I.laid (t' := s.toks) (fun _ _ => PyProof.Rows.sortedAll_old) (Nat.le_succ _) ⟨hlen, out, ep, k1, he'⟩, rfl, q _ _ k2 (I.hok.fresh (Nat.le_succ _))⟩
theorem b_sorted (hu : X.A.units + 65 < cLine) : OpN X (.builtin "sorted") (g1 gSorted) := by
  refine OpN.of1 (cr_sortedA hu) fun F H d v Q s r p => ?_
  cases d with
  | list ds =>
    dsimp only [gSorted] at p
    by_cases z : ordOk ds = true ∧ sortB ds = true
    · rw [if_pos z] at p
      obtain ⟨a, xs, e, h, rr⟩ := r
      subst e
      exact ⟨a, xs, F, ds, rfl, sqOf h, s, rr, z.1, z.2, fun ys q k hq => p q ys hq k⟩
    · rw [if_neg z] at p; exact p.elim
  | _ => exact p.elim
/-- min, max of alike things -/
def rBest (K : PySem.W.Frag) (f : D → List D → D) : List V → Hp → VK → Prop := fun vs H Q => ∃ (a : Addr) (xs : List V) (F : Hp) (d : D) (ds : List D), vs = [V.ref a] ∧ (SqL K H a xs ∨ SqT K H a xs) ∧ Same F H ∧ Reps K F (d :: ds) xs ∧ ordOk (d :: ds) = true ∧ (d :: ds).all (fun d => !isNone d) = true ∧
  ∀ y, Rep K F (f d ds) y → Q y H
theorem alikeAll_of {ds : List D} (h : ordOk ds = true) (hn : ds.all (fun d => !isNone d) = true) : PySem.W.AlikeAll ds := by
  refine ⟨fun x hx y hy => (ordOk_of h).1 x hx y hy, fun x hx e => ?_⟩
  have z := List.all_eq_true.mp hn x hx
  subst e
  cases z
theorem readsAll_of {pins : List (Addr × Obj)} {σ : L2.St} {H F : Hp} {s : Shared} (I : Inv X pins σ H s) (sm : Same F H) {ds : List D} {xs : List V} {us : List Value} (r : Reps X.K F ds xs) (v : Vals xs us) (p : plainDs ds = true) : ∃ as, ReadsAll s.heap us ds as :=
  Dp.readsAll I ds xs us (Reps.dp ds xs p (r.mono sm)) v
theorem depth_all : ∀ {ds : List D}, (∀ d ∈ ds, d.depth ≤ 60) → PyData.depthAll ds ≤ 60
  | [], _ => by unfold PyData.depthAll; omega
  | d :: ds, h => by
    unfold PyData.depthAll
    have h1 := h d List.mem_cons_self
    have h2 := depth_all (ds := ds) fun e m => h e (List.mem_cons_of_mem _ m)
    omega
theorem minD_mem (x : D) : ∀ xs : List D, PySem.W.minD x xs ∈ x :: xs := by
  intro xs
  unfold PySem.W.minD
  have key : ∀ (xs : List D) (a : D), xs.foldl (fun a y => if PySem.W.dataLt y a then y else a) a ∈ a :: xs := by
    intro xs
    induction xs with
    | nil => intro a; exact List.mem_singleton.mpr rfl
    | cons y ys ih =>
      intro a
      rw [List.foldl_cons]
      have := ih (if PySem.W.dataLt y a then y else a)
      rcases List.mem_cons.mp this with e | m
      · rw [e]
        by_cases z : PySem.W.dataLt y a = true
        · rw [if_pos z]; simp
        · rw [if_neg z]; simp
      · exact List.mem_cons_of_mem _ (List.mem_cons_of_mem _ m)
  exact key xs x
theorem maxD_mem (x : D) : ∀ xs : List D, PySem.W.maxD x xs ∈ x :: xs := by
  intro xs
  unfold PySem.W.maxD
  have key : ∀ (xs : List D) (a : D), xs.foldl (fun a y => if PySem.W.dataLt a y then y else a) a ∈ a :: xs := by
    intro xs
    induction xs with
    | nil => intro a; exact List.mem_singleton.mpr rfl
    | cons y ys ih =>
      intro a
      rw [List.foldl_cons]
      have := ih (if PySem.W.dataLt a y then y else a)
      rcases List.mem_cons.mp this with e | m
      · rw [e]
        by_cases z : PySem.W.dataLt a y = true
        · rw [if_pos z]; simp
        · rw [if_neg z]; simp
      · exact List.mem_cons_of_mem _ (List.mem_cons_of_mem _ m)
  exact key xs x
/-- the item that came is the best tree -/
theorem best_is {pins : List (Addr × Obj)} {σ : L2.St} {H F : Hp} {s : Shared} (I : Inv X pins σ H s) (sm : Same F H) {ds : List D} {xs : List V} {us : List Value} (r : Reps X.K F ds xs) (v : Vals xs us) (ho : ordOk ds = true) {b : D} (hb : b ∈ ds) {i : Nat} {u : Value} {h' : Heap} {bs : List Addr}
    (hu : us[i]? = some u) (hr : Reads h' u b bs) (hk : ∀ b o, s.heap.get? b = some o → h'.get? b = some o) : ∃ x, RelV x u ∧ Rep X.K F b x := by
  obtain ⟨x, h1, h2⟩ := vals_back v hu
  obtain ⟨d, h3, h4⟩ := r.getV h1
  have hd := List.mem_of_getElem? h3
  obtain ⟨k1, k2, k3⟩ := ordOk_of ho
  obtain ⟨as, ra⟩ := Dp.reads I d x u (Rep.dp d x (plain_mem k2 hd) (Rep.mono sm _ _ h4)) h2
  have e := PySem.W.alike_unique d b u _ _ (k1 d hd b hb) (PySem.W.reads_keeps hk ra) hr
  subst e
  exact ⟨x, h2, h4⟩
theorem cr_min1 (hc : X.calm = true) (hu : X.A.units + 65 < cLine) : CallR X (.builtin "min") (rBest X.K PySem.W.minD) := by
  intro pins s σ H vs us Q I r h
  obtain ⟨a, xs, F, d, ds, rfl, hs, sm, rr, ho, hn, q⟩ := h
  rw [Vals.ref1 r]
  have hd := depth_all (ordOk_of ho).2.2
  rcases hs with hs | hs
  · obtain ⟨its, rv, hl, hz⟩ := I.list hs
    obtain ⟨as, ra⟩ := readsAll_of I sm rr rv (ordOk_of ho).2.1
    refine PySem.W.min_list_data (I.ok.hd hc) hl.isList ra (alikeAll_of ho hn) (by omega) fun i v h' tk bs hv hr hk => ?_
    obtain ⟨x, h1, h2⟩ := best_is I sm rr rv ho (minD_mem d ds) (by simpa using hv) hr hk
    exact ⟨x, H, I.kept hk, h1, q x h2⟩
  · obtain ⟨its, rv, hl, hz⟩ := I.tuple hs
    obtain ⟨as, ra⟩ := readsAll_of I sm rr rv (ordOk_of ho).2.1
    refine PySem.W.min_tuple_data (I.ok.hd hc) (show s.heap.IsTuple a its.toArray from hl) ra (alikeAll_of ho hn) (by omega) fun i v h' tk bs hv hr hk => ?_
    obtain ⟨x, h1, h2⟩ := best_is I sm rr rv ho (minD_mem d ds) (by simpa using hv) hr hk
    exact ⟨x, H, I.kept hk, h1, q x h2⟩
theorem cr_max1 (hc : X.calm = true) (hu : X.A.units + 65 < cLine) : CallR X (.builtin "max") (rBest X.K PySem.W.maxD) := by
  intro pins s σ H vs us Q I r h
  obtain ⟨a, xs, F, d, ds, rfl, hs, sm, rr, ho, hn, q⟩ := h
  rw [Vals.ref1 r]
  have hd := depth_all (ordOk_of ho).2.2
  rcases hs with hs | hs
  · obtain ⟨its, rv, hl, hz⟩ := I.list hs
    obtain ⟨as, ra⟩ := readsAll_of I sm rr rv (ordOk_of ho).2.1
    refine PySem.W.max_list_data (I.ok.hd hc) hl.isList ra (alikeAll_of ho hn) (by omega) fun i v h' tk bs hv hr hk => ?_
    obtain ⟨x, h1, h2⟩ := best_is I sm rr rv ho (maxD_mem d ds) (by simpa using hv) hr hk
    exact ⟨x, H, I.kept hk, h1, q x h2⟩
  · obtain ⟨its, rv, hl, hz⟩ := I.tuple hs
    obtain ⟨as, ra⟩ := readsAll_of I sm rr rv (ordOk_of ho).2.1
    refine PySem.W.max_tuple_data (I.ok.hd hc) (show s.heap.IsTuple a its.toArray from hl) ra (alikeAll_of ho hn) (by omega) fun i v h' tk bs hv hr hk => ?_
    obtain ⟨x, h1, h2⟩ := best_is I sm rr rv ho (maxD_mem d ds) (by simpa using hv) hr hk
    exact ⟨x, H, I.kept hk, h1, q x h2⟩
def gMin (ds : List D) : Option VR := match ds with
  | [d] => gMin1 d
  | [d, e] => gMin2 d e
  | _ => none
def gMax (ds : List D) : Option VR := match ds with
  | [d] => gMax1 d
  | [d, e] => gMax2 d e
  | _ => none
theorem b_min (hc : X.calm = true) (hu : X.A.units + 65 < cLine) : OpN X (.builtin "min") gMin := by
  refine ⟨_, CallR.or (cr_min1 hc hu) (call_min2 hc), fun F H ds vs Q s r p => ?_⟩
  unfold gMin at p
  split at p
  · rename_i d
    obtain ⟨v, rfl, r1⟩ := repTs1 r
    left
    cases d with
    | list l =>
      cases l with
      | nil => exact p.elim
      | cons x xs =>
        dsimp only [gMin1] at p
        by_cases z : ordOk (x :: xs) = true ∧ (x :: xs).all (fun d => !isNone d) = true
        · rw [if_pos z] at p
          obtain ⟨a, vs, e, h, rr⟩ := r1
          subst e
          exact ⟨a, vs, F, x, xs, rfl, .inl (sqOf h), s, rr, z.1, z.2, fun y ry => p.1 y ry⟩
        · rw [if_neg z] at p; exact p.elim
    | tuple l =>
      cases l with
      | nil => exact p.elim
      | cons x xs =>
        dsimp only [gMin1] at p
        by_cases z : ordOk (x :: xs) = true ∧ (x :: xs).all (fun d => !isNone d) = true
        · rw [if_pos z] at p
          obtain ⟨a, vs, e, _, h, rr⟩ := rep_tup s r1
          subst e
          exact ⟨a, vs, F, x, xs, rfl, .inr h, s, rr, z.1, z.2, fun y ry => p.1 y ry⟩
        · rw [if_neg z] at p; exact p.elim
    | _ => exact p.elim
  · rename_i d e
    obtain ⟨v, u, rfl, r1, r2⟩ := repTs2 r
    cases d <;> cases e <;> try exact p.elim
    case int.int i j => exact .inr ⟨i, j, by rw [rep_int r1, rep_int r2], post_int p⟩
  · exact p.elim
theorem b_max (hc : X.calm = true) (hu : X.A.units + 65 < cLine) : OpN X (.builtin "max") gMax := by
  refine ⟨_, CallR.or (cr_max1 hc hu) (call_max2 hc), fun F H ds vs Q s r p => ?_⟩
  unfold gMax at p
  split at p
  · rename_i d
    obtain ⟨v, rfl, r1⟩ := repTs1 r
    left
    cases d with
    | list l =>
      cases l with
      | nil => exact p.elim
      | cons x xs =>
        dsimp only [gMax1] at p
        by_cases z : ordOk (x :: xs) = true ∧ (x :: xs).all (fun d => !isNone d) = true
        · rw [if_pos z] at p
          obtain ⟨a, vs, e, h, rr⟩ := r1
          subst e
          exact ⟨a, vs, F, x, xs, rfl, .inl (sqOf h), s, rr, z.1, z.2, fun y ry => p.1 y ry⟩
        · rw [if_neg z] at p; exact p.elim
    | tuple l =>
      cases l with
      | nil => exact p.elim
      | cons x xs =>
        dsimp only [gMax1] at p
        by_cases z : ordOk (x :: xs) = true ∧ (x :: xs).all (fun d => !isNone d) = true
        · rw [if_pos z] at p
          obtain ⟨a, vs, e, _, h, rr⟩ := rep_tup s r1
          subst e
          exact ⟨a, vs, F, x, xs, rfl, .inr h, s, rr, z.1, z.2, fun y ry => p.1 y ry⟩
        · rw [if_neg z] at p; exact p.elim
    | _ => exact p.elim
  · rename_i d e
    obtain ⟨v, u, rfl, r1, r2⟩ := repTs2 r
    cases d <;> cases e <;> try exact p.elim
    case int.int i j => exact .inr ⟨i, j, by rw [rep_int r1, rep_int r2], post_int p⟩
  · exact p.elim
end
end RL

/-! RL13: methods, list(range), dict displays, a caught error's fields. -/
namespace RL
open PySem PySem.Spec PyProof.Rows L2

section
variable {X : Cx}
/-! ### methods -/
theorem OpM.of1 {T id : String} {g : D → D → Option VR} {r : V → List V → Hp → VK → Prop} (h : MtR X id r) (s : ∀ F H d d2 v v2 Q, Same F H → RepT X.K F H d v → RepT X.K F H d2 v2 → OpPost X.K F H Q (g d d2) → r v [v2] H Q) :
    OpM X T id (fun d ds => match ds with
      | [e] => g d e
      | _ => none) := by
  refine ⟨r, h, fun F H d ds v vs Q sm rd rr p => ?_⟩
  dsimp only at p
  split at p
  · obtain ⟨v2, rfl, r2⟩ := repTs1 rr
    exact s F H d _ v v2 Q sm rd r2 p
  · exact p.elim
theorem OpM.of0 {T id : String} {g : D → Option VR} {r : V → List V → Hp → VK → Prop} (h : MtR X id r) (s : ∀ F H d v Q, Same F H → RepT X.K F H d v → OpPost X.K F H Q (g d) → r v [] H Q) :
    OpM X T id (fun d ds => match ds with
      | [] => g d
      | _ => none) := by
  refine ⟨r, h, fun F H d ds v vs Q sm rd rr p => ?_⟩
  dsimp only at p
  split at p
  · have e : vs = [] := rr
    subst e
    exact s F H d v Q sm rd p
  · exact p.elim
def m1 (g : D → D → Option VR) (d : D) (ds : List D) : Option VR := match ds with
  | [e] => g d e
  | _ => none
def m0 (g : D → Option VR) (d : D) (ds : List D) : Option VR := match ds with
  | [] => g d
  | _ => none
/-- a text, a text -/
def gSS (f : Str → Str → D) (x y : D) : Option VR := match x, y with
  | .str a, .str b => some (.v (f a b))
  | _, _ => none
def gJoinO (a : Str) (ys : List Str) : Option VR := if (ys.map (·.length)).sum + ys.length * a.length ≤ 16777216 ∧ (Txt.join a ys).length ≤ sizeLine then some (.v (.str (Txt.join a ys))) else none
def gJoin (x y : D) : Option VR := match x, y with
  | .str a, .list ds => (strsOf ds).bind (gJoinO a)
  | .str a, .tuple ds => (strsOf ds).bind (gJoinO a)
  | _, _ => none
theorem p_join : OpM X "str" "str.join" (m1 gJoin) := by
  refine OpM.of1 mt_join fun F H d d2 v v2 Q s r r2 p => ?_
  cases d with
  | str a =>
    cases d2 with
    | list ds =>
      dsimp only [gJoin] at p
      cases q : strsOf ds with
      | none => rw [q] at p; exact p.elim
      | some ys =>
        rw [q, Option.bind_some] at p
        unfold gJoinO at p
        by_cases z : (ys.map (·.length)).sum + ys.length * a.length ≤ 16777216 ∧ (Txt.join a ys).length ≤ sizeLine
        · rw [if_pos z] at p
          obtain ⟨b, xs, e, h, rr⟩ := r2
          have e2 := strs_rep rr q
          subst e e2
          exact ⟨a, b, ys, (rep_str r).1, rfl, .inl (sqOf h), z.1, post_str p z.2⟩
        · rw [if_neg z] at p; exact p.elim
    | tuple ds =>
      dsimp only [gJoin] at p
      cases q : strsOf ds with
      | none => rw [q] at p; exact p.elim
      | some ys =>
        rw [q, Option.bind_some] at p
        unfold gJoinO at p
        by_cases z : (ys.map (·.length)).sum + ys.length * a.length ≤ 16777216 ∧ (Txt.join a ys).length ≤ sizeLine
        · rw [if_pos z] at p
          obtain ⟨b, xs, e, _, h, rr⟩ := rep_tup s r2
          have e2 := strs_rep rr q
          subst e e2
          exact ⟨a, b, ys, (rep_str r).1, rfl, .inr h, z.1, post_str p z.2⟩
        · rw [if_neg z] at p; exact p.elim
    | _ => exact p.elim
  | _ => exact p.elim
theorem p_ss {id : String} {f : Str → Str → V} {g : Str → Str → D} (h : MtR X id (fun x xs H Q => ∃ a b, x = .str a ∧ xs = [.str b] ∧ Q (f a b) H)) (r : ∀ (F : Hp) (a b : Str), Rep X.K F (g a b) (f a b)) : OpM X "str" id (m1 (gSS g)) := by
  refine OpM.of1 h fun F H d d2 v v2 Q s r1 r2 p => ?_
  cases d <;> cases d2 <;> try exact p.elim
  case str.str a b => exact ⟨a, b, (rep_str r1).1, by rw [(rep_str r2).1], p.1 _ (r F a b)⟩
theorem p_count : OpM X "str" "str.count" (m1 (gSS fun a b => .int (Txt.count a b))) := p_ss mt_count fun F a b => by unfold Rep; rfl
theorem p_find : OpM X "str" "str.find" (m1 (gSS fun a b => .int (Txt.find a b))) := p_ss mt_find fun F a b => by unfold Rep; rfl
theorem p_starts : OpM X "str" "str.startswith" (m1 (gSS fun a b => .bool (Txt.startswith a b))) := p_ss mt_startswith fun F a b => by unfold Rep; rfl
theorem p_ends : OpM X "str" "str.endswith" (m1 (gSS fun a b => .bool (Txt.endswith a b))) := p_ss mt_endswith fun F a b => by unfold Rep; rfl
/-- the first place of an equal item -/
def gIndexL (x y : D) : Option VR := match x with
  | .list ds => if flatD y = true ∧ ds.all flatD = true then (ds.findIdx? fun z => PyData.eqv z y).map fun (j : Nat) => .v (.int j) else none
  | _ => none
theorem p_index : OpM X "list" "list.index" (m1 gIndexL) := by
  refine OpM.of1 mt_index fun F H d d2 v v2 Q s r1 r2 p => ?_
  cases d with
  | list ds =>
    dsimp only [gIndexL] at p
    by_cases z : flatD d2 = true ∧ ds.all flatD = true
    · rw [if_pos z] at p
      cases q : ds.findIdx? fun z => PyData.eqv z d2 with
      | none => rw [q] at p; exact p.elim
      | some j =>
        rw [q] at p
        obtain ⟨a, xs, e, h, rr⟩ := r1
        obtain ⟨hj, h1, h2⟩ := List.findIdx?_eq_some_iff_getElem.mp q
        have fl : ∀ {i : Nat} {w : V}, xs[i]? = some w → ∃ u, ds[i]? = some u ∧ RepT X.K F H u w ∧ flatD u = true := fun {i w} hw => by
          obtain ⟨u, hu, ru⟩ := rr.getV hw
          have fu := List.all_eq_true.mp z.2 u (List.mem_of_getElem? hu)
          exact ⟨u, hu, RepT.of_flat fu ru, fu⟩
        obtain ⟨w, hw, rw'⟩ := rr.get (List.getElem?_eq_getElem hj)
        obtain ⟨u, hu, ru, fu⟩ := fl hw
        rw [List.getElem?_eq_getElem hj] at hu
        cases hu
        refine ⟨a, xs, v2, j, w, e, rfl, sqOf h, flat_rep r2 z.1, (flats_rep r2 z.1 rr z.2).1, hw, ?_, fun m z' hm hz' => ?_, post_int p⟩
        · rw [eqV_eqv ru r2 fu z.1]; exact h1
        · obtain ⟨u', hu', ru', fu'⟩ := fl hz'
          have hm' : m < ds.length := Nat.lt_trans hm hj
          rw [List.getElem?_eq_getElem hm'] at hu'
          cases hu'
          rw [eqV_eqv ru' r2 fu' z.1]
          exact Bool.eq_false_iff.mpr (by simpa using h2 m hm)
    · rw [if_neg z] at p; exact p.elim
  | _ => exact p.elim
/-- the first place of a text -/
def gSIndex (x y : D) : Option VR := match x, y with
  | .str a, .str b => match Builtin.Str.occurrences a b 0 a.length 1 with
    | i :: _ => some (.v (.int (i : Nat)))
    | [] => none
  | _, _ => none
theorem p_sindex : OpM X "str" "str.index" (m1 gSIndex) := by
  refine OpM.of1 mt_sindex fun F H d d2 v v2 Q s r1 r2 p => ?_
  cases d <;> cases d2 <;> try exact p.elim
  case str.str a b =>
    dsimp only [gSIndex] at p
    split at p
    · rename_i i rest h
      exact ⟨a, b, i, rest, (rep_str r1).1, by rw [(rep_str r2).1], h, post_int p⟩
    · exact p.elim
end

/-! ### list(range(..)), tuple(range(..)) -/
def gLr (a b : Int) : Option (List D) := if -(2 ^ 62) ≤ a ∧ a < 2 ^ 62 ∧ -(2 ^ 62) ≤ b ∧ b < 2 ^ 62 ∧ (b - a).toNat ≤ 2 ^ 24 then some (rngL a 1 (b - a).toNat) else none
def rgB : List D → Option (Int × Int)
  | [.int j] => some (0, j)
  | [.int i, .int j] => some (i, j)
  | _ => none
def mLr (ms : List Ex) : Ex := fun e => (valsE ms e).bind fun ds e1 => match rgB ds with
  | some (a, b) => match gLr a b with
    | some l => .ok (.fl l) e1
    | none => .no
  | none => .no
def mTr (ms : List Ex) : Ex := fun e => (valsE ms e).bind fun ds e1 => match rgB ds with
  | some (a, b) => match gLr a b with
    | some l => ofO (some (.v (.tuple l))) e1
    | none => .no
  | none => .no
theorem rep_rg {K : PySem.W.Frag} {F : Hp} {a b : Int} : Reps K F (rngL a 1 (b - a).toNat) (rgV a b) := by
  unfold rngL rgV
  exact Reps.map (f := fun (k : Nat) => (PyData.int (a + (k : Int) * 1) : D)) (g := fun k => _) (fun k => by unfold Rep; simp) _
section
variable {X : Cx} {W : WX} {sx : Option (Addr × Value × Option Addr)}
theorem de_lr1 {a : Expr} {m : Ex} {p pos p2 pos2 : Pos} (hc : X.calm = true) (hl : X.mg "list" = none) (hm : X.mg "range" = none) (ha : DE X W sx a m) (hgl : Gl X "list" := by rfl) (hg : Gl X "range" := by rfl) (na : starEach [a] X.env = (false, eval a X.env) :: starEach [] X.env := by rfl)
    (nb : starEach [.Call (.Name "range" p) [a] [] pos] X.env = (false, eval (.Call (.Name "range" p) [a] [] pos) X.env) :: starEach [] X.env := by rfl) : DE X W sx (.Call (.Name "list" p2) [.Call (.Name "range" p) [a] [] pos] [] pos2) (mLr [m]) := by
  refine te_imp (pe_listRg hc hgl hl (prg_1 hg hm ha na) nb) fun σ H Q ⟨G, F, e, S, h⟩ => ?_
  have h' : (pE ⟨X.K, X.mg, W, sx⟩ G σ Q).P F ((val m e).bind fun d e1 => match d with
    | .int j => (match gLr 0 j with
      | some l => .ok (.fl l) e1
      | none => .no)
    | _ => .no) := by
    unfold mLr valsE at h
    rw [bind_bind] at h
    cases q : val m e with
    | no => rw [q] at h; exact h
    | ex c fs e1 => rw [q] at h; exact h
    | ok d e1 =>
      rw [q] at h
      cases d <;> exact h
  refine te_bind (pE _ G σ Q) S h' fun d e1 F1 H1 v1 s1 S1 R1 h1 => ?_
  cases d with
  | int j =>
    have ev : v1 = .int j := R1
    refine ⟨j, ev, ?_⟩
    dsimp only [gLr] at h1
    by_cases z : -(2 ^ 62) ≤ (0 : Int) ∧ (0 : Int) < 2 ^ 62 ∧ -(2 ^ 62) ≤ j ∧ j < 2 ^ 62 ∧ (j - 0).toNat ≤ 2 ^ 24
    · rw [if_pos z] at h1
      exact ⟨z, fun q hq => h1 F1 _ (Same.refl _) (S1.alloc hq) _ ⟨q, rgV 0 j, rfl, upd_same, rep_rg, S1.lone hq⟩⟩
    · rw [if_neg z] at h1; exact h1.elim
  | _ => exact h1.elim

/-! ### a caught error's field -/
def mAttr (c f : Str) (i : Nat) : Ex := fun e => match e[i]? with
  | some (.xc c' fs) => if c' = c then (match fs.lookup f with
    | some d => .ok (.v d) e
    | none => .no) else .no
  | _ => .no
theorem lookup_rep {K : PySem.W.Frag} {F : Hp} {f : Str} : ∀ {fs : List (Str × D)} {xs : List (Str × V)} {d : D}, xs.map (·.1) = fs.map (·.1) → Reps K F (fs.map (·.2)) (xs.map (·.2)) → fs.lookup f = some d → ∃ v, xs.lookup f = some v ∧ Rep K F d v
  | [], xs, d, h1, h2, h => by cases h
  | (n, d0) :: fs, [], d, h1, h2, h => by cases h1
  | (n, d0) :: fs, (n', v0) :: xs, d, h1, h2, h => by
    rw [List.map_cons, List.map_cons] at h1
    obtain ⟨e1, e2⟩ := List.cons.inj h1
    dsimp only at e1
    subst e1
    rw [List.map_cons, List.map_cons] at h2
    obtain ⟨y, ys, ey, r1, r2⟩ := h2.uncons
    obtain ⟨e3, e4⟩ := List.cons.inj ey
    dsimp only at e3
    subst e3
    subst e4
    rw [List.lookup_cons] at h ⊢
    cases q : f == n' with
    | true => rw [q] at h; cases h; exact ⟨v0, rfl, r1⟩
    | false => rw [q] at h; exact lookup_rep e2 r2 h
theorem de_attr {X : Cx} {a C : Addr} {oe : Obj} {cls : Value} {x : Option Addr} {pn : List (Addr × Obj)} {i : Nat} {c f n : Str} {p pos : Pos} (T : XfC X.K C) (hno : PySem.W.findIn X.K (.ref C) f = some none) (hgl : X.mg c = some (.ref C)) (hz : Zc cls x oe) (hf : ∃ vs, oe.data = .fields vs)
    (he : PE (X.suite a ((a, oe) :: pn)) (.Name n p) (tVar i)) (hb : attributeBase (.Name n p) f X.env (eval (.Name n p) X.env) = eval (.Name n p) X.env := by rfl) :
    DE (X.suite a ((a, oe) :: pn)) W (some (a, cls, x)) (.Attribute (.Name n p) f pos) (mAttr c f i) := by
  refine te_imp (pe_xf T hno hz hf he hb) fun σ H Q ⟨G, F, e, S, h⟩ => ?_
  unfold mAttr at h
  cases q : e[i]? with
  | none => rw [q] at h; exact h.elim
  | some s =>
    rw [q] at h
    cases s with
    | xc c' fs =>
      dsimp only at h
      by_cases z : c' = c
      · rw [if_pos z] at h
        subst z
        cases ql : fs.lookup f with
        | none => rw [ql] at h; exact h.elim
        | some d =>
          rw [ql] at h
          obtain ⟨a', cl, dd, h1, h2, h3, h4⟩ := S.xc i c' fs q
          cases h2
          have h3' : X.mg c' = some (.ref cl) := h3
          rw [hgl] at h3'
          cases h3'
          rcases h4 with ⟨z1, _⟩ | ⟨d0, xs, z1, z2, z3, z4⟩
          · subst z1; cases ql
          · obtain ⟨v, k1, k2⟩ := lookup_rep z3 z4 ql
            exact ⟨_, h1, rfl, rfl, d0, xs, v, z1, S.sub _ _ z2, k1, h F H (Same.refl _) S v k2⟩
      · rw [if_neg z] at h; exact h.elim
    | _ => exact h.elim
end

/-! ### dict displays -/
def putD (kvs : List (D × D)) (k : Key) (d : D) : List (D × D) := if (kvs.any fun p => keyIs k p.1) = true then kvs.map (fun p => if keyIs k p.1 = true then (p.1, d) else p) else kvs ++ [(keyD k, d)]
theorem repK_append {K : PySem.W.Frag} {F : Hp} {c : Key} {d : D} {x : V} (r1 : Rep K F d x) : ∀ {kvs : List (D × D)} {kx : List (Key × V)}, RepK K F kvs kx → RepK K F (kvs ++ [(keyD c, d)]) (kx ++ [(c, x)])
  | [], kx, r => by
    unfold RepK at r
    subst r
    show RepK K F ((keyD c, d) :: []) _
    unfold RepK
    exact ⟨c, x, [], rfl, rfl, r1, by unfold RepK; rfl⟩
  | (k, e) :: kvs, kx, r => by
    unfold RepK at r
    obtain ⟨c', x', t, rfl, e', r2, r3⟩ := r
    show RepK K F ((k, e) :: (kvs ++ _)) _
    unfold RepK
    exact ⟨c', x', _, rfl, e', r2, repK_append r1 r3⟩
theorem repK_map {K : PySem.W.Frag} {F : Hp} {c : Key} {d : D} {x : V} (r1 : Rep K F d x) : ∀ {kvs : List (D × D)} {kx : List (Key × V)}, RepK K F kvs kx → RepK K F (kvs.map (fun p => if keyIs c p.1 = true then (p.1, d) else p)) (kx.map fun kv => if kv.1 = c then (kv.1, x) else kv)
  | [], kx, r => by
    unfold RepK at r
    subst r
    show RepK K F [] []
    unfold RepK; rfl
  | (k, e) :: kvs, kx, r => by
    unfold RepK at r
    obtain ⟨c', x', t, rfl, e', r2, r3⟩ := r
    rw [List.map_cons, List.map_cons]
    subst e'
    rw [keyIs_key]
    by_cases z : c' = c
    · simp only [decide_eq_true z, if_true]
      unfold RepK
      exact ⟨c', x, _, by rw [if_pos z], rfl, r1, repK_map r1 r3⟩
    · simp only [decide_eq_false z, Bool.false_eq_true, if_false]
      unfold RepK
      exact ⟨c', x', _, by rw [if_neg z], rfl, r2, repK_map r1 r3⟩
theorem repK_any {K : PySem.W.Frag} {F : Hp} {c : Key} : ∀ {kvs : List (D × D)} {kx : List (Key × V)}, RepK K F kvs kx → (kvs.any fun p => keyIs c p.1) = kx.any fun kv => decide (kv.1 = c)
  | [], kx, r => by unfold RepK at r; subst r; rfl
  | (k, e) :: kvs, kx, r => by
    unfold RepK at r
    obtain ⟨c', x', t, rfl, e', r2, r3⟩ := r
    subst e'
    rw [List.any_cons, List.any_cons, keyIs_key, repK_any r3]
theorem repK_put {K : PySem.W.Frag} {F : Hp} {c : Key} {d : D} {x : V} {kvs : List (D × D)} {kx : List (Key × V)} (r : RepK K F kvs kx) (r1 : Rep K F d x) : RepK K F (putD kvs c d) (putK kx c x) := by
  unfold putD putK
  rw [repK_any (c := c) r]
  by_cases z : (kx.any fun kv => decide (kv.1 = c)) = true
  · rw [if_pos z, if_pos z]; exact repK_map r1 r
  · rw [if_neg z, if_neg z]; exact repK_append r1 r
/-- pairs as they are written, merged -/
def mergeD : List (D × D) → List (D × D) → Option (List (D × D))
  | acc, [] => some acc
  | acc, (k, d) :: r => match keyOf k with
    | some c => mergeD (putD acc c d) r
    | none => none
def pairsE : List (Ex × Ex) → Ev → Re (List (D × D))
  | [], e => .ok [] e
  | (k, v) :: r, e => (val k e).bind fun dk e1 => (val v e1).bind fun dv e2 => (pairsE r e2).bind fun ps e3 => .ok ((dk, dv) :: ps) e3
def mDisp (ps : List (Ex × Ex)) : Ex := fun e => match noEx (pairsE ps e) with
  | .ok kvs e1 => if kvs.length ≤ 15 then (match mergeD [] kvs with
    | some l => .ok (.fd l) e1
    | none => .no) else .no
  | _ => .no
def RepPs (K : PySem.W.Frag) (F : Hp) : List (D × D) → List (V × V) → Prop
  | [], ps => ps = []
  | (k, d) :: r, ps => ∃ x y t, ps = (x, y) :: t ∧ Rep K F k x ∧ Rep K F d y ∧ RepPs K F r t
theorem tp_bind {C : Cw} {G : Gh} {σ : L2.St} {β : Type} (P : Pst C G σ β) : ∀ {ps : List (Ex × Ex)} {F H : Hp} {e : Ev} {f : List (D × D) → Ev → Re β} {Q : List (V × V) → Hp → Prop}, Sim C G F e σ H → P.P F ((pairsE ps e).bind f) →
    (∀ ds e1 F1 H1 vs, Same F F1 → Sim C G F1 e1 σ H1 → RepPs C.K F1 ds vs → P.P F1 (f ds e1) → Q vs H1) → tPairs (ps.map fun p => (teOf C p.1, teOf C p.2)) σ H Q
  | [], F, H, e, f, Q, S, h, k => k [] e F H [] (Same.refl F) S rfl h
  | (a, b) :: ps, F, H, e, f, Q, S, h, k => by
    have h' : P.P F ((val a e).bind fun dk e1 => (val b e1).bind fun dv e2 => (pairsE ps e2).bind fun l e3 => f ((dk, dv) :: l) e3) := by
      have q : (pairsE ((a, b) :: ps) e).bind f = (val a e).bind fun dk e1 => (val b e1).bind fun dv e2 => (pairsE ps e2).bind fun l e3 => f ((dk, dv) :: l) e3 := by
        show ((val a e).bind fun dk e1 => (val b e1).bind fun dv e2 => (pairsE ps e2).bind fun l e3 => Re.ok ((dk, dv) :: l) e3).bind f = _
        rw [bind_bind]
        congr 1
        funext dk e1
        rw [bind_bind]
        congr 1
        funext dv e2
        rw [bind_bind]
        rfl
      rw [← q]; exact h
    refine te_bind P S h' fun dk e1 F1 H1 v1 s1 S1 R1 h1 => ?_
    refine te_bind P S1 h1 fun dv e2 F2 H2 v2 s2 S2 R2 h2 => ?_
    exact tp_bind P S2 h2 fun ds e3 F3 H3 vs s3 S3 R3 h3 => k ((dk, dv) :: ds) e3 F3 H3 _ ((s1.trans s2).trans s3) S3 (show RepPs C.K F3 ((dk, dv) :: ds) _ from ⟨v1, v2, vs, rfl, Rep.mono (s2.trans s3) _ _ R1, Rep.mono s3 _ _ R2, R3⟩) h3
theorem merge_rep {K : PySem.W.Frag} {F : Hp} : ∀ {ps acc l : List (D × D)} {vs : List (V × V)} {kx : List (Key × V)}, RepPs K F ps vs → RepK K F acc kx → mergeD acc ps = some l → ∃ kvs : List (Key × V), vs = kvs.map (fun kv => (kV kv.1, kv.2)) ∧ kvs.length = ps.length ∧ RepK K F l (mergeK kx kvs)
  | [], acc, l, vs, kx, r, ra, h => by
    have e : vs = [] := r
    cases h
    exact ⟨[], e, rfl, ra⟩
  | (k, d) :: ps, acc, l, vs, kx, r, ra, h => by
    obtain ⟨x, y, t, rfl, r1, r2, r3⟩ := r
    unfold mergeD at h
    cases q : keyOf k with
    | none => rw [q] at h; cases h
    | some c =>
      rw [q] at h
      obtain ⟨kvs, h1, h2, h3⟩ := merge_rep r3 (repK_put (c := c) ra r2) h
      refine ⟨(c, y) :: kvs, ?_, by rw [List.length_cons, h2, List.length_cons], h3⟩
      rw [List.map_cons, ← h1]
      have e : x = kV c := by
        cases k <;> cases q
        · have r1' : x = .int _ := r1
          exact r1'
        · unfold Rep at r1; exact r1.1
      rw [e]
section
variable {X : Cx} {W : WX} {sx : Option (Addr × Value × Option Addr)}
abbrev DPs (X : Cx) (W : WX) (sx : Option (Addr × Value × Option Addr)) (pos : Pos) (ks : List (Option Expr)) (vs : List Expr) (ps : List (Ex × Ex)) : Prop := PPs X pos ks vs (ps.map fun p => (teOf ⟨X.K, X.mg, W, sx⟩ p.1, teOf ⟨X.K, X.mg, W, sx⟩ p.2))
theorem dps_nil {pos : Pos} : DPs X W sx pos [] [] [] := pps_nil
theorem dps_cons {pos : Pos} {k v : Expr} {ks : List (Option Expr)} {vs : List Expr} {a b : Ex} {ps : List (Ex × Ex)} (hk : DE X W sx k a) (hv : DE X W sx v b) (r : DPs X W sx pos ks vs ps) : DPs X W sx pos (some k :: ks) (v :: vs) ((a, b) :: ps) := pps_cons hk hv r
theorem de_disp {pos : Pos} {keys : List (Option Expr)} {values : List Expr} {ps : List (Ex × Ex)} (h : DPs X W sx pos keys values ps) (hall : keys.all (·.isSome) = true := by rfl) (hl : keys.length = values.length := by rfl) (h0 : keys ≠ [] := by nofun) (h15 : keys.length ≤ 15 := by decide) : DE X W sx (.Dict keys values pos) (mDisp ps) := by
  refine te_imp (pe_disp h hall hl h0 h15) fun σ H Q ⟨G, F, e, S, q⟩ => ?_
  intro p hp
  unfold mDisp at q
  cases qc : noEx (pairsE ps e) with
  | no => rw [qc] at q; exact q.elim
  | ex c fs e4 => exact absurd qc (by cases pairsE ps e <;> nofun)
  | ok kvs e1 =>
    rw [qc] at q
    dsimp only at q
    have qc' := noEx_ok qc
    by_cases hz : kvs.length ≤ 15
    · rw [if_pos hz] at q
      cases qm : mergeD [] kvs with
      | none => rw [qm] at q; exact q.elim
      | some l =>
        rw [qm] at q
        have l1 := S.lone hp
        have S1 := (S.alloc (o := .dK []) hp).guard (p := p) (o := .dK []) ⟨l1.1, l1.2.1, l1.2.2⟩ upd_same
        have h4 : (pG (α := List (D × D)) ⟨X.K, X.mg, W, sx⟩ (G.guard p (.dK [])) σ fun a e F' H' => a = kvs ∧ e = e1).P F ((pairsE ps e).bind fun a e => .ok a e) := by
          rw [qc']
          exact fun F' H' s' S' => ⟨rfl, rfl⟩
        refine tp_bind _ S1 h4 fun ds e2 F2 H2 vs s2 S2 R2 h2 => ?_
        obtain ⟨rfl, rfl⟩ := h2 F2 H2 (Same.refl _) S2
        obtain ⟨S3, hp3, l3⟩ := S2.unguard l1.2.1 (S.f0p l1.1) (S.noIo l1.2.1)
        obtain ⟨kx, k1, k2, k3⟩ := merge_rep (acc := []) (kx := []) R2 (by unfold RepK; rfl) qm
        refine ⟨hp3, kx, k1, by rw [k2]; exact hz, ?_⟩
        have S4 : Sim ⟨X.K, X.mg, W, sx⟩ G F2 e2 σ (upd H2 p (.dK (mergeK [] kx))) := by
          refine ⟨fun b u w => ?_, S3.f0, S3.len, S3.fz, S3.xc, fun k s w o => ?_, S3.inj, fun b u w hb => ?_, S3.new, fun a ha => ?_⟩
          · have ne : b ≠ p := fun z => by subst z; rw [l3.1] at w; cases w
            rw [upd_ne ne]; exact S3.sub b u w
          · obtain ⟨a, u, y1, y2, y3⟩ := S3.ow k s w o
            have ne : a ≠ p := fun z => by subst z; exact l3.2.2 k s w o y1
            exact ⟨a, u, y1, by rw [upd_ne ne]; exact y2, y3⟩
          · have ne : b ≠ p := fun z => by subst z; rw [l3.2.1] at w; cases w
            rw [upd_ne ne]; exact S3.keep b u w hb
          · obtain ⟨y1, y2, y3⟩ := S3.ios a ha
            have ne : a ≠ p := fun z => by subst z; exact y1 l3.2.1
            exact ⟨y1, by rw [upd_ne ne]; exact y2, y3⟩
        exact q F2 _ s2 S4 _ ⟨p, _, rfl, upd_same, k3, l3⟩
    · rw [if_neg hz] at q; exact q.elim
theorem de_dnew {pos : Pos} : DE X W sx (.Dict [] [] pos) (fun e => .ok (.fd []) e) :=
  te_imp pe_dnewK fun σ H Q ⟨G, F, e, S, q⟩ => fun p hp => q F _ (Same.refl _) (S.alloc hp) _ ⟨p, [], rfl, upd_same, by unfold RepK; rfl, S.lone hp⟩
end
end RL

/-! RL14: parallel assignments that keep new lists owned; an own error's __init__; small helps for the printed proofs. -/
namespace RL
open PySem PySem.Spec PyProof.Rows L2

/-! ### a, b = x, y -/
def valsR : List Ex → Ev → Re (List VR)
  | [], e => .ok [] e
  | m :: ms, e => (m e).bind fun r e1 => (valsR ms e1).bind fun rs e2 => .ok (r :: rs) e2
def newAt (v : V) (r : VR) (a : Addr) : Prop := r.slot.own = true ∧ v = .ref a
def RepRs (C : Cw) (G : Gh) (F H : Hp) (e : Ev) (σ : L2.St) : List V → List VR → Prop
  | [], [] => True
  | v :: vs, r :: rs => RepR C G F H e σ v r ∧ RepRs C G F H e σ vs rs ∧ ∀ a, newAt v r a → ∀ (i : Nat) (w : V) (t : VR), vs[i]? = some w → rs[i]? = some t → ¬ newAt w t a
  | _, _ => False
section
variable {C : Cw} {G : Gh} {F H : Hp} {e : Ev} {σ : L2.St}
theorem RepR.unguard {p : Addr} {o : HO} (h0 : G.H0 p = none) {v : V} : ∀ {r : VR}, RepR C (G.guard p o) F H e σ v r → RepR C G F H e σ v r ∧ ¬ newAt v r p
  | .v d, h => ⟨h, fun z => by cases z.1⟩
  | .fl ds, ⟨a, xs, h1, h2, h3, l1, l2, l3⟩ => by
    have l2' : upd G.H0 p o a = none := l2
    have ne : a ≠ p := fun z => by subst z; rw [upd_same] at l2'; cases l2'
    rw [upd_ne ne] at l2'
    refine ⟨⟨a, xs, h1, h2, h3, l1, l2', l3⟩, fun z => ne ?_⟩
    rw [h1] at z
    exact V.ref.inj z.2
  | .fd ds, ⟨a, xs, h1, h2, h3, l1, l2, l3⟩ => by
    have l2' : upd G.H0 p o a = none := l2
    have ne : a ≠ p := fun z => by subst z; rw [upd_same] at l2'; cases l2'
    rw [upd_ne ne] at l2'
    refine ⟨⟨a, xs, h1, h2, h3, l1, l2', l3⟩, fun z => ne ?_⟩
    rw [h1] at z
    exact V.ref.inj z.2
theorem RepRs.unguard {p : Addr} {o : HO} (h0 : G.H0 p = none) : ∀ {vs : List V} {rs : List VR}, RepRs C (G.guard p o) F H e σ vs rs → RepRs C G F H e σ vs rs ∧ ∀ (i : Nat) (w : V) (t : VR), vs[i]? = some w → rs[i]? = some t → ¬ newAt w t p
  | [], [], _ => ⟨trivial, fun i w t h => by simp at h⟩
  | v :: vs, r :: rs, ⟨h1, h2, h3⟩ => by
    obtain ⟨k1, k2⟩ := RepR.unguard h0 h1
    obtain ⟨k3, k4⟩ := RepRs.unguard h0 h2
    refine ⟨⟨k1, k3, h3⟩, fun i w t hw ht => ?_⟩
    cases i with
    | zero => simp at hw ht; subst hw ht; exact k2
    | succ i => exact k4 i w t (by simpa using hw) (by simpa using ht)
  | [], _ :: _, h => h.elim
  | _ :: _, [], h => h.elim
theorem repR_move {F' H' : Hp} {e' : Ev} (s : Same F F') {v : V} : ∀ {r : VR}, (∀ d, r = .v d → True) → RepR C G F H e σ v r → r.slot.own = false → RepR C G F' H' e' σ v r
  | .v d, _, h, _ => Rep.mono s _ _ h
  | .fl ds, _, _, z => by cases z
  | .fd ds, _, _, z => by cases z
/-- the values from the left, new lists kept -/
theorem tr_bind : ∀ {ms : List Ex} {G : Gh} {F H : Hp} {e : Ev} {rs : List VR} {e' : Ev} {Q : List V → Hp → Prop}, Sim C G F e σ H → valsR ms e = .ok rs e' →
    (∀ F' H' vs, Same F F' → Sim C G F' e' σ H' → RepRs C G F' H' e' σ vs rs → Q vs H') → taV C ms σ H Q
  | [], G, F, H, e, rs, e', Q, S, h, k => by
    cases h
    exact k F H [] (Same.refl F) S trivial
  | m :: ms, G, F, H, e, rs, e', Q, S, h, k => by
    unfold valsR at h
    cases hm : m e with
    | no => rw [hm] at h; cases h
    | ex c fs e1 => rw [hm] at h; cases h
    | ok r e1 =>
      rw [hm] at h
      simp only [Re.bind] at h
      cases hr : valsR ms e1 with
      | no => rw [hr] at h; cases h
      | ex c fs e2 => rw [hr] at h; cases h
      | ok rs' e2 =>
        rw [hr] at h
        cases h
        have h4 : (pG (α := VR) C G σ fun a e F' H' => a = r ∧ e = e1).P F ((m e).bind fun a e => .ok a e) := by
          rw [hm]
          exact fun F' H' s' S' => ⟨rfl, rfl⟩
        refine te_bindR _ S h4 fun r' e1' F1 H1 v1 s1 S1 R1 h1 => ?_
        obtain ⟨rfl, rfl⟩ := h1 F1 H1 (Same.refl _) S1
        cases r' with
        | v d => exact tr_bind S1 hr fun F' H' vs s' S' R' => k F' H' (v1 :: vs) (s1.trans s') S' ⟨Rep.mono s' _ _ R1, R', fun a z => by cases z.1⟩
        | fl ds =>
          obtain ⟨p, xs, ev, hp, rx, l⟩ := R1
          refine tr_bind (S1.guard l hp) hr fun F' H' vs s' S' R' => ?_
          obtain ⟨S2, hp2, l2⟩ := S'.unguard l.2.1 (S1.f0p l.1) (S1.noIo l.2.1)
          obtain ⟨k1, k2⟩ := RepRs.unguard l.2.1 R'
          refine k F' H' (v1 :: vs) (s1.trans s') S2 ⟨⟨p, xs, ev, hp2, rx.mono s', l2⟩, k1, fun a z i w t hw ht => ?_⟩
          have e3 : p = a := V.ref.inj (ev.symm.trans z.2)
          subst e3
          exact k2 i w t hw ht
        | fd ds =>
          obtain ⟨p, xs, ev, hp, rx, l⟩ := R1
          refine tr_bind (S1.guard l hp) hr fun F' H' vs s' S' R' => ?_
          obtain ⟨S2, hp2, l2⟩ := S'.unguard l.2.1 (S1.f0p l.1) (S1.noIo l.2.1)
          obtain ⟨k1, k2⟩ := RepRs.unguard l.2.1 R'
          refine k F' H' (v1 :: vs) (s1.trans s') S2 ⟨⟨p, xs, ev, hp2, RepK.mono s' _ _ rx, l2⟩, k1, fun a z i w t hw ht => ?_⟩
          have e3 : p = a := V.ref.inj (ev.symm.trans z.2)
          subst e3
          exact k2 i w t hw ht
/-- a result stays what it is behind a store of another one -/
theorem RepR.put {i : Nat} {v w : V} {r t : VR} (hi : i < e.length) (S : Sim C G F e σ H) (hv : RepR C G F H e σ v r) (hd : ∀ a, newAt v r a → ¬ newAt w t a) (hw : RepR C G F H e σ w t) : RepR C G F H (e.set i r.slot) (σ.set i (some v)) w t := by
  have hσ : i < σ.length := by rw [← S.len]; exact hi
  have key : ∀ {a : Addr}, newAt w t a → Lone G F e σ a → Lone G F (e.set i r.slot) (σ.set i (some v)) a := fun {a} n l => ⟨l.1, l.2.1, fun j s q o z => by
    rcases set_at q with ⟨z1, z2⟩ | ⟨z1, z2⟩
    · subst z1
      subst z2
      rw [List.getElem?_set_self hσ] at z
      exact hd a ⟨o, Option.some.inj (Option.some.inj z)⟩ n
    · exact l.2.2 j s z2 o (set_get z z1)⟩
  cases t with
  | v d => exact hw
  | fl ds => obtain ⟨a, xs, h1, h2, h3, l⟩ := hw; exact ⟨a, xs, h1, h2, h3, key ⟨rfl, h1⟩ l⟩
  | fd ds => obtain ⟨a, xs, h1, h2, h3, l⟩ := hw; exact ⟨a, xs, h1, h2, h3, key ⟨rfl, h1⟩ l⟩
end
def putR : List Nat → List VR → Ev → Option Ev
  | [], [], e => some e
  | i :: is, r :: rs, e => (putS i r.slot e).bind (putR is rs)
  | _, _, _ => none
def sPar (is : List Nat) (ms : List Ex) : Sm := fun e => match noEx (valsR ms e) with
  | .ok rs e1 => (match putR is rs e1 with
    | some e2 => .ok .nx e2
    | none => .no)
  | _ => .no
section
variable {C : Cw} {G : Gh} {H F : Hp}
theorem gNR_read : ∀ {is : List Nat} {rs : List VR} {vs : List V} {e e' : Ev} {σ : L2.St} {Q : L2.St → Hp → Prop}, Sim C G F e σ H → RepRs C G F H e σ vs rs → putR is rs e = some e' → (∀ σ', Sim C G F e' σ' H → Q σ' H) → gN is vs σ H Q
  | [], [], [], e, e', σ, Q, S, r, h, q => by
    cases h
    exact ⟨rfl, q σ S⟩
  | i :: is, t :: rs, v :: vs, e, e', σ, Q, S, ⟨r1, r2, r3⟩, h, q => by
    unfold putR at h
    cases qp : putS i t.slot e with
    | none => rw [qp] at h; cases h
    | some e1 =>
      rw [qp] at h
      obtain ⟨hl, rfl, _⟩ := putS_some qp
      refine ⟨v, vs, rfl, gNR_read (S.put hl r1) ?_ h q⟩
      have key : ∀ {vs : List V} {rs : List VR}, RepRs C G F H e σ vs rs → (∀ a, newAt v t a → ∀ (i : Nat) (w : V) (t' : VR), vs[i]? = some w → rs[i]? = some t' → ¬ newAt w t' a) → RepRs C G F H (e.set i t.slot) (σ.set i (some v)) vs rs := by
        intro vs
        induction vs with
        | nil =>
          intro rs h1 _
          cases rs with
          | nil => trivial
          | cons r rs => exact h1
        | cons w ws ih =>
          intro rs h1 hd
          cases rs with
          | nil => exact h1
          | cons t' ts =>
            obtain ⟨k1, k2, k3⟩ := h1
            exact ⟨RepR.put hl S r1 (fun a n => hd a n 0 w t' rfl rfl) k1, ih k2 fun a n i w' t'' h1 h2 => hd a n (i + 1) w' t'' (by simpa using h1) (by simpa using h2), k3⟩
      exact key r2 r3
  | [], _ :: _, _, _, _, _, _, _, _, h, _ => by cases h
  | _ :: _, [], _, _, _, _, _, _, _, h, _ => by cases h
  | [], [], _ :: _, _, _, _, _, _, r, _, _ => r.elim
  | _ :: _, _ :: _, [], _, _, _, _, _, r, _, _ => r.elim
theorem putR_length : ∀ {is : List Nat} {rs : List VR} {e e' : Ev}, putR is rs e = some e' → rs.length = is.length
  | [], [], _, _, _ => rfl
  | i :: is, d :: ds, e, e', h => by
    unfold putR at h
    cases q : putS i d.slot e with
    | none => rw [q] at h; cases h
    | some e1 => rw [q] at h; simp [putR_length (is := is) (rs := ds) h]
  | [], _ :: _, _, _, h => by cases h
  | _ :: _, [], _, _, h => by cases h
theorem RepRs.length {σ : L2.St} {e : Ev} : ∀ {vs : List V} {rs : List VR}, RepRs C G F H e σ vs rs → vs.length = rs.length
  | [], [], _ => rfl
  | v :: vs, r :: rs, ⟨_, h, _⟩ => by simp [RepRs.length h]
  | [], _ :: _, h => h.elim
  | _ :: _, [], h => h.elim
theorem RepRs.alloc {σ : L2.St} {e : Ev} {p : Addr} {o : HO} (hp : H p = none) : ∀ {vs : List V} {rs : List VR}, RepRs C G F H e σ vs rs → RepRs C G F (upd H p o) e σ vs rs
  | [], [], _ => trivial
  | v :: vs, r :: rs, ⟨h1, h2, h3⟩ => by
    refine ⟨?_, RepRs.alloc hp h2, h3⟩
    cases r with
    | v d => exact h1
    | fl ds => obtain ⟨a, xs, k1, k2, k3, l⟩ := h1; exact ⟨a, xs, k1, by rw [upd_ne (ne_of_none k2 hp)]; exact k2, k3, l⟩
    | fd ds => obtain ⟨a, xs, k1, k2, k3, l⟩ := h1; exact ⟨a, xs, k1, by rw [upd_ne (ne_of_none k2 hp)]; exact k2, k3, l⟩
  | [], _ :: _, h => h.elim
  | _ :: _, [], h => h.elim
end
section
variable {X : Cx} {W : WX} {sx : Option (Addr × Value × Option Addr)}
theorem par_go {C : Cw} {is : List Nat} {ms : List Ex} {d : Ends} {σ : L2.St} {H : Hp} (q : tsOf C (sPar is ms) d σ H) : taV C ms σ H fun vs H1 => ∃ (G : Gh) (F : Hp) (e e' : Ev) (rs : List VR), Sim C G F e σ H1 ∧ RepRs C G F H1 e σ vs rs ∧ putR is rs e = some e' ∧ ∀ H2 σ', Sim C G F e' σ' H2 → d.nx σ' H2 := by
  obtain ⟨G, F, e, S, h⟩ := q
  unfold sPar at h
  cases qc : noEx (valsR ms e) with
  | no => rw [qc] at h; exact h.elim
  | ex c fs e4 => exact absurd qc (by cases valsR ms e <;> nofun)
  | ok rs e1 =>
    rw [qc] at h
    dsimp only at h
    cases qp : putR is rs e1 with
    | none => rw [qp] at h; exact h.elim
    | some e2 =>
      rw [qp] at h
      exact tr_bind S (noEx_ok qc) fun F' H' vs s' S' R' => ⟨G, F', e1, e2, rs, S', R', qp, fun H2 σ' S2 => h F' σ' H2 s' S2⟩
theorem ds_par {i j : Nat} {x y : Str} {a b : Expr} {ma mb : Ex} {px py pt pos : Pos} {kt k2 : Nat} {pt2 : Pos} (hc : X.calm = true) (hN : X.N.Nodup) (hi : X.N[i]? = some x) (hj : X.N[j]? = some y) (hij : i ≠ j)
    (hx : X.env.scope.names.lookup x = some .local) (hy : X.env.scope.names.lookup y = some .local) (ha : DA X W sx [a, b] [ma, mb])
    (hw : swappedStores [.Tuple [.Name x px, .Name y py] kt pt] (.Tuple [a, b] k2 pt2) X.env = pure (some [x, y]))
    (hs : swapsWithSole [.Tuple [.Name x px, .Name y py] kt pt] (.Tuple [a, b] k2 pt2) pos.line X.env = pure false := by rfl) :
    DS X W sx (.Assign [.Tuple [.Name x px, .Name y py] kt pt] (.Tuple [a, b] k2 pt2) pos) (sPar [i, j] [ma, mb]) := by
  refine ts_imp (ps_par hc hN hi hj hij hx hy ha hw hs) fun d σ H q => ?_
  refine taV_imp (par_go q) fun vs H1 ⟨G, F, e, e', rs, S, R, hp, k⟩ => ?_
  have hl := (RepRs.length R).trans (putR_length hp)
  match vs, rs, R, hl with
  | [v, w], [r, t], R, _ =>
    obtain ⟨_, _, e1, v2, r2, e2, e3, z⟩ := gNR_read (Q := fun σ' H' => d.nx σ' H') S R hp fun σ' S' => k H1 σ' S'
    cases e1
    cases e2
    exact ⟨v, w, rfl, z⟩
/-- .. where the pair is made and taken apart -/
theorem ds_parU {is : List Nat} {tgs es : List Expr} {ms : List Ex} {kt k2 : Nat} {pt pt2 pos : Pos} (hc : X.calm = true) (hg : PG X (.Tuple tgs kt pt) (gTup X.K is.length (gN is))) (ha : DA X W sx es ms) (hs : swapsWithSole [.Tuple tgs kt pt] (.Tuple es k2 pt2) pos.line X.env = pure false := by rfl)
    (hw : swappedStores [.Tuple tgs kt pt] (.Tuple es k2 pt2) X.env = pure none := by rfl) (h1 : (assignEach [.Tuple tgs kt pt] X.env).map (·.2) = [assign (.Tuple tgs kt pt) X.env] := by rfl) (hl : is.length ≤ 1000 := by decide) :
    DS X W sx (.Assign [.Tuple tgs kt pt] (.Tuple es k2 pt2) pos) (sPar is ms) := by
  refine ts_imp (ps_asg (pe_tup ha) hg hs hw h1) fun d σ H q => ?_
  refine taV_imp (par_go q) fun vs H1 ⟨G, F, e, e', rs, S, R, hp, k⟩ => ?_
  have hz := (RepRs.length R).trans (putR_length hp)
  refine ⟨by rw [hz]; exact Nat.le_of_lt (small1000 hl), fun T hT => ?_⟩
  exact ⟨T, vs, rfl, SqT.of upd_same, hz, gNR_read (S.alloc hT) (RepRs.alloc hT R) hp fun σ' S' => k _ σ' S'⟩
end

/-! ### a def that is never called so deep -/
theorem fn_no {P : Program} {w : World} {K : PySem.W.Frag} {mg : Str → Option Value} {base : Heap} {k : Nat} {f : Addr} {fd : FuncData} {ps : List Str} {ms : List Bool} (hl : ms.length = ps.length) : FnOk P w K mg base (L2.CX P w) k f fd ps (spM K mg ms fun _ => .no) :=
  ⟨fun vs H Q E ⟨F, ds, as, _, h, _⟩ => by rw [h.len, hl], fun A outer s H args us vs Q E _ _ _ _ ⟨F, ds, as, _, _, _, h⟩ => h.elim⟩

/-! ### __init__ of an own error -/
theorem heap_put {H : Hp} {a dx : Addr} {u v o : HO} (n : dx ≠ a) : upd (upd (upd H dx u) a o) dx v = upd (upd H dx v) a o := by
  funext b
  by_cases h1 : b = a
  · subst h1; rw [upd_ne n.symm, upd_same, upd_same]
  · by_cases h2 : b = dx
    · subst h2; rw [upd_same, upd_ne h1, upd_same]
    · rw [upd_ne h2, upd_ne h1, upd_ne h2, upd_ne h1, upd_ne h2]
section
variable {P : Program} {w : World} {K : PySem.W.Frag} {mg : Str → Option Value} {base : Heap} {x qual : Str} {params : Arguments} {body : List Stmt} {scope : Scope} {f : Addr} {fd : FuncData}
def tO (K : PySem.W.Frag) (f : Str) (i : Nat) : TS := tOst K f (tVar 0) (tVar i)
theorem init1 {f1 n0 n1 : Str} (Fd : FunD K x qual params body scope [] [] f fd) (S : FnScope [n0, n1] [n0, n1] scope)
    (hb : ∀ (cdv : Value) (A : Around) (outer : List Env) (s : Shared) (H : Hp) (E : XK), PSs (cxOf (L2.CX P w) P w K mg base [n0, n1] qual scope f cdv A outer s H E) body (tO K f1 1)) : FnOk P w K mg base (L2.CX P w) 1 f fd [n0, n1] (spI K [f1]) := by
  refine Fd.ok S (fun vs H Q E h => ?_) (fun cdv A outer s H vs Q E hr h => ⟨_, hb cdv A outer s H E, ?_⟩)
  · obtain ⟨a, C, xs, rfl, hl, _⟩ := h
    simp [hl]
  · obtain ⟨a, C, xs, rfl, hl, oc, na, ha, k⟩ := h
    match xs, hl with
    | [v], _ => exact ⟨v, rfl, .ref a, rfl, a, C, rfl, oc, na f1 (by simp), .inl ⟨ha, fun dx h1 h2 => k dx h1 h2⟩⟩
theorem init2 {f1 f2 n0 n1 n2 : Str} (Fd : FunD K x qual params body scope [] [] f fd) (S : FnScope [n0, n1, n2] [n0, n1, n2] scope)
    (hb : ∀ (cdv : Value) (A : Around) (outer : List Env) (s : Shared) (H : Hp) (E : XK), PSs (cxOf (L2.CX P w) P w K mg base [n0, n1, n2] qual scope f cdv A outer s H E) body (tSeq (tO K f1 1) (tO K f2 2))) : FnOk P w K mg base (L2.CX P w) 1 f fd [n0, n1, n2] (spI K [f1, f2]) := by
  refine Fd.ok S (fun vs H Q E h => ?_) (fun cdv A outer s H vs Q E hr h => ⟨_, hb cdv A outer s H E, ?_⟩)
  · obtain ⟨a, C, xs, rfl, hl, _⟩ := h
    simp [hl]
  · obtain ⟨a, C, xs, rfl, hl, oc, na, ha, k⟩ := h
    match xs, hl with
    | [v1, v2], _ =>
      refine ⟨v1, rfl, .ref a, rfl, a, C, rfl, oc, na f1 (by simp), .inl ⟨ha, fun dx h1 h2 => ?_⟩⟩
      refine ⟨v2, rfl, .ref a, rfl, a, C, rfl, oc, na f2 (by simp), .inr ⟨dx, [(f1, v1)], upd_same, by rw [upd_ne h2, upd_same], by show 1 ≤ 900; decide, ?_⟩⟩
      show Q .non _
      rw [heap_put h2]
      exact k dx h1 h2
theorem init3 {f1 f2 f3 n0 n1 n2 n3 : Str} (Fd : FunD K x qual params body scope [] [] f fd) (S : FnScope [n0, n1, n2, n3] [n0, n1, n2, n3] scope)
    (hb : ∀ (cdv : Value) (A : Around) (outer : List Env) (s : Shared) (H : Hp) (E : XK), PSs (cxOf (L2.CX P w) P w K mg base [n0, n1, n2, n3] qual scope f cdv A outer s H E) body (tSeq (tO K f1 1) (tSeq (tO K f2 2) (tO K f3 3)))) : FnOk P w K mg base (L2.CX P w) 1 f fd [n0, n1, n2, n3] (spI K [f1, f2, f3]) := by
  refine Fd.ok S (fun vs H Q E h => ?_) (fun cdv A outer s H vs Q E hr h => ⟨_, hb cdv A outer s H E, ?_⟩)
  · obtain ⟨a, C, xs, rfl, hl, _⟩ := h
    simp [hl]
  · obtain ⟨a, C, xs, rfl, hl, oc, na, ha, k⟩ := h
    match xs, hl with
    | [v1, v2, v3], _ =>
      refine ⟨v1, rfl, .ref a, rfl, a, C, rfl, oc, na f1 (by simp), .inl ⟨ha, fun dx h1 h2 => ?_⟩⟩
      refine ⟨v2, rfl, .ref a, rfl, a, C, rfl, oc, na f2 (by simp), .inr ⟨dx, [(f1, v1)], upd_same, by rw [upd_ne h2, upd_same], by show 1 ≤ 900; decide, ?_⟩⟩
      show tO K f3 3 _ _ _
      rw [heap_put h2]
      refine ⟨v3, rfl, .ref a, rfl, a, C, rfl, oc, na f3 (by simp), .inr ⟨dx, [(f2, v2), (f1, v1)], upd_same, by rw [upd_ne h2, upd_same], by show 2 ≤ 900; decide, ?_⟩⟩
      show Q .non _
      rw [heap_put h2]
      exact k dx h1 h2
end
end RL

/-! RL15: what the head shows: defs, constants, own errors under a common base. -/
namespace RL
open PySem PySem.Spec PyProof.Rows L2 He

/-! ### own errors -/
def oexB (K : PySem.W.Frag) (C : Addr) : Bool := match K.lookup C with
  | some ⟨.type "type", _, .cls cd, sl⟩ => (match cd.mro, sl.toList with
    | .ref C' :: bm, [_, _, _, _, some (.builtin n), _] => C' == C && n == "ValueError.__new__" && !cd.hasDel && cd.hasDict && PySem.HandSPX.refsVE bm
    | _, _ => false)
  | _ => false
theorem oexB_ok {K : PySem.W.Frag} {C : Addr} (q : oexB K C = true) : ∃ nm qn N bs bm sn sub ab col dd k0 k1 k2 k3 k5,
    K.lookup C = some (PySem.excClassObj nm qn C N bs bm true sn sub ab col dd k0 k1 k2 k3 k5 "ValueError.__new__") ∧ PySem.HandSPX.refsVE bm = true := by
  unfold oexB at q
  split at q
  · rename_i dd cd sl ho
    split at q
    · rename_i C' bm k0 k1 k2 k3 n k5 hm hs
      simp only [Bool.and_eq_true, beq_iff_eq, Bool.not_eq_true'] at q
      obtain ⟨⟨⟨⟨rfl, rfl⟩, hdel⟩, hd1⟩, ht⟩ := q
      obtain ⟨nm, bs, mro, ns, qn, hd, sn, sub, ab, col, del⟩ := cd
      dsimp only at hm hdel hd1
      subst hm hdel hd1
      have hsl : sl = #[k0, k1, k2, k3, some (.builtin "ValueError.__new__"), k5] := by
        obtain ⟨l⟩ := sl
        simp only at hs
        rw [hs]
      subst hsl
      exact ⟨nm, qn, ns, bs, bm, sn, sub, ab, col, dd, k0, k1, k2, k3, k5, ho, ht⟩
    · cases q
  · cases q
def isV (a : Option Value) (b : Value) : Bool := match a with
  | some v => v == b
  | none => false
/-- one own error: its name, its fields -/
def errB (K : PySem.W.Frag) (c : Str) (fns : List Str) : Bool :=
  eqO (PySem.W.nsIn K mainGlobals c) (some (some (.ref (ga K c)))) && (oexB K (ga K c) && (eqO (PySem.W.findIn K (.ref (ga K c)) "__setattr__") (some (some (.builtin "object.__setattr__"))) && (xfB K (ga K c) && (decide (PySem.W.typeIn K (.ref (ga K c)) = some (.type "type")) &&
  (PySem.W.keepIn K (.ref (ga K c)) && ((fns.all fun f => eqO (PySem.W.findIn K (.ref (ga K c)) f) (some none)) && (eqO (PySem.W.findIn K (.ref (ga K c)) "__init__") (some (some (.ref (ma K (ga K c) "__init__")))) && decide (PySem.W.typeIn K (.ref (ma K (ga K c) "__init__")) = some (.type "function")))))))))
structure ErrK (K : PySem.W.Frag) (mg : Str → Option Value) (c : Str) (C fI : Addr) (fns : List Str) : Prop where
  gl : mg c = some (.ref C)
  ox : OexC K C
  xf : XfC K C
  na : ∀ f ∈ fns, PySem.W.findIn K (.ref C) f = some none
  ini : PySem.W.findIn K (.ref C) "__init__" = some (some (.ref fI))
  ty : PySem.W.typeIn K (.ref fI) = some (.type "function")
theorem errB_ok {K : PySem.W.Frag} {h : Heap} {mg : Str → Option Value} {c : Str} {fns : List Str} (X : K.In h) (G : h.Ns mainGlobals mg) (q : errB K c fns = true) : ErrK K mg c (ga K c) (ma K (ga K c) "__init__") fns := by
  unfold errB at q
  obtain ⟨q1, q⟩ := ba q
  obtain ⟨q2, q⟩ := ba q
  obtain ⟨q3, q⟩ := ba q
  obtain ⟨q4, q⟩ := ba q
  obtain ⟨q5, q⟩ := ba q
  obtain ⟨q6, q⟩ := ba q
  obtain ⟨q7, q⟩ := ba q
  obtain ⟨q8, q9⟩ := ba q
  have T := xfB_ok q4
  exact ⟨PySem.W.mg_of X G (eqO_ok q1), ⟨oexB_ok q2, eqO_ok q3, T.exC, of_decide_eq_true q5, q6⟩, T, fun f hf => eqO_ok (List.all_eq_true.mp q7 f hf), eqO_ok q8, of_decide_eq_true q9⟩
/-- all of them; and which one an except clause of another one takes -/
def exmB (K : PySem.W.Frag) (es : List Str) : Bool := es.all fun x => es.all fun y => decide (PySem.W.exmOne K (.ref (ga K x)) (.ref (ga K y)) = some (decide (x = y)))
/-- no list stands in the written part -/
def noLst (K : PySem.W.Frag) : Bool := K.all fun p => !(p.2.cls == Value.type "list")
def moreB (es : List (Str × List Str)) (K : PySem.W.Frag) : Bool := ((es.all fun p => errB K p.1 p.2) && exmB K (es.map (·.1))) && noLst K
theorem mem_lk {α : Type} : ∀ {l : List (Addr × α)} {a : Addr} {o : α}, l.lookup a = some o → (a, o) ∈ l
  | (b, u) :: l, a, o, h => by
    rw [List.lookup_cons] at h
    cases q : a == b with
    | true =>
      rw [q] at h
      cases h
      rw [show a = b from beq_iff_eq.mp q]
      exact List.mem_cons_self
    | false =>
      rw [q] at h
      exact List.mem_cons_of_mem _ (mem_lk h)
theorem noLst_ok {K : PySem.W.Frag} (h : noLst K = true) {H : Hp} {a : Addr} {xs : List V} (s : SqL K H a xs) : Rd H a (.lst xs) := by
  rcases s with s | ⟨o, its, n, h1, h2, _⟩
  · exact s
  · have m : (a, o) ∈ K := mem_lk h1
    have z := List.all_eq_true.mp h _ m
    rw [show ((a, o) : Addr × Obj).2.cls = Value.type "list" from h2] at z
    cases z

/-! ### the Hook -/
def obsR (fa : List Fa) (fn : List DefD) (es : List (Str × List Str)) (K : PySem.W.Frag) : AlD := (((fa.all fun f => f.ok K) && fn.all fun d => d.ok K) && moreB es K, fn.map fun d => fnW K d.at_)
def SaysR (fa : List Fa) (fn : List DefD) (es : List (Str × List Str)) (K : PySem.W.Frag) : Prop := obsR fa fn es K = valD fn
def obsRG (n : Nat) (fa : List Fa) (fn : List DefD) (es : List (Str × List Str)) (g : Addr → Option Obj) : AlD := obsR fa fn es (frG g (asD g n))
def hookR (n : Nat) (fa : List Fa) (fn : List DefD) (es : List (Str × List Str)) : PySem.W.Hook where
  α := AlD
  obs := fun s => obsRG n fa fn es s.heap.get?
  val := fun _ => valD fn
  says := fun _ h => ∃ K : PySem.W.Frag, K.In h ∧ SaysR fa fn es K
  of := fun _ _ e => ⟨_, frG_in, e⟩
  keeps := fun _ _ _ ⟨K, hK, c⟩ k => ⟨K, PySem.W.Frag.In.keeps hK k, c⟩
theorem obsRG_eq {n : Nat} {fa : List Fa} {fn : List DefD} {es : List (Str × List Str)} {g : Addr → Option Obj} {s : Shared} (h : ∀ a, g a = s.heap.get? a) : obsRG n fa fn es g = (hookR n fa fn es).obs s := by
  have e : g = s.heap.get? := funext h
  rw [e] <;> rfl
section
variable {fa : List Fa} {fn : List DefD} {es : List (Str × List Str)} {K : PySem.W.Frag}
theorem SaysR.all (c : SaysR fa fn es K) : (fa.all fun f => f.ok K) = true ∧ (fn.all fun d => d.ok K) = true ∧ moreB es K = true := by
  obtain ⟨h1, h2⟩ := ba (show (((fa.all fun f => f.ok K) && fn.all fun d => d.ok K) && moreB es K) = true from congrArg (fun z : AlD => z.1) c)
  obtain ⟨h3, h4⟩ := ba h1
  exact ⟨h3, h4, h2⟩
theorem SaysR.fact (c : SaysR fa fn es K) (i : Nat) {f : Fa} (h : fa[i]? = some f := by rfl) : f.ok K = true := List.all_eq_true.mp c.all.1 f (List.mem_of_getElem? h)
theorem SaysR.def_ (c : SaysR fa fn es K) (i : Nat) {d : DefD} (h : fn[i]? = some d := by rfl) : ∃ fd, FunD K d.name d.qual d.params d.body d.scope (d.dvs K) (d.kws K) (fAd K d.at_) fd := by
  have e : fn.map (fun d => fnW K d.at_) = fn.map DefD.val := congrArg (fun z : AlD => z.2) c
  have e2 : (fn.map fun d => fnW K d.at_)[i]? = (fn.map DefD.val)[i]? := by rw [e]
  rw [List.getElem?_map, List.getElem?_map, h] at e2
  exact DefD.funD (Option.some.inj e2) (List.all_eq_true.mp c.all.2.1 d (List.mem_of_getElem? h))
theorem SaysR.err (c : SaysR fa fn es K) (i : Nat) {p : Str × List Str} (h : es[i]? = some p := by rfl) : errB K p.1 p.2 = true := List.all_eq_true.mp (ba (ba c.all.2.2).1).1 p (List.mem_of_getElem? h)
theorem SaysR.exm (c : SaysR fa fn es K) {x y : Str} (hx : x ∈ es.map (·.1)) (hy : y ∈ es.map (·.1)) : PySem.W.exmOne K (.ref (ga K x)) (.ref (ga K y)) = some (decide (x = y)) :=
  of_decide_eq_true (List.all_eq_true.mp (List.all_eq_true.mp (ba (ba c.all.2.2).1).2 x hx) y hy)
theorem SaysR.nl (c : SaysR fa fn es K) : noLst K = true := (ba c.all.2.2).2
end
/-- the def of a global -/
structure Df (K : PySem.W.Frag) (mg : Str → Option Value) (x : Str) (params : Arguments) (body : List Stmt) (scope : Scope) where
  a : Addr
  d : FuncData
  F : FunD K x x params body scope [] [] a d
  g : mg x = some (.ref a)
/-- .. of a class -/
structure Dm (K : PySem.W.Frag) (mg : Str → Option Value) (c : Str) (qual : Str) (params : Arguments) (body : List Stmt) (scope : Scope) (fns : List Str) where
  C : Addr
  a : Addr
  d : FuncData
  F : FunD K "__init__" qual params body scope [] [] a d
  e : ErrK K mg c C a fns
theorem df_of {fa : List Fa} {fn : List DefD} {es : List (Str × List Str)} {K : PySem.W.Frag} {h : Heap} {mg : Str → Option Value} (X : K.In h) (G : h.Ns mainGlobals mg) (c : SaysR fa fn es K) {x : Str} {params : Arguments} {body : List Stmt} {scope : Scope} (i j : Nat)
    (hi : fn[i]? = some ⟨(x, none), x, x, params, body, scope, [], []⟩) (hj : fa[j]? = some (.glo x)) : Nonempty (Df K mg x params body scope) := by
  obtain ⟨fd, F⟩ := c.def_ i hi
  exact ⟨⟨_, fd, F, glo_ok X G (c.fact j hj)⟩⟩
theorem dm_of {fa : List Fa} {fn : List DefD} {es : List (Str × List Str)} {K : PySem.W.Frag} {h : Heap} {mg : Str → Option Value} (X : K.In h) (G : h.Ns mainGlobals mg) (c : SaysR fa fn es K) {x qual : Str} {params : Arguments} {body : List Stmt} {scope : Scope} {fns : List Str} (i j : Nat)
    (hi : fn[i]? = some ⟨(x, some "__init__"), "__init__", qual, params, body, scope, [], []⟩) (hj : es[j]? = some (x, fns)) : Nonempty (Dm K mg x qual params body scope fns) := by
  obtain ⟨fd, F⟩ := c.def_ i hi
  exact ⟨⟨_, _, fd, F, errB_ok X G (c.err j hj)⟩⟩
theorem Dm.xc {P : Program} {w : World} {K : PySem.W.Frag} {mg : Str → Option Value} {base : Heap} {c qual : Str} {params : Arguments} {body : List Stmt} {scope : Scope} {fns ps : List Str} (T : Dm K mg c qual params body scope fns) (b : Binds K T.d ps []) (F : FnOk P w K mg base (L2.CX P w) 1 T.a T.d ps (spI K fns)) : XcOk P w K mg base c T.C fns :=
  ⟨T.e.gl, T.e.ox, T.e.na, ⟨T.a, T.d, ps, T.e.ini, T.e.ty, b, F⟩⟩
end RL

/-! RL16: small helps for the printed derivations. -/
namespace RL
open PySem PySem.Spec PyProof.Rows L2

theorem bt_len : bootBuiltins "len" = some (.builtin "len") := by decide +kernel
theorem bt_abs : bootBuiltins "abs" = some (.builtin "abs") := by decide +kernel
theorem bt_sum : bootBuiltins "sum" = some (.builtin "sum") := by decide +kernel
theorem bt_all : bootBuiltins "all" = some (.builtin "all") := by decide +kernel
theorem bt_any : bootBuiltins "any" = some (.builtin "any") := by decide +kernel
theorem bt_sorted : bootBuiltins "sorted" = some (.builtin "sorted") := by decide +kernel
theorem bt_min : bootBuiltins "min" = some (.builtin "min") := by decide +kernel
theorem bt_max : bootBuiltins "max" = some (.builtin "max") := by decide +kernel
theorem bt_int : bootBuiltins "int" = some (.type "int") := by decide +kernel
theorem bt_str : bootBuiltins "str" = some (.type "str") := by decide +kernel
theorem bt_bool : bootBuiltins "bool" = some (.type "bool") := by decide +kernel
theorem bt_list : bootBuiltins "list" = some (.type "list") := by decide +kernel
theorem bt_tuple : bootBuiltins "tuple" = some (.type "tuple") := by decide +kernel
theorem bt_dict : bootBuiltins "dict" = some (.type "dict") := by decide +kernel
theorem bt_set : bootBuiltins "set" = some (.type "set") := by decide +kernel
theorem hu {k : Nat} {A : Around} (r : Room k A) : A.units + 65 < cLine := by have := r.un; omega
theorem tks_nil : ∀ t ∈ ([] : List String), TyK t := fun t h => by cases h
theorem tks_cons {t : String} {ts : List String} (h : TyK t) (r : ∀ u ∈ ts, TyK u) : ∀ u ∈ t :: ts, TyK u := fun u m => by
  rcases List.mem_cons.mp m with e | m
  · subst e; exact h
  · exact r u m
def sRetN : Sm := fun e => .ok (.rt (.v .none)) e
def sBk : Sm := fun e => .ok .bk e
def sCt : Sm := fun e => .ok .ct e
def gNeg (d : D) : Option VR := match d with
  | .int i => some (.v (.int (-i)))
  | _ => none
def mNeg (o : Opd) : Ex := fun e => (o.ev e).bind fun h e1 => match h.res e1 with
  | some d => ofO (gNeg d) e1
  | none => .no
section
variable {X : Cx} {W : WX} {sx : Option (Addr × Value × Option Addr)}
theorem de_gint {x : Str} {i : Int} {pos : Pos} (h : ∃ t, X.mg x = some (.int i t)) (hg : Gl X x := by rfl) (hd : (x == ("__debug__" : Str)) = false := by decide) : DE X W sx (.Name x pos) (mC (.int i)) := by
  obtain ⟨t, h⟩ := h
  exact de_glob (v := .int i) hg h ⟨t, rfl⟩ (fun F => by unfold Rep; rfl) hd
theorem de_gstr {x z : Str} {pos : Pos} (h : ∃ t, X.mg x = some (.str z t)) (hz : z.length ≤ sizeLine := by decide) (hg : Gl X x := by rfl) (hd : (x == ("__debug__" : Str)) = false := by decide) : DE X W sx (.Name x pos) (mC (.str z)) := by
  obtain ⟨t, h⟩ := h
  exact de_glob (v := .str z) hg h ⟨t, rfl⟩ (fun F => by unfold Rep; exact ⟨rfl, hz⟩) hd
theorem de_neg {a : Expr} {o : Opd} {pos : Pos} (ha : DO X W sx a o) : DE X W sx (.UnaryOp .USub a pos) (mNeg o) := by
  refine te_imp (pe_un un_neg ha) fun σ H Q ⟨G, F, e, S, h⟩ => ?_
  refine teO_bind (pE _ G σ Q) S h fun x e1 F1 H1 v1 s1 S1 R1 h1 => ?_
  cases qx : x.res e1 with
  | none => rw [qx] at h1; exact h1.elim
  | some d =>
    rw [qx] at h1
    have r := S1.res R1 qx
    cases d with
    | int i => exact ⟨i, rep_int r, h1 F1 H1 (Same.refl _) S1 _ (by show Rep X.K F1 (.int (-i)) _; unfold Rep; rfl)⟩
    | _ => exact h1.elim
theorem nm_err {x : Str} {C : Addr} (h : X.mg x = some (.ref C)) (hg : Gl X x := by rfl) (hd : (x == ("__debug__" : Str)) = false := by decide) : Names X x (.ref C) := ⟨hg, hd, .inl h⟩
theorem tells_of {L : List Str} {x : Str} {C : Addr} (tl : ∀ x y, x ∈ L → y ∈ L → ∀ a b, X.mg x = some (.ref a) → X.mg y = some (.ref b) → PySem.W.exmOne X.K (.ref a) (.ref b) = some (decide (x = y))) (h : X.mg x = some (.ref C)) (hx : x ∈ L) : Tells X L x (.ref C) :=
  fun c hc cl hcl => tl c x hc hx cl C hcl h
end
theorem kwB_of {K : PySem.W.Frag} {x qual : Str} {params : Arguments} {body : List Stmt} {scope : Scope} {f : Addr} {fd : FuncData} {ps ks : List Str} {p : List Nat} (F : FunD K x qual params body scope [] [] f fd)
    (h : ∀ (kV doc pm : Value) (an : Option Addr) (cdv ct : Value) (ws us : List Value), ws.length = ks.length → pick p ws = some us → bindArgs (PySem.W.fnOf x qual params body scope .none kV doc pm an cdv ct) ⟨[], ks.zip ws⟩ = pure (ps.zip us)) : KwB K fd ps ks p := by
  obtain ⟨oc, od, dV, kV, doc, pm, an, cdv, ct, osl, rfl, lk, hcd, hD, hK⟩ := F.ex
  rcases hD with ⟨_, rfl⟩ | ⟨e, _⟩
  · exact ⟨fun s ws us _ hl hp => .of_eq (h kV doc pm an cdv ct ws us hl hp)⟩
  · exact absurd rfl e
theorem tl_of {fa : List He.Fa} {fn : List He.DefD} {es : List (Str × List Str)} {K : PySem.W.Frag} {h : Heap} {mg : Str → Option Value} (X : K.In h) (Y : h.Ns mainGlobals mg) (c : SaysR fa fn es K) {L : List Str} (e : L = es.map (·.1)) :
    ∀ x y, x ∈ L → y ∈ L → ∀ a b, mg x = some (.ref a) → mg y = some (.ref b) → PySem.W.exmOne K (.ref a) (.ref b) = some (decide (x = y)) := by
  subst e
  intro x y hx hy a b ha hb
  have key : ∀ z, z ∈ es.map (·.1) → mg z = some (.ref (He.ga K z)) := fun z hz => by
    obtain ⟨p, hp, rfl⟩ := List.mem_map.mp hz
    exact (errB_ok X Y (List.all_eq_true.mp (He.ba (He.ba c.all.2.2).1).1 p hp)).gl
  have h1 := (key x hx).symm.trans ha
  have h2 := (key y hy).symm.trans hb
  cases h1
  cases h2
  exact c.exm hx hy
/-! ### a law's end -/
theorem walk_w {l : PySem.W.OpenLaw} {n k : Nat} {q : Program} {loose : List Str} {XP : (Str → Option Value) → Heap → Prop} {YP : World → Heap → Prop} {d : DefRec} {CX : World → CXT} {x : Str}
    (hn : l.most = some n) (hn2 : n ≤ sizeLine) (hdf : d.params.defaults = []) (hr : Room k callerA)
    (F : ∀ (w : World) (mg : Str → Option Value) (fa : Addr) (h : Heap), YP w h → h.Ns mainGlobals mg → mg d.name = some (.ref fa) →
      ∃ (K : PySem.W.Frag) (fd : FuncData) (sp : Sp), K.In h ∧ (∀ (s : Shared) (u : Value), BindsTo s fd ⟨[u], []⟩ [(x, u)]) ∧
        (∀ (H : Hp) (a : Addr) (ns : List Int), ns.length ≤ n → SqL K H a (ns.map V.int) → sp [.ref a] H (fun v _ => v = .bl true) fun _ _ _ => False) ∧
        ∀ base : Heap, K.In base → base.Ns mainGlobals mg → FnOk l.prog w K mg base (CX w) k fa fd [x] sp)
    (hCX : ∀ (w : World) (H : Hp) (s : Shared) (e : Value) (s' : Shared), CX w [] H s (fun _ _ _ => False) e s' → False) :
    PySem.W.WalkO q loose XP YP l.row.toRowW d [] (fun f vs => PySem.call f vs) := by
  refine Att.attach_call hn hdf fun w s₀ s₁ mg mb fa o pm cd doc a vs ns G Y ho hd hcd hmg hobj hints hlen hg => ?_
  obtain ⟨K, fd, sp, KX, hb, hsp, hF⟩ := F w mg fa _ Y G.T.g hmg
  exact law_call KX G.T.g G.T.b G.T.builtins G.T.nolimit hg hobj hints (Nat.le_trans hlen hn2) hr hF hb (fun H _ hS => hsp H a ns hlen hS) fun H e s' => hCX w H s₁ e s'
theorem cx_no {P : Program} {w : World} {outer : List Env} {H : Hp} {s : Shared} {e : Value} {s' : Shared} (h : L2.CX P w outer H s (fun _ _ _ => False) e s') : False := by
  obtain ⟨_, _, _, _, _, _, _, _, _, _, _, _, z⟩ := h
  exact z

theorem ints_reps {K : PySem.W.Frag} {F : Hp} (ns : List Int) : Reps K F (ns.map PyData.int) (ns.map V.int) := Reps.map (f := fun i => (PyData.int i : D)) (g := V.int) (fun i => by unfold Rep; rfl) ns
theorem law_sp {K : PySem.W.Frag} {mg : Str → Option Value} {f : MF} {H : Hp} {a : Addr} {ns : List Int} (nl : noLst K = true) (hS : SqL K H a (ns.map V.int)) (hf : f [.list (ns.map .int)] = .ok (.v (.bool true)) []) :
    spM K mg [false] f [.ref a] H (fun v _ => v = .bl true) fun _ _ _ => False := by
  refine ⟨H, [.list (ns.map .int)], [], Same.refl H, ⟨_, [], .ref a, [], rfl, rfl, ?_, rfl, rfl, rfl⟩, List.nodup_nil, ?_⟩
  · unfold Rep
    exact ⟨a, _, rfl, noLst_ok nl hS, ints_reps ns⟩
  · rw [hf]
    intro F' H' v g o rf
    exact rf
end RL

/-! RL17: loops of mirrors, in plain Lean. -/
namespace RL
open PySem

/-! ### comprehensions -/
def stepC (own : List Nat) (t : Tg) (cond : Ev → Re Bool) (elt : Ex) (d : D) (e : Ev) : Re (Option D) := match t.put d (wipeE e own) with
  | none => .no
  | some e1 => (noEx (cond e1)).bind fun b e2 => if b = true then (noEx (val elt e2)).bind fun y e3 => .ok (some y) (backE e e3 own) else .ok none (backE e e2 own)
theorem lcL_cons {own : List Nat} {t : Tg} {cond : Ev → Re Bool} {elt : Ex} {d : D} {ds acc : List D} {e : Ev} : lcL own t cond elt (d :: ds) acc e = (stepC own t cond elt d e).bind fun o e1 => lcL own t cond elt ds (acc ++ o.toList) e1 := by
  rw [show lcL own t cond elt (d :: ds) acc e = (match t.put d (wipeE e own) with
    | none => .no
    | some e1 => (noEx (cond e1)).bind fun b e2 => if b = true then (noEx (val elt e2)).bind fun y e3 => lcL own t cond elt ds (acc ++ [y]) (backE e e3 own) else lcL own t cond elt ds acc (backE e e2 own)) from by conv => { lhs; unfold lcL }; try rfl]
  unfold stepC
  cases t.put d (wipeE e own) with
  | none => rfl
  | some e1 =>
    dsimp only
    cases noEx (cond e1) with
    | no => rfl
    | ex c fs e2 => rfl
    | ok b e2 =>
      simp only [Re.bind]
      cases b with
      | false => simp
      | true =>
        simp only [if_true]
        cases noEx (val elt e2) <;> simp [Option.toList]
/-- the environment stays -/
theorem lcL_pure {own : List Nat} {t : Tg} {cond : Ev → Re Bool} {elt : Ex} {e : Ev} (out : D → Option D) : ∀ {ds acc : List D}, (∀ d ∈ ds, stepC own t cond elt d e = .ok (out d) e) → lcL own t cond elt ds acc e = .ok (acc ++ ds.filterMap out) e
  | [], acc, _ => by unfold lcL; simp
  | d :: ds, acc, h => by
    rw [lcL_cons, h d List.mem_cons_self]
    simp only [Re.bind]
    rw [lcL_pure out fun x hx => h x (List.mem_cons_of_mem _ hx), List.filterMap_cons]
    cases out d <;> simp [Option.toList]
theorem mLc_pure {own : List Nat} {t : Tg} {it : Im} {cond : Ev → Re Bool} {elt : Ex} {e e1 : Ev} {ds : List D} (out : D → Option D) (hi : it e = .ok ds e1) (hp : plainE e1 own = true) (hl : ds.length < sizeLine) (h : ∀ d ∈ ds, stepC own t cond elt d e1 = .ok (out d) e1) :
    mLc own t it cond elt e = .ok (.fl (ds.filterMap out)) e1 := by
  unfold mLc
  rw [hi]
  simp only [Re.bind]
  rw [if_pos ⟨hp, hl⟩, lcL_pure out h]
  simp
/-- .. with a state -/
theorem lcL_inv {own : List Nat} {t : Tg} {cond : Ev → Re Bool} {elt : Ex} (P : List D → Ev → Prop) : ∀ {ds acc : List D} {e : Ev}, P acc e → (∀ acc e, ∀ d ∈ ds, P acc e → ∃ o e1, stepC own t cond elt d e = .ok o e1 ∧ P (acc ++ o.toList) e1) →
    ∃ l e1, lcL own t cond elt ds acc e = .ok l e1 ∧ P l e1
  | [], acc, e, h, _ => ⟨acc, e, by unfold lcL; rfl, h⟩
  | d :: ds, acc, e, h, k => by
    obtain ⟨o, e1, h1, h2⟩ := k acc e d List.mem_cons_self h
    rw [lcL_cons, h1]
    exact lcL_inv P h2 fun acc e x hx => k acc e x (List.mem_cons_of_mem _ hx)
theorem mLc_inv {own : List Nat} {t : Tg} {it : Im} {cond : Ev → Re Bool} {elt : Ex} {e e1 : Ev} {ds : List D} (P : List D → Ev → Prop) (hi : it e = .ok ds e1) (hp : plainE e1 own = true) (hl : ds.length < sizeLine) (h0 : P [] e1)
    (h : ∀ acc e, ∀ d ∈ ds, P acc e → ∃ o e1, stepC own t cond elt d e = .ok o e1 ∧ P (acc ++ o.toList) e1) : ∃ l e2, mLc own t it cond elt e = .ok (.fl l) e2 ∧ P l e2 := by
  obtain ⟨l, e2, h1, h2⟩ := lcL_inv P h0 h
  refine ⟨l, e2, ?_, h2⟩
  unfold mLc
  rw [hi]
  simp only [Re.bind]
  rw [if_pos ⟨hp, hl⟩, h1]

/-! ### for -/
theorem forL_inv {t : Tg} {body : Sm} (P : Nat → Ev → Prop) : ∀ {ds : List D} {e : Ev} {n : Nat}, P n e → (∀ (i : Nat) (d : D) (e : Ev), ds[i]? = some d → P (n + i) e → ∃ e1 e2, t.put d e = some e1 ∧ body e1 = .ok .nx e2 ∧ P (n + i + 1) e2) →
    ∃ e1, forL t body ds e = .ok .nx e1 ∧ P (n + ds.length) e1
  | [], e, n, h, _ => ⟨e, by unfold forL; rfl, h⟩
  | d :: ds, e, n, h, k => by
    obtain ⟨e1, e2, h1, h2, h3⟩ := k 0 d e rfl h
    unfold forL
    rw [h1]
    dsimp only
    rw [h2]
    dsimp only
    obtain ⟨e3, h4, h5⟩ := forL_inv (n := n + 1) P h3 fun i d' e' hi hp => by
      have := k (i + 1) d' e' (by simpa using hi) (by rw [show n + (i + 1) = n + 1 + i by omega]; exact hp)
      rw [show n + (i + 1) + 1 = n + 1 + i + 1 by omega] at this
      exact this
    exact ⟨e3, h4, by rw [List.length_cons, show n + (ds.length + 1) = n + 1 + ds.length by omega]; exact h5⟩
theorem sFor_inv {t : Tg} {it : Im} {body : Sm} {e e1 : Ev} {ds : List D} (P : Nat → Ev → Prop) (hi : it e = .ok ds e1) (h0 : P 0 e1) (h : ∀ (i : Nat) (d : D) (e : Ev), ds[i]? = some d → P i e → ∃ e1 e2, t.put d e = some e1 ∧ body e1 = .ok .nx e2 ∧ P (i + 1) e2) :
    ∃ e2, sFor t it body e = .ok .nx e2 ∧ P ds.length e2 := by
  obtain ⟨e2, h1, h2⟩ := forL_inv (n := 0) P h0 fun i d e hd hp => by
    rw [Nat.zero_add] at hp ⊢
    exact h i d e hd hp
  refine ⟨e2, ?_, by rw [Nat.zero_add] at h2; exact h2⟩
  unfold sFor
  rw [hi]
  exact h1
/-- .. by a fold -/
theorem sFor_fold {α : Type} {t : Tg} {it : Im} {body : Sm} {e : Ev} {ds : List D} (env : Nat → α → Ev) (nxt : α → D → α) {a : α} (hi : it e = .ok ds (env 0 a)) (h : ∀ (i : Nat) (d : D) (a : α), ds[i]? = some d → ∃ e1, t.put d (env i a) = some e1 ∧ body e1 = .ok .nx (env (i + 1) (nxt a d))) :
    sFor t it body e = .ok .nx (env ds.length (ds.foldl nxt a)) := by
  obtain ⟨e2, h1, h2⟩ := sFor_inv (t := t) (body := body) (fun i e => e = env i ((ds.take i).foldl nxt a)) hi (by simp) fun i d e hd hp => by
    subst hp
    obtain ⟨e1, h1, h2⟩ := h i d _ hd
    refine ⟨e1, _, h1, h2, ?_⟩
    have hlt := (List.getElem?_eq_some_iff.mp hd).1
    have e3 : ds.take (i + 1) = ds.take i ++ [d] := by
      rw [List.take_add_one, hd]
      rfl
    rw [e3, List.foldl_append]
    rfl
  rw [h1, h2, List.take_length]

/-! ### while -/
theorem whL_inv {t : Ex} {body : Sm} (P : Nat → Ev → Prop) : ∀ {n m : Nat} {e : Ev}, m < n → P m e → (∀ m e, P m e → (∃ e1, mT t e = .ok false e1 ∧ P 0 e1 ∧ m = 0) ∨ ∃ e1 e2 k, mT t e = .ok true e1 ∧ body e1 = .ok .nx e2 ∧ m = k + 1 ∧ P k e2) → ∃ e1, whL t body n e = .ok .nx e1 ∧ P 0 e1
  | 0, m, e, h, _, _ => absurd h (Nat.not_lt_zero m)
  | n + 1, m, e, hm, hp, k => by
    unfold whL
    rcases k m e hp with ⟨e1, h1, h2, _⟩ | ⟨e1, e2, j, h1, h2, h3, h4⟩
    · rw [h1]
      exact ⟨e1, rfl, h2⟩
    · rw [h1]
      simp only [Re.bind]
      rw [h2]
      dsimp only
      exact whL_inv P (by omega) h4 k
end RL

/-! RL18: helps for the plain laws. -/
namespace RL
open PySem PySem.Spec PyProof.Rows L2

theorem sWhile_inv {t : Ex} {body : Sm} {n m : Nat} {e : Ev} (P : Nat → Ev → Prop) (hm : m < n) (hp : P m e) (k : ∀ m e, P m e → (∃ e1, mT t e = .ok false e1 ∧ P 0 e1 ∧ m = 0) ∨ ∃ e1 e2 k, mT t e = .ok true e1 ∧ body e1 = .ok .nx e2 ∧ m = k + 1 ∧ P k e2) :
    ∃ e1, sWhile n t body e = .ok .nx e1 ∧ P 0 e1 := whL_inv P hm hp k
/-! ### items at a place -/
theorem at0 {α : Type} {a : α} {l : List α} : atI (a :: l) 0 = some a := by
  unfold atI ixN
  simp
theorem ixN_nat {n k : Nat} (h : k < n) : ixN n (k : Int) = some k := by
  unfold ixN
  rw [if_pos (Int.natCast_nonneg k), if_pos (by exact_mod_cast h), Int.toNat_natCast]
theorem atI_nat {α : Type} {l : List α} {k : Nat} {a : α} (h : l[k]? = some a) : atI l (k : Int) = some a := by
  unfold atI
  rw [ixN_nat (List.getElem?_eq_some_iff.mp h).1, Option.bind_some, h]
theorem at1 {α : Type} {a b : α} {l : List α} : atI (a :: b :: l) 1 = some b := atI_nat (k := 1) rfl
theorem at2 {α : Type} {a b c : α} {l : List α} : atI (a :: b :: c :: l) 2 = some c := atI_nat (k := 2) rfl
theorem at3 {α : Type} {a b c d : α} {l : List α} : atI (a :: b :: c :: d :: l) 3 = some d := atI_nat (k := 3) rfl
theorem ix0 {n : Nat} : ixN (n + 1) 0 = some 0 := ixN_nat (k := 0) (by omega)
theorem ix3 {n : Nat} : ixN (n + 4) 3 = some 3 := ixN_nat (k := 3) (by omega)
theorem rg1 : List.range 1 = [0] := rfl
theorem rg2 : List.range 2 = [0, 1] := rfl
theorem ix04 : ixN 4 0 = some 0 := rfl
theorem ix34 : ixN 4 3 = some 3 := rfl
theorem log2_lt {i : Int} {k : Nat} (h0 : 0 ≤ i) (h : i < 2 ^ k) : i.natAbs.log2 < k ∨ i = 0 := by
  by_cases z : i = 0
  · exact .inr z
  · left
    have h2 : i.natAbs < 2 ^ k := by
      have : (i.natAbs : Int) < ((2 ^ k : Nat) : Int) := by rw [Int.natAbs_of_nonneg h0]; exact_mod_cast h
      exact_mod_cast this
    exact (Nat.log2_lt (by omega)).mpr h2
theorem log2_le {i : Int} {k : Nat} (h0 : 0 ≤ i) (h : i < 2 ^ k) : i.natAbs.log2 ≤ k := by
  rcases log2_lt h0 h with z | z
  · omega
  · subst z; simp
/-! ### flat data -/
def flatP (d : D) : Prop := d.canLay0 = true ∧ d.depth = 0
theorem flat_none : flatP .none := ⟨by unfold PyData.canLay0; rfl, by unfold PyData.depth; rfl⟩
theorem flat_bool {b : Bool} : flatP (.bool b) := ⟨by unfold PyData.canLay0; rfl, by unfold PyData.depth; rfl⟩
theorem flat_int {i : Int} : flatP (.int i) := ⟨by unfold PyData.canLay0; rfl, by unfold PyData.depth; rfl⟩
theorem flat_str {s : Str} (h : PyData.strOk s = true) : flatP (.str s) := ⟨by unfold PyData.canLay0; exact h, by unfold PyData.depth; rfl⟩
theorem layAll_flat : ∀ {ds : List D}, (∀ d ∈ ds, flatP d) → PyData.canLayAll0 ds = true ∧ PyData.depthAll ds = 0
  | [], _ => ⟨rfl, rfl⟩
  | d :: ds, h => by
    obtain ⟨h1, h2⟩ := layAll_flat fun x hx => h x (List.mem_cons_of_mem _ hx)
    obtain ⟨h3, h4⟩ := h d List.mem_cons_self
    unfold PyData.canLayAll0 PyData.depthAll
    rw [h1, h2, h3, h4]
    exact ⟨rfl, rfl⟩
theorem shaped_list {ds : List D} (h : ∀ d ∈ ds, flatP d) : SeqAt.shaped (.list ds) = true := by
  obtain ⟨h1, h2⟩ := layAll_flat h
  unfold SeqAt.shaped PyData.canLay0 PyData.depth
  rw [h1, h2]
  rfl
theorem shaped_tuple {ds : List D} (h : ∀ d ∈ ds, flatP d) : SeqAt.shaped (.tuple ds) = true := by
  obtain ⟨h1, h2⟩ := layAll_flat h
  unfold SeqAt.shaped PyData.canLay0 PyData.depth
  rw [h1, h2]
  rfl
theorem shaped_nil : SeqAt.shaped (.list []) = true := shaped_list (by simp)
theorem eqv_nil {ds : List D} : PyData.eqv (.list ds) (.list []) = ds.isEmpty := by
  unfold PyData.eqv
  cases ds <;> rfl
theorem eqvAll_nil {ds : List D} : PyData.eqvAll ds [] = ds.isEmpty := by cases ds <;> rfl
/-- xs != [] -/
theorem gNe_nil {ds : List D} (h : ∀ d ∈ ds, flatP d) : gNe (.list ds) (.list []) = some (.v (.bool (!ds.isEmpty))) := by
  unfold gNe gEqv
  rw [shaped_list h, shaped_nil, eqv_nil]
  simp
theorem gEq_nil {ds : List D} (h : ∀ d ∈ ds, flatP d) : gEq (.list ds) (.list []) = some (.v (.bool ds.isEmpty)) := by
  unfold gEq gEqv
  rw [shaped_list h, shaped_nil, eqv_nil]
  simp
/-! ### lists of naturals -/
def natL (l : List Nat) : List D := l.map fun (i : Nat) => .int (i : Int)
theorem natL_length (l : List Nat) : (natL l).length = l.length := by simp [natL]
theorem natL_flat {l : List Nat} : ∀ d ∈ natL l, flatP d := by
  intro d h
  obtain ⟨i, _, rfl⟩ := List.mem_map.mp h
  exact flat_int
theorem natL_shaped {l : List Nat} : SeqAt.shaped (.list (natL l)) = true := shaped_list natL_flat
theorem natL_isEmpty {l : List Nat} : (natL l).isEmpty = l.isEmpty := by cases l <;> rfl
theorem seqIdx {d n : Nat} (h : d < n) : seqIndex? (d : Int) n = some d := by
  rw [seqIndex_of (Int.natCast_nonneg d) (by exact_mod_cast h), Int.toNat_natCast]
theorem natL_get {l : List Nat} {d : Nat} (h : d < l.length) : (natL l)[d]? = some (.int ((l.getD d 0 : Nat) : Int)) := by
  unfold natL
  rw [List.getElem?_map, List.getElem?_eq_getElem h, List.getD_eq_getElem?_getD, List.getElem?_eq_getElem h]
  rfl
theorem natL_erase {l : List Nat} {d : Nat} : (natL l).eraseIdx d = natL (l.eraseIdx d) := by
  unfold natL
  rw [List.eraseIdx_eq_take_drop_succ, List.eraseIdx_eq_take_drop_succ, List.map_append, List.map_take, List.map_drop]
theorem natL_app {l : List Nat} {d : Nat} : natL l ++ [.int (d : Int)] = natL (l ++ [d]) := by simp [natL]
theorem rngL_nat {n : Nat} : rngL 0 1 n = natL (List.range n) := by
  unfold rngL natL
  exact List.map_congr_left fun k _ => by simp
theorem small_size {n : Nat} (h : n < 1000) : n < sizeLine := by
  have : 1000 ≤ sizeLine := by decide
  omega
theorem gLr_nat {n : Nat} (h : n < 1000) : gLr 0 (n : Int) = some (natL (List.range n)) := by
  unfold gLr
  rw [if_pos (by omega), rngL_nat, show ((n : Int) - 0).toNat = n by omega]
theorem mLr_of {ms : List Ex} {e e1 : Ev} {ds l : List D} {a b : Int} (hv : valsE ms e = .ok ds e1) (hr : rgB ds = some (a, b)) (hl : gLr a b = some l) : mLr ms e = .ok (.fl l) e1 := by
  unfold mLr
  rw [hv]
  simp only [Re.bind]
  rw [hr]
  dsimp only
  rw [hl]
theorem mLr_v {i n : Nat} {e : Ev} (h : e[i]? = some (.fz (.int (n : Int)))) (hn : n < 1000) : mLr [mV i] e = .ok (.fl (natL (List.range n))) e :=
  mLr_of (ds := [.int (n : Int)]) (a := 0) (b := n) (by simp only [valsE, Re.bind, mV, val, h, VR.d]) rfl (gLr_nat hn)
theorem gRng1_nat {n : Nat} (h : n < 1000) : gRng1 [.int (n : Int)] = some (natL (List.range n)) := by
  have e : gRng1 [.int (n : Int)] = if -(2 ^ 62) ≤ (n : Int) ∧ (n : Int) < 2 ^ 62 then some (rngL 0 1 (n : Int).toNat) else none := rfl
  rw [e, if_pos (by omega), Int.toNat_natCast, rngL_nat]
theorem mIv_of {g : List D → Option (List D)} {ms : List Ex} {e e1 : Ev} {ds l : List D} (hv : valsE ms e = .ok ds e1) (hl : g ds = some l) : mIv g ms e = .ok l e1 := by
  unfold mIv
  rw [hv]
  simp only [Re.bind]
  rw [hl]
theorem perm_move {l f : List Nat} {j : Nat} (h : j < l.length) : (l.eraseIdx j ++ (f ++ [l.getD j 0])).Perm (l ++ f) := by
  have e : l.getD j 0 = l[j] := by rw [List.getD_eq_getElem?_getD, List.getElem?_eq_getElem h]; rfl
  rw [e]
  have p : (l[j] :: l.eraseIdx j).Perm l := by
    rw [List.eraseIdx_eq_take_drop_succ]
    have e2 : l = l.take j ++ l[j] :: l.drop (j + 1) := by rw [List.getElem_cons_drop, List.take_append_drop]
    conv => rhs; rw [e2]
    exact List.perm_middle.symm
  refine (List.Perm.append_left _ (List.perm_append_comm (l₁ := f))).trans ?_
  rw [← List.append_assoc]
  refine List.Perm.append_right f ?_
  exact List.perm_append_comm.trans p
end RL

/-! RL19: texts of 0 and 1. -/
namespace RL
open PySem PySem.Spec PyProof.Rows L2

def bitN (b : Bool) : Nat := if b = true then 49 else 48
def bitS (l : List Bool) : Str := ⟨(l.map bitN).toArray⟩
theorem bitN_inj {a b : Bool} (h : bitN a = bitN b) : a = b := by
  revert h; revert a b; decide
theorem bitS_inj {l k : List Bool} (h : bitS l = bitS k) : l = k := by
  have h1 : (l.map bitN).toArray = (k.map bitN).toArray := congrArg Str.cps h
  have h2 : l.map bitN = k.map bitN := by simpa using h1
  exact List.map_inj_right (fun a b h => bitN_inj h) |>.mp h2
theorem bitS_len {l : List Bool} : (bitS l).length = l.length := by simp [bitS, Str.length]
theorem bitS_cps {l : List Bool} : (bitS l).cps.toList = l.map bitN := by simp [bitS]
theorem bitS_app {l k : List Bool} : bitS l ++ bitS k = bitS (l ++ k) := by
  show Str.append _ _ = _
  unfold Str.append bitS
  simp
theorem bitS_ok {l : List Bool} : PyData.strOk (bitS l) = true := by
  unfold PyData.strOk bitS
  simp
  exact ⟨fun _ => by decide, fun _ => by decide⟩
theorem bit0 : ("0" : Str) = bitS [false] := by decide +kernel
theorem bit1 : ("1" : Str) = bitS [true] := by decide +kernel
theorem bit01 : ("01" : Str) = bitS [false, true] := by decide +kernel
theorem bitE : ("" : Str) = bitS [] := by decide +kernel
theorem bitS_chr {b : Bool} : (⟨#[bitN b]⟩ : Str) = bitS [b] := rfl
theorem bitS_items {l : List Bool} : items (.str (bitS l)) = some (l.map fun b => .str (bitS [b])) := by
  unfold items
  dsimp only
  rw [bitS_cps, List.map_map]
  rfl
theorem bitS_eqv {l k : List Bool} : PyData.eqv (.str (bitS l)) (.str (bitS k)) = decide (l = k) := by
  unfold PyData.eqv
  rw [Bool.eq_iff_iff]
  simp only [beq_iff_eq, decide_eq_true_eq]
  exact ⟨bitS_inj, fun h => by rw [h]⟩
theorem ix_bit {l : List Bool} {i : Nat} (h : i < l.length) : gIx (.str (bitS l)) (.int (i : Int)) = some (.v (.str (bitS [l.getD i false]))) := by
  have e : (l.map bitN)[i]? = some (bitN (l.getD i false)) := by
    rw [List.getElem?_map, List.getD_eq_getElem?_getD, List.getElem?_eq_getElem h]; rfl
  show ((atI (bitS l).cps.toList (i : Int)).map fun c => VR.v (.str ⟨#[c]⟩)) = _
  rw [bitS_cps, atI_nat e]
  rfl
theorem cut_to {α : Type} {l : List α} {n : Nat} : cutL l none (some (n : Int)) = l.take n := by
  unfold cutL
  rw [HT.sIx_none, HT.sIx_nat, List.drop_zero, Nat.sub_zero]
  exact List.take_eq_take_min.symm
theorem cut_from {α : Type} {l : List α} {n : Nat} : cutL l (some (n : Int)) none = l.drop n := by
  unfold cutL
  rw [HT.sIx_none, HT.sIx_nat]
  by_cases h : n ≤ l.length
  · rw [Nat.min_eq_left h, List.take_of_length_le (by rw [List.length_drop]; exact Nat.le_refl _)]
  · rw [Nat.min_eq_right (by omega), Nat.sub_self, List.take_zero, List.drop_eq_nil_of_le (by omega)]
theorem cutS_eq {z : Str} {lo hi : Option Int} : cutS z lo hi = ⟨(cutL z.cps.toList lo hi).toArray⟩ := by
  unfold cutS cutL
  rw [show z.cps.toList.length = z.length from Array.length_toList]
theorem bitS_to {l : List Bool} {n : Nat} : cutS (bitS l) none (some (n : Int)) = bitS (l.take n) := by
  rw [cutS_eq, cut_to, bitS_cps, ← List.map_take]; rfl
theorem bitS_from {l : List Bool} {n : Nat} : cutS (bitS l) (some (n : Int)) none = bitS (l.drop n) := by
  rw [cutS_eq, cut_from, bitS_cps, ← List.map_drop]; rfl
theorem int_bit {b : Bool} : gInt (.str (bitS [b])) = some (.v (.int (if b = true then 1 else 0))) := by
  have e0 : PySem.intText? (bitS [false]) = some 0 := by decide +kernel
  have e1 : PySem.intText? (bitS [true]) = some 1 := by decide +kernel
  unfold gInt
  dsimp only
  rw [if_pos (by rw [bitS_len]; simp)]
  cases b
  · rw [e0]; rfl
  · rw [e1]; rfl
theorem in_bit {b : Bool} {l : List Bool} : inB (.str (bitS [b])) (.str (bitS l)) = some (decide (b ∈ l)) := by
  have e : decide (bitN b ∈ (bitS l).cps.toList) = decide (b ∈ l) := by
    rw [bitS_cps, decide_eq_decide]
    constructor
    · intro h
      obtain ⟨c, h1, h2⟩ := List.mem_map.mp h
      rw [← bitN_inj h2]; exact h1
    · exact fun h => List.mem_map_of_mem h
  show some (decide (bitN b ∈ (bitS l).cps.toList)) = _
  rw [e]
theorem rep_bit {b : Bool} {n : Nat} : repS (bitS [b]) n = bitS (List.replicate n b) := by
  unfold repS bitS
  congr 1
  simp
theorem strs_bit : ∀ {ls : List (List Bool)}, strsOf (ls.map fun l => .str (bitS l)) = some (ls.map bitS)
  | [] => rfl
  | l :: ls => by
    show (strsOf (ls.map fun l => .str (bitS l))).map (bitS l :: ·) = _
    rw [strs_bit]; rfl
theorem glue_bit : ∀ {ls : List (List Bool)} {acc : Array Nat}, List.foldl (fun acc (p : Str) => acc ++ (bitS []).cps ++ p.cps) acc (ls.map bitS) = acc ++ (ls.flatten.map bitN).toArray
  | [], acc => by simp
  | l :: ls, acc => by
    rw [List.map_cons, List.foldl_cons, glue_bit]
    simp [bitS]
theorem join_bit {ls : List (List Bool)} : Txt.join (bitS []) (ls.map bitS) = bitS ls.flatten := by
  unfold Txt.join Builtin.Str.glued
  cases ls with
  | nil => rfl
  | cons l ls =>
    simp only [List.map_cons, List.headD_cons, List.drop_succ_cons, List.drop_zero]
    rw [glue_bit]
    simp [bitS]
theorem gJoin_bits {bs : List Bool} (h : bs.length ≤ 1000) : gJoin (.str (bitS [])) (.list (bs.map fun b => .str (bitS [b]))) = some (.v (.str (bitS bs))) := by
  have e : (bs.map fun b => PyData.str (bitS [b])) = (bs.map fun b => [b]).map fun l => .str (bitS l) := by rw [List.map_map]; rfl
  show (strsOf (bs.map fun b => .str (bitS [b]))).bind (gJoinO (bitS [])) = _
  have e2 : (bs.map fun b => [b]).flatten = bs := by
    clear h e
    induction bs with
    | nil => rfl
    | cons b bs ih => simp [ih]
  rw [e, strs_bit, Option.bind_some]
  unfold gJoinO
  rw [join_bit, e2, if_pos]
  refine ⟨?_, ?_⟩
  · have : ∀ bs : List Bool, (List.map (fun x => Str.length x) (List.map bitS (List.map (fun b => [b]) bs))).sum = bs.length := by
      intro bs
      induction bs with
      | nil => rfl
      | cons b bs ih => simp only [List.map_cons, List.sum_cons, ih, List.length_cons, bitS_len, List.length_nil]; omega
    rw [this, bitS_len]
    simp only [List.length_map, List.length_nil, Nat.mul_zero, Nat.add_zero]
    omega
  · rw [bitS_len]
    exact Nat.le_trans h (by decide)
/-! ### words -/
def strL (ls : List (List Bool)) : List D := ls.map fun l => .str (bitS l)
def wordsB : Nat → List (List Bool)
  | 0 => [[]]
  | n + 1 => (wordsB n).flatMap fun w => [w ++ [false], w ++ [true]]
theorem words_mem : ∀ {n : Nat} {w : List Bool}, w ∈ wordsB n ↔ w.length = n
  | 0, w => by
    unfold wordsB
    constructor
    · intro h; rw [List.mem_singleton.mp h]; rfl
    · intro h; rw [List.eq_nil_of_length_eq_zero h]; exact List.mem_singleton.mpr rfl
  | n + 1, w => by
    unfold wordsB
    rw [List.mem_flatMap]
    constructor
    · rintro ⟨v, h1, h2⟩
      have := words_mem.mp h1
      simp only [List.mem_cons, List.not_mem_nil, or_false] at h2
      rcases h2 with rfl | rfl <;> simp [this]
    · intro h
      have hw : w ≠ [] := by intro z; rw [z] at h; cases h
      refine ⟨w.dropLast, words_mem.mpr (by rw [List.length_dropLast, h]; rfl), ?_⟩
      have e := List.dropLast_concat_getLast hw
      cases q : w.getLast hw
      · rw [q] at e; rw [e]; exact List.mem_cons_self
      · rw [q] at e; rw [e]; exact List.mem_cons_of_mem _ List.mem_cons_self
theorem words_len : ∀ {n : Nat}, (wordsB n).length = 2 ^ n
  | 0 => rfl
  | n + 1 => by
    unfold wordsB
    rw [List.length_flatMap]
    have : (List.map (fun w : List Bool => [w ++ [false], w ++ [true]].length) (wordsB n)).sum = 2 * (wordsB n).length := by
      generalize wordsB n = l
      induction l with
      | nil => rfl
      | cons a l ih => rw [List.map_cons, List.sum_cons, ih, List.length_cons (a := a) (as := l)]; show 2 + _ = _; omega
    rw [this, words_len, Nat.pow_succ]
    omega
end RL

/-! RL20: comprehensions and loops over mapped lists. -/
namespace RL
open PySem PySem.Spec PyProof.Rows L2

theorem lcL_map {α : Type} {own : List Nat} {t : Tg} {cond : Ev → Re Bool} {elt : Ex} {e : Ev} (g : α → D) (f : α → Option D) : ∀ {l : List α} {acc : List D}, (∀ a ∈ l, stepC own t cond elt (g a) e = .ok (f a) e) → lcL own t cond elt (l.map g) acc e = .ok (acc ++ l.filterMap f) e
  | [], acc, _ => by unfold lcL; simp
  | a :: l, acc, h => by
    rw [List.map_cons, lcL_cons, h a List.mem_cons_self]
    simp only [Re.bind]
    rw [lcL_map g f fun x hx => h x (List.mem_cons_of_mem _ hx), List.filterMap_cons]
    cases f a <;> simp [Option.toList]
/-- [elt for t in it if cond], the rest of the locals untouched -/
theorem mLc_map {α : Type} {own : List Nat} {t : Tg} {it : Im} {cond : Ev → Re Bool} {elt : Ex} {e e1 : Ev} {l : List α} (g : α → D) (f : α → Option D) (hi : it e = .ok (l.map g) e1) (hp : plainE e1 own = true) (hl : l.length < 1000000) (h : ∀ a ∈ l, stepC own t cond elt (g a) e1 = .ok (f a) e1) :
    mLc own t it cond elt e = .ok (.fl (l.filterMap f)) e1 := by
  unfold mLc
  rw [hi]
  simp only [Re.bind]
  rw [if_pos ⟨hp, by rw [List.length_map]; have : 1000000 ≤ sizeLine := by decide
                     omega⟩, lcL_map g f h]
  simp
theorem stepC_yes {own : List Nat} {t : Tg} {elt : Ex} {d y : D} {e e1 : Ev} (h1 : t.put d (wipeE e own) = some e1) (h2 : val elt e1 = .ok y e1) (h3 : backE e e1 own = e) : stepC own t mYes elt d e = .ok (some y) e := by
  unfold stepC
  rw [h1]
  simp only [mYes, noEx, Re.bind, if_true]
  rw [h2]
  simp only [h3]
theorem stepC_if {own : List Nat} {t : Tg} {cond : Ev → Re Bool} {elt : Ex} {d y : D} {e e1 : Ev} {b : Bool} (h1 : t.put d (wipeE e own) = some e1) (h0 : cond e1 = .ok b e1) (h2 : b = true → val elt e1 = .ok y e1) (h3 : backE e e1 own = e) : stepC own t cond elt d e = .ok (if b = true then some y else none) e := by
  unfold stepC
  rw [h1]
  dsimp only
  rw [h0]
  simp only [noEx, Re.bind]
  cases b with
  | false => simp only [Bool.false_eq_true, if_false, h3]
  | true =>
    rw [if_pos rfl, h2 rfl]
    simp only [h3, if_true]
theorem filterMap_some {α : Type} {f : α → D} {l : List α} : l.filterMap (fun a => some (f a)) = l.map f := by
  induction l with
  | nil => rfl
  | cons a l ih => rw [List.filterMap_cons]; simp only [ih]; rfl
theorem map_range_getD {α β : Type} {f : α → β} {l : List α} {d : α} : (List.range l.length).map (fun k => f (l.getD k d)) = l.map f := by
  apply List.ext_getElem?
  intro i
  rw [List.getElem?_map, List.getElem?_map]
  by_cases h : i < l.length
  · rw [List.getElem?_range h, List.getElem?_eq_getElem h, Option.map_some, Option.map_some, List.getD_eq_getElem?_getD, List.getElem?_eq_getElem h]
    rfl
  · rw [List.getElem?_eq_none (by rw [List.length_range]; omega), List.getElem?_eq_none (by omega)]
    rfl
/-- for t in it: body, by a fold over what is walked -/
theorem sFor_map {α : Type} {t : Tg} {it : Im} {body : Sm} {e : Ev} {l : List α} (g : α → D) (P : List α → Ev → Prop) (hi : ∃ e1, it e = .ok (l.map g) e1 ∧ P [] e1) (h : ∀ (p : List α) (a : α) (e : Ev), p ++ [a] <+: l → P p e → ∃ e1 e2, t.put (g a) e = some e1 ∧ body e1 = .ok .nx e2 ∧ P (p ++ [a]) e2) :
    ∃ e2, sFor t it body e = .ok .nx e2 ∧ P l e2 := by
  obtain ⟨e1, h1, h2⟩ := hi
  obtain ⟨e2, k1, k2⟩ := sFor_inv (t := t) (body := body) (fun i e => P (l.take i) e) h1 (by rw [List.take_zero]; exact h2) fun i d e hd hp => by
    rw [List.getElem?_map] at hd
    cases q : l[i]? with
    | none => rw [q] at hd; cases hd
    | some a =>
      rw [q] at hd
      cases hd
      have e3 : l.take (i + 1) = l.take i ++ [a] := by rw [List.take_add_one, q]; rfl
      obtain ⟨e1, e2, j1, j2, j3⟩ := h (l.take i) a e (by rw [← e3]; exact List.take_prefix _ _) hp
      refine ⟨e1, e2, j1, j2, ?_⟩
      rw [e3]
      exact j3
  refine ⟨e2, k1, ?_⟩
  rwa [List.length_map, List.take_length] at k2
theorem pre_mem {α : Type} {p l : List α} {a : α} (h : p ++ [a] <+: l) : a ∈ l := h.subset (by simp)
theorem pre_len {α : Type} {p l : List α} {a : α} (h : p ++ [a] <+: l) : p.length < l.length := by
  have := h.length_le
  rw [List.length_append, List.length_singleton] at this
  omega
end RL

/-! RL21: slots given up, lists made trees, between statements; results as trees. -/
namespace RL
open PySem PySem.Spec PyProof.Rows L2

def sK (ks : List Nat) : Sm := fun e => .ok .nx (wipeE e ks)
def frzE (e : Ev) : List Nat → Ev
  | [] => e
  | i :: is => match (frzE e is)[i]? with
    | some (.ol ds) => (frzE e is).set i (.fz (.list ds))
    | _ => frzE e is
def sFz (is : List Nat) : Sm := fun e => .ok .nx (frzE e is)
def mFz (m : Ex) : Ex := fun e => (val m e).bind fun d e1 => .ok (.v d) e1
section
variable {C : Cw} {G : Gh} {F H : Hp} {e : Ev} {σ : L2.St}
theorem Sim.kill1 (S : Sim C G F e σ H) (k : Nat) : Sim C G F (e.set k .un) σ H where
  sub := S.sub
  f0 := S.f0
  len := by rw [List.length_set]; exact S.len
  fz := fun i d q => by
    by_cases n : i = k
    · subst n
      by_cases hl : i < e.length
      · rw [List.getElem?_set_self hl] at q; cases q
      · rw [List.getElem?_eq_none (by rw [List.length_set]; omega)] at q; cases q
    · exact S.fz i d (set_get q n)
  xc := fun i c fs q => by
    by_cases n : i = k
    · subst n
      by_cases hl : i < e.length
      · rw [List.getElem?_set_self hl] at q; cases q
      · rw [List.getElem?_eq_none (by rw [List.length_set]; omega)] at q; cases q
    · exact S.xc i c fs (set_get q n)
  ow := fun i s q o => by
    by_cases n : i = k
    · subst n
      by_cases hl : i < e.length
      · rw [List.getElem?_set_self hl] at q; cases q; cases o
      · rw [List.getElem?_eq_none (by rw [List.length_set]; omega)] at q; cases q
    · exact S.ow i s (set_get q n) o
  inj := fun i j s t a q1 q2 o1 o2 => by
    have f : ∀ {i : Nat} {s : Slot}, (e.set k .un)[i]? = some s → s.own = true → e[i]? = some s := fun {i s} q o => by
      by_cases n : i = k
      · subst n
        by_cases hl : i < e.length
        · rw [List.getElem?_set_self hl] at q; cases q; cases o
        · rw [List.getElem?_eq_none (by rw [List.length_set]; omega)] at q; cases q
      · exact set_get q n
    exact S.inj i j s t a (f q1 o1) (f q2 o2) o1 o2
  keep := S.keep
  new := S.new
  ios := S.ios
theorem Sim.kills (S : Sim C G F e σ H) : ∀ ks : List Nat, Sim C G F (wipeE e ks) σ H
  | [] => S
  | k :: ks => (Sim.kills S ks).kill1 k
theorem Sim.frz1 (S : Sim C G F e σ H) {i : Nat} {ds : List D} (h : e[i]? = some (.ol ds)) : ∃ F', Same F F' ∧ Sim C G F' (e.set i (.fz (.list ds))) σ H := by
  obtain ⟨a, o, h1, h2, ⟨xs, eo, hr⟩, h4, h5⟩ := S.ow i _ h rfl
  subst eo
  have S1 := S.kill1 i
  have l : Lone G F (e.set i .un) σ a := ⟨h4, h5, fun j s q o z => by
    have n : j ≠ i := by
      intro n
      subst n
      rw [List.getElem?_set_self (List.getElem?_eq_some_iff.mp h).1] at q
      cases q; cases o
    exact n (S.inj j i s _ a (set_get q n) h o rfl z h1)⟩
  have S2 := S1.freeze l h2
  refine ⟨upd F a (.lst xs), same_upd h4, ?_⟩
  have hl := (List.getElem?_eq_some_iff.mp h).1
  have e2 : e.set i (.fz (.list ds)) = (e.set i .un).set i (.fz (.list ds)) := by rw [List.set_set]
  rw [e2]
  have hl' : i < (e.set i Slot.un).length := by rw [List.length_set]; exact hl
  have S3 := S2.put (v := .ref a) (r := .v (.list ds)) (i := i) hl' (by
    show Rep _ _ _ _
    unfold Rep
    exact ⟨a, xs, rfl, .inl upd_same, hr.mono (same_upd h4)⟩)
  have e3 : σ.set i (some (.ref a)) = σ := by
    apply List.ext_getElem?
    intro j
    by_cases n : j = i
    · subst n
      rw [List.getElem?_set_self (List.getElem?_eq_some_iff.mp h1).1, h1]
    · rw [List.getElem?_set_ne (Ne.symm n)]
  rw [e3] at S3
  exact S3
theorem Sim.frzs (S : Sim C G F e σ H) : ∀ is : List Nat, ∃ F', Same F F' ∧ Sim C G F' (frzE e is) σ H
  | [] => ⟨F, Same.refl F, S⟩
  | i :: is => by
    obtain ⟨F1, s1, S1⟩ := Sim.frzs S is
    unfold frzE
    split
    · rename_i ds h
      obtain ⟨F2, s2, S2⟩ := S1.frz1 h
      exact ⟨F2, s1.trans s2, S2⟩
    · exact ⟨F1, s1, S1⟩
end
section
variable {X : Cx} {W : WX} {sx : Option (Addr × Value × Option Addr)}
theorem db_oneN {s : Stmt} {m : Sm} (h : DS X W sx s m) : DB X W sx [s] (sSeq m sN) := tss_imp (db_one h) fun d σ H ⟨G, F, e, S, q⟩ => ⟨G, F, e, S, by
  unfold sSeq sN at q
  cases ha : m e with
  | no => rw [ha] at q; exact q
  | ex c fs e1 => rw [ha] at q; exact q
  | ok f e1 => rw [ha] at q; cases f <;> exact q⟩
/-- slots given up ahead of what follows -/
theorem db_kill {l : List Stmt} {b : Sm} (ks : List Nat) (h : DB X W sx l b) : DB X W sx l (sSeq (sK ks) b) := tss_imp h fun d σ H ⟨G, F, e, S, q⟩ => ⟨G, F, wipeE e ks, S.kills ks, q⟩
theorem db_frz {l : List Stmt} {b : Sm} (is : List Nat) (h : DB X W sx l b) : DB X W sx l (sSeq (sFz is) b) := tss_imp h fun d σ H ⟨G, F, e, S, q⟩ => by
  obtain ⟨F', s, S'⟩ := S.frzs is
  exact ⟨G, F', frzE e is, S', PS0.mono s q⟩
theorem ends_kill {C : Cw} {G : Gh} {d : Ends} {F : Hp} {ks : List Nat} : ∀ {r : Re Fl}, PS0 C G d F (match r with
    | .ok .nx e1 => .ok .nx (wipeE e1 ks)
    | r => r) → PS0 C G d F r
  | .ok .nx e1, h => fun F' σ' H' s S => h F' σ' H' s (S.kills ks)
  | .ok .bk e1, h => h
  | .ok .ct e1, h => h
  | .ok (.rt _) e1, h => h
  | .ex _ _ _, h => h
  | .no, h => h
/-- .. behind the last statement -/
theorem db_end {l : List Stmt} {b : Sm} (ks : List Nat) (h : DB X W sx l b) : DB X W sx l (sSeq b (sSeq (sK ks) sN)) := tss_imp h fun d σ H ⟨G, F, e, S, q⟩ => ⟨G, F, e, S, by
  refine ends_kill (ks := ks) ?_
  unfold sSeq at q
  cases ha : b e with
  | no => rw [ha] at q; exact q
  | ex c fs e1 => rw [ha] at q; exact q
  | ok f e1 => rw [ha] at q; cases f <;> exact q⟩
theorem lk_lk {Q : VK} {v : V} {H : Hp} (h : lk (lk Q) v H) : lk Q v H := by
  rcases h with h | ⟨a, kx, hv, ha, h⟩
  · exact h
  · refine .inr ⟨a, kx, hv, ha, fun od => ?_⟩
    rcases h od with h | ⟨b, ky, hb, hk, _⟩
    · exact h
    · rw [hv] at hb
      cases hb
      rw [upd_same] at hk
      cases hk
theorem de_fz {x : Expr} {m : Ex} (h : DE X W sx x m) : DE X W sx x (mFz m) := ⟨fun pins s σ H Q I ⟨G, F, e, S, q⟩ => h.run pins s σ H Q I (by
  obtain ⟨G2, F2, e2, S2, q2⟩ := te_bind (Q := lk Q) (f := fun d e1 => Re.ok (VR.v d) e1) (pE _ G σ (lk Q)) S q fun d e1 F1 H1 v1 s1 S1 R1 h1 => h1 F1 H1 (Same.refl _) S1 v1 R1
  refine ⟨G2, F2, e2, S2, ?_⟩
  cases hm : m e2 with
  | no => rw [hm] at q2; exact q2
  | ex c fs e1 => rw [hm] at q2; exact q2
  | ok r e1 =>
    rw [hm] at q2
    exact fun F' H' s' S' v rv => lk_lk (q2 F' H' s' S' v rv))⟩
end
end RL

/-! RL22: the short form of a mirror: no slots, only what is computed. Judgements in the manner of continuations. -/
namespace RL
open PySem PySem.Spec PyProof.Rows L2

inductive R (α : Type) where
  | ok (a : α)
  | ex (c : Str) (fs : List (Str × D))
  | no
  deriving Inhabited
def R.bind {α β : Type} (r : R α) (f : α → R β) : R β := match r with
  | .ok a => f a
  | .ex c fs => .ex c fs
  | .no => .no
/-- an exception is no end -/
def R.nx {α : Type} (r : R α) : R α := match r with
  | .ok a => .ok a
  | _ => .no
theorem R.bind_ok {α β : Type} {a : α} {f : α → R β} : (R.ok a).bind f = f a := rfl
theorem R.bind_no {α β : Type} {f : α → R β} : (R.no).bind f = .no := rfl
theorem R.bind_ex {α β : Type} {c : Str} {fs : List (Str × D)} {f : α → R β} : (R.ex c fs).bind f = .ex c fs := rfl
theorem R.nx_ok {α : Type} {a : α} : (R.ok a).nx = .ok a := rfl

/-! ### what is computed -/
def qD (r : Option VR) : R D := match r with
  | some r => .ok r.d
  | none => .no
def qL (r : Option VR) : R (List D) := match r with
  | some (.fl l) => .ok l
  | _ => .no
def qB (r : Option VR) : R Bool := match r with
  | some (.v (.bool b)) => .ok b
  | _ => .no
def qX {α : Type} (r : Option α) : R α := match r with
  | some l => .ok l
  | none => .no
def qBo (d : D) : R Bool := match d with
  | .bool b => .ok b
  | _ => .no
def qI (d : D) : R Int := match d with
  | .int i => .ok i
  | _ => .no
def qG {α : Type} (c : Bool) (p : R α) : R α := if c = true then p else .no
def qT (d : D) : R (List D) := match d with
  | .tuple ds => .ok ds
  | _ => .no
def qT1 (d : D) : R D := match d with
  | .tuple [a] => .ok a
  | _ => .no
def qT2 (d : D) : R (D × D) := match d with
  | .tuple [a, b] => .ok (a, b)
  | _ => .no
def qT3 (d : D) : R (D × D × D) := match d with
  | .tuple [a, b, c] => .ok (a, b, c)
  | _ => .no
def qT4 (d : D) : R (D × D × D × D) := match d with
  | .tuple [a, b, c, x] => .ok (a, b, c, x)
  | _ => .no
def iterD (d : D) : Option (List D) := match items d with
  | some l => some l
  | none => gD gKeys d
def gIdx2 (d : D) (ds : List D) : Option VR := match d with
  | .list _ => m1 gIndexL d ds
  | .str _ => m1 gSIndex d ds
  | _ => none
/-- loops -/
def qFor {τ : Type} (f : D → τ → R τ) : List D → τ → R τ
  | [], t => .ok t
  | d :: ds, t => (f d t).bind fun t1 => qFor f ds t1
inductive Lp (τ ρ : Type) where
  | go (t : τ)
  | br (t : τ)
  | rt (v : ρ)
  deriving Inhabited
def qForF {τ ρ : Type} (f : D → τ → R (Lp τ ρ)) : List D → τ → R (Lp τ ρ)
  | [], t => .ok (.go t)
  | d :: ds, t => (f d t).bind fun x => match x with
    | .go t1 => qForF f ds t1
    | .br t1 => .ok (.br t1)
    | .rt v => .ok (.rt v)
def qWh {τ : Type} (c : τ → R Bool) (f : τ → R τ) : Nat → τ → R τ
  | 0, _ => .no
  | n + 1, t => (c t).bind fun x => if x = true then (f t).bind fun t1 => qWh c f n t1 else .ok t
def qWhF {τ ρ : Type} (c : τ → R Bool) (f : τ → R (Lp τ ρ)) : Nat → τ → R (Lp τ ρ)
  | 0, _ => .no
  | n + 1, t => (c t).bind fun x => if x = true then (f t).bind fun y => (match y with
      | .go t1 => qWhF c f n t1
      | .br t1 => .ok (.br t1)
      | .rt v => .ok (.rt v)) else .ok (.go t)
/-- the loop's end, and what follows it -/
def qLp {τ ρ : Type} (x : Lp τ ρ) (f : τ → R ρ) : R ρ := match x with
  | .go t => f t
  | .br t => f t
  | .rt v => .ok v
/-- comprehensions -/
def qMap (f : D → R D) : List D → R (List D)
  | [] => .ok []
  | d :: ds => (f d).bind fun y => (qMap f ds).bind fun ys => .ok (y :: ys)
def qLc (f : D → R (Option D)) : List D → R (List D)
  | [] => .ok []
  | d :: ds => (f d).bind fun y => (qLc f ds).bind fun ys => .ok (y.toList ++ ys)
def qMapS {τ : Type} (f : D → τ → R (D × τ)) : List D → τ → R (List D × τ)
  | [], t => .ok ([], t)
  | d :: ds, t => (f d t).bind fun y => (qMapS f ds y.2).bind fun ys => .ok (y.1 :: ys.1, ys.2)
def qLcS {τ : Type} (f : D → τ → R (Option D × τ)) : List D → τ → R (List D × τ)
  | [], t => .ok ([], t)
  | d :: ds, t => (f d t).bind fun y => (qLcS f ds y.2).bind fun ys => .ok (y.1.toList ++ ys.1, ys.2)
def small (l : List D) : Bool := decide (l.length < sizeLine)
/-- try -/
def qTry {α : Type} (p : R α) (h : Str → List (Str × D) → R α) : R α := match p with
  | .ex c fs => h c fs
  | r => r

/-! ### judgements -/
structure Out (α β : Type) where
  rel : α → Re β → Prop
  ok : ∀ {a : α} {r : Re β}, rel a r → ∃ b e, r = .ok b e
def Ref {α β : Type} (X : Ev → Prop) (O : Out α β) (r : Re β) : R α → Prop
  | .ok a => O.rel a r
  | .ex c fs => ∃ e, X e ∧ r = .ex c fs e
  | .no => True
abbrev XF : Ev → Prop := fun _ => False
abbrev XN : Ev → Prop := fun e => iosOf e = []
abbrev XEq (e0 : Ev) : Ev → Prop := fun e => e = e0
theorem Re.bind_assoc {α β γ : Type} {r : Re α} {f : α → Ev → Re β} {g : β → Ev → Re γ} : (r.bind f).bind g = r.bind fun a e => (f a e).bind g := by cases r <;> rfl
theorem Re.bind_congr {α β : Type} {r : Re α} {f g : α → Ev → Re β} (h : ∀ a e, f a e = g a e) : r.bind f = r.bind g := by cases r <;> first | rfl | exact h _ _
def seqK (r : Re Fl) (b : Sm) : Re Fl := match r with
  | .ok .nx e1 => b e1
  | .ok f e1 => .ok f e1
  | .ex c fs e1 => .ex c fs e1
  | .no => .no
theorem sSeq_eq {a b : Sm} {e : Ev} : sSeq a b e = seqK (a e) b := rfl
theorem seqK_bind {α : Type} {r : Re α} {f : α → Ev → Re Fl} {b : Sm} : seqK (r.bind f) b = r.bind fun a e => seqK (f a e) b := by cases r <;> rfl
section
variable {α β γ δ : Type} {X : Ev → Prop} {O : Out α β} {e e1 e2 : Ev} {P : R α}
theorem Ref.of_eq {r r' : Re β} (q : r' = r) (h : Ref X O r P) : Ref X O r' P := q ▸ h
/-- whatever is no result is no matter -/
theorem Ref.of_no {r : Re β} (h : Ref X O .no P) : Ref X O r P := by
  cases P with
  | ok a => obtain ⟨b, e, h⟩ := O.ok h; cases h
  | ex c fs => obtain ⟨e, _, h⟩ := h; cases h
  | no => trivial
/-- one computed thing -/
theorem Ref.step {ρ : Type} {r : R ρ} {g : Re β} {Q : ρ → R α} (hn : ∀ c fs, r ≠ .ex c fs) (h : ∀ d, r = .ok d → Ref X O g (Q d)) : Ref X O g (r.bind Q) := by
  cases r with
  | ok d => exact h d rfl
  | ex c fs => exact absurd rfl (hn c fs)
  | no => trivial

/-! trees -/
variable {k : D → Ev → Re β}
theorem dC {d : D} (h : Ref X O (k d e) P) : Ref X O ((val (mC d) e).bind k) P := h
theorem dV {i : Nat} {d : D} (q : e[i]? = some (.fz d)) (h : Ref X O (k d e) P) : Ref X O ((val (mV i) e).bind k) P := by
  unfold val mV; rw [q]; exact h
theorem dVo {i : Nat} {l : List D} (q : e[i]? = some (.ol l)) (q2 : e.set i (.fz (.list l)) = e1) (h : Ref X O (k (.list l) e1) P) : Ref X O ((val (mV i) e).bind k) P := by
  subst q2; unfold val mV; rw [q]; exact h
theorem dVd {i : Nat} {l : List (D × D)} (q : e[i]? = some (.od l)) (q2 : e.set i (.fz (.dict l)) = e1) (h : Ref X O (k (.dict l) e1) P) : Ref X O ((val (mV i) e).bind k) P := by
  subst q2; unfold val mV; rw [q]; exact h
theorem dM {i : Nat} {d : D} (q : e[i]? = some (.fz d)) (h : Ref X O (k d e) P) : Ref X O ((val (mM i) e).bind k) P := by
  unfold val mM; rw [q]; exact h
theorem dMo {i : Nat} {l : List D} (q : e[i]? = some (.ol l)) (q2 : e.set i .un = e1) (h : Ref X O (k (.list l) e1) P) : Ref X O ((val (mM i) e).bind k) P := by
  subst q2; unfold val mM; rw [q]; exact h
theorem dMd {i : Nat} {l : List (D × D)} (q : e[i]? = some (.od l)) (q2 : e.set i .un = e1) (h : Ref X O (k (.dict l) e1) P) : Ref X O ((val (mM i) e).bind k) P := by
  subst q2; unfold val mM; rw [q]; exact h
theorem dFz {m : Ex} (h : Ref X O ((val m e).bind k) P) : Ref X O ((val (mFz m) e).bind k) P := by
  refine Ref.of_eq ?_ h
  simp only [val, mFz, Re.bind_assoc]
  rfl
theorem dAttr {c f : Str} {i : Nat} {fs : List (Str × D)} {Q : D → R α} (q : e[i]? = some (.xc c fs)) (h : ∀ d, Ref X O (k d e) (Q d)) : Ref X O ((val (mAttr c f i) e).bind k) ((qX (fs.lookup f)).bind Q) := by
  unfold val mAttr; rw [q]
  simp only [if_true]
  cases fs.lookup f with
  | none => trivial
  | some d => exact h d
/-! operands -/
section
variable {k : Hd → Ev → Re β}
theorem oE {m : Ex} (h : Ref X O ((val m e).bind fun d e1 => k (.tr d) e1) P) : Ref X O (((Opd.ex m).ev e).bind k) P := by
  unfold Opd.ev
  rw [Re.bind_assoc]
  exact h
theorem oB {i : Nat} {d : D} (q : slotD e i = some d) (h : Ref X O (k (.sl i) e) P) : Ref X O (((Opd.bo i).ev e).bind k) P := by
  unfold Opd.ev; dsimp only; rw [q]; exact h
end
def finD (g : D → D → Option VR) (h1 h2 : Hd) (e : Ev) : Re D := match h1.res e, h2.res e with
  | some x, some y => (match g x y with
    | some r => .ok r.d e
    | none => .no)
  | _, _ => .no
theorem dB {g : D → D → Option VR} {a b : Opd} (h : Ref X O ((a.ev e).bind fun h1 e1 => (b.ev e1).bind fun h2 e2 => (finD g h1 h2 e2).bind k) P) : Ref X O ((val (mB g a b) e).bind k) P := by
  refine Ref.of_eq ?_ h
  unfold val mB
  simp only [Re.bind_assoc]
  refine Re.bind_congr fun h1 e1 => ?_
  refine Re.bind_congr fun h2 e2 => ?_
  unfold finD
  cases h1.res e2 with
  | none => rfl
  | some x =>
    cases h2.res e2 with
    | none => rfl
    | some y => dsimp only; cases g x y <;> rfl
theorem fD {g : D → D → Option VR} {h1 h2 : Hd} {x y : D} {Q : D → R α} (q1 : h1.res e = some x) (q2 : h2.res e = some y) (h : ∀ d, Ref X O (k d e) (Q d)) : Ref X O ((finD g h1 h2 e).bind k) ((qD (g x y)).bind Q) := by
  unfold finD
  rw [q1, q2]
  dsimp only
  cases g x y with
  | none => trivial
  | some r => exact h r.d
theorem dNeg {o : Opd} (h : Ref X O ((o.ev e).bind fun h1 e1 => (finD (fun d _ => gNeg d) h1 h1 e1).bind k) P) : Ref X O ((val (mNeg o) e).bind k) P := by
  refine Ref.of_eq ?_ h
  unfold val mNeg
  rw [Re.bind_assoc, Re.bind_assoc]
  refine Re.bind_congr fun h1 e1 => ?_
  unfold finD
  cases h1.res e1 with
  | none => rfl
  | some x => dsimp only; cases gNeg x <;> rfl
/-! tests -/
section
variable {k : Bool → Ev → Re β}
def finT (g : D → D → Option VR) (h1 h2 : Hd) (e : Ev) : Re Bool := match h1.res e, h2.res e with
  | some x, some y => (match g x y with
    | some (.v (.bool b)) => .ok b e
    | _ => .no)
  | _, _ => .no
theorem mT_eq {m : Ex} : mT m e = (m e).bind fun r e1 => match r with
    | .v (.bool b) => .ok b e1
    | _ => .no := by
  unfold mT val
  rw [Re.bind_assoc]
  refine Re.bind_congr fun r e1 => ?_
  cases r with
  | v d => cases d <;> rfl
  | fl l => rfl
  | fd l => rfl
theorem yB {g : D → D → Option VR} {a b : Opd} (h : Ref X O ((a.ev e).bind fun h1 e1 => (b.ev e1).bind fun h2 e2 => (finT g h1 h2 e2).bind k) P) : Ref X O ((mT (mB g a b) e).bind k) P := by
  refine Ref.of_eq ?_ h
  rw [mT_eq]
  unfold mB
  simp only [Re.bind_assoc]
  refine Re.bind_congr fun h1 e1 => ?_
  refine Re.bind_congr fun h2 e2 => ?_
  unfold finT
  cases h1.res e2 with
  | none => rfl
  | some x =>
    cases h2.res e2 with
    | none => rfl
    | some y =>
      dsimp only
      cases g x y with
      | none => rfl
      | some r => cases r with
        | v d => cases d <;> rfl
        | fl l => rfl
        | fd l => rfl
theorem fT {g : D → D → Option VR} {h1 h2 : Hd} {x y : D} {Q : Bool → R α} (q1 : h1.res e = some x) (q2 : h2.res e = some y) (h : ∀ d, Ref X O (k d e) (Q d)) : Ref X O ((finT g h1 h2 e).bind k) ((qB (g x y)).bind Q) := by
  unfold finT
  rw [q1, q2]
  dsimp only
  cases g x y with
  | none => trivial
  | some r => cases r with
    | v d => cases d <;> first | trivial | exact h _
    | fl l => trivial
    | fd l => trivial
theorem yC {b : Bool} (h : Ref X O (k b e) P) : Ref X O ((mT (mC (.bool b)) e).bind k) P := h
def tstB (d : D) (e : Ev) : Re Bool := match d with
  | .bool b => .ok b e
  | _ => .no
theorem yD {m : Ex} (h : Ref X O ((val m e).bind fun d e1 => (tstB d e1).bind k) P) : Ref X O ((mT m e).bind k) P := by
  refine Ref.of_eq ?_ h
  unfold mT
  rw [Re.bind_assoc]
  rfl
theorem fBo {d : D} {Q : Bool → R α} (h : ∀ b, Ref X O (k b e) (Q b)) : Ref X O ((tstB d e).bind k) ((qBo d).bind Q) := by
  cases d <;> first | trivial | exact h _
theorem yNot {a : Ex} (h : Ref X O ((mT a e).bind fun b e1 => k (!b) e1) P) : Ref X O ((mT (mNot a) e).bind k) P := by
  refine Ref.of_eq ?_ h
  simp only [mT, mNot, val, Re.bind_assoc]
  refine Re.bind_congr fun r e1 => ?_
  cases r with
  | v d => cases d <;> rfl
  | fl l => rfl
  | fd l => rfl
theorem yIsi {ts : List String} {o : Opd} (h : Ref X O ((o.ev e).bind fun h1 e1 => (finT (fun d _ => some (.v (.bool (ts.any fun t => isT t d)))) h1 h1 e1).bind k) P) : Ref X O ((mT (mIsi ts o) e).bind k) P := by
  refine Ref.of_eq ?_ h
  rw [mT_eq]
  unfold mIsi
  rw [Re.bind_assoc, Re.bind_assoc]
  refine Re.bind_congr fun h1 e1 => ?_
  unfold finT
  cases h1.res e1 <;> rfl
theorem fIsi {ts : List String} {h1 : Hd} {d : D} (q : h1.res e = some d) (h : Ref X O (k (ts.any fun t => isT t d) e) P) : Ref X O ((finT (fun d _ => some (.v (.bool (ts.any fun t => isT t d)))) h1 h1 e).bind k) P := by
  unfold finT
  rw [q]
  exact h
/-- and, or: the second one leaves the slots as they are -/
def OE (e : Ev) : Out γ γ := ⟨fun a r => r = .ok a e, fun h => ⟨_, _, h⟩⟩
def andK (b : Bool) (m : Ex) (e : Ev) : Re Bool := if b = true then mT m e else .ok false e
def orK (b : Bool) (m : Ex) (e : Ev) : Re Bool := if b = true then .ok true e else mT m e
theorem yAnd {a b : Ex} (h : Ref X O ((mT a e).bind fun x e1 => (andK x b e1).bind k) P) : Ref X O ((mT (mAnd a b) e).bind k) P := by
  refine Ref.of_eq ?_ h
  rw [mT_eq, mT]
  simp only [mAnd, val, Re.bind_assoc]
  refine Re.bind_congr fun r e1 => ?_
  cases r with
  | v d =>
    cases d with
    | bool x =>
      cases x
      · first
        | rfl
        | (show (b e1).bind _ = (mT b e1).bind k
           rw [mT_eq, Re.bind_assoc])
      · first
        | rfl
        | (show (b e1).bind _ = (mT b e1).bind k
           rw [mT_eq, Re.bind_assoc])
    | _ => rfl
  | fl l => rfl
  | fd l => rfl
theorem yOr {a b : Ex} (h : Ref X O ((mT a e).bind fun x e1 => (orK x b e1).bind k) P) : Ref X O ((mT (mOr a b) e).bind k) P := by
  refine Ref.of_eq ?_ h
  rw [mT_eq, mT]
  simp only [mOr, val, Re.bind_assoc]
  refine Re.bind_congr fun r e1 => ?_
  cases r with
  | v d =>
    cases d with
    | bool x =>
      cases x
      · first
        | rfl
        | (show (b e1).bind _ = (mT b e1).bind k
           rw [mT_eq, Re.bind_assoc])
      · first
        | rfl
        | (show (b e1).bind _ = (mT b e1).bind k
           rw [mT_eq, Re.bind_assoc])
    | _ => rfl
  | fl l => rfl
  | fd l => rfl
/-- a part that is computed by itself, and what follows it -/
theorem Ref.part {γ δ : Type} {O1 : Out δ γ} {r : Re γ} {p : R δ} {k : γ → Ev → Re β} {Q : δ → R α} (hp : Ref X O1 r p) (h : ∀ a b e1, p = .ok a → O1.rel a r → r = .ok b e1 → Ref X O (k b e1) (Q a)) : Ref X O (r.bind k) (p.bind Q) := by
  cases p with
  | ok a =>
    obtain ⟨b, e1, q⟩ := O1.ok hp
    rw [q]
    exact h a b e1 rfl hp q
  | ex c fs =>
    obtain ⟨e1, x, q⟩ := hp
    rw [q]
    exact ⟨e1, x, rfl⟩
  | no => trivial
theorem jE {r : Re γ} {p : R γ} {k : γ → Ev → Re β} {Q : γ → R α} (hp : Ref X (OE e) r p) (h : ∀ a, Ref X O (k a e) (Q a)) : Ref X O (r.bind k) (p.bind Q) :=
  Ref.part hp fun a b e1 _ h1 h2 => by
    have h1' : r = .ok a e := h1
    rw [h2] at h1'
    cases h1'
    exact h a
theorem jAnd {x : Bool} {m : Ex} {PB : R Bool} {Q : Bool → R α} (hp : Ref X (OE e) (mT m e) PB) (h : ∀ a, Ref X O (k a e) (Q a)) : Ref X O ((andK x m e).bind k) ((if x = true then PB else .ok false).bind Q) := by
  refine jE (e := e) ?_ h
  unfold andK
  cases x
  · exact rfl
  · exact hp
theorem jOr {x : Bool} {m : Ex} {PB : R Bool} {Q : Bool → R α} (hp : Ref X (OE e) (mT m e) PB) (h : ∀ a, Ref X O (k a e) (Q a)) : Ref X O ((orK x m e).bind k) ((if x = true then .ok true else PB).bind Q) := by
  refine jE (e := e) ?_ h
  unfold orK
  cases x
  · exact hp
  · exact rfl
/-- the end of such a part -/
theorem nE {a : γ} : Ref X (OE e) (.ok a e) (.ok a) := rfl
theorem yW {m : Ex} {O : Out α Bool} {P : R α} (h : Ref X O ((mT m e).bind fun b e1 => .ok b e1) P) : Ref X O (mT m e) P := by
  refine Ref.of_eq ?_ h
  cases mT m e <;> rfl
def chK (g g' : D → D → Option VR) (h1 h2 : Hd) (c : Opd) (e : Ev) : Re Bool := match h1.res e, h2.res e with
  | some x, some y => match g x y with
    | some (.v (.bool true)) => (c.ev e).bind fun h3 e3 => finT g' h2 h3 e3
    | some (.v (.bool false)) => .ok false e
    | _ => .no
  | _, _ => .no
theorem yCh {g g' : D → D → Option VR} {a b c : Opd} (h : Ref X O ((a.ev e).bind fun h1 e1 => (b.ev e1).bind fun h2 e2 => (chK g g' h1 h2 c e2).bind k) P) : Ref X O ((mT (mChain g g' a b c) e).bind k) P := by
  refine Ref.of_eq ?_ h
  unfold mChain
  rw [mT_eq]
  simp only [Re.bind_assoc]
  refine Re.bind_congr fun h1 e1 => ?_
  refine Re.bind_congr fun h2 e2 => ?_
  unfold chK
  cases h1.res e2 with
  | none => rfl
  | some x =>
    cases h2.res e2 with
    | none => rfl
    | some y =>
      dsimp only
      cases g x y with
      | none => rfl
      | some r => cases r with
        | v d =>
          cases d with
          | bool t =>
            cases t
            · rfl
            · dsimp only
              simp only [Re.bind_assoc]
              refine Re.bind_congr fun h3 e3 => ?_
              unfold finT
              cases h2.res e3 with
              | none => rfl
              | some y' =>
                cases h3.res e3 with
                | none => rfl
                | some z =>
                  dsimp only
                  cases g' y' z with
                  | none => rfl
                  | some r => cases r with
                    | v d => cases d <;> rfl
                    | fl l => rfl
                    | fd l => rfl
          | _ => rfl
        | fl l => rfl
        | fd l => rfl
theorem jCh {g g' : D → D → Option VR} {h1 h2 : Hd} {c : Opd} {x y : D} {PB : R Bool} {Q : Bool → R α} (q1 : h1.res e = some x) (q2 : h2.res e = some y) (hp : Ref X (OE e) ((c.ev e).bind fun h3 e3 => (finT g' h2 h3 e3).bind fun b e4 => .ok b e4) PB) (h : ∀ a, Ref X O (k a e) (Q a)) :
    Ref X O ((chK g g' h1 h2 c e).bind k) (((qB (g x y)).bind fun t => if t = true then PB else .ok false).bind Q) := by
  refine jE (e := e) ?_ h
  unfold chK
  rw [q1, q2]
  dsimp only
  cases g x y with
  | none => trivial
  | some r => cases r with
    | v d =>
      cases d with
      | bool t =>
        cases t
        · exact rfl
        · refine Ref.of_eq ?_ hp
          dsimp only
          refine Re.bind_congr fun h3 e3 => ?_
          cases finT g' h2 h3 e3 <;> rfl
      | _ => trivial
    | fl l => trivial
    | fd l => trivial
end
/-- a test as a value -/
theorem dT {m : Ex} (h : Ref X O ((mT m e).bind fun b e1 => k (.bool b) e1) P) : Ref X O ((val m e).bind k) P := by
  unfold mT at h
  rw [Re.bind_assoc] at h
  cases hv : val m e with
  | no => rw [hv] at h; exact h
  | ex c fs e1 => rw [hv] at h; exact h
  | ok d e1 =>
    rw [hv] at h
    cases d with
    | bool b => exact h
    | _ => exact Ref.of_no h
end
end RL

/-! RL23: lists of values, built-ins, slices, calls, results that a slot owns, what is walked, comprehensions. -/
namespace RL
open PySem PySem.Spec PyProof.Rows L2
section
variable {α β γ δ τ : Type} {X : Ev → Prop} {O : Out α β} {e e1 e2 : Ev} {P : R α}
/-! lists -/
section
variable {k : List D → Ev → Re β}
theorem v0 (h : Ref X O (k [] e) P) : Ref X O ((valsE [] e).bind k) P := h
theorem vc {m : Ex} {ms : List Ex} (h : Ref X O ((val m e).bind fun d e1 => (valsE ms e1).bind fun ds e2 => k (d :: ds) e2) P) : Ref X O ((valsE (m :: ms) e).bind k) P := by
  refine Ref.of_eq ?_ h
  simp only [valsE, Re.bind_assoc]
  rfl
end
section
variable {k : List Hd → Ev → Re β}
theorem o0 (h : Ref X O (k [] e) P) : Ref X O ((opsE [] e).bind k) P := h
theorem oc {o : Opd} {os : List Opd} (h : Ref X O ((o.ev e).bind fun d e1 => (opsE os e1).bind fun ds e2 => k (d :: ds) e2) P) : Ref X O ((opsE (o :: os) e).bind k) P := by
  refine Ref.of_eq ?_ h
  simp only [opsE, Re.bind_assoc]
  rfl
end
section
variable {k : D → Ev → Re β}
theorem dTup {ms : List Ex} (h : Ref X O ((valsE ms e).bind fun ds e1 => k (.tuple ds) e1) P) : Ref X O ((val (mTup ms) e).bind k) P := by
  refine Ref.of_eq ?_ h
  simp only [val, mTup, Re.bind_assoc]
  rfl
theorem dLst {ms : List Ex} (h : Ref X O ((valsE ms e).bind fun ds e1 => k (.list ds) e1) P) : Ref X O ((val (mLst ms) e).bind k) P := by
  refine Ref.of_eq ?_ h
  simp only [val, mLst, Re.bind_assoc]
  rfl
def finN (g : List D → Option VR) (hs : List Hd) (e : Ev) : Re D := match resL hs e with
  | some ds => (match g ds with
    | some r => .ok r.d e
    | none => .no)
  | none => .no
theorem dCB {g : List D → Option VR} {os : List Opd} (h : Ref X O ((opsE os e).bind fun hs e1 => (finN g hs e1).bind k) P) : Ref X O ((val (mCB g os) e).bind k) P := by
  refine Ref.of_eq ?_ h
  simp only [val, mCB, Re.bind_assoc]
  refine Re.bind_congr fun hs e1 => ?_
  unfold finN
  cases resL hs e1 with
  | none => rfl
  | some ds => dsimp only; cases g ds <;> rfl
theorem fN {g : List D → Option VR} {hs : List Hd} {ds : List D} {Q : D → R α} (q : resL hs e = some ds) (h : ∀ d, Ref X O (k d e) (Q d)) : Ref X O ((finN g hs e).bind k) ((qD (g ds)).bind Q) := by
  unfold finN
  rw [q]
  dsimp only
  cases g ds with
  | none => trivial
  | some r => exact h r.d
def bmD (T : String) (g : D → List D → Option VR) (h : Hd) (os : List Opd) (e : Ev) : Re D := match h.res e with
  | none => .no
  | some d0 => if tyD d0 = T then (opsE os e).bind fun hs e2 => (match h.res e2, resL hs e2 with
      | some d, some ds => (match g d ds with
        | some r => .ok r.d e2
        | none => .no)
      | _, _ => .no) else .no
def finM (g : D → List D → Option VR) (h : Hd) (hs : List Hd) (e : Ev) : Re D := match h.res e, resL hs e with
  | some d, some ds => (match g d ds with
    | some r => .ok r.d e
    | none => .no)
  | _, _ => .no
theorem dBM {T : String} {g : D → List D → Option VR} {o : Opd} {os : List Opd} (h : Ref X O ((o.ev e).bind fun h1 e1 => (bmD T g h1 os e1).bind k) P) : Ref X O ((val (mBM T g o os) e).bind k) P := by
  refine Ref.of_eq ?_ h
  simp only [val, mBM, Re.bind_assoc]
  refine Re.bind_congr fun h1 e1 => ?_
  unfold bmD
  cases h1.res e1 with
  | none => rfl
  | some d0 =>
    dsimp only
    by_cases t : tyD d0 = T
    · rw [if_pos t, if_pos t]
      simp only [Re.bind_assoc]
      refine Re.bind_congr fun hs e2 => ?_
      cases h1.res e2 with
      | none => rfl
      | some d =>
        cases resL hs e2 with
        | none => rfl
        | some ds => dsimp only; cases g d ds <;> rfl
    · rw [if_neg t, if_neg t]
      rfl
theorem fBM {T : String} {g : D → List D → Option VR} {h1 : Hd} {os : List Opd} {d0 : D} (q : h1.res e = some d0) (h : Ref X O ((opsE os e).bind fun hs e2 => (finM g h1 hs e2).bind k) P) : Ref X O ((bmD T g h1 os e).bind k) (qG (decide (tyD d0 = T)) P) := by
  unfold bmD
  rw [q]
  dsimp only
  by_cases t : tyD d0 = T
  · rw [if_pos t]
    unfold qG
    rw [if_pos (decide_eq_true t)]
    refine Ref.of_eq ?_ h
    rw [Re.bind_assoc]
    rfl
  · unfold qG
    rw [if_neg t, if_neg (by simpa using t)]
    trivial
theorem fM {g : D → List D → Option VR} {h1 : Hd} {hs : List Hd} {d : D} {ds : List D} {Q : D → R α} (q1 : h1.res e = some d) (q2 : resL hs e = some ds) (h : ∀ y, Ref X O (k y e) (Q y)) : Ref X O ((finM g h1 hs e).bind k) ((qD (g d ds)).bind Q) := by
  unfold finM
  rw [q1, q2]
  dsimp only
  cases g d ds with
  | none => trivial
  | some r => exact h r.d
/-! slices -/
def finS (h : Hd) (lo hi : Option Int) (e : Ev) : Re D := match h.res e with
  | some x => (match gSl x lo hi with
    | some r => .ok r.d e
    | none => .no)
  | none => .no
theorem dSl {o : Opd} {lo hi : Option Ex} (h : Ref X O ((o.ev e).bind fun h1 e1 => (parE lo e1).bind fun l e2 => (parE hi e2).bind fun u e3 => (finS h1 l u e3).bind k) P) : Ref X O ((val (mSl o lo hi) e).bind k) P := by
  refine Ref.of_eq ?_ h
  simp only [val, mSl, Re.bind_assoc]
  refine Re.bind_congr fun h1 e1 => Re.bind_congr fun l e2 => Re.bind_congr fun u e3 => ?_
  unfold finS
  cases h1.res e3 with
  | none => rfl
  | some x => dsimp only; cases gSl x l u <;> rfl
theorem fS {h1 : Hd} {lo hi : Option Int} {x : D} {Q : D → R α} (q : h1.res e = some x) (h : ∀ d, Ref X O (k d e) (Q d)) : Ref X O ((finS h1 lo hi e).bind k) ((qD (gSl x lo hi)).bind Q) := by
  unfold finS
  rw [q]
  dsimp only
  cases gSl x lo hi with
  | none => trivial
  | some r => exact h r.d
end
section
variable {k : Option Int → Ev → Re β}
theorem pn (h : Ref X O (k none e) P) : Ref X O ((parE none e).bind k) P := h
def intK (d : D) (e : Ev) : Re Int := match d with
  | .int i => .ok i e
  | _ => .no
theorem ps {m : Ex} (h : Ref X O ((val m e).bind fun d e1 => (intK d e1).bind fun i e2 => k (some i) e2) P) : Ref X O ((parE (some m) e).bind k) P := by
  refine Ref.of_eq ?_ h
  simp only [parE, Re.bind_assoc]
  refine Re.bind_congr fun d e1 => ?_
  cases d <;> rfl
end
theorem fI {k : Int → Ev → Re β} {d : D} {Q : Int → R α} (h : ∀ i, Ref X O (k i e) (Q i)) : Ref X O ((intK d e).bind k) ((qI d).bind Q) := by
  cases d <;> first | trivial | exact h _
/-! what is walked -/
section
variable {k : List D → Ev → Re β}
def optK (r : Option (List D)) (e : Ev) : Re (List D) := match r with
  | some l => .ok l e
  | none => .no
theorem fO {r : Option (List D)} {Q : List D → R α} (h : ∀ l, Ref X O (k l e) (Q l)) : Ref X O ((optK r e).bind k) ((qX r).bind Q) := by
  cases r with
  | none => trivial
  | some l => exact h l
theorem iIv {g : List D → Option (List D)} {ms : List Ex} (h : Ref X O ((valsE ms e).bind fun ds e1 => (optK (g ds) e1).bind k) P) : Ref X O ((mIv g ms e).bind k) P := by
  refine Ref.of_eq ?_ h
  simp only [mIv, Re.bind_assoc]
  refine Re.bind_congr fun ds e1 => ?_
  cases g ds <;> rfl
theorem iRev {m : Ex} (h : Ref X O ((val m e).bind fun d e1 => (optK (gRev d) e1).bind k) P) : Ref X O ((mRev m e).bind k) P := by
  refine Ref.of_eq ?_ h
  simp only [mRev, Re.bind_assoc]
  refine Re.bind_congr fun d e1 => ?_
  cases gRev d <;> rfl
theorem iIg {g : D → Option (List D)} {m : Ex} (h : Ref X O ((val m e).bind fun d e1 => (optK (g d) e1).bind k) P) : Ref X O ((mIg g m e).bind k) P := by
  refine Ref.of_eq ?_ h
  simp only [mIg, Re.bind_assoc]
  refine Re.bind_congr fun d e1 => ?_
  cases g d <;> rfl
theorem iIt {m : Ex} (h : Ref X O ((val m e).bind fun d e1 => (optK (iterD d) e1).bind k) P) : Ref X O ((iOr (mIt m) (mIg (gD gKeys) m) e).bind k) P := by
  refine Ref.of_eq ?_ h
  unfold iOr mIt mIg
  cases val m e with
  | no => rfl
  | ex c fs e1 => rfl
  | ok d e1 =>
    simp only [Re.bind]
    unfold iterD
    cases items d with
    | some l => rfl
    | none => dsimp only; cases gD gKeys d <;> rfl
end
/-! arguments, calls -/
section
variable {k : List Av → Ev → Re β}
theorem a0 (h : Ref X O (k [] e) P) : Ref X O ((arsE [] e).bind k) P := h
theorem av {m : Ex} {as : List Ar} (h : Ref X O ((val m e).bind fun d e1 => (arsE as e1).bind fun xs e2 => k (.d d :: xs) e2) P) : Ref X O ((arsE (.v m :: as) e).bind k) P := by
  refine Ref.of_eq ?_ h
  simp only [arsE, Ar.ev, Re.bind_assoc]
  rfl
theorem ab {i : Nat} {l : List D} {as : List Ar} (q : ownL e i = some l) (h : Ref X O ((arsE as e).bind fun xs e2 => k (.s i :: xs) e2) P) : Ref X O ((arsE (.b i :: as) e).bind k) P := by
  refine Ref.of_eq ?_ h
  simp only [arsE, Ar.ev, Re.bind_assoc]
  rw [q]
  rfl
end
def callK (ms : List Bool) (f : MF) (xs : List Av) (e : Ev) : Re VR := if avB xs = ms then mRun f xs e else .no
def callD (ms : List Bool) (f : MF) (xs : List Av) (e : Ev) : Re D := (callK ms f xs e).bind fun r e1 => .ok r.d e1
/-- a def's short form: without lists that are handed in to be changed; with them -/
def RefF {α : Type} (f : MF) (ds : List D) (inj : α → VR × List (List D)) : R α → Prop
  | .ok a => f ds = .ok (inj a).1 (inj a).2
  | .ex c fs => f ds = .ex c fs []
  | .no => True
def RefI {α : Type} (f : MF) (ds : List D) (inj : α → VR × List (List D)) : R α → Prop
  | .ok a => f ds = .ok (inj a).1 (inj a).2
  | .ex _ _ => False
  | .no => True
def jD : D → VR × List (List D) := fun d => (.v d, [])
def jL : List D → VR × List (List D) := fun d => (.fl d, [])
def jD1 : D × List D → VR × List (List D) := fun d => (.v d.1, [d.2])
def jL1 : List D × List D → VR × List (List D) := fun d => (.fl d.1, [d.2])
section
variable {k : D → Ev → Re β} {ms : List Bool} {f : MF} {xs : List Av} {ds : List D} {i : Nat}
theorem dCall {as : List Ar} (h : Ref X O ((arsE as e).bind fun xs e1 => (callD ms f xs e1).bind k) P) : Ref X O ((val (mCall ms f as) e).bind k) P := by
  refine Ref.of_eq ?_ h
  simp only [val, mCall, callD, callK, Re.bind_assoc]
theorem callK0 (q1 : avB xs = ms) (q2 : avD e xs = some ds) (q3 : avS xs = []) : callK ms f xs e = match f ds with
    | .ok r [] => .ok r e
    | .ex c fs [] => .ex c fs e
    | _ => .no := by
  unfold callK mRun
  rw [if_pos q1, q2, q3]
  simp only [List.nodup_nil, if_true]
  cases f ds with
  | no => rfl
  | ok r outs => cases outs <;> rfl
  | ex c fs outs => cases outs <;> rfl
theorem callK1 {r : VR} {l : List D} (q1 : avB xs = ms) (q2 : avD e xs = some ds) (q3 : avS xs = [i]) (hf : f ds = .ok r [l]) : callK ms f xs e = .ok r (setL e i l) := by
  unfold callK mRun
  rw [if_pos q1, q2, q3, if_pos (by simp)]
  dsimp only
  rw [hf]
  rfl
theorem cD0 {Pf : R D} {Q : D → R α} (hf : RefF f ds jD Pf) (q1 : avB xs = ms) (q2 : avD e xs = some ds) (q3 : avS xs = []) (x : X e) (h : ∀ d, Ref X O (k d e) (Q d)) : Ref X O ((callD ms f xs e).bind k) (Pf.bind Q) := by
  unfold callD
  rw [callK0 q1 q2 q3]
  cases Pf with
  | no => trivial
  | ok a =>
    have hf' : f ds = .ok (.v a) [] := hf
    rw [hf']
    exact h a
  | ex c fs =>
    have hf' : f ds = .ex c fs [] := hf
    rw [hf']
    exact ⟨e, x, rfl⟩
theorem cD0n {Pf : R D} {Q : D → R α} (hf : RefF f ds jD Pf) (q1 : avB xs = ms) (q2 : avD e xs = some ds) (q3 : avS xs = []) (h : ∀ d, Ref X O (k d e) (Q d)) : Ref X O ((callD ms f xs e).bind k) (Pf.nx.bind Q) := by
  cases Pf with
  | no => trivial
  | ex c fs => trivial
  | ok a =>
    unfold callD
    rw [callK0 q1 q2 q3]
    have hf' : f ds = .ok (.v a) [] := hf
    rw [hf']
    exact h a
theorem cL0 {Pf : R (List D)} {Q : List D → R α} (hf : RefF f ds jL Pf) (q1 : avB xs = ms) (q2 : avD e xs = some ds) (q3 : avS xs = []) (x : X e) (h : ∀ d, Ref X O (k (.list d) e) (Q d)) : Ref X O ((callD ms f xs e).bind k) (Pf.bind Q) := by
  unfold callD
  rw [callK0 q1 q2 q3]
  cases Pf with
  | no => trivial
  | ok a =>
    have hf' : f ds = .ok (.fl a) [] := hf
    rw [hf']
    exact h a
  | ex c fs =>
    have hf' : f ds = .ex c fs [] := hf
    rw [hf']
    exact ⟨e, x, rfl⟩
theorem cL0n {Pf : R (List D)} {Q : List D → R α} (hf : RefF f ds jL Pf) (q1 : avB xs = ms) (q2 : avD e xs = some ds) (q3 : avS xs = []) (h : ∀ d, Ref X O (k (.list d) e) (Q d)) : Ref X O ((callD ms f xs e).bind k) (Pf.nx.bind Q) := by
  cases Pf with
  | no => trivial
  | ex c fs => trivial
  | ok a =>
    unfold callD
    rw [callK0 q1 q2 q3]
    have hf' : f ds = .ok (.fl a) [] := hf
    rw [hf']
    exact h a
theorem cD1 {Pf : R (D × List D)} {Q : D → List D → R α} {en : List D → Ev} (hf : RefI f ds jD1 Pf) (q1 : avB xs = ms) (q2 : avD e xs = some ds) (q3 : avS xs = [i]) (q4 : ∀ l, setL e i l = en l) (h : ∀ d l, Ref X O (k d (en l)) (Q d l)) : Ref X O ((callD ms f xs e).bind k) (Pf.bind fun p => Q p.1 p.2) := by
  cases Pf with
  | no => trivial
  | ex c fs => exact hf.elim
  | ok a =>
    have hf' : f ds = .ok (.v a.1) [a.2] := hf
    unfold callD
    rw [callK1 q1 q2 q3 hf', q4]
    exact h a.1 a.2
theorem cL1 {Pf : R (List D × List D)} {Q : List D → List D → R α} {en : List D → Ev} (hf : RefI f ds jL1 Pf) (q1 : avB xs = ms) (q2 : avD e xs = some ds) (q3 : avS xs = [i]) (q4 : ∀ l, setL e i l = en l) (h : ∀ d l, Ref X O (k (.list d) (en l)) (Q d l)) : Ref X O ((callD ms f xs e).bind k) (Pf.bind fun p => Q p.1 p.2) := by
  cases Pf with
  | no => trivial
  | ex c fs => exact hf.elim
  | ok a =>
    have hf' : f ds = .ok (.fl a.1) [a.2] := hf
    unfold callD
    rw [callK1 q1 q2 q3 hf', q4]
    exact h a.1 a.2
def callKD (p : List Nat) (f : MF) (ds : List D) (e : Ev) : Re D := match pick p ds with
  | none => .no
  | some ds' => match f ds' with
    | .ok r [] => .ok r.d e
    | .ex c fs [] => .ex c fs e
    | _ => .no
theorem dCallK {p : List Nat} {ms : List Ex} (h : Ref X O ((valsE ms e).bind fun ds e1 => (callKD p f ds e1).bind k) P) : Ref X O ((val (mCallK p f ms) e).bind k) P := by
  refine Ref.of_eq ?_ h
  simp only [val, mCallK, Re.bind_assoc]
  refine Re.bind_congr fun ds e1 => ?_
  unfold callKD
  cases pick p ds with
  | none => rfl
  | some ds' =>
    dsimp only
    cases f ds' with
    | no => rfl
    | ok r outs => cases outs <;> rfl
    | ex c fs outs => cases outs <;> rfl
theorem cK0 {p : List Nat} {ds' : List D} {Pf : R D} {Q : D → R α} (hf : RefF f ds' jD Pf) (q1 : pick p ds = some ds') (x : X e) (h : ∀ d, Ref X O (k d e) (Q d)) : Ref X O ((callKD p f ds e).bind k) (Pf.bind Q) := by
  unfold callKD
  rw [q1]
  dsimp only
  cases Pf with
  | no => trivial
  | ok a =>
    have hf' : f ds' = .ok (.v a) [] := hf
    rw [hf']
    exact h a
  | ex c fs =>
    have hf' : f ds' = .ex c fs [] := hf
    rw [hf']
    exact ⟨e, x, rfl⟩
theorem cKL0 {p : List Nat} {ds' : List D} {Pf : R (List D)} {Q : List D → R α} (hf : RefF f ds' jL Pf) (q1 : pick p ds = some ds') (x : X e) (h : ∀ d, Ref X O (k (.list d) e) (Q d)) : Ref X O ((callKD p f ds e).bind k) (Pf.bind Q) := by
  unfold callKD
  rw [q1]
  dsimp only
  cases Pf with
  | no => trivial
  | ok a =>
    have hf' : f ds' = .ok (.fl a) [] := hf
    rw [hf']
    exact h a
  | ex c fs =>
    have hf' : f ds' = .ex c fs [] := hf
    rw [hf']
    exact ⟨e, x, rfl⟩
end
/-! results that a slot takes over -/
section
variable {k : VR → Ev → Re β}
theorem wFz {m : Ex} (h : Ref X O ((val m e).bind fun d e1 => k (.v d) e1) P) : Ref X O ((mFz m e).bind k) P := by
  refine Ref.of_eq ?_ h
  simp only [mFz, Re.bind_assoc]
  rfl
theorem wM {i : Nat} {d : D} (q : e[i]? = some (.fz d)) (h : Ref X O (k (.v d) e) P) : Ref X O ((mM i e).bind k) P := by
  unfold mM; rw [q]; exact h
theorem wMo {i : Nat} {l : List D} (q : e[i]? = some (.ol l)) (q2 : e.set i .un = e1) (h : Ref X O (k (.fl l) e1) P) : Ref X O ((mM i e).bind k) P := by
  subst q2; unfold mM; rw [q]; exact h
theorem wMd {i : Nat} {l : List (D × D)} (q : e[i]? = some (.od l)) (q2 : e.set i .un = e1) (h : Ref X O (k (.fd l) e1) P) : Ref X O ((mM i e).bind k) P := by
  subst q2; unfold mM; rw [q]; exact h
theorem wLst {ms : List Ex} (h : Ref X O ((valsE ms e).bind fun ds e1 => k (.fl ds) e1) P) : Ref X O ((mLst ms e).bind k) P := by
  refine Ref.of_eq ?_ h
  simp only [mLst, Re.bind_assoc]
  rfl
def finNL (g : List D → Option VR) (hs : List Hd) (e : Ev) : Re (List D) := match resL hs e with
  | some ds => (match g ds with
    | some (.fl l) => .ok l e
    | _ => .no)
  | none => .no
theorem wCB {g : List D → Option VR} {os : List Opd} (h : Ref X O ((opsE os e).bind fun hs e1 => (finNL g hs e1).bind fun l e2 => k (.fl l) e2) P) : Ref X O ((mCB g os e).bind k) P := by
  by_cases z : ((opsE os e).bind fun hs e1 => (finNL g hs e1).bind fun l e2 => k (.fl l) e2) = .no
  · rw [z] at h; exact Ref.of_no h
  refine Ref.of_eq ?_ h
  simp only [mCB, Re.bind_assoc]
  cases ho : opsE os e with
  | no => rfl
  | ex c fs e1 => rfl
  | ok hs e1 =>
    rw [ho] at z
    simp only [Re.bind] at z ⊢
    unfold finNL at z ⊢
    cases hr : resL hs e1 with
    | none => rfl
    | some ds =>
      rw [hr] at z
      dsimp only at z ⊢
      cases hg : g ds with
      | none => rfl
      | some r =>
        rw [hg] at z
        cases r with
        | fl l => rfl
        | v d => exact absurd rfl z
        | fd l => exact absurd rfl z
theorem fNL {k : List D → Ev → Re β} {g : List D → Option VR} {hs : List Hd} {ds : List D} {Q : List D → R α} (q : resL hs e = some ds) (h : ∀ d, Ref X O (k d e) (Q d)) : Ref X O ((finNL g hs e).bind k) ((qL (g ds)).bind Q) := by
  unfold finNL
  rw [q]
  dsimp only
  cases g ds with
  | none => trivial
  | some r => cases r with
    | fl l => exact h l
    | v d => trivial
    | fd l => trivial
def finL2 (g : D → D → Option VR) (h1 h2 : Hd) (e : Ev) : Re (List D) := match h1.res e, h2.res e with
  | some x, some y => (match g x y with
    | some (.fl l) => .ok l e
    | _ => .no)
  | _, _ => .no
theorem wB {g : D → D → Option VR} {a b : Opd} (h : Ref X O ((a.ev e).bind fun h1 e1 => (b.ev e1).bind fun h2 e2 => (finL2 g h1 h2 e2).bind fun l e3 => k (.fl l) e3) P) : Ref X O ((mB g a b e).bind k) P := by
  by_cases z : ((a.ev e).bind fun h1 e1 => (b.ev e1).bind fun h2 e2 => (finL2 g h1 h2 e2).bind fun l e3 => k (.fl l) e3) = .no
  · rw [z] at h; exact Ref.of_no h
  refine Ref.of_eq ?_ h
  simp only [mB, Re.bind_assoc]
  cases ha : a.ev e with
  | no => rfl
  | ex c fs e1 => rfl
  | ok h1 e1 =>
    rw [ha] at z
    simp only [Re.bind] at z ⊢
    cases hb : b.ev e1 with
    | no => rfl
    | ex c fs e1 => rfl
    | ok h2 e2 =>
      rw [hb] at z
      simp only [Re.bind] at z ⊢
      unfold finL2 at z ⊢
      cases q1 : h1.res e2 with
      | none => rfl
      | some x =>
        cases q2 : h2.res e2 with
        | none => rfl
        | some y =>
          rw [q1, q2] at z
          dsimp only at z ⊢
          cases hg : g x y with
          | none => rfl
          | some r =>
            rw [hg] at z
            cases r with
            | fl l => rfl
            | v d => exact absurd rfl z
            | fd l => exact absurd rfl z
theorem fL2 {k : List D → Ev → Re β} {g : D → D → Option VR} {h1 h2 : Hd} {x y : D} {Q : List D → R α} (q1 : h1.res e = some x) (q2 : h2.res e = some y) (h : ∀ d, Ref X O (k d e) (Q d)) : Ref X O ((finL2 g h1 h2 e).bind k) ((qL (g x y)).bind Q) := by
  unfold finL2
  rw [q1, q2]
  dsimp only
  cases g x y with
  | none => trivial
  | some r => cases r with
    | fl l => exact h l
    | v d => trivial
    | fd l => trivial
def lrO (ds : List D) : Option (List D) := match rgB ds with
  | some (a, b) => gLr a b
  | none => none
theorem wLr {ms : List Ex} (h : Ref X O ((valsE ms e).bind fun ds e1 => (optK (lrO ds) e1).bind fun l e2 => k (.fl l) e2) P) : Ref X O ((mLr ms e).bind k) P := by
  refine Ref.of_eq ?_ h
  simp only [mLr, Re.bind_assoc]
  refine Re.bind_congr fun ds e1 => ?_
  unfold lrO
  cases rgB ds with
  | none => rfl
  | some p => dsimp only; cases gLr p.1 p.2 <;> rfl
theorem dLr {k : D → Ev → Re β} {ms : List Ex} (h : Ref X O ((valsE ms e).bind fun ds e1 => (optK (lrO ds) e1).bind fun l e2 => k (.list l) e2) P) : Ref X O ((val (mLr ms) e).bind k) P := by
  unfold val
  rw [Re.bind_assoc]
  exact wLr h
def callL (ms : List Bool) (f : MF) (xs : List Av) (e : Ev) : Re VR := callK ms f xs e
theorem wCall {ms : List Bool} {f : MF} {as : List Ar} (h : Ref X O ((arsE as e).bind fun xs e1 => (callL ms f xs e1).bind k) P) : Ref X O ((mCall ms f as e).bind k) P := by
  refine Ref.of_eq ?_ h
  simp only [mCall, callL, callK, Re.bind_assoc]
section
variable {ms : List Bool} {f : MF} {xs : List Av} {ds : List D} {i : Nat}
theorem wL0 {Pf : R (List D)} {Q : List D → R α} (hf : RefF f ds jL Pf) (q1 : avB xs = ms) (q2 : avD e xs = some ds) (q3 : avS xs = []) (x : X e) (h : ∀ d, Ref X O (k (.fl d) e) (Q d)) : Ref X O ((callL ms f xs e).bind k) (Pf.bind Q) := by
  unfold callL
  rw [callK0 q1 q2 q3]
  cases Pf with
  | no => trivial
  | ok a =>
    have hf' : f ds = .ok (.fl a) [] := hf
    rw [hf']
    exact h a
  | ex c fs =>
    have hf' : f ds = .ex c fs [] := hf
    rw [hf']
    exact ⟨e, x, rfl⟩
theorem wL0n {Pf : R (List D)} {Q : List D → R α} (hf : RefF f ds jL Pf) (q1 : avB xs = ms) (q2 : avD e xs = some ds) (q3 : avS xs = []) (h : ∀ d, Ref X O (k (.fl d) e) (Q d)) : Ref X O ((callL ms f xs e).bind k) (Pf.nx.bind Q) := by
  cases Pf with
  | no => trivial
  | ex c fs => trivial
  | ok a =>
    unfold callL
    rw [callK0 q1 q2 q3]
    have hf' : f ds = .ok (.fl a) [] := hf
    rw [hf']
    exact h a
theorem wL1 {Pf : R (List D × List D)} {Q : List D → List D → R α} {en : List D → Ev} (hf : RefI f ds jL1 Pf) (q1 : avB xs = ms) (q2 : avD e xs = some ds) (q3 : avS xs = [i]) (q4 : ∀ l, setL e i l = en l) (h : ∀ d l, Ref X O (k (.fl d) (en l)) (Q d l)) : Ref X O ((callL ms f xs e).bind k) (Pf.bind fun p => Q p.1 p.2) := by
  cases Pf with
  | no => trivial
  | ex c fs => exact hf.elim
  | ok a =>
    have hf' : f ds = .ok (.fl a.1) [a.2] := hf
    unfold callL
    rw [callK1 q1 q2 q3 hf', q4]
    exact h a.1 a.2
end
end
/-! if-expressions -/
def ifK {γ : Type} (c : Bool) (a b : Re γ) : Re γ := if c = true then a else b
theorem dIf {k : D → Ev → Re β} {t a b : Ex} (h : Ref X O ((mT t e).bind fun c e1 => (ifK c (val a e1) (val b e1)).bind k) P) : Ref X O ((val (mIf t a b) e).bind k) P := by
  refine Ref.of_eq ?_ h
  unfold val mIf
  simp only [Re.bind_assoc]
  refine Re.bind_congr fun c e1 => ?_
  cases c <;> simp [ifK, Re.bind_assoc]
theorem wIf {k : VR → Ev → Re β} {t a b : Ex} (h : Ref X O ((mT t e).bind fun c e1 => (ifK c (a e1) (b e1)).bind k) P) : Ref X O ((mIf t a b e).bind k) P := by
  refine Ref.of_eq ?_ h
  unfold mIf
  simp only [Re.bind_assoc]
  refine Re.bind_congr fun c e1 => ?_
  cases c <;> rfl
theorem jIf {k : γ → Ev → Re β} {c : Bool} {a b : Re γ} {PA PB : R γ} {Q : γ → R α} (ha : Ref X (OE e) a PA) (hb : Ref X (OE e) b PB) (h : ∀ x, Ref X O (k x e) (Q x)) : Ref X O ((ifK c a b).bind k) ((if c = true then PA else PB).bind Q) := by
  refine jE (e := e) ?_ h
  cases c
  · exact hb
  · exact ha
/-- .. where slots are changed -/
def OS (en : τ → Ev) (g : γ → τ → δ) : Out (γ × τ) δ := ⟨fun a r => r = .ok (g a.1 a.2) (en a.2), fun h => ⟨_, _, h⟩⟩
theorem jIfS {k : γ → Ev → Re β} {c : Bool} {a b : Ev → Re γ} {E : Ev} {PA PB : R (γ × τ)} {up : Ev → τ → Ev} {en' : τ → Ev} {Q : γ → τ → R α} (hn : ∀ c, up E c = en' c) (ha : Ref X (OS en' fun x _ => x) (a E) PA) (hb : Ref X (OS en' fun x _ => x) (b E) PB) (h : ∀ x t, Ref X O (k x (en' t)) (Q x t)) : Ref X O ((ifK c (a E) (b E)).bind k) ((if c = true then PA else PB).bind fun p => Q p.1 p.2) := by
  refine Ref.part (O1 := OS en' fun x _ => x) (p := if c = true then PA else PB) ?_ fun a b e1 _ h1 h2 => ?_
  · cases c
    · exact hb
    · exact ha
  · have h1' : _ = Re.ok a.1 (en' a.2) := h1
    rw [h2] at h1'
    cases h1'
    exact h a.1 a.2
theorem nS {en : τ → Ev} {g : γ → τ → δ} {x : γ} {t : τ} {y : δ} {e : Ev} (h : (Re.ok y e) = Re.ok (g x t) (en t)) : Ref X (OS en g) (.ok y e) (.ok (x, t)) := h
theorem dW {m : Ex} {O : Out α D} (h : Ref X O ((val m e).bind fun b e1 => .ok b e1) P) : Ref X O (val m e) P := by
  refine Ref.of_eq ?_ h
  cases val m e <;> rfl
theorem wW {m : Ex} {O : Out α VR} (h : Ref X O ((m e).bind fun b e1 => .ok b e1) P) : Ref X O (m e) P := by
  refine Ref.of_eq ?_ h
  cases m e <;> rfl
end
end RL

/-! RL24: comprehensions, statements, loops, defs. -/
namespace RL
open PySem PySem.Spec PyProof.Rows L2
section
variable {α β γ δ τ ρ : Type} {X : Ev → Prop} {O : Out α β} {e e1 e2 : Ev} {P : R α}
/-! comprehensions -/
def lcK (own : List Nat) (t : Tg) (cond : Ev → Re Bool) (elt : Ex) (ds : List D) (e : Ev) : Re (List D) := if plainE e own = true ∧ ds.length < sizeLine then lcL own t cond elt ds [] e else .no
theorem wLc {k : VR → Ev → Re β} {own : List Nat} {t : Tg} {it : Im} {cond : Ev → Re Bool} {elt : Ex} (h : Ref X O ((it e).bind fun ds e1 => (lcK own t cond elt ds e1).bind fun l e2 => k (.fl l) e2) P) : Ref X O ((mLc own t it cond elt e).bind k) P := by
  refine Ref.of_eq ?_ h
  simp only [mLc, Re.bind_assoc]
  refine Re.bind_congr fun ds e1 => ?_
  unfold lcK
  split
  · simp only [Re.bind_assoc]; rfl
  · rfl
theorem dLc {k : D → Ev → Re β} {own : List Nat} {t : Tg} {it : Im} {cond : Ev → Re Bool} {elt : Ex} (h : Ref X O ((it e).bind fun ds e1 => (lcK own t cond elt ds e1).bind fun l e2 => k (.list l) e2) P) : Ref X O ((val (mLc own t it cond elt) e).bind k) P := by
  unfold val
  rw [Re.bind_assoc]
  exact wLc h
def putC {γ : Type} (own : List Nat) (t : Tg) (d : D) (e : Ev) (k : Ev → Re γ) : Re γ := match t.put d (wipeE e own) with
  | none => .no
  | some e1 => k e1
/-- one item: the element, whether it is taken -/
def eltK (own : List Nat) (e0 : Ev) (elt : Ex) (e : Ev) : Re (Option D) := (noEx (val elt e)).bind fun y e3 => .ok (some y) (backE e0 e3 own)
def itemK (own : List Nat) (e0 : Ev) (cond : Ev → Re Bool) (elt : Ex) (e : Ev) : Re (Option D) := (noEx (cond e)).bind fun b e2 => if b = true then eltK own e0 elt e2 else .ok none (backE e0 e2 own)
theorem stepC_eq {own : List Nat} {t : Tg} {cond : Ev → Re Bool} {elt : Ex} {d : D} : stepC own t cond elt d e = putC own t d e (itemK own e cond elt) := rfl
theorem lc_pure {own : List Nat} {t : Tg} {cond : Ev → Re Bool} {elt : Ex} {f : D → R (Option D)} (h : ∀ d, Ref XF (OE e) (putC own t d e (itemK own e cond elt)) (f d)) : ∀ (ds acc l : List D), qLc f ds = .ok l → lcL own t cond elt ds acc e = .ok (acc ++ l) e
  | [], acc, l, q => by
    cases q
    unfold lcL
    rw [List.append_nil]
  | d :: ds, acc, l, q => by
    rw [lcL_cons, stepC_eq]
    unfold qLc at q
    have hd := h d
    cases hf : f d with
    | no => rw [hf] at q; cases q
    | ex c fs => rw [hf] at hd; obtain ⟨_, z, _⟩ := hd; exact z.elim
    | ok y =>
      rw [hf] at q hd
      rw [show putC own t d e (itemK own e cond elt) = .ok y e from hd]
      simp only [R.bind] at q
      cases hq : qLc f ds with
      | no => rw [hq] at q; cases q
      | ex c fs => rw [hq] at q; cases q
      | ok ys =>
        rw [hq] at q
        cases q
        simp only [Re.bind]
        rw [lc_pure h ds _ _ hq, List.append_assoc]
theorem qLc_ex {f : D → R (Option D)} (h : ∀ d c fs, f d ≠ .ex c fs) : ∀ (ds : List D) c fs, qLc f ds ≠ .ex c fs
  | [], c, fs => by unfold qLc; intro z; cases z
  | d :: ds, c, fs => by
    unfold qLc
    cases hf : f d with
    | no => intro z; cases z
    | ex c fs => exact absurd hf (h d c fs)
    | ok y =>
      simp only [R.bind]
      cases hq : qLc f ds with
      | no => intro z; cases z
      | ex c fs => exact absurd hq (qLc_ex h ds c fs)
      | ok ys => intro z; cases z
theorem ref_noex {p : R α} {r : Re β} (h : Ref XF O r p) : ∀ c fs, p ≠ .ex c fs := fun c fs z => by
  subst z
  obtain ⟨_, z, _⟩ := h
  exact z.elim
theorem fLc {k : List D → Ev → Re β} {own : List Nat} {t : Tg} {cond : Ev → Re Bool} {elt : Ex} {ds : List D} {f : D → R (Option D)} {Q : List D → R α} (hp : plainE e own = true) (hf : ∀ d, Ref XF (OE e) (putC own t d e (itemK own e cond elt)) (f d)) (h : ∀ l, Ref X O (k l e) (Q l)) :
    Ref X O ((lcK own t cond elt ds e).bind k) (qG (small ds) ((qLc f ds).bind Q)) := by
  unfold qG small
  by_cases hs : ds.length < sizeLine
  · rw [if_pos (decide_eq_true hs)]
    unfold lcK
    rw [if_pos ⟨hp, hs⟩]
    refine Ref.step (qLc_ex (fun d => ref_noex (hf d)) ds) fun l hl => ?_
    rw [lc_pure hf ds [] l hl]
    exact h l
  · rw [if_neg (by simpa using hs)]
    trivial
theorem lc_st {own : List Nat} {t : Tg} {cond : Ev → Re Bool} {elt : Ex} {en : τ → Ev} {f : D → τ → R (Option D × τ)} (h : ∀ d c, Ref XF (OS en fun x _ => x) (putC own t d (en c) (itemK own (en c) cond elt)) (f d c)) : ∀ (ds acc : List D) (c : τ) (r : List D × τ), qLcS f ds c = .ok r → lcL own t cond elt ds acc (en c) = .ok (acc ++ r.1) (en r.2)
  | [], acc, c, r, q => by
    cases q
    unfold lcL
    rw [List.append_nil]
  | d :: ds, acc, c, r, q => by
    rw [lcL_cons, stepC_eq]
    unfold qLcS at q
    have hd := h d c
    cases hf : f d c with
    | no => rw [hf] at q; cases q
    | ex c fs => rw [hf] at hd; obtain ⟨_, z, _⟩ := hd; exact z.elim
    | ok y =>
      rw [hf] at q hd
      rw [show putC own t d (en c) (itemK own (en c) cond elt) = .ok y.1 (en y.2) from hd]
      simp only [R.bind] at q
      cases hq : qLcS f ds y.2 with
      | no => rw [hq] at q; cases q
      | ex c fs => rw [hq] at q; cases q
      | ok ys =>
        rw [hq] at q
        cases q
        simp only [Re.bind]
        rw [lc_st h ds _ _ _ hq, List.append_assoc]
theorem qLcS_ex {f : D → τ → R (Option D × τ)} (h : ∀ d t c fs, f d t ≠ .ex c fs) : ∀ (ds : List D) t c fs, qLcS f ds t ≠ .ex c fs
  | [], t, c, fs => by unfold qLcS; intro z; cases z
  | d :: ds, t, c, fs => by
    unfold qLcS
    cases hf : f d t with
    | no => intro z; cases z
    | ex c fs => exact absurd hf (h d t c fs)
    | ok y =>
      simp only [R.bind]
      cases hq : qLcS f ds y.2 with
      | no => intro z; cases z
      | ex c fs => exact absurd hq (qLcS_ex h ds _ c fs)
      | ok ys => intro z; cases z
theorem fLcS {k : List D → Ev → Re β} {own : List Nat} {t : Tg} {cond : Ev → Re Bool} {elt : Ex} {ds : List D} {up : Ev → τ → Ev} {en' : τ → Ev} {c0 : τ} {f : D → τ → R (Option D × τ)} {Q : List D → τ → R α} (hn : ∀ c, up e c = en' c) (h0 : en' c0 = e) (hp : plainE e own = true) (hf : ∀ d c, Ref XF (OS en' fun x _ => x) (putC own t d (en' c) (itemK own (en' c) cond elt)) (f d c)) (h : ∀ l c, Ref X O (k l (en' c)) (Q l c)) :
    Ref X O ((lcK own t cond elt ds e).bind k) (qG (small ds) ((qLcS f ds c0).bind fun p => Q p.1 p.2)) := by
  unfold qG small
  by_cases hs : ds.length < sizeLine
  · rw [if_pos (decide_eq_true hs)]
    unfold lcK
    rw [if_pos ⟨hp, hs⟩]
    refine Ref.step (qLcS_ex (fun d c => ref_noex (hf d c)) ds c0) fun l hl => ?_
    subst h0
    rw [lc_st hf ds [] c0 l hl]
    exact h l.1 l.2
  · rw [if_neg (by simpa using hs)]
    trivial
section
variable {k : Ev → Re β} {own : List Nat} {d : D}
theorem pu1 {i : Nat} (q : putS i (.fz d) (wipeE e own) = some e1) (h : Ref X O (k e1) P) : Ref X O (putC own (.nm i) d e k) P := by
  unfold putC
  rw [show (Tg.nm i).put d (wipeE e own) = some e1 from q]
  exact h
theorem pu2 {i j : Nat} {en : D → D → Ev} {Q : D → D → R α} (q : ∀ x y, putL [i, j] [x, y] (wipeE e own) = some (en x y)) (h : ∀ x y, Ref X O (k (en x y)) (Q x y)) : Ref X O (putC own (.tp [i, j]) d e k) ((qT2 d).bind fun p => Q p.1 p.2) := by
  unfold putC Tg.put
  cases d with
  | tuple ds =>
    match ds with
    | [x, y] => dsimp only; rw [q x y]; exact h x y
    | [] => trivial
    | [_] => trivial
    | _ :: _ :: _ :: _ => trivial
  | _ => trivial
theorem pu3 {i j l : Nat} {en : D → D → D → Ev} {Q : D → D → D → R α} (q : ∀ x y z, putL [i, j, l] [x, y, z] (wipeE e own) = some (en x y z)) (h : ∀ x y z, Ref X O (k (en x y z)) (Q x y z)) : Ref X O (putC own (.tp [i, j, l]) d e k) ((qT3 d).bind fun p => Q p.1 p.2.1 p.2.2) := by
  unfold putC Tg.put
  cases d with
  | tuple ds =>
    match ds with
    | [x, y, z] => dsimp only; rw [q x y z]; exact h x y z
    | [] => trivial
    | [_] => trivial
    | [_, _] => trivial
    | _ :: _ :: _ :: _ :: _ => trivial
  | _ => trivial
theorem pu4 {i j l m : Nat} {en : D → D → D → D → Ev} {Q : D → D → D → D → R α} (q : ∀ x y z w, putL [i, j, l, m] [x, y, z, w] (wipeE e own) = some (en x y z w)) (h : ∀ x y z w, Ref X O (k (en x y z w)) (Q x y z w)) : Ref X O (putC own (.tp [i, j, l, m]) d e k) ((qT4 d).bind fun p => Q p.1 p.2.1 p.2.2.1 p.2.2.2) := by
  unfold putC Tg.put
  cases d with
  | tuple ds =>
    match ds with
    | [x, y, z, w] => dsimp only; rw [q x y z w]; exact h x y z w
    | [] => trivial
    | [_] => trivial
    | [_, _] => trivial
    | [_, _, _] => trivial
    | _ :: _ :: _ :: _ :: _ :: _ => trivial
  | _ => trivial
end
theorem noex_bind {r : Re γ} {k : γ → Ev → Re β} (h : Ref XF O (r.bind k) P) : Ref XF O ((noEx r).bind k) P := by
  cases r with
  | ok a e => exact h
  | no => exact h
  | ex c fs e =>
    cases P with
    | ok a => obtain ⟨_, _, z⟩ := O.ok h; cases z
    | ex c fs => obtain ⟨_, z, _⟩ := h; exact z.elim
    | no => trivial
theorem itY {own : List Nat} {e0 : Ev} {elt : Ex} {O : Out α (Option D)} (h : Ref XF O (eltK own e0 elt e) P) : Ref XF O (itemK own e0 mYes elt e) P := h
def selK (own : List Nat) (e0 : Ev) (elt : Ex) (b : Bool) (e : Ev) : Re (Option D) := if b = true then eltK own e0 elt e else .ok none (backE e0 e own)
theorem itC {own : List Nat} {e0 : Ev} {elt m : Ex} {O : Out α (Option D)} (h : Ref XF O ((mT m e).bind fun b e2 => selK own e0 elt b e2) P) : Ref XF O (itemK own e0 (mT m) elt e) P := noex_bind h
theorem itS {own : List Nat} {e0 : Ev} {elt : Ex} {O : Out α (Option D)} {b : Bool} {P0 P1 : R α} (h : Ref XF O (eltK own e0 elt e) P1) (h0 : Ref XF O (.ok none (backE e0 e own)) P0) : Ref XF O (selK own e0 elt b e) (if b = true then P1 else P0) := by
  unfold selK
  cases b
  · exact h0
  · exact h
theorem elt {own : List Nat} {e0 : Ev} {elt : Ex} {O : Out α (Option D)} (h : Ref XF O ((val elt e).bind fun y e3 => .ok (some y) (backE e0 e3 own)) P) : Ref XF O (eltK own e0 elt e) P := noex_bind h
theorem nEe {γ : Type} {a : γ} {e e' : Ev} (h : e' = e) : Ref X (OE e) (.ok a e') (.ok a) := by subst h; rfl
theorem nSe {γ : Type} {en : τ → Ev} {x : γ} {t : τ} {e : Ev} (h : e = en t) : Ref X (OS en fun x _ => x) (.ok x e) (.ok (x, t)) := by subst h; rfl
end

/-! ### dicts -/
section
variable {α β : Type} {X : Ev → Prop} {O : Out α β} {e e1 e2 : Ev} {P : R α}
theorem dDn {k : D → Ev → Re β} (h : Ref X O (k (.dict []) e) P) : Ref X O ((val (fun e => Re.ok (VR.fd []) e) e).bind k) P := h
theorem wDn {k : VR → Ev → Re β} (h : Ref X O (k (.fd []) e) P) : Ref X O (((fun e => Re.ok (VR.fd []) e) e).bind k) P := h
theorem ds0 {k : List (D × D) → Ev → Re β} (h : Ref X O (k [] e) P) : Ref X O ((pairsE [] e).bind k) P := h
theorem dsc {k : List (D × D) → Ev → Re β} {a b : Ex} {ps : List (Ex × Ex)} (h : Ref X O ((val a e).bind fun dk e1 => (val b e1).bind fun dv e2 => (pairsE ps e2).bind fun r e3 => k ((dk, dv) :: r) e3) P) : Ref X O ((pairsE ((a, b) :: ps) e).bind k) P := by
  refine Ref.of_eq ?_ h
  simp only [pairsE, Re.bind_assoc]
  rfl
def dispO (kvs : List (D × D)) : Option (List (D × D)) := if kvs.length ≤ 15 then mergeD [] kvs else none
theorem disp_ref {ps : List (Ex × Ex)} {PP : R (List (D × D))} (hp : Ref XF (OE e) ((pairsE ps e).bind fun r e1 => .ok r e1) PP) {k : VR → Ev → Re β} {Q : List (D × D) → R α} (h : ∀ l, Ref X O (k (.fd l) e) (Q l)) : Ref X O ((mDisp ps e).bind k) ((PP.bind fun r => qX (dispO r)).bind Q) := by
  cases PP with
  | no => trivial
  | ex c fs => obtain ⟨_, z, _⟩ := hp; exact z.elim
  | ok t =>
    have hv : pairsE ps e = .ok t e := by
      have z : (pairsE ps e).bind (fun rs e1 => Re.ok rs e1) = .ok t e := hp
      cases hq : pairsE ps e <;> rw [hq] at z <;> first | cases z; rfl | cases z
    unfold mDisp
    rw [hv]
    show Ref X O ((if t.length ≤ 15 then (match mergeD [] t with
      | some l => Re.ok (VR.fd l) e
      | none => .no) else .no).bind k) ((qX (dispO t)).bind Q)
    unfold dispO
    by_cases hl : t.length ≤ 15
    · rw [if_pos hl, if_pos hl]
      cases mergeD [] t with
      | none => trivial
      | some l => exact h l
    · rw [if_neg hl, if_neg hl]
      trivial
theorem wDs {ps : List (Ex × Ex)} {PP : R (List (D × D))} {k : VR → Ev → Re β} {Q : List (D × D) → R α} (hp : Ref XF (OE e) ((pairsE ps e).bind fun r e1 => .ok r e1) PP) (h : ∀ l, Ref X O (k (.fd l) e) (Q l)) : Ref X O ((mDisp ps e).bind k) ((PP.bind fun r => qX (dispO r)).bind Q) := disp_ref hp h
theorem dDs {ps : List (Ex × Ex)} {PP : R (List (D × D))} {k : D → Ev → Re β} {Q : List (D × D) → R α} (hp : Ref XF (OE e) ((pairsE ps e).bind fun r e1 => .ok r e1) PP) (h : ∀ l, Ref X O (k (.dict l) e) (Q l)) : Ref X O ((val (mDisp ps) e).bind k) ((PP.bind fun r => qX (dispO r)).bind Q) := by
  unfold val
  rw [Re.bind_assoc]
  exact disp_ref hp h
end

/-! ### lists that are changed -/
section
variable {α β : Type} {X : Ev → Prop} {O : Out α β} {e e1 e2 : Ev} {P : R α} {k : D → Ev → Re β} {i : Nat}
def appK (i : Nat) (d : D) (e : Ev) : Re D := match ownL e i with
  | some l => if l.length < sizeLine then .ok .none (setL e i (l ++ [d])) else .no
  | none => .no
theorem dApp {m : Ex} {l : List D} (q : ownL e i = some l) (h : Ref X O ((val m e).bind fun d e1 => (appK i d e1).bind k) P) : Ref X O ((val (mApp i m) e).bind k) P := by
  refine Ref.of_eq ?_ h
  unfold val mApp
  rw [q]
  simp only [Re.bind_assoc, val]
  refine Re.bind_congr fun d e1 => ?_
  show _ = (appK i d.d e1).bind k
  unfold appK
  show ((match ownL e1 i with
    | some l => if l.length < sizeLine then Re.ok (VR.v PyData.none) (setL e1 i (l ++ [d.d])) else Re.no
    | none => Re.no).bind fun r e => (Re.ok r.d e).bind k) = _
  cases ownL e1 i with
  | none => rfl
  | some l =>
    dsimp only
    split <;> rfl
theorem fApp {d : D} {l : List D} (q : ownL e i = some l) (q2 : setL e i (l ++ [d]) = e1) (h : Ref X O (k .none e1) P) : Ref X O ((appK i d e).bind k) (qG (small l) P) := by
  unfold appK qG small
  rw [q]
  dsimp only
  by_cases hs : l.length < sizeLine
  · rw [if_pos hs, if_pos (decide_eq_true hs), q2]
    exact h
  · rw [if_neg hs, if_neg (by simpa using hs)]
    trivial
def extK (i : Nat) (r : VR) (e : Ev) : Re D := match r, ownL e i with
  | .fl ds, some l => if l.length + ds.length ≤ sizeLine then .ok .none (setL e i (l ++ ds)) else .no
  | _, _ => .no
theorem dExt {m : Ex} {l : List D} (q : ownL e i = some l) (h : Ref X O ((m e).bind fun d e1 => (extK i d e1).bind k) P) : Ref X O ((val (mExt i m) e).bind k) P := by
  refine Ref.of_eq ?_ h
  unfold val mExt
  rw [q]
  simp only [Re.bind_assoc, val]
  refine Re.bind_congr fun d e1 => ?_
  unfold extK
  cases d with
  | fl ds =>
    cases ownL e1 i with
    | none => rfl
    | some l => dsimp only; split <;> rfl
  | v d => rfl
  | fd l => rfl
theorem fExt {ds : List D} {l : List D} (q : ownL e i = some l) (q2 : setL e i (l ++ ds) = e1) (h : Ref X O (k .none e1) P) : Ref X O ((extK i (.fl ds) e).bind k) (qG (decide (l.length + ds.length ≤ sizeLine)) P) := by
  unfold extK qG
  rw [q]
  dsimp only
  by_cases hs : l.length + ds.length ≤ sizeLine
  · rw [if_pos hs, if_pos (decide_eq_true hs), q2]
    exact h
  · rw [if_neg hs, if_neg (by simpa using hs)]
    trivial
theorem dPop {l : List D} {Q : D → R α} (q : ownL e i = some l) (q2 : setL e i l.dropLast = e1) (h : ∀ d, Ref X O (k d e1) (Q d)) : Ref X O ((val (mPop i) e).bind k) ((qX l[l.length - 1]?).bind Q) := by
  unfold val mPop
  rw [q]
  dsimp only
  cases l[l.length - 1]? with
  | none => trivial
  | some d => rw [← q2] at h; exact h d
def popAt (l : List D) (k : D) : Option (D × List D) := match k with
  | .int k => if -(2 ^ 63) ≤ k ∧ k < 2 ^ 63 then (match seqIndex? k l.length with
      | some j => (l[j]?).map fun d => (d, l.eraseIdx j)
      | none => none) else none
  | _ => none
def popK (i : Nat) (d : D) (e : Ev) : Re D := match ownL e i with
  | some l => (match popAt l d with
    | some p => .ok p.1 (setL e i p.2)
    | none => .no)
  | none => .no
theorem dPopAt {m : Ex} {l : List D} (q : ownL e i = some l) (h : Ref X O ((val m e).bind fun d e1 => (popK i d e1).bind k) P) : Ref X O ((val (mPopAt i m) e).bind k) P := by
  refine Ref.of_eq ?_ h
  unfold val mPopAt
  rw [q]
  simp only [Re.bind_assoc, val]
  refine Re.bind_congr fun d e1 => ?_
  show _ = (popK i d.d e1).bind k
  unfold popK popAt
  simp only [Re.bind]
  cases ownL e1 i with
  | none => cases d.d <;> rfl
  | some l =>
    cases d.d with
    | int j =>
      dsimp only
      by_cases hj : -(2 ^ 63) ≤ j ∧ j < 2 ^ 63
      · rw [if_pos hj, if_pos hj]
        cases seqIndex? j l.length with
        | none => rfl
        | some n => dsimp only; cases l[n]? <;> rfl
      · rw [if_neg hj, if_neg hj]
    | _ => rfl
theorem fPop {d : D} {l : List D} {en : List D → Ev} {Q : D → List D → R α} (q : ownL e i = some l) (q2 : ∀ l, setL e i l = en l) (h : ∀ d l, Ref X O (k d (en l)) (Q d l)) : Ref X O ((popK i d e).bind k) ((qX (popAt l d)).bind fun p => Q p.1 p.2) := by
  unfold popK
  rw [q]
  dsimp only
  cases popAt l d with
  | none => trivial
  | some p => show Ref X O (k p.1 (setL e i p.2)) _; rw [q2]; exact h p.1 p.2
end

/-! ### statements -/
section
variable {α δ τ : Type} {X : Ev → Prop} {O : Out α Fl} {e e1 e2 : Ev} {P : R α} {b : Sm}
theorem s_as {a c d : Sm} (h : Ref X O (sSeq a (sSeq c d) e) P) : Ref X O (sSeq (sSeq a c) d e) P := by
  refine Ref.of_eq ?_ h
  unfold sSeq
  cases a e with
  | no => rfl
  | ex c fs e1 => rfl
  | ok f e1 => cases f <;> rfl
theorem s_N (h : Ref X O (b e) P) : Ref X O (sSeq sN b e) P := h
theorem s_K {ks : List Nat} (q : wipeE e ks = e1) (h : Ref X O (b e1) P) : Ref X O (sSeq (sK ks) b e) P := by subst q; exact h
theorem s_F {ks : List Nat} (q : frzE e ks = e1) (h : Ref X O (b e1) P) : Ref X O (sSeq (sFz ks) b e) P := by subst q; exact h
def putK (i : Nat) (s : Slot) (e : Ev) (b : Sm) : Re Fl := match putS i s e with
  | some e2 => b e2
  | none => .no
theorem s_A {i : Nat} {m : Ex} (h : Ref X O ((m e).bind fun r e1 => putK i r.slot e1 b) P) : Ref X O (sSeq (sA i m) b e) P := by
  refine Ref.of_eq ?_ h
  rw [sSeq_eq]
  unfold sA
  rw [seqK_bind]
  refine Re.bind_congr fun r e1 => ?_
  unfold putK
  cases putS i r.slot e1 <;> rfl
theorem f_P {i : Nat} {s : Slot} (q : putS i s e = some e1) (h : Ref X O (b e1) P) : Ref X O (putK i s e b) P := by
  unfold putK; rw [q]; exact h
theorem s_E {m : Ex} (h : Ref X O ((val m e).bind fun _ e1 => b e1) P) : Ref X O (sSeq (sE m) b e) P := by
  refine Ref.of_eq ?_ h
  rw [sSeq_eq]
  unfold sE val
  rw [seqK_bind]
  simp only [Re.bind_assoc]
  rfl
theorem s_R {m : Ex} (h : Ref X O ((m e).bind fun r e1 => .ok (.rt r) e1) P) : Ref X O (sSeq (sR m) b e) P := by
  refine Ref.of_eq ?_ h
  rw [sSeq_eq]
  unfold sR
  rw [seqK_bind]
  rfl
theorem n_R {a : α} {r : VR} (h : O.rel a (.ok (.rt r) e)) : Ref X O (.ok (.rt r) e) (.ok a) := h
theorem s_RN {a : α} (h : O.rel a (.ok (.rt (.v .none)) e)) : Ref X O (sSeq sRetN b e) (.ok a) := h
theorem n_N {a : α} (h : O.rel a (.ok .nx e)) : Ref X O (sN e) (.ok a) := h
theorem s_Bk {a : α} (h : O.rel a (.ok .bk e)) : Ref X O (sSeq sBk b e) (.ok a) := h
theorem s_Ct {a : α} (h : O.rel a (.ok .ct e)) : Ref X O (sSeq sCt b e) (.ok a) := h
def rzK (c : Str) (fns : List Str) (ds : List D) (e : Ev) : Re Fl := if ds.length = fns.length then .ex c (fns.zip ds).reverse e else .no
theorem s_Rz {c : Str} {fns : List Str} {ms : List Ex} (h : Ref X O ((valsE ms e).bind fun ds e1 => rzK c fns ds e1) P) : Ref X O (sSeq (sRaise c fns ms) b e) P := by
  refine Ref.of_eq ?_ h
  rw [sSeq_eq]
  unfold sRaise
  rw [seqK_bind]
  refine Re.bind_congr fun ds e1 => ?_
  unfold rzK
  split <;> rfl
theorem n_Rz {c : Str} {fns : List Str} {ds : List D} (q : ds.length = fns.length) (x : X e) : Ref X O (rzK c fns ds e) (.ex c (fns.zip ds).reverse) := by
  unfold rzK
  rw [if_pos q]
  exact ⟨e, x, rfl⟩
theorem s_If {t : Ex} {a c : Sm} (h : Ref X O ((mT t e).bind fun x e1 => ifK x (sSeq a b e1) (sSeq c b e1)) P) : Ref X O (sSeq (sIf t a c) b e) P := by
  refine Ref.of_eq ?_ h
  rw [sSeq_eq]
  unfold sIf
  rw [seqK_bind]
  refine Re.bind_congr fun x e1 => ?_
  cases x <;> rfl
theorem n_If {x : Bool} {r1 r2 : Re Fl} {P1 P2 : R α} (h1 : Ref X O r1 P1) (h2 : Ref X O r2 P2) : Ref X O (ifK x r1 r2) (if x = true then P1 else P2) := by
  cases x
  · exact h2
  · exact h1
def ON (en : τ → Ev) : Out τ Fl := ⟨fun c r => r = .ok .nx (en c), fun h => ⟨_, _, h⟩⟩
theorem s_IfJ {t : Ex} {a c : Sm} (h : Ref X O ((mT t e).bind fun x e1 => seqK (ifK x (a e1) (c e1)) b) P) : Ref X O (sSeq (sIf t a c) b e) P := by
  refine Ref.of_eq ?_ h
  rw [sSeq_eq]
  unfold sIf
  rw [seqK_bind]
  rfl
theorem n_IfJ {x : Bool} {r1 r2 : Sm} {E : Ev} {P1 P2 : R τ} {up : Ev → τ → Ev} {en' : τ → Ev} {Q : τ → R α} (hn : ∀ c, up E c = en' c) (h1 : Ref X (ON en') (r1 E) P1) (h2 : Ref X (ON en') (r2 E) P2) (h : ∀ c, Ref X O (b (en' c)) (Q c)) : Ref X O (seqK (ifK x (r1 E) (r2 E)) b) ((if x = true then P1 else P2).bind Q) := by
  have hp : Ref X (ON en') (ifK x (r1 E) (r2 E)) (if x = true then P1 else P2) := n_If h1 h2
  cases hq : (if x = true then P1 else P2) with
  | no => trivial
  | ex c fs =>
    rw [hq] at hp
    obtain ⟨e1, z, q⟩ := hp
    rw [q]
    exact ⟨e1, z, rfl⟩
  | ok a =>
    rw [hq] at hp
    rw [show ifK x (r1 E) (r2 E) = .ok .nx (en' a) from hp]
    exact h a
/-- the end of such a part -/
theorem n_J {en : τ → Ev} {t : τ} (h : e = en t) : Ref X (ON en) (sN e) (.ok t) := by subst h; rfl
/-! a, b = .. -/
def unpK (t : Tg) (d : D) (e : Ev) (b : Sm) : Re Fl := match t.put d e with
  | some e2 => b e2
  | none => .no
theorem s_U {t : Tg} {m : Ex} (h : Ref X O ((val m e).bind fun d e1 => unpK t d e1 b) P) : Ref X O (sSeq (sU t m) b e) P := by
  refine Ref.of_eq ?_ h
  rw [sSeq_eq]
  unfold sU
  rw [seqK_bind]
  refine Re.bind_congr fun d e1 => ?_
  unfold unpK
  cases t.put d e1 <;> rfl
theorem unpK_eq {t : Tg} {d : D} : unpK t d e b = putC [] t d e b := by
  unfold unpK putC wipeE
  cases t.put d e <;> rfl
theorem f_U2 {i j : Nat} {d : D} {en : D → D → Ev} {Q : D → D → R α} (q : ∀ x y, putL [i, j] [x, y] e = some (en x y)) (h : ∀ x y, Ref X O (b (en x y)) (Q x y)) : Ref X O (unpK (.tp [i, j]) d e b) ((qT2 d).bind fun p => Q p.1 p.2) := by
  rw [unpK_eq]; exact pu2 q h
theorem f_U3 {i j l : Nat} {d : D} {en : D → D → D → Ev} {Q : D → D → D → R α} (q : ∀ x y z, putL [i, j, l] [x, y, z] e = some (en x y z)) (h : ∀ x y z, Ref X O (b (en x y z)) (Q x y z)) : Ref X O (unpK (.tp [i, j, l]) d e b) ((qT3 d).bind fun p => Q p.1 p.2.1 p.2.2) := by
  rw [unpK_eq]; exact pu3 q h
theorem f_U4 {i j l m : Nat} {d : D} {en : D → D → D → D → Ev} {Q : D → D → D → D → R α} (q : ∀ x y z w, putL [i, j, l, m] [x, y, z, w] e = some (en x y z w)) (h : ∀ x y z w, Ref X O (b (en x y z w)) (Q x y z w)) : Ref X O (unpK (.tp [i, j, l, m]) d e b) ((qT4 d).bind fun p => Q p.1 p.2.1 p.2.2.1 p.2.2.2) := by
  rw [unpK_eq]; exact pu4 q h
/-! a, b = x, y -/
def OP (vr : τ → List VR) (en : τ → Ev) : Out τ (List VR) := ⟨fun t r => r = .ok (vr t) (en t), fun h => ⟨_, _, h⟩⟩
theorem s_P {is : List Nat} {ms : List Ex} {vr : τ → List VR} {up : Ev → τ → Ev} {en en2 : τ → Ev} {PP : R τ} {Q : τ → R α} (hn : ∀ t, up e t = en t) (hp : Ref XF (OP vr en) ((valsR ms e).bind fun rs e1 => .ok rs e1) PP) (q : ∀ t, putR is (vr t) (en t) = some (en2 t)) (h : ∀ t, Ref X O (b (en2 t)) (Q t)) : Ref X O (sSeq (sPar is ms) b e) (PP.bind Q) := by
  cases PP with
  | no => trivial
  | ex c fs => obtain ⟨_, z, _⟩ := hp; exact z.elim
  | ok t =>
    have hv : valsR ms e = .ok (vr t) (en t) := by
      have z : (valsR ms e).bind (fun rs e1 => Re.ok rs e1) = .ok (vr t) (en t) := hp
      cases hq : valsR ms e <;> rw [hq] at z <;> first | cases z; rfl | cases z
    rw [sSeq_eq]
    unfold sPar
    rw [hv]
    simp only [noEx]
    rw [q]
    exact h t
theorem r0 {β : Type} {O : Out α β} {k : List VR → Ev → Re β} (h : Ref X O (k [] e) P) : Ref X O ((valsR [] e).bind k) P := h
theorem rc {β : Type} {O : Out α β} {k : List VR → Ev → Re β} {m : Ex} {ms : List Ex} (h : Ref X O ((m e).bind fun d e1 => (valsR ms e1).bind fun ds e2 => k (d :: ds) e2) P) : Ref X O ((valsR (m :: ms) e).bind k) P := by
  refine Ref.of_eq ?_ h
  simp only [valsR, Re.bind_assoc]
  rfl
theorem n_P {vr : τ → List VR} {en : τ → Ev} {t : τ} {rs : List VR} (h1 : rs = vr t) (h2 : e = en t) : Ref X (OP vr en) (.ok rs e) (.ok t) := by subst h1; subst h2; rfl
/-! l[i] = x -/
def putI (l : List D) (k d : D) : Option (List D) := match k with
  | .int k => (ixN l.length k).map fun j => l.set j d
  | _ => none
def setK (i : Nat) (k d : D) (e : Ev) (b : Sm) : Re Fl := match ownL e i with
  | some l => (match putI l k d with
    | some l' => b (setL e i l')
    | none => .no)
  | none => .no
def preS (i : Nat) (mi : Ex) (d : D) (e : Ev) (b : Sm) : Re Fl := match ownL e i with
  | none => .no
  | some _ => (val mi e).bind fun k e2 => setK i k d e2 b
theorem s_S {i : Nat} {mi m : Ex} (h : Ref X O ((val m e).bind fun d e1 => preS i mi d e1 b) P) : Ref X O (sSeq (sPut i mi m) b e) P := by
  refine Ref.of_eq ?_ h
  rw [sSeq_eq]
  unfold sPut
  rw [seqK_bind]
  refine Re.bind_congr fun d e1 => ?_
  unfold preS
  cases ownL e1 i with
  | none => rfl
  | some l0 =>
    dsimp only
    rw [seqK_bind]
    refine Re.bind_congr fun k e2 => ?_
    unfold setK putI
    cases ownL e2 i with
    | none => cases k <;> rfl
    | some l =>
      cases k with
      | int j => dsimp only; cases ixN l.length j <;> rfl
      | _ => rfl
theorem f_S {i : Nat} {mi : Ex} {d : D} {l : List D} (q : ownL e i = some l) (h : Ref X O ((val mi e).bind fun k e2 => setK i k d e2 b) P) : Ref X O (preS i mi d e b) P := by unfold preS; rw [q]; exact h
theorem f_S2 {i : Nat} {k d : D} {l : List D} {en : List D → Ev} {Q : List D → R α} (q : ownL e i = some l) (q2 : ∀ l, setL e i l = en l) (h : ∀ l, Ref X O (b (en l)) (Q l)) : Ref X O (setK i k d e b) ((qX (putI l k d)).bind Q) := by
  unfold setK
  rw [q]
  dsimp only
  cases putI l k d with
  | none => trivial
  | some l' => show Ref X O (b (setL e i l')) _; rw [q2]; exact h l'
end
end RL

/-! RL25: loops, try, defs, in short form. -/
namespace RL
open PySem PySem.Spec PyProof.Rows L2
section
variable {α δ τ ρ : Type} {X : Ev → Prop} {O : Out α Fl} {e e1 e2 : Ev} {P : R α} {b : Sm}
/-! ### for -/
/-- a turn's end: on, or by continue -/
def OL (en : τ → Ev) : Out τ Fl := ⟨fun c r => r = .ok .nx (en c) ∨ r = .ok .ct (en c), fun h => h.elim (fun h => ⟨_, _, h⟩) fun h => ⟨_, _, h⟩⟩
/-- .. or by break, or by return -/
def OF (en : τ → Ev) (O : Out ρ Fl) : Out (Lp τ ρ) Fl := ⟨fun x r => match x with
    | .go c => r = .ok .nx (en c) ∨ r = .ok .ct (en c)
    | .br c => r = .ok .bk (en c)
    | .rt v => O.rel v r ∧ ∃ w e, r = .ok (.rt w) e, fun {x r} h => by
  cases x with
  | go c => exact h.elim (fun h => ⟨_, _, h⟩) fun h => ⟨_, _, h⟩
  | br c => exact ⟨_, _, h⟩
  | rt v => obtain ⟨_, w, e, h⟩ := h; exact ⟨_, _, h⟩⟩
/-- a whole loop's end -/
def OW (en : τ → Ev) (O : Out ρ Fl) : Out (Lp τ ρ) Fl := ⟨fun x r => match x with
    | .go c => r = .ok .nx (en c)
    | .br c => r = .ok .nx (en c)
    | .rt v => O.rel v r ∧ ∃ w e, r = .ok (.rt w) e, fun {x r} h => by
  cases x with
  | go c => exact ⟨_, _, h⟩
  | br c => exact ⟨_, _, h⟩
  | rt v => obtain ⟨_, w, e, h⟩ := h; exact ⟨_, _, h⟩⟩
theorem n_L {en : τ → Ev} {t : τ} (h : e = en t) : Ref X (OL en) (sN e) (.ok t) := by subst h; exact .inl rfl
theorem n_LC {en : τ → Ev} {t : τ} (h : e = en t) : Ref X (OL en) (sSeq sCt b e) (.ok t) := by subst h; exact .inr rfl
theorem n_F {en : τ → Ev} {O : Out ρ Fl} {t : τ} (h : e = en t) : Ref X (OF en O) (sN e) (.ok (.go t)) := by subst h; exact .inl rfl
theorem n_FC {en : τ → Ev} {O : Out ρ Fl} {t : τ} (h : e = en t) : Ref X (OF en O) (sSeq sCt b e) (.ok (.go t)) := by subst h; exact .inr rfl
theorem n_FB {en : τ → Ev} {O : Out ρ Fl} {t : τ} (h : e = en t) : Ref X (OF en O) (sSeq sBk b e) (.ok (.br t)) := by subst h; exact rfl
theorem n_FR {en : τ → Ev} {O : Out ρ Fl} {v : ρ} {w : VR} (h : O.rel v (.ok (.rt w) e)) : (OF en O).rel (.rt v) (.ok (.rt w) e) := ⟨h, w, e, rfl⟩
theorem for_ref {t : Tg} {body : Sm} {en : τ → Ev} {f : D → τ → R τ} (h : ∀ d c, Ref X (OL en) (unpK t d (en c) body) (f d c)) : ∀ (ds : List D) (c : τ), Ref X (ON en) (forL t body ds (en c)) (qFor f ds c)
  | [], c => by unfold forL qFor; exact rfl
  | d :: ds, c => by
    unfold forL qFor
    have hd := h d c
    unfold unpK at hd
    cases hf : f d c with
    | no => trivial
    | ex cl fs =>
      rw [hf] at hd
      obtain ⟨e1, x, z⟩ := hd
      refine ⟨e1, x, ?_⟩
      cases hp : t.put d (en c) with
      | none => rw [hp] at z; cases z
      | some e2 =>
        rw [hp] at z
        dsimp only at z ⊢
        rw [z]
    | ok c1 =>
      rw [hf] at hd
      simp only [R.bind]
      cases hp : t.put d (en c) with
      | none => rw [hp] at hd; rcases hd with z | z <;> cases z
      | some e2 =>
        rw [hp] at hd
        dsimp only at hd ⊢
        rcases hd with z | z
        · rw [z]; exact for_ref h ds c1
        · rw [z]; exact for_ref h ds c1
theorem forF_ref {t : Tg} {body : Sm} {en : τ → Ev} {O : Out ρ Fl} {f : D → τ → R (Lp τ ρ)} (h : ∀ d c, Ref X (OF en O) (unpK t d (en c) body) (f d c)) : ∀ (ds : List D) (c : τ), Ref X (OW en O) (forL t body ds (en c)) (qForF f ds c)
  | [], c => by unfold forL qForF; exact rfl
  | d :: ds, c => by
    unfold forL qForF
    have hd := h d c
    unfold unpK at hd
    cases hf : f d c with
    | no => trivial
    | ex cl fs =>
      rw [hf] at hd
      obtain ⟨e1, x, z⟩ := hd
      refine ⟨e1, x, ?_⟩
      cases hp : t.put d (en c) with
      | none => rw [hp] at z; cases z
      | some e2 =>
        rw [hp] at z
        dsimp only at z ⊢
        rw [z]
    | ok y =>
      rw [hf] at hd
      simp only [R.bind]
      cases hp : t.put d (en c) with
      | none =>
        rw [hp] at hd
        obtain ⟨_, _, z⟩ := (OF en O).ok hd
        cases z
      | some e2 =>
        rw [hp] at hd
        dsimp only at hd ⊢
        cases y with
        | go c1 =>
          rcases hd with z | z
          · rw [z]; exact forF_ref h ds c1
          · rw [z]; exact forF_ref h ds c1
        | br c1 =>
          have z : body e2 = .ok .bk (en c1) := hd
          rw [z]
          exact rfl
        | rt v =>
          obtain ⟨z0, w, e3, z⟩ := hd
          rw [z] at z0 ⊢
          exact ⟨z0, w, e3, rfl⟩
def forK (t : Tg) (body : Sm) (ds : List D) (e : Ev) (b : Sm) : Re Fl := seqK (forL t body ds e) b
theorem s_For {t : Tg} {it : Im} {body : Sm} (h : Ref X O ((it e).bind fun ds e1 => forK t body ds e1 b) P) : Ref X O (sSeq (sFor t it body) b e) P := by
  refine Ref.of_eq ?_ h
  rw [sSeq_eq]
  unfold sFor
  rw [seqK_bind]
  rfl
theorem f_For {t : Tg} {body : Sm} {ds : List D} {up : Ev → τ → Ev} {en' : τ → Ev} {c0 : τ} {f : D → τ → R τ} {Q : τ → R α} (hn : ∀ c, up e c = en' c) (h0 : en' c0 = e) (hf : ∀ d c, Ref X (OL en') (unpK t d (en' c) body) (f d c)) (h : ∀ c, Ref X O (b (en' c)) (Q c)) :
    Ref X O (forK t body ds e b) ((qFor f ds c0).bind Q) := by
  subst h0
  have hp := for_ref hf ds c0
  unfold forK
  cases hq : qFor f ds c0 with
  | no => trivial
  | ex c fs =>
    rw [hq] at hp
    obtain ⟨e1, z, q⟩ := hp
    rw [q]
    exact ⟨e1, z, rfl⟩
  | ok a =>
    rw [hq] at hp
    rw [show forL t body ds (en' c0) = .ok .nx (en' a) from hp]
    exact h a
theorem whole_ref {en : τ → Ev} {r : Re Fl} {p : R (Lp τ α)} {Q : τ → R α} (hp : Ref X (OW en O) r p) (h : ∀ c, Ref X O (b (en c)) (Q c)) : Ref X O (seqK r b) (p.bind fun x => qLp x Q) := by
  cases p with
  | no => trivial
  | ex c fs =>
    obtain ⟨e1, z, q⟩ := hp
    rw [q]
    exact ⟨e1, z, rfl⟩
  | ok a =>
    cases a with
    | go c =>
      rw [show r = .ok .nx (en c) from hp]
      exact h c
    | br c =>
      rw [show r = .ok .nx (en c) from hp]
      exact h c
    | rt v =>
      obtain ⟨z0, w, e3, z⟩ := hp
      rw [z] at z0 ⊢
      exact z0
theorem f_ForF {t : Tg} {body : Sm} {ds : List D} {up : Ev → τ → Ev} {en' : τ → Ev} {c0 : τ} {f : D → τ → R (Lp τ α)} {Q : τ → R α} (hn : ∀ c, up e c = en' c) (h0 : en' c0 = e) (hf : ∀ d c, Ref X (OF en' O) (unpK t d (en' c) body) (f d c)) (h : ∀ c, Ref X O (b (en' c)) (Q c)) :
    Ref X O (forK t body ds e b) ((qForF f ds c0).bind fun x => qLp x Q) := by
  subst h0
  exact whole_ref (forF_ref hf ds c0) h
theorem u1 {i : Nat} {d : D} (q : putS i (.fz d) e = some e1) (h : Ref X O (b e1) P) : Ref X O (unpK (.nm i) d e b) P := by
  rw [unpK_eq]; exact pu1 q h
/-! ### while -/
theorem wh_ref {t : Ex} {body : Sm} {en : τ → Ev} {f : τ → R τ} {g : τ → R Bool} (hg : ∀ c, Ref X (OE (en c)) (mT t (en c)) (g c)) (h : ∀ c, Ref X (OL en) (body (en c)) (f c)) : ∀ (n : Nat) (c : τ), Ref X (ON en) (whL t body n (en c)) (qWh g f n c)
  | 0, c => by unfold whL qWh; trivial
  | n + 1, c => by
    unfold whL qWh
    have hd := h c
    have hc := hg c
    cases hgc : g c with
    | no => trivial
    | ex cl fs =>
      rw [hgc] at hc
      obtain ⟨e1, x, z⟩ := hc
      rw [z]
      exact ⟨e1, x, rfl⟩
    | ok y =>
      rw [hgc] at hc
      rw [show mT t (en c) = .ok y (en c) from hc]
      simp only [Re.bind, R.bind]
      cases y with
      | false => exact rfl
      | true =>
        simp only [if_true]
        cases hf : f c with
        | no => trivial
        | ex cl fs =>
          rw [hf] at hd
          obtain ⟨e1, x, z⟩ := hd
          rw [z]
          exact ⟨e1, x, rfl⟩
        | ok c1 =>
          rw [hf] at hd
          rcases hd with z | z
          · rw [z]; exact wh_ref hg h n c1
          · rw [z]; exact wh_ref hg h n c1
theorem whF_ref {t : Ex} {body : Sm} {en : τ → Ev} {O : Out ρ Fl} {f : τ → R (Lp τ ρ)} {g : τ → R Bool} (hg : ∀ c, Ref X (OE (en c)) (mT t (en c)) (g c)) (h : ∀ c, Ref X (OF en O) (body (en c)) (f c)) : ∀ (n : Nat) (c : τ), Ref X (OW en O) (whL t body n (en c)) (qWhF g f n c)
  | 0, c => by unfold whL qWhF; trivial
  | n + 1, c => by
    unfold whL qWhF
    have hd := h c
    have hc := hg c
    cases hgc : g c with
    | no => trivial
    | ex cl fs =>
      rw [hgc] at hc
      obtain ⟨e1, x, z⟩ := hc
      rw [z]
      exact ⟨e1, x, rfl⟩
    | ok y =>
      rw [hgc] at hc
      rw [show mT t (en c) = .ok y (en c) from hc]
      simp only [Re.bind, R.bind]
      cases y with
      | false => exact rfl
      | true =>
        simp only [if_true]
        cases hf : f c with
        | no => trivial
        | ex cl fs =>
          rw [hf] at hd
          obtain ⟨e1, x, z⟩ := hd
          rw [z]
          exact ⟨e1, x, rfl⟩
        | ok y =>
          rw [hf] at hd
          cases y with
          | go c1 =>
            rcases hd with z | z
            · rw [z]; exact whF_ref hg h n c1
            · rw [z]; exact whF_ref hg h n c1
          | br c1 =>
            have z : body (en c) = .ok .bk (en c1) := hd
            rw [z]
            exact rfl
          | rt v =>
            obtain ⟨z0, w, e3, z⟩ := hd
            rw [z] at z0 ⊢
            exact ⟨z0, w, e3, rfl⟩
theorem s_Wh {n : Nat} {t : Ex} {body : Sm} {up : Ev → τ → Ev} {en' : τ → Ev} {c0 : τ} {f : τ → R τ} {g : τ → R Bool} {Q : τ → R α} (hn : ∀ c, up e c = en' c) (h0 : en' c0 = e) (hg : ∀ c, Ref X (OE (en' c)) (mT t (en' c)) (g c)) (hf : ∀ c, Ref X (OL en') (body (en' c)) (f c)) (h : ∀ c, Ref X O (b (en' c)) (Q c)) :
    Ref X O (sSeq (sWhile n t body) b e) ((qWh g f n c0).bind Q) := by
  subst h0
  have hp := wh_ref hg hf n c0
  rw [sSeq_eq]
  unfold sWhile
  cases hq : qWh g f n c0 with
  | no => trivial
  | ex c fs =>
    rw [hq] at hp
    obtain ⟨e1, z, q⟩ := hp
    rw [q]
    exact ⟨e1, z, rfl⟩
  | ok a =>
    rw [hq] at hp
    rw [show whL t body n (en' c0) = .ok .nx (en' a) from hp]
    exact h a
theorem s_WhF {n : Nat} {t : Ex} {body : Sm} {up : Ev → τ → Ev} {en' : τ → Ev} {c0 : τ} {f : τ → R (Lp τ α)} {g : τ → R Bool} {Q : τ → R α} (hn : ∀ c, up e c = en' c) (h0 : en' c0 = e) (hg : ∀ c, Ref X (OE (en' c)) (mT t (en' c)) (g c)) (hf : ∀ c, Ref X (OF en' O) (body (en' c)) (f c)) (h : ∀ c, Ref X O (b (en' c)) (Q c)) :
    Ref X O (sSeq (sWhile n t body) b e) ((qWhF g f n c0).bind fun x => qLp x Q) := by
  subst h0
  rw [sSeq_eq]
  exact whole_ref (whF_ref hg hf n c0) h
/-! ### try: its body and its handlers end by return -/
def OR (O : Out α Fl) : Out α Fl := ⟨fun a r => O.rel a r ∧ ∃ w e, r = .ok (.rt w) e, fun h => O.ok h.1⟩
theorem n_OR {a : α} {w : VR} (h : O.rel a (.ok (.rt w) e)) : (OR O).rel a (.ok (.rt w) e) := ⟨h, w, e, rfl⟩
theorem s_Try {L : List Str} {body : Sm} {hs : List Hm} {PB : R α} {PH : Str → List (Str × D) → R α} (hb : Ref (XEq e) (OR O) (body e) PB) (hh : ∀ c fs, Ref X (OR O) (hTry c fs hs e) (PH c fs)) :
    Ref X O (sSeq (sTry L body hs) b e) (qTry PB fun c fs => qG (decide (c ∈ L)) (PH c fs)) := by
  rw [sSeq_eq]
  unfold sTry
  cases PB with
  | no => trivial
  | ok a =>
    obtain ⟨z0, w, e1, z⟩ := hb
    rw [z] at z0 ⊢
    exact z0
  | ex c fs =>
    obtain ⟨e1, z0, z⟩ := hb
    have z1 : e1 = e := z0
    subst z1
    rw [z]
    show Ref X O (seqK (if c ∈ L then hTry c fs hs e1 else .no) b) (qG (decide (c ∈ L)) (PH c fs))
    unfold qG
    by_cases hc : c ∈ L
    · rw [if_pos hc, if_pos (decide_eq_true hc)]
      have q := hh c fs
      cases hp : PH c fs with
      | no => trivial
      | ok a =>
        rw [hp] at q
        obtain ⟨z0, w, e1, z⟩ := q
        rw [z] at z0 ⊢
        exact z0
      | ex c' fs' =>
        rw [hp] at q
        obtain ⟨e1, z0, z⟩ := q
        rw [z]
        exact ⟨e1, z0, rfl⟩
    · rw [if_neg hc, if_neg (by simpa using hc)]
      trivial
def OC (i : Nat) (O : Out α Fl) : Out α Fl := ⟨fun a r => O.rel a (closeS i r), fun {a r} h => by
  obtain ⟨b, e, q⟩ := O.ok h
  cases r with
  | ok f e1 => exact ⟨_, _, rfl⟩
  | ex c fs e1 => cases q
  | no => cases q⟩
def OD (O : Out α Fl) : Out α Fl := ⟨fun a r => O.rel a (cleanS r), fun {a r} h => by
  obtain ⟨b, e, q⟩ := O.ok h
  cases r with
  | ok f e1 => exact ⟨_, _, rfl⟩
  | ex c fs e1 => cases q
  | no => cases q⟩
theorem h_0 {c : Str} {fs : List (Str × D)} : Ref X O (hTry c fs [] e) .no := trivial
theorem h_N {c x : Str} {fs : List (Str × D)} {i : Nat} {m : Sm} {r : List Hm} {PH PR : R α} (q : putS i (.xc x fs) e = some e1) (h1 : Ref XF (OC i O) (m e1) PH) (h2 : Ref X O (hTry c fs r e) PR) : Ref X O (hTry c fs ((x, some i, m) :: r) e) (if c = x then PH else PR) := by
  unfold hTry
  by_cases hc : c = x
  · subst hc
    rw [if_pos rfl, if_pos rfl, q]
    dsimp only
    have h := h1
    cases hp : PH with
    | no => trivial
    | ok a => rw [hp] at h; exact h
    | ex c fs => rw [hp] at h; obtain ⟨_, z, _⟩ := h; exact z.elim
  · rw [if_neg hc, if_neg hc]
    exact h2
theorem h_P {c x : Str} {fs : List (Str × D)} {m : Sm} {r : List Hm} {PH PR : R α} (h1 : Ref XF (OD O) (m e) PH) (h2 : Ref X O (hTry c fs r e) PR) : Ref X O (hTry c fs ((x, none, m) :: r) e) (if c = x then PH else PR) := by
  unfold hTry
  by_cases hc : c = x
  · rw [if_pos hc, if_pos hc]
    have h := h1
    cases hp : PH with
    | no => trivial
    | ok a => rw [hp] at h; exact h
    | ex c fs => rw [hp] at h; obtain ⟨_, z, _⟩ := h; exact z.elim
  · rw [if_neg hc, if_neg hc]
    exact h2
/-! ### defs -/
def OM (n : Nat) (inj : α → VR × List (List D)) : Out α Fl := ⟨fun a r => mEnd n r = .ok (inj a).1 (inj a).2, fun {a r} h => by
  cases r with
  | ok f e => exact ⟨_, _, rfl⟩
  | ex c fs e =>
    exfalso
    have h' : (if iosOf e = List.range n then FR.ex c fs (outsOf e) else FR.no) = FR.ok (inj a).1 (inj a).2 := h
    by_cases hi : iosOf e = List.range n
    · rw [if_pos hi] at h'; cases h'
    · rw [if_neg hi] at h'; cases h'
  | no => cases h⟩
theorem outs_nil {e : Ev} (h : iosOf e = []) : outsOf e = [] := by
  induction e with
  | nil => rfl
  | cons s e ih =>
    cases s with
    | io k l => unfold iosOf at h; rw [List.filterMap_cons] at h; cases h
    | _ => exact ih h
theorem fn_ref {ms : List Bool} {n : Nat} {ds : List D} {body : Sm} {inj : α → VR × List (List D)} (hm : ms.count true = 0) (q : entry ms ds 0 ++ List.replicate (n - ms.length) .un = e) (h : Ref XN (OM 0 inj) (body e) P) : RefF (mFn ms n body) ds inj P := by
  cases P with
  | no => trivial
  | ok a =>
    show mFn ms n body ds = _
    unfold mFn
    rw [q, hm]
    exact h
  | ex c fs =>
    obtain ⟨e1, x, z⟩ := h
    show mFn ms n body ds = _
    unfold mFn
    rw [q, hm, z]
    have x' : iosOf e1 = [] := x
    show (if iosOf e1 = List.range 0 then FR.ex c fs (outsOf e1) else FR.no) = _
    rw [if_pos (by rw [x']; rfl), outs_nil x']
theorem fn_refI {ms : List Bool} {n : Nat} {ds : List D} {body : Sm} {inj : α → VR × List (List D)} (hm : ms.count true = 1) (q : entry ms ds 0 ++ List.replicate (n - ms.length) .un = e) (h : Ref XF (OM 1 inj) (body e) P) : RefI (mFn ms n body) ds inj P := by
  cases P with
  | no => trivial
  | ok a =>
    show mFn ms n body ds = _
    unfold mFn
    rw [q, hm]
    exact h
  | ex c fs =>
    obtain ⟨e1, x, z⟩ := h
    exact x.elim
theorem of_no {f : MF} {ds : List D} {inj : α → VR × List (List D)} : RefF f ds inj .no := trivial
theorem of_noI {f : MF} {ds : List D} {inj : α → VR × List (List D)} : RefI f ds inj .no := trivial
/-- a def's short form -/
structure Sh (f : MF) (ds : List D) (inj : α → VR × List (List D)) where
  p : R α
  h : RefF f ds inj p
structure ShI (f : MF) (ds : List D) (inj : α → VR × List (List D)) where
  p : R α
  h : RefI f ds inj p
end
end RL

/-! RL26: plain helps for short forms: what is computed at what is known, loops, draws. -/
namespace RL
open PySem PySem.Spec PyProof.Rows L2

theorem R.bind_okr {α : Type} {r : R α} : r.bind R.ok = r := by cases r <;> rfl
theorem R.bind_okr' {α : Type} {r : R α} : (r.bind fun x => R.ok x) = r := by cases r <;> rfl
theorem R.bind_assoc {α β γ : Type} {r : R α} {f : α → R β} {g : β → R γ} : (r.bind f).bind g = r.bind fun a => (f a).bind g := by cases r <;> rfl
theorem qD_some {r : VR} : qD (some r) = .ok r.d := rfl
theorem qL_fl {l : List D} : qL (some (.fl l)) = .ok l := rfl
theorem qB_some {b : Bool} : qB (some (.v (.bool b))) = .ok b := rfl
theorem qX_some {α : Type} {l : α} : qX (some l) = .ok l := rfl
theorem qBo_bool {b : Bool} : qBo (.bool b) = .ok b := rfl
theorem qI_int {i : Int} : qI (.int i) = .ok i := rfl
theorem qT_tup {ds : List D} : qT (.tuple ds) = .ok ds := rfl
theorem qT2_tup {a b : D} : qT2 (.tuple [a, b]) = .ok (a, b) := rfl
theorem qT3_tup {a b c : D} : qT3 (.tuple [a, b, c]) = .ok (a, b, c) := rfl
theorem qT4_tup {a b c d : D} : qT4 (.tuple [a, b, c, d]) = .ok (a, b, c, d) := rfl
theorem qG_true {α : Type} {p : R α} : qG true p = p := rfl
theorem qG_of {α : Type} {c : Bool} {p : R α} (h : c = true) : qG c p = p := by subst h; rfl
theorem small_of {l : List D} (h : l.length < 1000000) : small l = true := by
  unfold small
  rw [decide_eq_true]
  have : 1000000 ≤ sizeLine := by decide
  omega
theorem VR_v {d : D} : (VR.v d).d = d := rfl
theorem VR_fl {l : List D} : (VR.fl l).d = .list l := rfl
theorem VR_fd {l : List (D × D)} : (VR.fd l).d = .dict l := rfl
theorem qLp_go {τ ρ : Type} {t : τ} {f : τ → R ρ} : qLp (.go t) f = f t := rfl
theorem qLp_br {τ ρ : Type} {t : τ} {f : τ → R ρ} : qLp (.br t) f = f t := rfl
theorem qLp_rt {τ ρ : Type} {t : ρ} {f : τ → R ρ} : qLp (.rt t) f = .ok t := rfl
theorem qTry_ok {α : Type} {a : α} {h : Str → List (Str × D) → R α} : qTry (.ok a) h = .ok a := rfl
theorem qTry_ex {α : Type} {c : Str} {fs : List (Str × D)} {h : Str → List (Str × D) → R α} : qTry (.ex c fs) h = h c fs := rfl
theorem iter_list {ds : List D} : iterD (.list ds) = some ds := rfl
theorem iter_tuple {ds : List D} : iterD (.tuple ds) = some ds := rfl
theorem iter_str {x : Str} : iterD (.str x) = some (x.cps.toList.map fun c => .str ⟨#[c]⟩) := rfl

theorem isT_none {t : String} : isT t .none = (t == "NoneType") := rfl
theorem isT_bool {t : String} {b : Bool} : isT t (.bool b) = (t == "bool" || t == "int") := rfl
theorem isT_int {t : String} {i : Int} : isT t (.int i) = (t == "int") := rfl
theorem isT_str {t : String} {x : Str} : isT t (.str x) = (t == "str") := rfl
theorem isT_list {t : String} {l : List D} : isT t (.list l) = (t == "list") := rfl
theorem isT_tuple {t : String} {l : List D} : isT t (.tuple l) = (t == "tuple") := rfl
theorem isT_dict {t : String} {l : List (D × D)} : isT t (.dict l) = (t == "dict") := rfl

/-! ### numbers -/
theorem add_int {a b : Int} : gAdd (.int a) (.int b) = some (.v (.int (a + b))) := rfl
theorem sub_int {a b : Int} : gSub (.int a) (.int b) = some (.v (.int (a - b))) := rfl
theorem and_int {a b : Int} : gAnd (.int a) (.int b) = some (.v (.int (Builtin.bitAnd a b))) := rfl
theorem or_int {a b : Int} : gOr (.int a) (.int b) = some (.v (.int (Builtin.bitOr a b))) := rfl
theorem lt_int {a b : Int} : gLt (.int a) (.int b) = some (.v (.bool (decide (a < b)))) := rfl
theorem gt_int {a b : Int} : gGt (.int a) (.int b) = some (.v (.bool (decide (b < a)))) := rfl
theorem le_int {a b : Int} : gLe (.int a) (.int b) = some (.v (.bool (decide (a ≤ b)))) := by
  show some (VR.v (.bool (!decide (b < a)))) = _
  by_cases h : a ≤ b
  · rw [decide_eq_true h, decide_eq_false (by omega)]; rfl
  · rw [decide_eq_false h, decide_eq_true (by omega)]; rfl
theorem ge_int {a b : Int} : gGe (.int a) (.int b) = some (.v (.bool (decide (b ≤ a)))) := by
  show some (VR.v (.bool (!decide (a < b)))) = _
  by_cases h : b ≤ a
  · rw [decide_eq_true h, decide_eq_false (by omega)]; rfl
  · rw [decide_eq_false h, decide_eq_true (by omega)]; rfl
theorem eqv_int {a b : Int} : PyData.eqv (.int a) (.int b) = decide (a = b) := by
  unfold PyData.eqv
  rfl
theorem eq_int {a b : Int} : gEq (.int a) (.int b) = some (.v (.bool (decide (a = b)))) := by
  show some (VR.v (.bool (PyData.eqv (.int a) (.int b)))) = _
  rw [eqv_int]
theorem ne_int {a b : Int} : gNe (.int a) (.int b) = some (.v (.bool (!decide (a = b)))) := by
  show some (VR.v (.bool (!PyData.eqv (.int a) (.int b)))) = _
  rw [eqv_int]
theorem eqv_bool {a b : Bool} : PyData.eqv (.bool a) (.bool b) = (a == b) := by
  unfold PyData.eqv
  cases a <;> cases b <;> rfl
theorem eq_bool {a b : Bool} : gEq (.bool a) (.bool b) = some (.v (.bool (a == b))) := by
  show some (VR.v (.bool (PyData.eqv (.bool a) (.bool b)))) = _
  rw [eqv_bool]
theorem ne_bool {a b : Bool} : gNe (.bool a) (.bool b) = some (.v (.bool (!(a == b)))) := by
  show some (VR.v (.bool (!PyData.eqv (.bool a) (.bool b)))) = _
  rw [eqv_bool]
theorem mul_int {a b : Int} (ha : a.natAbs < 2 ^ 1000) (hb : b.natAbs < 2 ^ 1000) : gMul (.int a) (.int b) = some (.v (.int (a * b))) := by
  show (if a.natAbs.log2 + b.natAbs.log2 < 1000000 then some (VR.v (.int (a * b))) else none) = _
  have l : ∀ n : Nat, n < 2 ^ 1000 → n.log2 < 1000 := fun n h => by
    by_cases z : n = 0
    · subst z; decide
    · exact (Nat.log2_lt z).mpr h
  rw [if_pos (by have := l _ ha; have := l _ hb; omega)]
theorem mod_int {a b : Int} (h : 0 < b) : gMod (.int a) (.int b) = some (.v (.int (a % b))) := by
  show (if (decide (0 < b)) = true then some (VR.v (.int (a % b))) else none) = _
  rw [if_pos (decide_eq_true h)]
theorem fdiv_int {a b : Int} (h : 0 < b) (h2 : b < 2 ^ 1000) : gFdiv (.int a) (.int b) = some (.v (.int (a / b))) := by
  show (if (decide (0 < b) && decide (b.natAbs.log2 < 9000)) = true then some (VR.v (.int (a / b))) else none) = _
  have : b.natAbs.log2 < 1000 := (Nat.log2_lt (by omega)).mpr (by omega)
  rw [if_pos (by rw [decide_eq_true h, decide_eq_true (by omega)]; rfl)]
theorem pow_int {a b : Int} (h0 : 0 ≤ b) (h1 : b ≤ 1000000) (h : a.natAbs < 2 ^ 64) : gPow (.int a) (.int b) = some (.v (.int (a ^ b.toNat))) := by
  show (if (decide (0 ≤ b) && decide (b ≤ 1000000) && decide (a.natAbs < 2 ^ 64)) = true then some (VR.v (.int (a ^ b.toNat))) else none) = _
  rw [if_pos (by rw [decide_eq_true h0, decide_eq_true h1, decide_eq_true h]; rfl)]
theorem int_int {a : Int} : g1 gInt [.int a] = some (.v (.int a)) := rfl
theorem int_bool {b : Bool} : g1 gInt [.bool b] = some (.v (.int (if b = true then 1 else 0))) := by cases b <;> rfl
theorem abs_int {a : Int} : g1 gAbs [.int a] = some (.v (.int (if a < 0 then -a else a))) := rfl
theorem len_list {l : List D} : g1 gLen [.list l] = some (.v (.int (l.length : Int))) := rfl
theorem len_tuple {l : List D} : g1 gLen [.tuple l] = some (.v (.int (l.length : Int))) := rfl
theorem len_dict {l : List (D × D)} : g1 gLen [.dict l] = some (.v (.int (l.length : Int))) := rfl
theorem len_str {x : Str} : g1 gLen [.str x] = some (.v (.int (x.length : Int))) := rfl
theorem len_bits {x : List Bool} : g1 gLen [.str (bitS x)] = some (.v (.int (x.length : Int))) := by
  rw [len_str, bitS_len]
theorem tup_list {l : List D} : g1 gTuple [.list l] = some (.v (.tuple l)) := rfl
theorem tup_tuple {l : List D} : g1 gTuple [.tuple l] = some (.v (.tuple l)) := rfl
theorem ix_list {l : List D} {k : Nat} {d : D} (h : l[k]? = some d) : gIx (.list l) (.int (k : Int)) = some (.v d) := by
  show (atI l (k : Int)).map VR.v = _
  rw [atI_nat h]; rfl
theorem ix_tup {l : List D} {k : Nat} {d : D} (h : l[k]? = some d) : gIx (.tuple l) (.int (k : Int)) = some (.v d) := by
  show (atI l (k : Int)).map VR.v = _
  rw [atI_nat h]; rfl
theorem ixl0 {a : D} {l : List D} : gIx (.list (a :: l)) (.int 0) = some (.v a) := ix_list (k := 0) rfl
theorem ixl1 {a b : D} {l : List D} : gIx (.list (a :: b :: l)) (.int 1) = some (.v b) := ix_list (k := 1) rfl
theorem ixl2 {a b c : D} {l : List D} : gIx (.list (a :: b :: c :: l)) (.int 2) = some (.v c) := ix_list (k := 2) rfl
theorem ixl3 {a b c d : D} {l : List D} : gIx (.list (a :: b :: c :: d :: l)) (.int 3) = some (.v d) := ix_list (k := 3) rfl
theorem ixt0 {a : D} {l : List D} : gIx (.tuple (a :: l)) (.int 0) = some (.v a) := ix_tup (k := 0) rfl
theorem ixt1 {a b : D} {l : List D} : gIx (.tuple (a :: b :: l)) (.int 1) = some (.v b) := ix_tup (k := 1) rfl
theorem ixt2 {a b c : D} {l : List D} : gIx (.tuple (a :: b :: c :: l)) (.int 2) = some (.v c) := ix_tup (k := 2) rfl
theorem put_0 {a d : D} {l : List D} : putI (a :: l) (.int 0) d = some (d :: l) := by
  show (ixN (l.length + 1) 0).map _ = _
  rw [ix0]; rfl
theorem put_3 {a b c x d : D} {l : List D} : putI (a :: b :: c :: x :: l) (.int 3) d = some (a :: b :: c :: d :: l) := by
  show (ixN (l.length + 4) 3).map _ = _
  rw [ix3]; rfl
theorem rng_nat {n : Nat} (h : n < 1000) : gRng1 [.int (n : Int)] = some (natL (List.range n)) := gRng1_nat h
theorem lr_nat {n : Nat} (h : n < 1000) : lrO [.int (n : Int)] = some (natL (List.range n)) := gLr_nat h
theorem min2 {a b : Int} : gMin [.int a, .int b] = some (.v (.int (if b < a then b else a))) := rfl
theorem max2 {a b : Int} : gMax [.int a, .int b] = some (.v (.int (if b > a then b else a))) := rfl
theorem eq_nilI {l : List D} (h : SeqAt.shaped (.list l) = true) : gEq (.list l) (.list []) = some (.v (.bool l.isEmpty)) := by
  unfold gEq gEqv
  rw [h, shaped_nil, eqv_nil]
  simp
theorem ne_nilI {l : List D} (h : SeqAt.shaped (.list l) = true) : gNe (.list l) (.list []) = some (.v (.bool (!l.isEmpty))) := by
  unfold gNe gEqv
  rw [h, shaped_nil, eqv_nil]
  simp

/-! ### loops -/
theorem qFor_map {α τ : Type} {f : D → τ → R τ} {l : List α} (g : α → D) (F : List α → τ) (h : ∀ (p : List α) (a : α), p ++ [a] <+: l → f (g a) (F p) = .ok (F (p ++ [a]))) : qFor f (l.map g) (F []) = .ok (F l) := by
  have k : ∀ (q p : List α), p ++ q = l → qFor f (q.map g) (F p) = .ok (F l) := by
    intro q
    induction q with
    | nil => intro p e; rw [List.append_nil] at e; subst e; rfl
    | cons a q ih =>
      intro p e
      rw [List.map_cons]
      unfold qFor
      rw [h p a (by rw [← e]; exact ⟨q, by simp⟩)]
      exact ih (p ++ [a]) (by rw [← e]; simp)
  exact k l [] rfl
/-- it comes to an end of that kind -/
def R.Sat {α : Type} (r : R α) (Q : α → Prop) : Prop := ∃ a, r = .ok a ∧ Q a
theorem R.Sat.of {α : Type} {r : R α} {a : α} {Q : α → Prop} (h : r = .ok a) (q : Q a) : r.Sat Q := ⟨a, h, q⟩
theorem R.Sat.ok {α : Type} {a : α} {Q : α → Prop} (q : Q a) : (R.ok a).Sat Q := ⟨a, rfl, q⟩
theorem R.Sat.bind {α β : Type} {r : R α} {f : α → R β} {P : α → Prop} {Q : β → Prop} (h : r.Sat P) (k : ∀ a, P a → (f a).Sat Q) : (r.bind f).Sat Q := by
  obtain ⟨a, rfl, h⟩ := h
  exact k a h
theorem R.Sat.mono {α : Type} {r : R α} {P Q : α → Prop} (h : r.Sat P) (k : ∀ a, P a → Q a) : r.Sat Q := by
  obtain ⟨a, e, h⟩ := h
  exact ⟨a, e, k a h⟩
theorem qFor_sat {α τ : Type} {f : D → τ → R τ} {l : List α} {t0 : τ} (g : α → D) (P : List α → τ → Prop) (h0 : P [] t0) (h : ∀ (p : List α) (a : α) (t : τ), p ++ [a] <+: l → P p t → (f (g a) t).Sat (P (p ++ [a]))) : (qFor f (l.map g) t0).Sat (P l) := by
  have k : ∀ (q p : List α) (t : τ), p ++ q = l → P p t → (qFor f (q.map g) t).Sat (P l) := by
    intro q
    induction q with
    | nil => intro p t e hp; rw [List.append_nil] at e; subst e; exact .ok hp
    | cons a q ih =>
      intro p t e hp
      rw [List.map_cons]
      unfold qFor
      exact (h p a t (by rw [← e]; exact ⟨q, by simp⟩) hp).bind fun t1 h1 => ih (p ++ [a]) t1 (by rw [← e]; simp) h1
  exact k l [] t0 rfl h0
theorem qForF_sat {α τ ρ : Type} {f : D → τ → R (Lp τ ρ)} {l : List α} {t0 : τ} (g : α → D) (P : List α → τ → Prop) (h0 : P [] t0) (h : ∀ (p : List α) (a : α) (t : τ), p ++ [a] <+: l → P p t → (f (g a) t).Sat fun x => ∃ t1, x = .go t1 ∧ P (p ++ [a]) t1) : (qForF f (l.map g) t0).Sat fun x => ∃ t1, x = .go t1 ∧ P l t1 := by
  have k : ∀ (q p : List α) (t : τ), p ++ q = l → P p t → (qForF f (q.map g) t).Sat fun x => ∃ t1, x = .go t1 ∧ P l t1 := by
    intro q
    induction q with
    | nil => intro p t e hp; rw [List.append_nil] at e; subst e; exact .ok ⟨t, rfl, hp⟩
    | cons a q ih =>
      intro p t e hp
      rw [List.map_cons]
      unfold qForF
      exact (h p a t (by rw [← e]; exact ⟨q, by simp⟩) hp).bind fun x ⟨t1, e1, h1⟩ => by
        subst e1
        exact ih (p ++ [a]) t1 (by rw [← e]; simp) h1
  exact k l [] t0 rfl h0
theorem qLc_map {α : Type} {f : D → R (Option D)} {l : List α} (g : α → D) (h : α → D) (H : ∀ a ∈ l, f (g a) = .ok (some (h a))) : qLc f (l.map g) = .ok (l.map h) := by
  induction l with
  | nil => rfl
  | cons a l ih =>
    rw [List.map_cons, List.map_cons]
    unfold qLc
    rw [H a List.mem_cons_self]
    simp only [R.bind]
    rw [ih fun x hx => H x (List.mem_cons_of_mem _ hx)]
    rfl
theorem qLc_filter {α : Type} {f : D → R (Option D)} {l : List α} (g : α → D) (c : α → Bool) (h : α → D) (H : ∀ a ∈ l, f (g a) = .ok (if c a = true then some (h a) else none)) : qLc f (l.map g) = .ok ((l.filter c).map h) := by
  induction l with
  | nil => rfl
  | cons a l ih =>
    rw [List.map_cons]
    unfold qLc
    rw [H a List.mem_cons_self]
    simp only [R.bind]
    rw [ih fun x hx => H x (List.mem_cons_of_mem _ hx), List.filter_cons]
    by_cases hc : c a = true
    · rw [if_pos hc, if_pos hc]; rfl
    · rw [if_neg hc, if_neg hc]; rfl
theorem qLcS_sat {α τ : Type} {f : D → τ → R (Option D × τ)} {l : List α} {t0 : τ} (g : α → D) (P : List α → List D → τ → Prop) (h0 : P [] [] t0) (h : ∀ (p : List α) (a : α) (ds : List D) (t : τ), p ++ [a] <+: l → P p ds t → (f (g a) t).Sat fun x => P (p ++ [a]) (ds ++ x.1.toList) x.2) : (qLcS f (l.map g) t0).Sat fun x => P l x.1 x.2 := by
  have k : ∀ (q p : List α) (ds : List D) (t : τ), p ++ q = l → P p ds t → (qLcS f (q.map g) t).Sat fun x => P l (ds ++ x.1) x.2 := by
    intro q
    induction q with
    | nil => intro p ds t e hp; rw [List.append_nil] at e; subst e; exact .ok (by rw [List.append_nil]; exact hp)
    | cons a q ih =>
      intro p ds t e hp
      rw [List.map_cons]
      unfold qLcS
      exact (h p a ds t (by rw [← e]; exact ⟨q, by simp⟩) hp).bind fun x hx => (ih (p ++ [a]) _ _ (by rw [← e]; simp) hx).bind fun y hy => .ok (by
        show P l (ds ++ (x.1.toList ++ y.1)) y.2
        rw [← List.append_assoc]; exact hy)
  exact (k l [] [] t0 rfl h0).mono fun x hx => by simpa using hx
theorem qWh_sat {τ : Type} {c : τ → R Bool} {f : τ → R τ} {n m : Nat} {t : τ} (P : Nat → τ → Prop) (hm : m < n) (hp : P m t) (k : ∀ m t, P m t → (m = 0 ∧ c t = .ok false) ∨ ∃ j, m = j + 1 ∧ c t = .ok true ∧ (f t).Sat (P j)) : (qWh c f n t).Sat (P 0) := by
  induction n generalizing m t with
  | zero => exact absurd hm (Nat.not_lt_zero m)
  | succ n ih =>
    unfold qWh
    rcases k m t hp with ⟨rfl, hc⟩ | ⟨j, rfl, hc, hf⟩
    · rw [hc]; exact .ok hp
    · rw [hc]
      exact hf.bind fun t1 h1 => ih (m := j) (by omega) h1
end RL

/-! RL27: bits, words, rules, networks. -/
namespace RL
open PySem PySem.Spec PyProof.Rows L2
theorem bitS_add {w : List Bool} {b : Bool} (h : w.length < 1000) : RL.gAdd (.str (bitS w)) (.str (bitS [b])) = some (.v (.str (bitS (w ++ [b])))) := by
  show (if (bitS w).length + (bitS [b]).length ≤ sizeLine then some (VR.v (.str (bitS w ++ bitS [b]))) else none) = _
  rw [bitS_len, bitS_len, if_pos (by have : 1001 ≤ sizeLine := by decide
                                     simp only [List.length_cons, List.length_nil]; omega), bitS_app]
theorem iter_bits {l : List Bool} : iterD (.str (bitS l)) = some (l.map fun b => .str (bitS [b])) := by
  unfold iterD
  rw [bitS_items]
abbrev Rule := List Nat × List Bool
def ruleD (r : Rule) : D := .tuple [.tuple (natL r.1), .str (bitS r.2)]
def netD (net : List Rule) : D := .tuple (net.map ruleD)
def bv (b : Bool) : Nat := if b = true then 1 else 0
def plcF (st : List Bool) (p : Nat) (ins : List Nat) : Nat := ins.foldl (fun p j => 2 * p + bv (st.getD j false)) p
abbrev plc (st : List Bool) (ins : List Nat) : Nat := plcF st 0 ins
theorem plcF_lt {st : List Bool} : ∀ {ins : List Nat} {p : Nat}, plcF st p ins < (p + 1) * 2 ^ ins.length
  | [], p => by unfold plcF; simp
  | j :: ins, p => by
    have h := plcF_lt (st := st) (ins := ins) (p := 2 * p + bv (st.getD j false))
    have hb : bv (st.getD j false) ≤ 1 := by unfold bv; split <;> omega
    have e : plcF st p (j :: ins) = plcF st (2 * p + bv (st.getD j false)) ins := rfl
    rw [e, List.length_cons, Nat.pow_succ]
    have h2 : (2 * p + bv (st.getD j false) + 1) * 2 ^ ins.length ≤ (2 * p + 2) * 2 ^ ins.length := Nat.mul_le_mul_right _ (by omega)
    have h3 : (2 * p + 2) * 2 ^ ins.length = (p + 1) * (2 ^ ins.length * 2) := by
      rw [Nat.mul_comm (2 ^ ins.length) 2, ← Nat.mul_assoc]; congr 1; omega
    rw [← h3]
    exact Nat.lt_of_lt_of_le h h2
theorem plc_lt {st : List Bool} {ins : List Nat} : plc st ins < 2 ^ ins.length := by
  have := plcF_lt (st := st) (ins := ins) (p := 0)
  simpa using this
theorem plc_snoc {st : List Bool} {ins : List Nat} {j : Nat} : plc st (ins ++ [j]) = 2 * plc st ins + bv (st.getD j false) := by
  unfold plc plcF
  rw [List.foldl_append]
  rfl
/-- a good rule among n switches, a good network -/
def Good (n : Nat) (r : Rule) : Prop := r.1.length ≤ 4 ∧ (∀ j ∈ r.1, j < n) ∧ r.1.Pairwise (· < ·) ∧ r.2.length = 2 ^ r.1.length
def GoodNet (net : List Rule) : Prop := 1 ≤ net.length ∧ net.length ≤ 8 ∧ ∀ r ∈ net, Good net.length r
theorem good_len {r : Rule} {n : Nat} (g : Good n r) : r.2.length ≤ 16 := by
  rw [g.2.2.2]; exact Nat.pow_le_pow_right (by decide) g.1
theorem plc_pre {st : List Bool} {ins p : List Nat} {j : Nat} (h : ins.length ≤ 8) (hp : p ++ [j] <+: ins) : plc st p < 1000 := by
  have a := plc_lt (st := st) (ins := p)
  have b : 2 ^ p.length ≤ 2 ^ 8 := Nat.pow_le_pow_right (by decide) (by have := pre_len hp; omega)
  omega
theorem two_mul {p : Nat} {b : Bool} : (2 : Int) * (p : Int) + (if b = true then 1 else 0) = ((2 * p + bv b : Nat) : Int) := by
  unfold bv
  cases b <;> simp
theorem nat_small {p : Nat} (h : p < 2 ^ 64) : (p : Int).natAbs < 2 ^ 1000 := by
  have : (p : Int).natAbs = p := Int.natAbs_natCast p
  rw [this]
  exact Nat.lt_of_lt_of_le h (Nat.pow_le_pow_right (by decide) (by decide))
theorem mul2 {p : Nat} (h : p < 1000000) : RL.gMul (.int 2) (.int (p : Int)) = some (.v (.int (2 * (p : Int)))) := mul_int (by decide) (nat_small (Nat.lt_trans h (by decide)))
theorem eq_bits {l k : List Bool} : RL.gEq (.str (bitS l)) (.str (bitS k)) = some (.v (.bool (decide (l = k)))) := by
  show gEqv false _ _ = _
  unfold gEqv
  rw [if_pos (by rfl), bitS_eqv]
  rfl
theorem ne_bits {l k : List Bool} : RL.gNe (.str (bitS l)) (.str (bitS k)) = some (.v (.bool (!decide (l = k)))) := by
  show gEqv true _ _ = _
  unfold gEqv
  rw [if_pos (by rfl), bitS_eqv]
  rfl
theorem eq_bit {b c : Bool} : RL.gEq (.str (bitS [b])) (.str (bitS [c])) = some (.v (.bool (b == c))) := by
  rw [eq_bits]
  cases b <;> cases c <;> rfl
theorem ne_bit {b c : Bool} : RL.gNe (.str (bitS [b])) (.str (bitS [c])) = some (.v (.bool (b != c))) := by
  rw [ne_bits]
  cases b <;> cases c <;> rfl
theorem in_bits {b : Bool} {l : List Bool} : gIn (.str (bitS [b])) (.str (bitS l)) = some (.v (.bool (decide (b ∈ l)))) := by
  unfold gIn; rw [in_bit]; rfl
theorem notin_bits {b : Bool} {l : List Bool} : gNotIn (.str (bitS [b])) (.str (bitS l)) = some (.v (.bool (!decide (b ∈ l)))) := by
  unfold gNotIn; rw [in_bit]; rfl
def img (r : Rule) (st : List Bool) : Bool := r.2.getD (plc st r.1) false
def imgs (net : List Rule) (st : List Bool) : List Bool := net.map fun r => img r st
theorem rule_at {net : List Rule} {k : Nat} (h : k < net.length) : net[k]? = some (net.getD k ([], [])) := by
  rw [List.getD_eq_getElem?_getD, List.getElem?_eq_getElem h]; rfl
theorem good_at {n : Nat} {net : List Rule} (hg : ∀ r ∈ net, Good n r) {k : Nat} (h : k < net.length) : Good n (net.getD k ([], [])) := hg _ (List.mem_of_getElem? (rule_at h))
theorem net_ix {net : List Rule} {k : Nat} {r : Rule} (h : net[k]? = some r) : gIx (netD net) (.int (k : Int)) = some (.v (ruleD r)) :=
  ix_tup (by rw [List.getElem?_map, h]; rfl)
theorem net_len {net : List Rule} : g1 gLen [netD net] = some (.v (.int (net.length : Int))) := by
  show some (VR.v (.int ((net.map ruleD).length : Int))) = _
  rw [List.length_map]
theorem rule_un {r : Rule} : qT2 (ruleD r) = .ok (.tuple (natL r.1), .str (bitS r.2)) := rfl
theorem rule_0 {r : Rule} : gIx (ruleD r) (.int 0) = some (.v (.tuple (natL r.1))) := ixt0
theorem rule_1 {r : Rule} : gIx (ruleD r) (.int 1) = some (.v (.str (bitS r.2))) := ixt1
theorem iter_net {net : List Rule} : iterD (netD net) = some (net.map ruleD) := rfl
theorem isT_rule {t : String} {r : Rule} : isT t (ruleD r) = (t == "tuple") := rfl
theorem isT_net {t : String} {net : List Rule} : isT t (netD net) = (t == "tuple") := rfl
theorem len_rule {r : Rule} : g1 gLen [ruleD r] = some (.v (.int 2)) := rfl
theorem plc_lt' {r : Rule} {n : Nat} {st : List Bool} (g : Good n r) : plc st r.1 < r.2.length := by
  rw [g.2.2.2]; exact plc_lt
theorem img_ix {r : Rule} {n : Nat} {st : List Bool} (g : Good n r) : gIx (.str (bitS r.2)) (.int (plc st r.1 : Int)) = some (.v (.str (bitS [img r st]))) := ix_bit (plc_lt' g)
theorem natL_def {l : List Nat} : natL l = l.map fun (i : Nat) => PyData.int (i : Int) := rfl
theorem strL_def {l : List (List Bool)} : strL l = l.map fun w => PyData.str (bitS w) := rfl
theorem len_natL {l : List Nat} : g1 gLen [.list (natL l)] = some (.v (.int (l.length : Int))) := by rw [len_list, natL_length]
theorem len_natT {l : List Nat} : g1 gLen [.tuple (natL l)] = some (.v (.int (l.length : Int))) := by rw [len_tuple, natL_length]
theorem strL_length {l : List (List Bool)} : (strL l).length = l.length := by simp [strL]
def dif (a b : List Bool) : List Nat := (List.range a.length).filter fun k => a.getD k false != b.getD k false
theorem enumL_map {α : Type} {g : α → D} (d : α) : ∀ {l : List α} {i : Nat}, enumL i (l.map g) = (List.range l.length).map fun k => .tuple [.int ((i + k : Nat) : Int), g (l.getD k d)]
  | [], i => rfl
  | b :: l, i => by
    rw [List.map_cons, List.length_cons, List.range_succ_eq_map, List.map_cons, List.map_map]
    unfold enumL
    rw [enumL_map d]
    refine congr (congrArg List.cons rfl) (List.map_congr_left fun k _ => ?_)
    show _ = PyData.tuple [.int ((i + (k + 1) : Nat) : Int), g ((b :: l).getD (k + 1) d)]
    rw [show i + (k + 1) = i + 1 + k by omega, List.getD_cons_succ]
theorem enum_map {α : Type} {g : α → D} (d : α) {l : List α} : enumL 0 (l.map g) = (List.range l.length).map fun k => .tuple [.int (k : Int), g (l.getD k d)] := by
  rw [enumL_map d]
  exact List.map_congr_left fun k _ => by rw [Nat.zero_add]
theorem enum_bits {a : List Bool} : gEnum [.str (bitS a)] = some ((List.range a.length).map fun k => .tuple [.int (k : Int), .str (bitS [a.getD k false])]) := by
  show (items (.str (bitS a))).map (enumL 0) = _
  rw [bitS_items, Option.map_some, enum_map false]
theorem enum_net {net : List Rule} : gEnum [netD net] = some ((List.range net.length).map fun k => .tuple [.int (k : Int), ruleD (net.getD k ([], []))]) := by
  show some (enumL 0 (net.map ruleD)) = _
  rw [enum_map ([], [])]
theorem add_bits {l k : List Bool} (h : l.length + k.length ≤ 1000) : RL.gAdd (.str (bitS l)) (.str (bitS k)) = some (.v (.str (bitS (l ++ k)))) := by
  show (if (bitS l).length + (bitS k).length ≤ sizeLine then some (VR.v (.str (bitS l ++ bitS k))) else none) = _
  rw [bitS_len, bitS_len, if_pos (by have : 1000 ≤ sizeLine := by decide
                                     omega), bitS_app]
theorem sl_to {l : List Bool} {k : Nat} : gSl (.str (bitS l)) none (some (k : Int)) = some (.v (.str (bitS (l.take k)))) := by
  show some (VR.v (.str (cutS (bitS l) none (some (k : Int))))) = _
  rw [bitS_to]
theorem sl_from {l : List Bool} {k : Nat} : gSl (.str (bitS l)) (some ((k : Int) + 1)) none = some (.v (.str (bitS (l.drop (k + 1))))) := by
  show some (VR.v (.str (cutS (bitS l) (some ((k : Int) + 1)) none))) = _
  rw [show ((k : Int) + 1) = ((k + 1 : Nat) : Int) by omega, bitS_from]
theorem set_cut {l : List Bool} {k : Nat} {b : Bool} (h : k < l.length) : l.take k ++ [b] ++ l.drop (k + 1) = l.set k b := by
  rw [List.set_eq_take_append_cons_drop, if_pos h, List.append_assoc]; rfl
theorem bools_true {n : Nat} : boolsOf (List.replicate n (.bool true)) = some (List.replicate n true) := by
  induction n with
  | zero => rfl
  | succ n ih => rw [List.replicate_succ, List.replicate_succ]; show (boolsOf _).map (true :: ·) = _; rw [ih]; rfl
theorem gAll_true {ds : List D} (h : ∀ d ∈ ds, d = .bool true) : g1 gAll [.list ds] = some (.v (.bool true)) := by
  have e : ds = List.replicate ds.length (.bool true) := List.eq_replicate_of_mem h
  show (boolsOf ds).map (fun ns => VR.v (.bool (ns.all id))) = _
  rw [e, bools_true]
  simp
theorem bools_map {α : Type} {c : α → Bool} {l : List α} : boolsOf (l.map fun a => .bool (c a)) = some (l.map c) := by
  induction l with
  | nil => rfl
  | cons a l ih => rw [List.map_cons, List.map_cons]; show (boolsOf _).map (c a :: ·) = _; rw [ih]; rfl
theorem gAll_map {α : Type} {c : α → Bool} {l : List α} : g1 gAll [.list (l.map fun a => .bool (c a))] = some (.v (.bool (l.all c))) := by
  show (boolsOf _).map (fun ns => VR.v (.bool (ns.all id))) = _
  rw [bools_map, Option.map_some, List.all_map]
  rfl
theorem tup_ix {l : List Nat} {k : Nat} (h : k < l.length) : gIx (.tuple (natL l)) (.int (k : Int)) = some (.v (.int ((l.getD k 0 : Nat) : Int))) := ix_tup (natL_get h)
theorem any_nat {k : Nat} : ∀ {l : List Nat}, (natL l).any (fun z => PyData.eqv z (.int (k : Int))) = decide (k ∈ l)
  | [] => by simp [natL]
  | j :: l => by
    have ih := any_nat (k := k) (l := l)
    show (PyData.eqv (.int (j : Int)) (.int (k : Int)) || (natL l).any _) = _
    rw [ih, eqv_int]
    by_cases h : k = j
    · subst h; simp
    · have h2 : ¬ ((j : Int) = (k : Int)) := by omega
      simp [h, h2]
theorem in_nat {k : Nat} {l : List Nat} : gIn (.int (k : Int)) (.list (natL l)) = some (.v (.bool (decide (k ∈ l)))) := by
  have e : inB (.int (k : Int)) (.list (natL l)) = some ((natL l).any fun z => PyData.eqv z (.int (k : Int))) := by
    show (if _ then _ else _) = _
    rw [if_pos]
    have : (natL l).all RL.flatD = true := by
      rw [List.all_eq_true]
      intro d h
      obtain ⟨i, _, rfl⟩ := List.mem_map.mp h
      rfl
    rw [this]; rfl
  unfold gIn
  rw [e, any_nat]; rfl
theorem dif_mem {a b : List Bool} {k : Nat} (h : k < a.length) : k ∈ dif a b ↔ a.getD k false ≠ b.getD k false := by
  unfold dif
  rw [List.mem_filter, List.mem_range]
  simp [h]
theorem imgs_at {net : List Rule} {st : List Bool} {k : Nat} {r : Rule} (h : net[k]? = some r) : (imgs net st).getD k false = img r st := by
  unfold imgs
  rw [List.getD_eq_getElem?_getD, List.getElem?_map, h]; rfl
theorem imgs_len {net : List Rule} {st : List Bool} : (imgs net st).length = net.length := by unfold imgs; rw [List.length_map]
/-- the rule made to rest at a state -/
def wrule (st : List Bool) (k : Nat) (r : Rule) : Rule := (r.1, r.2.set (plc st r.1) (st.getD k false))
def wnet (net : List Rule) (st : List Bool) : List Rule := (List.range net.length).map fun k => wrule st k (net.getD k ([], []))
theorem wrule_cut {r : Rule} {n k : Nat} {st : List Bool} (g : Good n r) : r.2.take (plc st r.1) ++ [st.getD k false] ++ r.2.drop (plc st r.1 + 1) = (wrule st k r).2 :=
  set_cut (plc_lt' g)
theorem wrule_eq {net : List Rule} {st : List Bool} {k : Nat} {r : Rule} {n : Nat} (h : net[k]? = some r) (hk : k < st.length) (g : Good n r) : (if k ∈ dif st (imgs net st) then r.2.set (plc st r.1) (!r.2.getD (plc st r.1) false) else r.2) = (wrule st k r).2 := by
  have hp : plc st r.1 < r.2.length := plc_lt' g
  have e := imgs_at (st := st) h
  have m := dif_mem (b := imgs net st) hk
  rw [e] at m
  unfold wrule
  dsimp only
  by_cases z : k ∈ dif st (imgs net st)
  · rw [if_pos z]
    have := m.mp z
    unfold img at this
    congr 1
    generalize st.getD k false = x at *
    generalize r.2.getD (plc st r.1) false = y at *
    cases x <;> cases y <;> simp_all
  · rw [if_neg z]
    have : st.getD k false = img r st := by
      by_cases w : st.getD k false = img r st
      · exact w
      · exact absurd (m.mpr w) z
    rw [this]
    unfold img
    rw [List.getD_eq_getElem?_getD, List.getElem?_eq_getElem hp]
    exact (List.set_getElem_self hp).symm
theorem shl1 {n : Nat} (h : n ≤ 100) : gShl (.int 1) (.int (n : Int)) = some (.v (.int ((2 ^ n : Nat) : Int))) := by
  show (if (decide (0 ≤ (n : Int)) && decide ((n : Int) ≤ 1000000) && decide (Int.natAbs 1 < 2 ^ 64)) = true then some (VR.v (.int (1 * 2 ^ (n : Int).toNat))) else none) = _
  rw [if_pos (by rw [decide_eq_true (by omega), decide_eq_true (by omega)]; rfl), Int.toNat_natCast, Int.one_mul]
  norm_cast
theorem gRng1_pred {n : Nat} (h : n < 1000) : gRng1 [.int ((n : Int) - 1)] = some (natL (List.range (n - 1))) := by
  have e : gRng1 [.int ((n : Int) - 1)] = if -(2 ^ 62) ≤ ((n : Int) - 1) ∧ ((n : Int) - 1) < 2 ^ 62 then some (rngL 0 1 ((n : Int) - 1).toNat) else none := rfl
  rw [e, if_pos (by omega), show ((n : Int) - 1).toNat = n - 1 by omega, rngL_nat]
theorem strL_flat {l : List (List Bool)} : ∀ d ∈ strL l, flatP d := by
  intro d h
  obtain ⟨w, _, rfl⟩ := List.mem_map.mp h
  exact flat_str bitS_ok
theorem strL_shaped {l : List (List Bool)} : SeqAt.shaped (.list (strL l)) = true := shaped_list strL_flat
theorem strL_isEmpty {l : List (List Bool)} : (strL l).isEmpty = l.isEmpty := by cases l <;> rfl
end RL

/-! RL28: sorted, min over data. -/
namespace RL
open PySem
theorem leB_not {x y : D} : leB x y = !PySem.W.dataLt y x := rfl
theorem leB_total : PySem.W.TotalLe leB := PySem.W.sortLe_total _ false _
theorem leB_trans {a b c : D} (h : leB a b = true) (k : leB b c = true) : leB a c = true := leB_total.trans a b c h k
theorem minD_le {x : D} : ∀ {xs : List D} {y : D}, y ∈ x :: xs → leB (PySem.W.minD x xs) y = true := by
  intro xs
  induction xs generalizing x with
  | nil =>
    intro y h
    rw [List.mem_singleton.mp h]
    exact (leB_total.total x x).elim id id
  | cons z xs ih =>
    intro y h
    have e : PySem.W.minD x (z :: xs) = PySem.W.minD (if PySem.W.dataLt z x then z else x) xs := rfl
    rw [e]
    by_cases hz : PySem.W.dataLt z x = true
    · rw [if_pos hz]
      have h1 : leB z x = true := by
        rcases leB_total.total z x with q | q
        · exact q
        · rw [leB_not, hz] at q; cases q
      simp only [List.mem_cons] at h
      rcases h with rfl | rfl | h
      · exact leB_trans (ih List.mem_cons_self) h1
      · exact ih List.mem_cons_self
      · exact ih (List.mem_cons_of_mem _ h)
    · rw [if_neg hz]
      have h1 : leB x z = true := by rw [leB_not]; simpa using hz
      simp only [List.mem_cons] at h
      rcases h with rfl | rfl | h
      · exact ih List.mem_cons_self
      · exact leB_trans (ih List.mem_cons_self) h1
      · exact ih (List.mem_cons_of_mem _ h)
theorem sort_head {x : D} {xs : List D} (anti : ∀ a ∈ x :: xs, ∀ b ∈ x :: xs, leB a b = true → leB b a = true → a = b) : ∃ r, (x :: xs).mergeSort leB = PySem.W.minD x xs :: r := by
  have hp := List.mergeSort_perm (x :: xs) leB
  cases hs : (x :: xs).mergeSort leB with
  | nil => rw [hs] at hp; exact absurd hp.length_eq (by simp)
  | cons h r =>
    rw [hs] at hp
    have hm : h ∈ x :: xs := hp.mem_iff.mp List.mem_cons_self
    have mm : PySem.W.minD x xs ∈ x :: xs := minD_mem x xs
    have h1 : leB h (PySem.W.minD x xs) = true := by
      have pw := List.pairwise_mergeSort (le := leB) (fun a b c => leB_trans) (fun a b => by rcases leB_total.total a b with q | q <;> simp [q]) (x :: xs)
      rw [hs] at pw
      have := hp.mem_iff.mpr mm
      rcases List.mem_cons.mp this with q | q
      · rw [q]; exact (leB_total.total h h).elim id id
      · exact List.rel_of_pairwise_cons pw q
    have e := anti _ hm _ mm h1 (minD_le hm)
    exact ⟨r, by rw [e]⟩
/-- a number and a word -/
def rkD (p : Nat × List Bool) : D := .tuple [.int (p.1 : Int), .str (bitS p.2)]
theorem rk_alike {p q : Nat × List Bool} : PySem.W.alike (rkD p) (rkD q) = true := by
  unfold rkD
  simp [PySem.W.alike, PySem.W.alikeAll]
theorem rk_depth {p : Nat × List Bool} : (rkD p).depth = 1 := by
  unfold rkD PyData.depth PyData.depthAll
  rfl
theorem rk_plain : ∀ {l : List (Nat × List Bool)}, plainDs (l.map rkD) = true
  | [] => by rw [List.map_nil]; unfold plainDs; rfl
  | p :: l => by
    rw [List.map_cons]
    unfold plainDs
    rw [rk_plain (l := l)]
    rfl
theorem rk_ord {l : List (Nat × List Bool)} : ordOk (l.map rkD) = true := by
  unfold ordOk alikeB
  rw [rk_plain]
  have h1 : ((l.map rkD).all fun d => (l.map rkD).all fun e => PySem.W.alike d e) = true := by
    rw [List.all_eq_true]
    intro d hd
    rw [List.all_eq_true]
    intro e he
    obtain ⟨p, _, rfl⟩ := List.mem_map.mp hd
    obtain ⟨q, _, rfl⟩ := List.mem_map.mp he
    exact rk_alike
  have h2 : ((l.map rkD).all fun d => decide (d.depth ≤ 60)) = true := by
    rw [List.all_eq_true]
    intro d hd
    obtain ⟨p, _, rfl⟩ := List.mem_map.mp hd
    rw [rk_depth]; rfl
  rw [h1, h2]; rfl
theorem rk_sortB {l : List (Nat × List Bool)} : sortB (l.map rkD) = true := by
  unfold sortB
  rw [Bool.or_eq_true]
  left
  rw [List.all_eq_true]
  intro d hd
  obtain ⟨p, _, rfl⟩ := List.mem_map.mp hd
  rfl
theorem rk_notNone {l : List (Nat × List Bool)} : (l.map rkD).all (fun d => !isNone d) = true := by
  rw [List.all_eq_true]
  intro d hd
  obtain ⟨p, _, rfl⟩ := List.mem_map.mp hd
  rfl
theorem lex_anti : ∀ {x y : List Nat}, ¬ x < y → ¬ y < x → x = y := fun {x y} h k => List.le_antisymm (List.not_lt.mp k) (List.not_lt.mp h)
theorem rk_anti {p q : Nat × List Bool} (h : leB (rkD p) (rkD q) = true) (k : leB (rkD q) (rkD p) = true) : rkD p = rkD q := by
  rw [leB_not] at h k
  have e : ∀ p q : Nat × List Bool, PySem.W.dataLt (rkD p) (rkD q) = if (p.1 : Int) = (q.1 : Int) then (if bitS p.2 = bitS q.2 then false else decide ((bitS p.2).cps.toList < (bitS q.2).cps.toList)) else decide ((p.1 : Int) < (q.1 : Int)) := fun p q => by
    unfold rkD
    rw [PySem.W.dataLt_pair (by simp [PySem.W.alike]) (by simp [PySem.W.alike]), PySem.W.dataLt_int, PySem.W.dataLt_str, eqv_int]
    have e2 : PyData.eqv (.str (bitS p.2)) (.str (bitS q.2)) = decide (bitS p.2 = bitS q.2) := by
      unfold PyData.eqv
      by_cases z : bitS p.2 = bitS q.2 <;> simp [z]
    rw [e2]
    simp only [decide_eq_true_eq]
  rw [e] at h k
  by_cases h1 : (p.1 : Int) = (q.1 : Int)
  · rw [if_pos h1] at k
    rw [if_pos h1.symm] at h
    by_cases h2 : bitS p.2 = bitS q.2
    · unfold rkD; rw [h1, h2]
    · rw [if_neg h2] at k
      rw [if_neg (Ne.symm h2)] at h
      have : (bitS p.2).cps.toList = (bitS q.2).cps.toList := lex_anti (by simpa using k) (by simpa using h)
      exact absurd (PySem.W.str_of_cps this) h2
  · rw [if_neg h1] at k
    rw [if_neg (Ne.symm h1)] at h
    simp at h k
    omega
/-- the first of the sorted ones is the least -/
theorem rk_first {p : Nat × List Bool} {l : List (Nat × List Bool)} : ∃ (q : Nat × List Bool) (r : List D), q ∈ p :: l ∧ gMin [.list ((p :: l).map rkD)] = some (.v (rkD q)) ∧ g1 gSorted [.list ((p :: l).map rkD)] = some (.fl (rkD q :: r)) := by
  obtain ⟨r, hr⟩ := sort_head (x := rkD p) (xs := l.map rkD) fun a ha b hb h k => by
    rw [← List.map_cons (f := rkD)] at ha hb
    obtain ⟨x, _, rfl⟩ := List.mem_map.mp ha
    obtain ⟨y, _, rfl⟩ := List.mem_map.mp hb
    exact rk_anti h k
  have hm : PySem.W.minD (rkD p) (l.map rkD) ∈ (p :: l).map rkD := minD_mem _ _
  obtain ⟨q, hq, e⟩ := List.mem_map.mp hm
  refine ⟨q, r, hq, ?_, ?_⟩
  · show (if ordOk ((p :: l).map rkD) = true ∧ ((p :: l).map rkD).all (fun d => !isNone d) = true then some (VR.v (PySem.W.minD (rkD p) (l.map rkD))) else none) = _
    rw [if_pos ⟨rk_ord, rk_notNone⟩, e]
  · show (if ordOk ((p :: l).map rkD) = true ∧ sortB ((p :: l).map rkD) = true then some (VR.fl (((p :: l).map rkD).mergeSort leB)) else none) = _
    rw [if_pos ⟨rk_ord, rk_sortB⟩, List.map_cons, hr, e]
theorem rk_nil : g1 gSorted [.list []] = some (.fl []) := by
  show (if ordOk ([].map rkD) = true ∧ sortB ([].map rkD) = true then some (VR.fl (([] : List D).mergeSort leB)) else none) = _
  rw [if_pos ⟨rk_ord, rk_sortB⟩, List.mergeSort_nil]
theorem rk_shaped {l : List (Nat × List Bool)} : SeqAt.shaped (.list (l.map rkD)) = true := by
  have h : PyData.canLayAll0 (l.map rkD) = true ∧ PyData.depthAll (l.map rkD) ≤ 1 := by
    induction l with
    | nil => exact ⟨rfl, by rw [List.map_nil]; unfold PyData.depthAll; omega⟩
    | cons p l ih =>
      rw [List.map_cons]
      unfold PyData.canLayAll0 PyData.depthAll
      rw [ih.1, rk_depth]
      refine ⟨?_, by have := ih.2; omega⟩
      have e : (rkD p).canLay0 = true := by
        unfold rkD PyData.canLay0 PyData.canLayAll0 PyData.canLay0 PyData.canLayAll0 PyData.canLay0 PyData.canLayAll0
        rw [bitS_ok]; rfl
      rw [e]; rfl
  unfold SeqAt.shaped PyData.canLay0 PyData.depth
  rw [h.1]
  have : PyData.depthAll (l.map rkD) + 1 ≤ 64 := by have := h.2; omega
  simp [this]
end RL
namespace RL
open PySem
theorem ints_alike {l : List Nat} : ordOk (natL l) = true ∧ sortB (natL l) = true := by
  constructor
  · unfold ordOk alikeB
    have h0 : plainDs (natL l) = true := by
      induction l with
      | nil => show plainDs [] = true; unfold plainDs; rfl
      | cons a l ih => show plainDs (PyData.int (a : Int) :: natL l) = true; unfold plainDs; rw [ih]; rfl
    have h1 : ((natL l).all fun d => (natL l).all fun e => PySem.W.alike d e) = true := by
      rw [List.all_eq_true]
      intro d hd
      rw [List.all_eq_true]
      intro e he
      obtain ⟨p, _, rfl⟩ := List.mem_map.mp hd
      obtain ⟨q, _, rfl⟩ := List.mem_map.mp he
      simp [PySem.W.alike]
    have h2 : ((natL l).all fun d => decide (d.depth ≤ 60)) = true := by
      rw [List.all_eq_true]
      intro d hd
      obtain ⟨p, _, rfl⟩ := List.mem_map.mp hd
      unfold PyData.depth; rfl
    rw [h0, h1, h2]; rfl
  · unfold sortB
    rw [Bool.or_eq_true]
    right
    rw [List.all_eq_true]
    intro d hd
    obtain ⟨p, _, rfl⟩ := List.mem_map.mp hd
    rfl
def sortN (l : List Nat) : List Nat := l.mergeSort fun a b => decide (a ≤ b)
theorem sorted_nat {l : List Nat} : g1 gSorted [.list (natL l)] = some (.fl (natL (sortN l))) := by
  show (if ordOk (natL l) = true ∧ sortB (natL l) = true then some (VR.fl ((natL l).mergeSort leB)) else none) = _
  rw [if_pos ints_alike]
  have e : natL (sortN l) = (natL l).mergeSort leB := PySem.W.sort_maps (fun (i : Nat) => PyData.int (i : Int)) fun a _ b _ => by
    rw [leB_not, PySem.W.dataLt_int]
    by_cases h : a ≤ b
    · rw [decide_eq_true h, decide_eq_false (by omega)]; rfl
    · rw [decide_eq_false h, decide_eq_true (by omega)]; rfl
  rw [e]
theorem sortN_perm {l : List Nat} : (sortN l).Perm l := List.mergeSort_perm _ _
theorem sortN_lt {l : List Nat} (h : l.Nodup) : (sortN l).Pairwise (· < ·) := by
  have p := List.pairwise_mergeSort (le := fun a b : Nat => decide (a ≤ b)) (fun a b c h k => by simp at h k ⊢; omega) (fun a b => by simp; omega) l
  have n : (sortN l).Nodup := (sortN_perm.nodup_iff).mpr h
  have := p.and n
  refine List.Pairwise.imp ?_ this
  intro a b ⟨h1, h2⟩
  simp at h1
  omega
theorem sl_list {l : List Nat} {k : Nat} : gSl (.list (natL l)) none (some (k : Int)) = some (.fl (natL (l.take k))) := by
  show some (VR.fl (cutL (natL l) none (some (k : Int)))) = _
  rw [cut_to]
  unfold natL
  rw [List.map_take]
theorem index_nat {l : List Nat} {k : Nat} (h : k ∈ l) : ∃ j, j < l.length ∧ m1 gIndexL (.list (natL l)) [.int (k : Int)] = some (.v (.int (j : Int))) := by
  have e : ∃ j, (natL l).findIdx? (fun d => PyData.eqv d (.int (k : Int))) = some j ∧ j < l.length := by
    have : ((natL l).findIdx? fun d => PyData.eqv d (.int (k : Int))).isSome = true := by
      rw [List.findIdx?_isSome, any_nat, decide_eq_true h]
    obtain ⟨j, hj⟩ := Option.isSome_iff_exists.mp this
    refine ⟨j, hj, ?_⟩
    have := (List.findIdx?_eq_some_iff_getElem.mp hj).1
    rwa [natL_length] at this
  obtain ⟨j, hj, hl⟩ := e
  refine ⟨j, hl, ?_⟩
  have ha : (natL l).all RL.flatD = true := by
    rw [List.all_eq_true]
    intro d hd
    obtain ⟨i, _, rfl⟩ := List.mem_map.mp hd
    rfl
  show (if RL.flatD (.int (k : Int)) = true ∧ (natL l).all RL.flatD = true then ((natL l).findIdx? fun z => PyData.eqv z (.int (k : Int))).map fun (j : Nat) => VR.v (.int j) else none) = _
  rw [if_pos ⟨rfl, ha⟩, hj]
  rfl
theorem ix01 {z : Int} (h0 : 0 ≤ z) (h : z < 2) : gIx (.str (bitS [false, true])) (.int z) = some (.v (.str (bitS [decide (z = 1)]))) := by
  have : z = 0 ∨ z = 1 := by omega
  rcases this with rfl | rfl
  · exact ix_bit (l := [false, true]) (i := 0) (by simp)
  · exact ix_bit (l := [false, true]) (i := 1) (by simp)
theorem mul_bits {b : Bool} {n : Nat} (h : n ≤ 1000) : RL.gMul (.str (bitS [b])) (.int (n : Int)) = some (.v (.str (bitS (List.replicate n b)))) := by
  have c1 : (n : Int) < 2 ^ 63 := by omega
  have c2 : -(2 ^ 63) ≤ (n : Int) := by omega
  have c3 : (bitS [b]).length * (n : Int).toNat ≤ sizeLine := by
    rw [bitS_len, Int.toNat_natCast]
    have : 1000 ≤ sizeLine := by decide
    simp only [List.length_singleton]
    omega
  generalize hk : (n : Int) = k at *
  unfold RL.gMul
  dsimp only
  rw [if_pos ⟨c1, c2, c3⟩, ← hk, Int.toNat_natCast, rep_bit]
theorem bit10 : ("10" : Str) = bitS [true, false] := by decide +kernel
theorem bit00 : ("00" : Str) = bitS [false, false] := by decide +kernel
theorem bit11 : ("11" : Str) = bitS [true, true] := by decide +kernel
/-- a text for each word -/
theorem words_lc {n : Nat} {f : D → R (Option D)} (b : List Bool → Bool) (H : ∀ w, w.length = n → f (.str (bitS w)) = .ok (some (.str (bitS [b w])))) (h : n ≤ 8) :
    small (strL (wordsB n)) = true ∧ qLc f (strL (wordsB n)) = .ok (((wordsB n).map b).map fun c => .str (bitS [c])) ∧ m1 gJoin (.str (bitS [])) [.list (((wordsB n).map b).map fun c => .str (bitS [c]))] = some (.v (.str (bitS ((wordsB n).map b)))) := by
  have hp : 2 ^ n ≤ 2 ^ 8 := Nat.pow_le_pow_right (by decide) h
  refine ⟨small_of (by rw [strL_length, words_len]; omega), ?_, gJoin_bits (by rw [List.length_map, words_len]; omega)⟩
  rw [strL_def, qLc_map (fun w => PyData.str (bitS w)) (fun w => .str (bitS [b w])) fun w hw => H w (words_mem.mp hw), List.map_map]
  rfl
end RL
namespace RL
open PySem
/-- trees that are compared place by place -/
def niceB : Nat → D → Bool
  | 0, _ => false
  | n + 1, d => match d with
    | .none => true
    | .bool _ => true
    | .int _ => true
    | .str _ => true
    | .list ds => decide (ds.length < 1000) && ds.all (niceB n)
    | .tuple ds => decide (ds.length < 1000) && ds.all (niceB n)
    | .dict [(.str k, v)] => decide (k.length < 1000) && niceB n v
    | .dict _ => false
theorem nice_up : ∀ {n : Nat} {d : D}, niceB n d = true → niceB (n + 1) d = true
  | 0, _, h => by cases h
  | n + 1, d, h => by
    cases d with
    | list ds =>
      have h' : (decide (ds.length < 1000) && ds.all (niceB n)) = true := h
      show (decide (ds.length < 1000) && ds.all (niceB (n + 1))) = true
      rw [Bool.and_eq_true, List.all_eq_true] at h' ⊢
      exact ⟨h'.1, fun x hx => nice_up (h'.2 x hx)⟩
    | tuple ds =>
      have h' : (decide (ds.length < 1000) && ds.all (niceB n)) = true := h
      show (decide (ds.length < 1000) && ds.all (niceB (n + 1))) = true
      rw [Bool.and_eq_true, List.all_eq_true] at h' ⊢
      exact ⟨h'.1, fun x hx => nice_up (h'.2 x hx)⟩
    | dict kvs =>
      match kvs, h with
      | [(.str k, v)], h =>
        have h' : (decide (k.length < 1000) && niceB n v) = true := h
        show (decide (k.length < 1000) && niceB (n + 1) v) = true
        rw [Bool.and_eq_true] at h' ⊢
        exact ⟨h'.1, nice_up h'.2⟩
    | _ => rfl
theorem nice_le {n m : Nat} {d : D} (h : niceB n d = true) (k : n ≤ m) : niceB m d = true := by
  induction k with
  | refl => exact h
  | step _ ih => exact nice_up ih
theorem nice_list {n : Nat} {ds : List D} (h : ds.length < 1000) (k : ∀ d ∈ ds, niceB n d = true) : niceB (n + 1) (.list ds) = true := by
  show (decide (ds.length < 1000) && ds.all (niceB n)) = true
  rw [decide_eq_true h, List.all_eq_true.mpr k]; rfl
theorem nice_tuple {n : Nat} {ds : List D} (h : ds.length < 1000) (k : ∀ d ∈ ds, niceB n d = true) : niceB (n + 1) (.tuple ds) = true := by
  show (decide (ds.length < 1000) && ds.all (niceB n)) = true
  rw [decide_eq_true h, List.all_eq_true.mpr k]; rfl
theorem nice_nat {l : List Nat} {n : Nat} : ∀ d ∈ natL l, niceB (n + 1) d = true := fun d h => by
  obtain ⟨i, _, rfl⟩ := List.mem_map.mp h
  rfl
theorem nice_rule {r : Rule} {n : Nat} (h : r.1.length < 1000) : niceB (n + 3) (ruleD r) = true := by
  refine nice_tuple (n := n + 2) (by simp) fun d hd => ?_
  simp only [List.mem_cons, List.not_mem_nil, or_false] at hd
  rcases hd with rfl | rfl
  · exact nice_tuple (n := n + 1) (by rw [natL_length]; exact h) nice_nat
  · rfl
theorem nice_net {net : List Rule} {n : Nat} (g : GoodNet net) : niceB (n + 4) (netD net) = true := by
  refine nice_tuple (n := n + 3) (by rw [List.length_map]; have := g.2.1; omega) fun d hd => ?_
  obtain ⟨r, hr, rfl⟩ := List.mem_map.mp hd
  exact nice_rule (by have := (g.2.2 r hr).1; omega)
theorem qLc_none {α : Type} {f : D → R (Option D)} {l : List α} (g : α → D) (H : ∀ a ∈ l, f (g a) = .ok none) : qLc f (l.map g) = .ok [] := by
  induction l with
  | nil => rfl
  | cons a l ih =>
    rw [List.map_cons]
    unfold qLc
    rw [H a List.mem_cons_self, R.bind_ok, ih fun x hx => H x (List.mem_cons_of_mem _ hx)]
    rfl
theorem eqv_str {x y : Str} : PyData.eqv (.str x) (.str y) = decide (x = y) := by
  unfold PyData.eqv
  by_cases z : x = y <;> simp [z]
theorem eq_str {x y : Str} : gEq (.str x) (.str y) = some (.v (.bool (decide (x = y)))) := by
  show some (VR.v (.bool (PyData.eqv (.str x) (.str y)))) = _
  rw [eqv_str]
theorem ints_map {ns : List Int} : intsOf (ns.map .int) = some ns := by
  induction ns with
  | nil => rfl
  | cons a l ih => rw [List.map_cons]; show (intsOf _).map (a :: ·) = _; rw [ih]; rfl
theorem dict1_iter {k : Str} {v : D} (h : k.length < 1000) : iterD (.dict [(.str k, v)]) = some [.str k] := by
  show (if keysOk [(PyData.str k, v)] = true then some [PyData.str k] else none) = _
  rw [if_pos]
  unfold keysOk
  rw [List.all_cons, List.all_nil, Bool.and_true]
  have : 1000 ≤ sizeLine := by decide
  show decide (k.length ≤ sizeLine) = true
  rw [decide_eq_true]
  omega
theorem dict1_get {k : Str} {v : D} : getK [(PyData.str k, v)] (.inr k) = some v := by
  have e : keyIs (.inr k) (PyData.str k) = true := by
    show decide ((Sum.inr k : Int ⊕ Str) = Sum.inr k) = true
    simp
  unfold getK
  rw [List.find?_cons, e]
  rfl
theorem dict1_notin {k : Str} {v : D} : gNotIn (.str k) (.dict [(.str k, v)]) = some (.v (.bool false)) := by
  show (some (getK [(PyData.str k, v)] (.inr k)).isSome).map _ = _
  rw [dict1_get]
  rfl
theorem dict1_ix {k : Str} {v : D} : gIx (.dict [(.str k, v)]) (.str k) = some (.v v) := by
  show (getK [(PyData.str k, v)] (.inr k)).map VR.v = _
  rw [dict1_get]
  rfl
def isF (r : R D) : Bool := match r with
  | .ok (.bool false) => true
  | _ => false
theorem isF_eq {r : R D} (h : isF r = true) : r = .ok (.bool false) := by
  unfold isF at h
  split at h
  · rfl
  · cases h
end RL

/-! RL29: sorted(set(xs)) of a list of texts. -/
namespace RL
open PySem PySem.Spec PyProof.Rows L2 PySem.Froz

/-- the table can be walked -/
structure Rg (w : World) (D : SD) : Prop where
  ris : Ris D.2.2.place.toList
  led : w.params.followText "set-order" = true ∨ D.2.2.led = true
theorem rg_add {w : World} {D : SD} (g : Rg w D) (h : Int) (v : Value) : Rg w (addTx h v D) := by
  obtain ⟨rows, ep, tb⟩ := D
  have n1 := layNew_ris tb rows h v g.ris
  have n2 : w.params.followText "set-order" = true ∨ (layNew tb rows h v).2.1.led = true := by
    rw [layNew_led]
    exact g.led
  unfold addTx
  dsimp only
  generalize layNew tb rows h v = N at n1 n2 ⊢
  have key : ∀ t2 : SetTable, Ris t2.place.toList → (w.params.followText "set-order" = true ∨ t2.led = true) → ∀ wd, Rg w (tailTx ep N.1 t2 wd) := fun t2 m1 m2 wd => by
    unfold tailTx
    split
    · exact ⟨relayAll_ris t2 _ _, by rw [relayAll_led]; exact m2⟩
    · exact ⟨m1, m2⟩
  split
  · exact key { N.2.1 with plain := false } n1 n2 _
  · exact key _ n1 n2 _
theorem addTx_rows (h : Int) (v : Value) (D : SD) : (addTx h v D).1.toList.Perm ((h, v) :: D.1.toList) := by
  obtain ⟨rows, ep, tb⟩ := D
  have n1 := layNew_perm tb rows h v
  unfold addTx
  dsimp only
  generalize layNew tb rows h v = N at n1 ⊢
  have n2 : N.1.toList.Perm ((h, v) :: rows.toList) := by
    refine n1.trans ?_
    rw [Array.toList_push]
    exact List.perm_append_singleton _ _
  have key : ∀ t2 wd, (tailTx ep N.1 t2 wd).1.toList.Perm ((h, v) :: rows.toList) := fun t2 wd => by
    unfold tailTx
    split
    · exact (relayAll_perm t2 N.1 _).trans n2
    · exact n2
  split <;> exact key _ _
def txOf : Value → Str
  | .str x _ => x
  | _ => Str.ofString ""
/-- the set of the texts l at a -/
structure SX (P : Program) (w : World) (h : Heap) (a : Addr) (D : SD) (l : List Str) : Prop where
  ob : h.get? a = some (sObj "set" D)
  tx : TxOk P w D l
  rg : Rg w D
  pm : (D.1.toList.map fun r => txOf r.2).Perm l
  st : ∀ r ∈ D.1.toList, ∃ x u, r.2 = .str x u
section
variable {P : Program} {w : World} {A : Around} {E : Value → Shared → Prop} {s : Shared} {a : Addr} {D : SD} {l : List Str}
theorem SX.keep {h h' : Heap} (R : SX P w h a D l) (k : ∀ o, h.get? a = some o → h'.get? a = some o) : SX P w h' a D l := ⟨k _ R.ob, R.tx, R.rg, R.pm, R.st⟩
/-- one that is there -/
theorem add_there {T : String} {x : Str} {u : Tok} {Q : Bool → Shared → Prop} (ho : s.heap.get? a = some (sObj T D)) (F : TxOk P w D l) (hx : x ∈ l) (hb : l.length < scanBound) (q : ∀ b, Q b s) :
    wpAny (model P w) A (setAddHashed a (.str x u) (hashStr w x)) Q E s := by
  obtain ⟨rows, ep, tb⟩ := D
  have small : rows.size < scanBound := by
    have z : rows.size = l.length := F.sz
    omega
  have same : (strKind P w).is x (.str x u) = true := is_str x u
  unfold setAddHashed setAddHashedIn
  apply wpAny_holding
  apply wpAny_bind
  apply wpAny_setState_of ho rfl F.fit
  dsimp only
  rw [byScan_of (knd := strKind P w) rfl small F.el, if_pos rfl]
  unfold setAddByScan
  apply wpAny_bind
  apply wpAny_bind
  apply wpAny_rule
  apply wpAny_bind
  apply wpAny_setScan_of (knd := strKind P w) (k := x) same ho rfl F.fit F.el
  cases z : List.findIdx? (fun r => (strKind P w).is x r.2) rows.toList with
  | some j => exact wpAny_pure (wpAny_pure (q _))
  | none =>
    obtain ⟨r, hr, hz⟩ := (F.mem x).mp hx
    have none := List.findIdx?_eq_none_iff.mp z r hr
    rw [hz] at none
    cases none
def dd1 (l : List Str) (x : Str) : List Str := if x ∈ l then l else x :: l
def dd (xs : List Str) : List Str := xs.foldl dd1 []
theorem sx_add {x : Str} {u : Tok} {Q : Bool → Shared → Prop} (R : SX P w s.heap a D l) (room : l.length + 1 < scanBound)
    (q : ∀ h' D', Heap.SameBut a s.heap h' → SX P w h' a D' (dd1 l x) → ∀ b, Q b { s with heap := h' }) : wpAny (model P w) A (setAddHashed a (.str x u) (hashStr w x)) Q E s := by
  by_cases hx : x ∈ l
  · have e : dd1 l x = l := if_pos hx
    exact add_there R.ob R.tx hx (by omega) fun b => q s.heap D (Heap.SameBut.refl a s.heap) (by rw [e]; exact R) b
  · have e : dd1 l x = x :: l := if_neg hx
    refine add_x R.ob R.tx hx room (q _ (addTx (hashStr w x) (.str x u) D) (Heap.SameBut.update _ _ _) ?_ true)
    have rows := addTx_rows (hashStr w x) (.str x u) D
    rw [e]
    refine ⟨get_upd _ R.ob rfl, add_ok u R.tx, rg_add R.rg _ _, ?_, fun r hr => ?_⟩
    · exact (rows.map _).trans (R.pm.cons x)
    · rcases List.mem_cons.mp (rows.mem_iff.mp hr) with z | z
      · exact ⟨x, u, by rw [z]⟩
      · exact R.st r z
theorem dd_le (xs : List Str) : ∀ l : List Str, (xs.foldl dd1 l).length ≤ l.length + xs.length := by
  induction xs with
  | nil => intro l; simp
  | cons x xs ih =>
    intro l
    have z := ih (dd1 l x)
    have y : (dd1 l x).length ≤ l.length + 1 := by
      unfold dd1
      split <;> simp
    simp only [List.foldl_cons, List.length_cons]
    omega
/-- the texts come one by one -/
theorem sx_loop {it : Addr} {fp wr : List Addr} {G : Array GenState → Array GenState → Prop} {n : Nat} {Pv : Nat → Value → Prop} {St : Nat → Shared → Prop} {R : Result → Shared → Prop}
    (W : WalksS P w A.in1 it fp wr G n Pv St) {c : Addr} (apart : c ∉ fp) {xs : List Str} (hn : n = xs.length) (hb : xs.length + 1 < scanBound) (is : ∀ i v, Pv i v → ∃ x u, xs[i]? = some x ∧ v = .str x u) :
    ∀ (m i : Nat) (s : Shared) (D : SD), i + m = n → St i s → SX P w s.heap c D (dd (xs.take i)) →
      (∀ s' D', Moved (c :: wr) G s s' → SX P w s'.heap c D' (dd xs) → R (.ok (.ret .none)) s') → codeAny (model P w) A (.builtin "set.update.loop" ⟨[.ref c, .ref it], []⟩) R s := by
  have cw : c ∉ wr := fun h => apart (W.sub _ h)
  have more : ∀ b ∈ wr, b ∈ c :: wr := fun b hb => .tail _ hb
  intro m
  induction m with
  | zero =>
    intro i s D e st S r
    obtain rfl : i = n := by omega
    apply codeAny_builtin F.entry_set_update_loop
    rw [Around.under_plainId F.plain_set_update_loop _]
    apply wpAny_bind
    refine W.done s _ _ st fun s' mv => ?_
    rw [hn, List.take_length] at S
    exact wpAny_pure (r s' D (mv.mono more) (S.keep fun o z => mv.heap c o cw z))
  | succ m ih =>
    intro i s D e st S r
    apply codeAny_builtin F.entry_set_update_loop
    rw [Around.under_plainId F.plain_set_update_loop _]
    apply wpAny_bind
    refine W.item i s _ _ (by omega) st fun v s' pv st' mv => ?_
    obtain ⟨x, u, hx, rfl⟩ := is i v pv
    have S' := S.keep (h' := s'.heap) fun o z => mv.heap c o cw z
    apply wpAny_bind
    apply wpAny_holding
    unfold setAdd
    apply wpAny_holding
    apply wpAny_bind
    refine (strKind P w).pyHash (k := x) (is_str x u) ?_
    have short : (dd (xs.take i)).length + 1 < scanBound := by
      have z := dd_le (xs.take i) []
      have y : (xs.take i).length ≤ xs.length := by rw [List.length_take]; omega
      unfold dd
      simp only [List.length_nil] at z
      omega
    refine sx_add (s := { s' with toks := s'.toks + 1 }) S' short fun h' D' sb S2 b => ?_
    have e2 : dd1 (dd (xs.take i)) x = dd (xs.take (i + 1)) := by
      unfold dd
      rw [List.take_add_one, hx, List.foldl_append]
      rfl
    rw [e2] at S2
    refine wpAny_pure ⟨plainId_quiet F.plain_set_update_loop _, ih (i + 1) _ D' (by omega) (W.frame _ s' _ _ st' (Nat.le_succ _) fun b hb o z => ?_) S2 fun s'' D'' mv2 S3 => r s'' D'' ?_ S3⟩
    · rw [sb.2 b fun h => apart (h ▸ hb)]
      exact z
    · refine .trans W.gtrans ((mv.mono more).then_heap (Nat.le_succ _) fun b o hb z => ?_) mv2
      rw [sb.2 b fun h => hb (h ▸ .head _)]
      exact z

def led0 (w : World) : Bool := !w.params.followText "set-order"
/-- a set without members -/
def emp (w : World) : SD := (#[], 0, .fresh 0 0 (led0 w))
theorem sx_emp {h : Heap} {c : Addr} (ho : h.get? c = some (sObj "set" (emp w))) : SX P w h c (emp w) [] := by
  refine ⟨ho, TxOk.nil rfl, ⟨.nil, ?_⟩, .refl _, fun r hr => by cases hr⟩
  show _ ∨ led0 w = true
  unfold led0
  cases w.params.followText "set-order" <;> simp
theorem strs_at : ∀ {us : List Value} {xs : List Str}, StrsAre us xs → ∀ (i : Nat) (v : Value), us[i]? = some v → ∃ x u, xs[i]? = some x ∧ v = .str x u
  | _, _, .nil, i, v, h => by simp at h
  | _, _, .cons x u r, 0, v, h => by
    simp at h
    exact ⟨x, u, rfl, h.symm⟩
  | _, _, .cons x u r, i + 1, v, h => by simpa using strs_at r i v (by simpa using h)
/-- set(xs) -/
theorem sx_call {b : Addr} {us : Array Value} {xs : List Str} {Q : Value → Shared → Prop} (nohandler : A.handled = none) (hb : s.heap.IsList b us) (hx : StrsAre us.toList xs) (few : xs.length + 1 < scanBound)
    (q : ∀ (h' : Heap) (tk : Nat) (D : SD), SX P w h' s.heap.objs.size D (dd xs) → (∀ c o, s.heap.get? c = some o → h'.get? c = some o) → Q (.ref s.heap.objs.size) { s with heap := h', toks := tk }) :
    wpAny (model P w) A (call (.type "set") [.ref b]) Q E s := by
  have many : us.size = xs.length := by
    rw [← Array.length_toList]
    exact hx.length
  obtain ⟨c1, c2, c3⟩ := F.called_set.mro
  have c4 := F.called_set.made
  have c5 := F.called_set.sub
  apply wpAny_call
  apply codeAny_of_tree
  change wpAny _ _ (callAny (.type "set") _) _ _ _
  refine wpAny_pure ⟨Code.quiet_builtin _ (by decide +kernel), ?_⟩
  apply codeAny_builtin F.entry_type_call
  rw [Around.under_plain (weight_type_call_type "set" [.ref b] []) rfl]
  have c6 := F.called_set.notType
  have c7 := F.called_set.canCreate
  have c8 := F.typeCall_set_1 (.ref b)
  repeat (any_goals (first | wp_step | assumption))
  refine codeAny_mono (code_set_led1 (.ref b) (E := E) (Q₁ := fun v t => v = .ref s.heap.objs.size ∧ t = { s with heap := s.heap.push (sObj "set" (emp w)) }) ⟨rfl, rfl⟩) fun r t hr => ?_
  cases r with
  | error e => exact hr
  | ok fl =>
    cases fl with
    | ret ob =>
      obtain ⟨rfl, rfl⟩ := hr
      have made : (s.heap.push (sObj "set" (emp w))).get? s.heap.objs.size = some (sObj "set" (emp w)) := Heap.get?_push_size _ rfl
      have kind : Shared.TypeIs { s with heap := s.heap.push (sObj "set" (emp w)) } (.ref s.heap.objs.size) "set" := ⟨_, made, rfl⟩
      have d1 := F.called_set.init.lookup
      have d2 := F.called_set.init.bind (.ref s.heap.objs.size)
      repeat (any_goals (first | wp_step | assumption))
      refine codeAny_mono (codeAny_call_builtin (R := wants (fun v t => v = .none ∧ ∃ h' tk D, t = { s with heap := h', toks := tk } ∧ SX P w h' s.heap.objs.size D (dd xs) ∧ ∀ c o, s.heap.get? c = some o → h'.get? c = some o) E)
        F.called_set.init.plain F.entry_set_init (check_set_init_1 kind ?_)) fun r2 t2 hr2 => ?_
      · obtain ⟨ob, o1, o2, o3, o4⟩ := hb
        obtain ⟨k1, k2, k3, k4⟩ := ob
        dsimp only at o2 o4
        subst o2 o4
        have o5 := Heap.get?_push_of_some (sObj "set" (emp w)) o1
        have d3 := F.sub_list_set
        have d4 := F.sub_list_frozenset
        have d5 : (Value.type "list" == Value.type "dict") = false := by decide
        have o6 : (s.heap.push (sObj "set" (emp w))).IsList b us := ⟨_, o5, rfl, o3, rfl⟩
        unfold Builtin.«set.__init__» noKeywords Builtin.Frozenset.updateFrom
        generalize keepIt : pyIter = PI
        wp_walk
        subst keepIt
        apply wpAny_pyIter_list o6
        apply wpAny_bind
        apply wpAny_runValue
        have z1 : b < s.heap.objs.size := Heap.lt_size o1
        have z2 : (s.heap.push (sObj "set" (emp w))).objs.size = s.heap.objs.size + 1 := Heap.size_push ..
        have z3 : b ≠ (s.heap.push (sObj "set" (emp w))).objs.size := z2 ▸ Nat.ne_of_lt (Nat.lt_succ_of_lt z1)
        have z4 : s.heap.objs.size ∉ [(s.heap.push (sObj "set" (emp w))).objs.size, b] := by
          rw [z2]
          simp only [List.mem_cons, List.not_mem_nil, or_false, not_or]
          exact And.intro (Nat.ne_of_lt (Nat.lt_succ_self _)) (Nat.ne_of_gt z1)
        have z5 : A.in1.in1.in1.handled = none := by simp [nohandler]
        refine sx_loop (xs := xs) (Walks.list z5 _ b z3 us).toS z4 many few (fun i v hv => strs_at hx i v (by rw [Array.getElem?_toList]; exact hv)) us.size 0 _ (emp w) (Nat.zero_add _) ⟨⟨_, Heap.get?_push_size _ rfl, rfl, rfl⟩, o6.push _⟩
          (sx_emp (Heap.get?_push_of_some _ made)) fun s' D mv S => ?_
        obtain ⟨h', g', d', tk', os'⟩ := s'
        have y1 : g' = s.gens := mv.gens
        have y2 : d' = s.drawn := mv.drawn
        have y3 : os' = s.os := mv.os
        subst y1 y2 y3
        apply wpAny_pure
        refine wpAny_pure ⟨rfl, h', tk', D, rfl, S, fun c o z => ?_⟩
        have y4 : c < s.heap.objs.size := Heap.lt_size z
        refine mv.heap c o ?_ (Heap.get?_push_of_some _ (Heap.get?_push_of_some _ z))
        rw [z2]
        simp only [List.mem_cons, List.not_mem_nil, or_false, not_or]
        exact And.intro (Nat.ne_of_lt y4) (Nat.ne_of_lt (Nat.lt_succ_of_lt y4))
      · cases r2 with
        | error e => exact hr2
        | ok fl2 =>
          cases fl2 with
          | ret v =>
            obtain ⟨rfl, h', tk, D, rfl, S, k⟩ := hr2
            repeat (any_goals (first | wp_step | assumption))
            exact q _ _ _ S k
          | _ => exact hr2.elim
    | _ => exact hr.elim
end
end RL

/-! RL30: sorted of a set of texts; the rule for sorted(set(e)). -/
namespace RL
open PySem PySem.Spec PyProof.Rows L2 PySem.Froz

theorem strsAre_vals : ∀ us : List Value, (∀ v ∈ us, ∃ x u, v = .str x u) → StrsAre us (us.map txOf)
  | [], _ => .nil
  | v :: us, h => by
    obtain ⟨x, u, rfl⟩ := h v (.head _)
    exact .cons x u (strsAre_vals us fun y hy => h y (.tail _ hy))
section
variable {P : Program} {w : World} {A : Around} {E : Value → Shared → Prop} {s : Shared} {a : Addr} {D : SD} {l : List Str}
theorem sx_sorted {Q : Value → Shared → Prop} (R : SX P w s.heap a D l) (nohandler : A.handled = none) (few : l.length < 64)
    (q : ∀ s' p (out : Array Value) (c : Nat) (ys : List Str), (∀ b o, s.heap.get? b = some o → s'.heap.get? b = some o) → s'.gens = s.gens → s'.os = s.os → s.heap.objs.size ≤ p →
      s'.heap.get? p = some (seqObj "list" out c) → StrsAre out.toList ys → ys.Perm l → sortedS ys = true → Q (.ref p) s') : wpAny (model P w) A (call (.builtin "sorted") [.ref a]) Q E s := by
  obtain ⟨rows, ep, tb⟩ := D
  have many : rows.size = l.length := R.tx.sz
  apply Calls.call_function_entry kind_sorted plain_sorted entry_sorted (args_sorted1 _)
  unfold Builtin.«sorted»
  refine wpAny_bind (m := checkCount "sorted" 1 1 _) ?_
  apply wpAny_pure
  apply wpAny_bind
  refine collect_set (A := A.in1) nohandler ⟨_, R.ob, rfl, rfl⟩ R.tx.fit (show rows.size < scanBound by unfold scanBound; omega) R.rg.ris R.rg.led fun s1 us k1 z1 g1 o1 pm => ?_
  have areT : StrsAre us (us.map txOf) := strsAre_vals us fun v hv => by
    obtain ⟨r, hr, e⟩ := List.mem_map.mp (pm.mem_iff.mp hv)
    obtain ⟨x, u, z⟩ := R.st r hr
    exact ⟨x, u, e ▸ z⟩
  have pl : (us.map txOf).Perm l := by
    refine (pm.map txOf).trans ?_
    rw [List.map_map]
    exact R.pm
  have short : us.length < 64 := by
    have e := pl.length_eq
    rw [List.length_map] at e
    omega
  apply wpAny_bind
  refine wpAny_newList ?_ (by rw [sizeLine_eq]; omega)
  have there : (s1.heap.push (seqObj "list" us.toArray 0)).get? s1.heap.objs.size = some (seqObj "list" us.toArray 0) := Heap.get?_push_size _ rfl
  refine wpAny_bind (wpAny_holding (wpAny_call_entry slot_list_sort ⟨_, there, rfl⟩ entry_list_sort
    (list_sort_treeK strKind_oneLt there areT.keysOf (fun v1 v2 rest e => keyKind_strs (by rw [← e]; exact areT)) short fun st hp hs => ⟨_, rfl, ?_⟩) (args_list_sort _)))
  obtain ⟨ys, y1, y2, y3⟩ := sorted_out_str areT hp hs
  obtain ⟨c, hc⟩ := sortedHeap_at (vs := us) (out := (arrOf st).map (·.2)) there
  refine wpAny_pure ⟨_, rfl, q _ s1.heap.objs.size _ c ys (fun b o e => ?_) g1 o1 z1 hc y1 (y2.trans pl) y3⟩
  have e1 := k1 b o e
  have e2 := Heap.lt_size e1
  rw [sortedHeap_old (Nat.ne_of_lt e2) (by rw [size_push']; exact Nat.lt_succ_of_lt e2)]
  exact Heap.get?_push_of_some _ e1
end

/-! ### the texts in order, each once -/
def insT (x : Str) : List Str → List Str
  | [] => [x]
  | y :: l => if x = y then y :: l else if ltCps y.cps.toList x.cps.toList = true then y :: insT x l else x :: y :: l
def ssort (xs : List Str) : List Str := xs.foldr insT []
abbrev ltS (x y : Str) : Prop := ltCps x.cps.toList y.cps.toList = true
theorem cps_inj {x y : Str} (h : x.cps.toList = y.cps.toList) : x = y := by
  cases x; cases y
  congr
  exact Array.toList_inj.mp h
theorem ltS_irrefl (x : Str) : ¬ ltS x x := by
  unfold ltS
  rw [ltCps_eq, decide_eq_true_eq]
  exact List.lt_irrefl _
theorem ltS_trans {x y z : Str} : ltS x y → ltS y z → ltS x z := by
  unfold ltS
  simp only [ltCps_eq, decide_eq_true_eq]
  exact List.lt_trans
theorem ltS_total {x y : Str} (h : x ≠ y) (n : ¬ ltS x y) : ltS y x := by
  unfold ltS at n ⊢
  simp only [ltCps_eq, decide_eq_true_eq] at n ⊢
  rcases List.le_iff_lt_or_eq.mp (List.not_lt.mp n) with z | z
  · exact z
  · exact absurd (cps_inj z.symm) h
theorem insT_mem (x y : Str) : ∀ l : List Str, y ∈ insT x l ↔ y = x ∨ y ∈ l
  | [] => by simp [insT]
  | z :: l => by
    unfold insT
    split
    · rename_i e
      subst e
      simp
    · split
      · rw [List.mem_cons, insT_mem x y l, List.mem_cons]
        constructor
        · rintro (h | h | h) <;> simp [h]
        · rintro (h | h | h) <;> simp [h]
      · simp
theorem insT_sorted (x : Str) : ∀ l : List Str, l.Pairwise ltS → (insT x l).Pairwise ltS
  | [], _ => by simp [insT]
  | z :: l, h => by
    obtain ⟨h1, h2⟩ := List.pairwise_cons.mp h
    unfold insT
    split
    · exact h
    · rename_i n
      split
      · rename_i lt
        refine List.pairwise_cons.mpr ⟨fun y hy => ?_, insT_sorted x l h2⟩
        rcases (insT_mem x y l).mp hy with e | e
        · rw [e]; exact lt
        · exact h1 y e
      · rename_i lt
        have xz : ltS x z := ltS_total (fun e => n e.symm) lt
        refine List.pairwise_cons.mpr ⟨fun y hy => ?_, h⟩
        rcases List.mem_cons.mp hy with e | e
        · rw [e]; exact xz
        · exact ltS_trans xz (h1 y e)
theorem ssort_sorted (xs : List Str) : (ssort xs).Pairwise ltS := by
  unfold ssort
  induction xs with
  | nil => exact .nil
  | cons x xs ih => exact insT_sorted x _ ih
theorem ssort_mem (xs : List Str) (y : Str) : y ∈ ssort xs ↔ y ∈ xs := by
  unfold ssort
  induction xs with
  | nil => simp
  | cons x xs ih => rw [List.foldr_cons, insT_mem, ih, List.mem_cons]
theorem dd_mem (y : Str) : ∀ (xs l : List Str), y ∈ xs.foldl dd1 l ↔ y ∈ l ∨ y ∈ xs
  | [], l => by simp
  | x :: xs, l => by
    rw [List.foldl_cons, dd_mem y xs]
    have e : y ∈ dd1 l x ↔ y ∈ l ∨ y = x := by
      unfold dd1
      split
      · rename_i h
        exact ⟨.inl, fun z => z.elim id fun z => z ▸ h⟩
      · rw [List.mem_cons]; exact Or.comm
    rw [e, List.mem_cons, or_assoc]
theorem dd_nodup : ∀ (xs l : List Str), l.Nodup → (xs.foldl dd1 l).Nodup
  | [], _, h => h
  | x :: xs, l, h => by
    rw [List.foldl_cons]
    refine dd_nodup xs _ ?_
    unfold dd1
    split
    · exact h
    · rename_i n
      exact List.nodup_cons.mpr ⟨n, h⟩
theorem rising_pw : ∀ (l : List Str) (p : Str), risingS p l = true → (p :: l).Pairwise fun x y => ltCps y.cps.toList x.cps.toList = false
  | [], p, _ => by simp
  | x :: r, p, h => by
    have h' : (!ltCps x.cps.toList p.cps.toList && risingS x r) = true := h
    rw [Bool.and_eq_true, Bool.not_eq_true'] at h'
    have ih := rising_pw r x h'.2
    refine List.pairwise_cons.mpr ⟨fun y hy => ?_, ih⟩
    rcases List.mem_cons.mp hy with e | e
    · rw [e]; exact h'.1
    · have a := (List.pairwise_cons.mp ih).1 y e
      cases q : ltCps y.cps.toList p.cps.toList with
      | false => rfl
      | true =>
        by_cases n : p = x
        · rw [n, a] at q; cases q
        · have px : ltS p x := by
            by_cases m : ltS p x
            · exact m
            · have := ltS_total n m
              unfold ltS at this
              rw [h'.1] at this
              cases this
          have := ltS_trans (show ltS y p from q) px
          unfold ltS at this
          rw [a] at this
          cases this
theorem sorted_is {ys xs : List Str} (p : ys.Perm (dd xs)) (h : sortedS ys = true) : ys = ssort xs := by
  have nd : ys.Nodup := p.nodup_iff.mpr (dd_nodup xs [] .nil)
  have pw : ys.Pairwise ltS := by
    have w : ys.Pairwise fun x y => ltCps y.cps.toList x.cps.toList = false := by
      cases ys with
      | nil => exact .nil
      | cons x r => exact rising_pw r x h
    refine (w.and nd).imp fun {x y} ⟨h1, h2⟩ => ?_
    by_cases m : ltS x y
    · exact m
    · have := ltS_total h2 m
      unfold ltS at this
      rw [h1] at this
      cases this
  have ns : (ssort xs).Nodup := by
    refine (ssort_sorted xs).imp fun {x y} h => ?_
    intro e
    rw [e] at h
    exact ltS_irrefl y h
  refine List.Perm.eq_of_pairwise (le := ltS) (fun x y _ _ h1 h2 => absurd (ltS_trans h1 h2) (ltS_irrefl x)) pw (ssort_sorted xs) ?_
  refine (List.perm_ext_iff_of_nodup nd ns).mpr fun y => ?_
  rw [ssort_mem, p.mem_iff]
  unfold dd
  rw [dd_mem]
  simp
end RL

/-! RL31: sorted(set(e)) as a mirror's operation. -/
namespace RL
open PySem PySem.Spec PyProof.Rows L2 PySem.Froz

def SetXO (P : Program) (w : World) (a : Addr) (l : List Str) : HO := .ext fun h => ∃ D, SX P w h a D l
def txsOf : List D → Option (List Str)
  | [] => some []
  | .str x :: ds => (txsOf ds).map (x :: ·)
  | _ :: _ => none
def gSortSet : D → Option VR
  | .list ds => match txsOf ds with
    | some xs => if xs.length ≤ 62 then some (.fl ((ssort xs).map .str)) else none
    | none => none
  | _ => none
theorem txsOf_eq : ∀ {ds : List D} {xs : List Str}, txsOf ds = some xs → ds = xs.map .str
  | [], xs, h => by cases h; rfl
  | .str x :: ds, xs, h => by
    unfold txsOf at h
    cases z : txsOf ds with
    | none => rw [z] at h; cases h
    | some ys =>
      rw [z] at h
      cases h
      rw [List.map_cons, ← txsOf_eq z]
  | .none :: _, _, h => by cases h
  | .bool _ :: _, _, h => by cases h
  | .int _ :: _, _, h => by cases h
  | .list _ :: _, _, h => by cases h
  | .tuple _ :: _, _, h => by cases h
  | .dict _ :: _, _, h => by cases h
theorem reps_strs {K : PySem.W.Frag} {F : Hp} : ∀ {xs : List Str} {vs : List V}, Reps K F (xs.map .str) vs → vs = xs.map .str ∧ ∀ x ∈ xs, x.length ≤ sizeLine
  | [], vs, r => by
    have e : vs = [] := by unfold Reps at r; exact r
    exact ⟨e, fun x h => by cases h⟩
  | x :: xs, vs, r => by
    obtain ⟨y, ys, rfl, r1, r2⟩ := r.uncons
    have r1' : y = .str x ∧ x.length ≤ sizeLine := r1
    obtain ⟨e, h⟩ := reps_strs r2
    refine ⟨by rw [r1'.1, e]; rfl, fun z hz => ?_⟩
    rcases List.mem_cons.mp hz with q | q
    · rw [q]; exact r1'.2
    · exact h z q
theorem strs_reps {K : PySem.W.Frag} {F : Hp} : ∀ {xs : List Str}, (∀ x ∈ xs, x.length ≤ sizeLine) → Reps K F (xs.map .str) (xs.map .str)
  | [], _ => Reps.nil
  | x :: xs, h => Reps.cons (show Rep K F (.str x) (.str x) from ⟨rfl, h x (.head _)⟩) (strs_reps fun y hy => h y (.tail _ hy))
def rSetX (P : Program) (w : World) : List V → Hp → VK → Prop := fun vs H Q => ∃ (b : Addr) (xs : List Str), vs = [.ref b] ∧ Rd H b (.lst (xs.map .str)) ∧ xs.length ≤ 62 ∧ ∀ p, H p = none → Q (.ref p) (upd H p (SetXO P w p (dd xs)))
def rSortX (P : Program) (w : World) : List V → Hp → VK → Prop := fun vs H Q => ∃ (a : Addr) (l : List Str), vs = [.ref a] ∧ H a = some (SetXO P w a l) ∧ l.length < 64 ∧
  ∀ (ys : List Str) (p : Addr), ys.Perm l → sortedS ys = true → H p = none → Q (.ref p) (upd H p (.lst (ys.map .str)))
section
variable {X : Cx}
theorem cr_setX (hc : X.calm = true) : CallR X (.type "set") (rSetX X.prog X.w) := by
  intro pins s σ H vs us Q I r h
  obtain ⟨b, xs, rfl, hs, few, q⟩ := h
  obtain ⟨its, rv, hl, _⟩ := I.list (sqOf hs)
  rw [Vals.ref1 r]
  refine sx_call (xs := xs) (I.ok.hd hc) hl.isList (by simpa using rv.strs) (by unfold scanBound; omega) fun h' tk D S k => ?_
  refine ⟨.ref _, upd H s.heap.objs.size (SetXO X.prog X.w s.heap.objs.size (dd xs)), I.laid (t' := tk) k (Nat.le_refl _) ⟨⟨D, S⟩, ⟨_, S.ob⟩, fun h1 h2 p k => ?_⟩, rfl, q _ (I.hok.fresh (Nat.le_refl _))⟩
  obtain ⟨D', S'⟩ := p
  exact ⟨D', S'.keep k⟩
theorem cr_sortX (hc : X.calm = true) : CallR X (.builtin "sorted") (rSortX X.prog X.w) := by
  intro pins s σ H vs us Q I r h
  obtain ⟨a, l, rfl, ha, few, q⟩ := h
  obtain ⟨D, S⟩ : ∃ D, SX X.prog X.w s.heap a D l := (I.hok a _ ha).1
  rw [Vals.ref1 r]
  refine sx_sorted S (I.ok.hd hc) few fun s' p out c ys k g o hp hg hi pm so => ?_
  have short : (ys.map V.str).length ≤ sizeLine := by
    rw [List.length_map, pm.length_eq, sizeLine_eq]
    omega
  have free : H p = none := I.hok.fresh hp
  have J : Inv X pins σ (upd H p (.lst (ys.map .str))) ⟨s'.heap, s'.gens, s'.drawn, s'.toks, s.os⟩ := I.call (ch := []) (Un.laid k hp free) (I.hok.laid k hp ⟨short, out.toList, c, vals_of_strs hi, hg⟩) (by rw [g]; exact I.bare) (fun _ z => nomatch z)
  refine ⟨.ref p, _, ?_, rfl, q ys p pm so free⟩
  obtain ⟨h', g', d', t', o'⟩ := s'
  have o2 : o' = s.os := o
  subst o2
  exact J
end
section
variable {X : Cx} {W : WX} {sx : Option (Addr × Value × Option Addr)}
theorem ss_read {o : Opd} {σ : L2.St} {H : Hp} {Q : VK} (q : teOf0 ⟨X.K, X.mg, W, sx⟩ (mCB (g1 gSortSet) [o]) σ H Q) :
    tCB (rSortX X.prog X.w) (tCons (tCB (rSetX X.prog X.w) (taO ⟨X.K, X.mg, W, sx⟩ [o])) tNil) σ H Q := by
  obtain ⟨G, F, e, S, h⟩ := q
  refine tao_bind (pE _ G σ Q) S h fun hs' e1 F1 H1 vs s1 S1 R1 h1 => ?_
  cases qd : resL hs' e1 with
  | none => rw [qd] at h1; exact h1.elim
  | some ds =>
    rw [qd] at h1
    have rr := S1.resL R1 qd
    cases ds with
    | nil => exact h1.elim
    | cons d ds =>
      cases ds with
      | cons d2 ds => exact h1.elim
      | nil =>
        cases d with
        | list es =>
          dsimp only [g1, gSortSet] at h1
          cases z : txsOf es with
          | none => rw [z] at h1; exact h1.elim
          | some xs =>
            rw [z] at h1
            dsimp only at h1
            by_cases few : xs.length ≤ 62
            · rw [if_pos few] at h1
              obtain ⟨v, vr, e2, r1, r2⟩ : ∃ v vr, vs = v :: vr ∧ RepT X.K F1 H1 (.list es) v ∧ RepTs X.K F1 H1 [] vr := by
                unfold RepTs at rr
                exact rr
              have e3 : vr = [] := by unfold RepTs at r2; exact r2
              obtain ⟨b, ws, e4, hb, hr⟩ := r1
              rw [txsOf_eq z] at hr
              obtain ⟨e5, lens⟩ := reps_strs hr
              subst e2 e3 e4 e5
              refine ⟨b, xs, rfl, hb, few, fun p hp => ?_⟩
              have S2 := S1.alloc (o := SetXO X.prog X.w p (dd xs)) hp
              have dl : (dd xs).length < 64 := by
                have := dd_le xs []
                unfold dd
                simp only [List.length_nil] at this
                omega
              refine ⟨p, dd xs, rfl, upd_same, dl, fun ys p2 pm so hp2 => ?_⟩
              have ey : ys = ssort xs := sorted_is pm so
              subst ey
              refine h1 F1 _ (Same.refl F1) (S2.alloc hp2) _ ⟨p2, _, rfl, upd_same, strs_reps fun y hy => lens y ((ssort_mem xs y).mp hy), S2.lone hp2⟩
            · rw [if_neg few] at h1; exact h1.elim
        | _ => exact h1.elim
/-- sorted(set(e)) -/
theorem de_ss {x y : Str} {e : Expr} {o : Opd} {p pos p2 pos2 : Pos} (hc : X.calm = true) (hm : X.mg x = none) (hm2 : X.mg y = none) (ha : DO X W sx e o) (hg : Gl X x := by rfl) (hg2 : Gl X y := by rfl)
    (hv : bootBuiltins x = some (.builtin "sorted") := by decide +kernel) (hv2 : bootBuiltins y = some (.type "set") := by decide +kernel)
    (hn : x ≠ "__name__" := by decide) (hn2 : y ≠ "__name__" := by decide) (hdb : (x == ("__debug__" : Str)) = false := by decide) (hdb2 : (y == ("__debug__" : Str)) = false := by decide)
    (he : starEach [e] X.env = (false, eval e X.env) :: starEach [] X.env := by rfl) (hpl : (backTo pos2 (starEach [] X.env)).any (·.1) = false := by rfl)
    (he2 : starEach [.Call (.Name y p2) [e] [] pos2] X.env = (false, eval (.Call (.Name y p2) [e] [] pos2) X.env) :: starEach [] X.env := by rfl) (hpl2 : (backTo pos (starEach [] X.env)).any (·.1) = false := by rfl) :
    DE X W sx (.Call (.Name x p) [.Call (.Name y p2) [e] [] pos2] [] pos) (mCB (g1 gSortSet) [o]) :=
  te_imp (pe_callB (cr_sortX hc) hg hm hv (pa_cons (pe_callTy (cr_setX hc) hg2 hm2 hv2 (dp_cons ha dp_nil he) hn2 hdb2 he hpl) pa_nil he2) hn hdb he2 hpl2) fun σ H Q q => ss_read q
end
end RL

/-! RL32: spaces: texts of 0, 1 and *. -/
namespace RL
open PySem PySem.Spec PyProof.Rows L2

def sgN : Option Bool → Nat
  | none => 42
  | some b => bitN b
abbrev Sp := List (Option Bool)
def spS (l : Sp) : Str := ⟨(l.map sgN).toArray⟩
theorem sgN_inj {a b : Option Bool} (h : sgN a = sgN b) : a = b := by
  cases a with
  | none => cases b with
    | none => rfl
    | some b => cases b <;> cases h
  | some a => cases b with
    | none => cases a <;> cases h
    | some b => rw [bitN_inj h]
theorem spS_inj {l k : Sp} (h : spS l = spS k) : l = k := by
  have h1 : (l.map sgN).toArray = (k.map sgN).toArray := congrArg Str.cps h
  have h2 : l.map sgN = k.map sgN := by simpa using h1
  exact List.map_inj_right (fun a b h => sgN_inj h) |>.mp h2
theorem spS_len {l : Sp} : (spS l).length = l.length := by simp [spS, Str.length]
theorem spS_cps {l : Sp} : (spS l).cps.toList = l.map sgN := by simp [spS]
theorem spS_app {l k : Sp} : spS l ++ spS k = spS (l ++ k) := by
  show Str.append _ _ = _
  unfold Str.append spS
  simp
theorem spS_ok {l : Sp} : PyData.strOk (spS l) = true := by
  unfold PyData.strOk spS
  simp
  intro a _
  cases a with
  | none => decide
  | some b => cases b <;> decide
theorem bit_sp {l : List Bool} : bitS l = spS (l.map some) := by
  unfold bitS spS
  rw [List.map_map]
  rfl
theorem star_sp : ("*" : Str) = spS [none] := by decide +kernel
theorem s01s_sp : ("01*" : Str) = spS [some false, some true, none] := by decide +kernel
theorem s01ss_sp : ("01**" : Str) = spS [some false, some true, none, none] := by decide +kernel
theorem len_sp {x : Sp} : g1 gLen [.str (spS x)] = some (.v (.int (x.length : Int))) := by
  rw [len_str, spS_len]
theorem items_sp {l : Sp} : items (.str (spS l)) = some (l.map fun b => .str (spS [b])) := by
  unfold items
  dsimp only
  rw [spS_cps, List.map_map]
  rfl
theorem iter_sp {l : Sp} : iterD (.str (spS l)) = some (l.map fun b => .str (spS [b])) := by
  unfold iterD
  rw [items_sp]
theorem eqv_sp {l k : Sp} : PyData.eqv (.str (spS l)) (.str (spS k)) = decide (l = k) := by
  rw [eqv_str, decide_eq_decide]
  exact ⟨spS_inj, fun h => by rw [h]⟩
theorem eq_sp {l k : Sp} : RL.gEq (.str (spS l)) (.str (spS k)) = some (.v (.bool (decide (l = k)))) := by
  show gEqv false _ _ = _
  unfold gEqv
  rw [if_pos (by rfl), eqv_sp]
  rfl
theorem ne_sp {l k : Sp} : RL.gNe (.str (spS l)) (.str (spS k)) = some (.v (.bool (!decide (l = k)))) := by
  show gEqv true _ _ = _
  unfold gEqv
  rw [if_pos (by rfl), eqv_sp]
  rfl
theorem ix_sp {l : Sp} {i : Nat} (h : i < l.length) : gIx (.str (spS l)) (.int (i : Int)) = some (.v (.str (spS [l.getD i none]))) := by
  have e : (l.map sgN)[i]? = some (sgN (l.getD i none)) := by
    rw [List.getElem?_map, List.getD_eq_getElem?_getD, List.getElem?_eq_getElem h]; rfl
  show ((atI (spS l).cps.toList (i : Int)).map fun c => VR.v (.str ⟨#[c]⟩)) = _
  rw [spS_cps, atI_nat e]
  rfl
theorem sp_to {l : Sp} {k : Nat} : gSl (.str (spS l)) none (some (k : Int)) = some (.v (.str (spS (l.take k)))) := by
  show some (VR.v (.str (cutS (spS l) none (some (k : Int))))) = _
  rw [cutS_eq, cut_to, spS_cps, ← List.map_take]; rfl
theorem sp_from {l : Sp} {k : Nat} : gSl (.str (spS l)) (some ((k : Int) + 1)) none = some (.v (.str (spS (l.drop (k + 1))))) := by
  show some (VR.v (.str (cutS (spS l) (some ((k : Int) + 1)) none))) = _
  rw [show ((k : Int) + 1) = ((k + 1 : Nat) : Int) by omega, cutS_eq, cut_from, spS_cps, ← List.map_drop]; rfl
theorem add_sp {l k : Sp} (h : l.length + k.length ≤ 1000) : RL.gAdd (.str (spS l)) (.str (spS k)) = some (.v (.str (spS (l ++ k)))) := by
  show (if (spS l).length + (spS k).length ≤ sizeLine then some (VR.v (.str (spS l ++ spS k))) else none) = _
  rw [spS_len, spS_len, if_pos (by have : 1000 ≤ sizeLine := by decide
                                   omega), spS_app]
theorem enum_sp {a : Sp} : gEnum [.str (spS a)] = some ((List.range a.length).map fun k => .tuple [.int (k : Int), .str (spS [a.getD k none])]) := by
  show (items (.str (spS a))).map (enumL 0) = _
  rw [items_sp, Option.map_some, enum_map none]
theorem inB_sp {b : Option Bool} {l : Sp} : inB (.str (spS [b])) (.str (spS l)) = some (decide (b ∈ l)) := by
  have e : decide (sgN b ∈ (spS l).cps.toList) = decide (b ∈ l) := by
    rw [spS_cps, decide_eq_decide]
    constructor
    · intro h
      obtain ⟨c, hc, q⟩ := List.mem_map.mp h
      rw [← sgN_inj q]; exact hc
    · exact fun h => List.mem_map.mpr ⟨b, h, rfl⟩
  rw [← e]
  show some (decide (sgN b ∈ (spS l).cps.toList)) = _
  rfl
theorem in_sp {b : Option Bool} {l : Sp} : gIn (.str (spS [b])) (.str (spS l)) = some (.v (.bool (decide (b ∈ l)))) := by
  unfold gIn; rw [inB_sp]; rfl
theorem strs_sp : ∀ {ls : List Sp}, strsOf (ls.map fun l => .str (spS l)) = some (ls.map spS)
  | [] => rfl
  | l :: ls => by
    show (strsOf (ls.map fun l => .str (spS l))).map (spS l :: ·) = _
    rw [strs_sp]; rfl
theorem glue_sp : ∀ {ls : List Sp} {acc : Array Nat}, List.foldl (fun acc (p : Str) => acc ++ (bitS []).cps ++ p.cps) acc (ls.map spS) = acc ++ (ls.flatten.map sgN).toArray
  | [], acc => by simp
  | l :: ls, acc => by
    rw [List.map_cons, List.foldl_cons, glue_sp]
    simp [bitS, spS]
theorem join_sp {ls : List Sp} : Txt.join (bitS []) (ls.map spS) = spS ls.flatten := by
  unfold Txt.join Builtin.Str.glued
  cases ls with
  | nil => rfl
  | cons l ls =>
    simp only [List.map_cons, List.headD_cons, List.drop_succ_cons, List.drop_zero]
    rw [glue_sp]
    simp [spS]
theorem gJoin_sp {bs : Sp} (h : bs.length ≤ 1000) : gJoin (.str (bitS [])) (.list (bs.map fun b => .str (spS [b]))) = some (.v (.str (spS bs))) := by
  have e : (bs.map fun b => PyData.str (spS [b])) = (bs.map fun b => [b]).map fun l => .str (spS l) := by rw [List.map_map]; rfl
  show (strsOf (bs.map fun b => .str (spS [b]))).bind (gJoinO (bitS [])) = _
  have e2 : (bs.map fun b => [b]).flatten = bs := by
    clear h e
    induction bs with
    | nil => rfl
    | cons b bs ih => simp [ih]
  rw [e, strs_sp, Option.bind_some]
  unfold gJoinO
  rw [join_sp, e2, if_pos]
  refine ⟨?_, ?_⟩
  · have : ∀ bs : Sp, (List.map (fun x => Str.length x) (List.map spS (List.map (fun b => [b]) bs))).sum = bs.length := by
      intro bs
      induction bs with
      | nil => rfl
      | cons b bs ih => simp only [List.map_cons, List.sum_cons, ih, List.length_cons, spS_len, List.length_nil]; omega
    rw [this, bitS_len]
    simp only [List.length_map, List.length_nil, Nat.mul_zero, Nat.add_zero]
    omega
  · rw [spS_len]
    exact Nat.le_trans h (by decide)
theorem mul_star {n : Nat} (h : n ≤ 1000) : RL.gMul (.str (spS [none])) (.int (n : Int)) = some (.v (.str (spS (List.replicate n none)))) := by
  have e : repS (spS [none]) n = spS (List.replicate n none) := by
    unfold repS spS
    congr 1
    simp
  have c3 : (spS [none]).length * (n : Int).toNat ≤ sizeLine := by
    rw [spS_len, Int.toNat_natCast]
    have : 1000 ≤ sizeLine := by decide
    simp only [List.length_singleton]
    omega
  have c1 : (n : Int) < 2 ^ 63 := by omega
  have c2 : -(2 ^ 63) ≤ (n : Int) := by omega
  generalize hk : (n : Int) = k at *
  unfold RL.gMul
  dsimp only
  rw [if_pos ⟨c1, c2, c3⟩, ← hk, Int.toNat_natCast, e]
def spL (ls : List Sp) : List D := ls.map fun l => .str (spS l)
theorem spL_length {l : List Sp} : (spL l).length = l.length := by simp [spL]
theorem spL_def {l : List Sp} : spL l = l.map fun w => PyData.str (spS w) := rfl
theorem spL_flat {l : List Sp} : ∀ d ∈ spL l, flatP d := by
  intro d hd
  obtain ⟨w, _, rfl⟩ := List.mem_map.mp hd
  exact flat_str spS_ok
theorem spL_shaped {l : List Sp} : SeqAt.shaped (.list (spL l)) = true := shaped_list spL_flat
theorem spL_isEmpty {l : List Sp} : (spL l).isEmpty = l.isEmpty := by cases l <;> rfl
theorem any_spL {w : Sp} : ∀ {ws : List Sp}, (spL ws).any (fun z => PyData.eqv z (.str (spS w))) = decide (w ∈ ws)
  | [] => rfl
  | v :: ws => by
    show (PyData.eqv (.str (spS v)) (.str (spS w)) || (spL ws).any _) = _
    rw [any_spL, eqv_sp]
    by_cases h : v = w
    · subst h; simp
    · have h' : w ≠ v := fun e => h e.symm
      simp [h, h']
theorem in_spL {w : Sp} {ws : List Sp} : inB (.str (spS w)) (.list (spL ws)) = some (decide (w ∈ ws)) := by
  rw [← any_spL]
  show (if _ then _ else _) = _
  rw [if_pos]
  have : (spL ws).all RL.flatD = true := by
    rw [List.all_eq_true]
    intro d h
    obtain ⟨i, _, rfl⟩ := List.mem_map.mp h
    rfl
  rw [this]; rfl
theorem inL_sp {w : Sp} {ws : List Sp} : gIn (.str (spS w)) (.list (spL ws)) = some (.v (.bool (decide (w ∈ ws)))) := by
  unfold gIn; rw [in_spL]; rfl
theorem notinL_sp {w : Sp} {ws : List Sp} : gNotIn (.str (spS w)) (.list (spL ws)) = some (.v (.bool (!decide (w ∈ ws)))) := by
  unfold gNotIn; rw [in_spL]; rfl
end RL

/-! RL33: spaces and what a network does with them, plainly. -/
namespace RL
open PySem

/-- the state is in the space -/
def agr : List Bool → Sp → Bool
  | [], [] => true
  | _ :: w, none :: s => agr w s
  | b :: w, some c :: s => b == c && agr w s
  | _, _ => false
theorem agr_len : ∀ {w : List Bool} {s : Sp}, agr w s = true → w.length = s.length
  | [], [], _ => rfl
  | _ :: w, none :: s, h => by
    have := agr_len (w := w) (s := s) h
    simp [this]
  | b :: w, some c :: s, h => by
    have h' : (b == c && agr w s) = true := h
    rw [Bool.and_eq_true] at h'
    have := agr_len h'.2
    simp [this]
  | [], _ :: _, h => by simp [agr] at h
  | _ :: _, [], h => by simp [agr] at h
theorem agr_iff : ∀ {w : List Bool} {s : Sp}, agr w s = true ↔ w.length = s.length ∧ ∀ k c, s.getD k none = some c → w.getD k false = c
  | [], [] => by simp [agr]
  | b :: w, none :: s => by
    have ih := agr_iff (w := w) (s := s)
    rw [show agr (b :: w) (none :: s) = agr w s from rfl, ih]
    constructor
    · rintro ⟨h1, h2⟩
      refine ⟨by simp [h1], fun k c h => ?_⟩
      cases k with
      | zero => simp at h
      | succ k => rw [List.getD_cons_succ] at h ⊢; exact h2 k c h
    · rintro ⟨h1, h2⟩
      refine ⟨by simpa using h1, fun k c h => ?_⟩
      have := h2 (k + 1) c (by rw [List.getD_cons_succ]; exact h)
      rwa [List.getD_cons_succ] at this
  | b :: w, some d :: s => by
    have ih := agr_iff (w := w) (s := s)
    rw [show agr (b :: w) (some d :: s) = (b == d && agr w s) from rfl, Bool.and_eq_true, ih, beq_iff_eq]
    constructor
    · rintro ⟨h0, h1, h2⟩
      refine ⟨by simp [h1], fun k c h => ?_⟩
      cases k with
      | zero => simp at h ⊢; rw [h0, h]
      | succ k => rw [List.getD_cons_succ] at h ⊢; exact h2 k c h
    · rintro ⟨h1, h2⟩
      refine ⟨by simpa using h2 0 d (by simp), by simpa using h1, fun k c h => ?_⟩
      have := h2 (k + 1) c (by rw [List.getD_cons_succ]; exact h)
      rwa [List.getD_cons_succ] at this
  | [], _ :: _ => by simp [agr]
  | _ :: _, [] => by simp [agr]
/-- the states of a space, as they are built -/
def stp (L : List (List Bool)) (o : Option Bool) : List (List Bool) := L.flatMap fun w => match o with
  | none => [w ++ [false], w ++ [true]]
  | some b => [w ++ [b]]
def stS (s : Sp) : List (List Bool) := s.foldl stp [[]]
theorem stp_mem {L : List (List Bool)} {o : Option Bool} {w : List Bool} : w ∈ stp L o ↔ ∃ u b, u ∈ L ∧ w = u ++ [b] ∧ (∀ c, o = some c → b = c) := by
  unfold stp
  rw [List.mem_flatMap]
  constructor
  · rintro ⟨u, hu, h⟩
    cases o with
    | none =>
      simp at h
      rcases h with h | h
      · exact ⟨u, false, hu, h, nofun⟩
      · exact ⟨u, true, hu, h, nofun⟩
    | some c =>
      simp at h
      exact ⟨u, c, hu, h, fun d e => by cases e; rfl⟩
  · rintro ⟨u, b, hu, e, h⟩
    refine ⟨u, hu, ?_⟩
    cases o with
    | none => cases b <;> simp [e]
    | some c => rw [h c rfl] at e; simp [e]
theorem fold_mem : ∀ (s : Sp) (L : List (List Bool)) (w : List Bool), w ∈ s.foldl stp L ↔ ∃ u v, u ∈ L ∧ w = u ++ v ∧ agr v s = true
  | [], L, w => by
    constructor
    · exact fun h => ⟨w, [], h, by simp, rfl⟩
    · rintro ⟨u, v, hu, e, h⟩
      have := agr_len h
      have hv : v = [] := List.eq_nil_of_length_eq_zero this
      rw [e, hv, List.append_nil]
      exact hu
  | o :: s, L, w => by
    rw [List.foldl_cons, fold_mem s]
    constructor
    · rintro ⟨u, v, hu, e, h⟩
      obtain ⟨x, b, hx, e2, hb⟩ := stp_mem.mp hu
      refine ⟨x, b :: v, hx, by rw [e, e2, List.append_assoc]; rfl, ?_⟩
      cases o with
      | none => exact h
      | some c =>
        show (b == c && agr v s) = true
        rw [hb c rfl, h]; simp
    · rintro ⟨u, v, hu, e, h⟩
      cases v with
      | nil => simp [agr] at h
      | cons b v =>
        refine ⟨u ++ [b], v, stp_mem.mpr ⟨u, b, hu, rfl, fun c hc => ?_⟩, by rw [e, List.append_assoc]; rfl, ?_⟩
        · subst hc
          have h' : (b == c && agr v s) = true := h
          rw [Bool.and_eq_true, beq_iff_eq] at h'
          exact h'.1
        · cases o with
          | none => exact h
          | some c =>
            have h' : (b == c && agr v s) = true := h
            rw [Bool.and_eq_true] at h'
            exact h'.2
theorem stS_mem {s : Sp} {w : List Bool} : w ∈ stS s ↔ agr w s = true := by
  unfold stS
  rw [fold_mem]
  constructor
  · rintro ⟨u, v, hu, e, h⟩
    rw [List.mem_singleton] at hu
    rw [e, hu, List.nil_append]; exact h
  · exact fun h => ⟨[], w, by simp, by simp, h⟩
theorem stp_len {L : List (List Bool)} {o : Option Bool} : (stp L o).length ≤ 2 * L.length := by
  unfold stp
  cases o with
  | none =>
    induction L with
    | nil => simp
    | cons a L ih =>
      rw [List.flatMap_cons, List.length_append, List.length_cons]
      simp only [List.length_cons, List.length_nil] at ih ⊢
      omega
  | some c =>
    induction L with
    | nil => simp
    | cons a L ih =>
      rw [List.flatMap_cons, List.length_append, List.length_cons]
      simp only [List.length_cons, List.length_nil] at ih ⊢
      omega
theorem stS_len : ∀ {s : Sp}, (stS s).length ≤ 2 ^ s.length := by
  have key : ∀ (s : Sp) (L : List (List Bool)), (s.foldl stp L).length ≤ L.length * 2 ^ s.length := by
    intro s
    induction s with
    | nil => intro L; simp
    | cons o s ih =>
      intro L
      rw [List.foldl_cons, List.length_cons, Nat.pow_succ]
      refine Nat.le_trans (ih _) ?_
      have := Nat.mul_le_mul_right (2 ^ s.length) (stp_len (L := L) (o := o))
      calc (stp L o).length * 2 ^ s.length ≤ 2 * L.length * 2 ^ s.length := this
        _ = L.length * (2 ^ s.length * 2) := by rw [Nat.mul_comm 2 L.length, Nat.mul_assoc, Nat.mul_comm 2]
  intro s
  have := key s [[]]
  simpa [stS] using this
/-- a space within another one -/
def subB (s t : Sp) : Bool := (List.range t.length).all fun k => (t.getD k none).isNone || decide (t.getD k none = s.getD k none)
theorem subB_iff {s t : Sp} : subB s t = true ↔ ∀ k c, t.getD k none = some c → s.getD k none = some c := by
  unfold subB
  rw [List.all_eq_true]
  constructor
  · intro h k c e
    have hk : k < t.length := by
      by_cases hk : k < t.length
      · exact hk
      · rw [List.getD_eq_getElem?_getD, List.getElem?_eq_none (by omega)] at e; cases e
    have := h k (List.mem_range.mpr hk)
    rw [e] at this
    simp at this
    exact this.symm
  · intro h k hk
    cases e : t.getD k none with
    | none => rfl
    | some c => rw [h k c e]; simp
theorem sub_refl {s : Sp} : subB s s = true := subB_iff.mpr fun _ _ h => h
theorem sub_trans {s t u : Sp} (h : subB s t = true) (k : subB t u = true) : subB s u = true := subB_iff.mpr fun i c e => subB_iff.mp h i c (subB_iff.mp k i c e)
theorem getD_ext {α : Type} {d : α} {l m : List α} (h : l.length = m.length) (k : ∀ i, l.getD i d = m.getD i d) : l = m := by
  refine List.ext_getElem h fun i h1 h2 => ?_
  have := k i
  rwa [List.getD_eq_getElem?_getD, List.getD_eq_getElem?_getD, List.getElem?_eq_getElem h1, List.getElem?_eq_getElem h2] at this
theorem sub_anti {s t : Sp} (l : s.length = t.length) (h : subB s t = true) (k : subB t s = true) : s = t := by
  refine getD_ext (d := none) l fun i => ?_
  cases e : s.getD i none with
  | some c => exact (subB_iff.mp k i c e).symm
  | none =>
    cases e2 : t.getD i none with
    | none => rfl
    | some c => rw [subB_iff.mp h i c e2] at e; cases e
theorem agr_sub {s t : Sp} {w : List Bool} (l : s.length = t.length) (h : subB s t = true) (a : agr w s = true) : agr w t = true := by
  rw [agr_iff] at a ⊢
  exact ⟨a.1.trans l, fun k c e => a.2 k c (subB_iff.mp h k c e)⟩
/-- a state of a space -/
theorem agr_some (s : Sp) : agr (s.map fun o => o.getD false) s = true := by
  induction s with
  | nil => rfl
  | cons o s ih =>
    cases o with
    | none => exact ih
    | some b => show (b == b && agr _ s) = true; rw [ih]; simp

section
variable (I : Nat → List Bool → Bool) (n : Nat)
def gS (s : Sp) (k : Nat) (c : Bool) : Bool := (stS s).all fun w => I k w == c
def trapB (s : Sp) : Bool := (List.range n).all fun k => match s.getD k none with
  | none => true
  | some c => gS I s k c
def relax (s : Sp) : Sp := (List.range n).map fun k => match s.getD k none with
  | none => none
  | some c => if gS I s k c = true then some c else none
def fixS (s : Sp) : Sp := (List.range n).map fun k => match s.getD k none with
  | some c => some c
  | none => if gS I s k false = true then some false else if gS I s k true = true then some true else none
def itr {α : Type} (f : α → α) : Nat → α → α
  | 0, a => a
  | m + 1, a => itr f m (f a)
variable {I} {n}
theorem gS_iff {s : Sp} {k : Nat} {c : Bool} : gS I s k c = true ↔ ∀ w, agr w s = true → I k w = c := by
  unfold gS
  rw [List.all_eq_true]
  constructor
  · exact fun h w a => by simpa using h w (stS_mem.mpr a)
  · exact fun h w a => by simpa using h w (stS_mem.mp a)
theorem map_get {α : Type} {d : α} {f : Nat → α} {k : Nat} (h : k < n) : ((List.range n).map f).getD k d = f k := by
  rw [List.getD_eq_getElem?_getD, List.getElem?_map, List.getElem?_range h]; rfl
theorem map_get' {α : Type} {d : α} {f : Nat → α} {k : Nat} (h : ¬ k < n) : ((List.range n).map f).getD k d = d := by
  rw [List.getD_eq_getElem?_getD, List.getElem?_eq_none (by simp; omega)]; rfl
theorem len_relax {s : Sp} : (relax I n s).length = n := by simp [relax]
theorem len_fixS {s : Sp} : (fixS I n s).length = n := by simp [fixS]
theorem lt_of_some {s : Sp} {k : Nat} {c : Bool} (h : s.getD k none = some c) : k < s.length := by
  by_cases hk : k < s.length
  · exact hk
  · rw [List.getD_eq_getElem?_getD, List.getElem?_eq_none (by omega)] at h; cases h
theorem relax_iff {s : Sp} {k : Nat} {c : Bool} (l : s.length = n) : (relax I n s).getD k none = some c ↔ s.getD k none = some c ∧ gS I s k c = true := by
  unfold relax
  by_cases hk : k < n
  · rw [map_get hk]
    cases e : s.getD k none with
    | none => simp
    | some d =>
      dsimp only
      by_cases g : gS I s k d = true
      · rw [if_pos g]
        constructor
        · intro h; cases h; exact ⟨rfl, g⟩
        · rintro ⟨h, _⟩; exact h
      · rw [if_neg g]
        constructor
        · intro h; cases h
        · rintro ⟨h, h2⟩; cases h; exact absurd h2 g
  · rw [map_get' hk]
    constructor
    · intro h; cases h
    · rintro ⟨h, _⟩
      have := lt_of_some h
      omega
theorem sub_relax {s : Sp} (l : s.length = n) : subB s (relax I n s) = true := subB_iff.mpr fun _ _ h => ((relax_iff l).mp h).1
theorem trap_iff {s : Sp} (l : s.length = n) : trapB I n s = true ↔ ∀ k c, s.getD k none = some c → gS I s k c = true := by
  unfold trapB
  rw [List.all_eq_true]
  constructor
  · intro h k c e
    have := h k (List.mem_range.mpr (l ▸ lt_of_some e))
    rw [e] at this
    exact this
  · intro h k _
    cases e : s.getD k none with
    | none => rfl
    | some c => exact h k c e
theorem trap_fix {s : Sp} (l : s.length = n) : trapB I n s = true ↔ relax I n s = s := by
  rw [trap_iff l]
  constructor
  · intro h
    refine sub_anti (len_relax.trans l.symm) (subB_iff.mpr fun k c e => (relax_iff l).mpr ⟨e, h k c e⟩) (sub_relax l)
  · intro h k c e
    rw [← h] at e
    exact ((relax_iff l).mp e).2
theorem sub_gS {s t : Sp} {k : Nat} {c : Bool} (l : s.length = t.length) (h : subB s t = true) (g : gS I t k c = true) : gS I s k c = true := gS_iff.mpr fun w a => gS_iff.mp g w (agr_sub l h a)
theorem relax_least {s t : Sp} (l : s.length = n) (lt : t.length = n) (h : subB s t = true) (tr : trapB I n t = true) : subB (relax I n s) t = true :=
  subB_iff.mpr fun k c e => (relax_iff l).mpr ⟨subB_iff.mp h k c e, sub_gS (l.trans lt.symm) h ((trap_iff lt).mp tr k c e)⟩
theorem fix_some {s : Sp} {k : Nat} {c : Bool} (l : s.length = n) (h : s.getD k none = some c) : (fixS I n s).getD k none = some c := by
  unfold fixS
  rw [map_get (l ▸ lt_of_some h), h]
theorem fix_iff {s : Sp} {k : Nat} {c : Bool} (l : s.length = n) (h : (fixS I n s).getD k none = some c) : s.getD k none = some c ∨ gS I s k c = true := by
  unfold fixS at h
  by_cases hk : k < n
  · rw [map_get hk] at h
    cases e : s.getD k none with
    | some d => rw [e] at h; exact .inl h
    | none =>
      rw [e] at h
      dsimp only at h
      split at h
      · rename_i g; cases h; exact .inr g
      · split at h
        · rename_i g; cases h; exact .inr g
        · cases h
  · rw [map_get' hk] at h; cases h
theorem sub_fixS {s : Sp} (l : s.length = n) : subB (fixS I n s) s = true := subB_iff.mpr fun _ _ h => fix_some l h
theorem fix_trap {s : Sp} (l : s.length = n) (h : trapB I n s = true) : trapB I n (fixS I n s) = true := by
  rw [trap_iff len_fixS]
  intro k c e
  refine sub_gS (len_fixS.trans l.symm) (sub_fixS l) ?_
  rcases fix_iff l e with z | z
  · exact (trap_iff l).mp h k c z
  · exact z
theorem fix_img {s : Sp} {w v : List Bool} (l : s.length = n) (h : trapB I n s = true) (a : agr w s = true) (lv : v.length = n) (hv : ∀ k, k < n → v.getD k false = I k w) : agr v (fixS I n s) = true := by
  rw [agr_iff]
  refine ⟨lv.trans len_fixS.symm, fun k c e => ?_⟩
  have hk : k < n := by
    have := lt_of_some e
    rwa [len_fixS] at this
  rw [hv k hk]
  rcases fix_iff l e with z | z
  · exact gS_iff.mp ((trap_iff l).mp h k c z) w a
  · exact gS_iff.mp z w a
/-- how many are fixed -/
def cnt (s : Sp) : Nat := s.countP fun o => o.isSome
theorem cnt_le {s : Sp} : cnt s ≤ s.length := List.countP_le_length
theorem cnt_sub : ∀ {s t : Sp}, s.length = t.length → subB s t = true → cnt t ≤ cnt s ∧ (cnt t = cnt s → s = t)
  | [], [], _, _ => ⟨Nat.le_refl _, fun _ => rfl⟩
  | a :: s, b :: t, l, h => by
    have h1 : subB s t = true := subB_iff.mpr fun k c e => by
      have := subB_iff.mp h (k + 1) c (by rw [List.getD_cons_succ]; exact e)
      rwa [List.getD_cons_succ] at this
    have h0 : ∀ c, b = some c → a = some c := fun c e => by
      have := subB_iff.mp h 0 c (by simp [e])
      simpa using this
    obtain ⟨i1, i2⟩ := cnt_sub (by simpa using l) h1
    unfold cnt at i1 i2 ⊢
    rw [List.countP_cons, List.countP_cons]
    cases b with
    | some c =>
      rw [h0 c rfl]
      simp only [Option.isSome_some, if_true]
      exact ⟨by omega, fun e => by rw [i2 (by omega)]⟩
    | none =>
      cases a with
      | none => simp only [Option.isSome_none, Bool.false_eq_true, if_false]; exact ⟨by omega, fun e => by rw [i2 (by omega)]⟩
      | some c => simp only [Option.isSome_none, Option.isSome_some, Bool.false_eq_true, if_false, if_true]; exact ⟨by omega, fun e => by omega⟩
  | [], _ :: _, l, _ => by cases l
  | _ :: _, [], l, _ => by cases l
theorem relax_cnt {s : Sp} (l : s.length = n) (h : relax I n s ≠ s) : cnt (relax I n s) < cnt s := by
  obtain ⟨h1, h2⟩ := cnt_sub (l.trans len_relax.symm) (sub_relax (I := I) l)
  have : cnt (relax I n s) ≠ cnt s := fun e => h (h2 e).symm
  omega
theorem fix_cnt {s : Sp} (l : s.length = n) (h : fixS I n s ≠ s) : cnt s < cnt (fixS I n s) := by
  obtain ⟨h1, h2⟩ := cnt_sub (len_fixS.trans l.symm) (sub_fixS (I := I) l)
  have : cnt s ≠ cnt (fixS I n s) := fun e => h (h2 e)
  omega
end
theorem itr_succ {α : Type} {f : α → α} : ∀ (m : Nat) (a : α), itr f (m + 1) a = f (itr f m a)
  | 0, _ => rfl
  | m + 1, a => itr_succ m (f a)
theorem itr_add {α : Type} {f : α → α} : ∀ (i j : Nat) (a : α), itr f (i + j) a = itr f i (itr f j a)
  | 0, j, a => by simp [itr]
  | i + 1, j, a => by rw [show i + 1 + j = (i + j) + 1 by omega, itr_succ, itr_succ, itr_add]
theorem itr_stay {α : Type} {f : α → α} {a : α} (h : f a = a) : ∀ m, itr f m a = a
  | 0 => rfl
  | m + 1 => by show itr f m (f a) = a; rw [h]; exact itr_stay h m
theorem itr_all {α : Type} {f : α → α} {P : α → Prop} (h : ∀ a, P a → P (f a)) : ∀ (m : Nat) {a : α}, P a → P (itr f m a)
  | 0, _, p => p
  | m + 1, _, p => itr_all h m (h _ p)
/-- a measure falls: by then nothing changes -/
theorem itr_fix {α : Type} {f : α → α} {P : α → Prop} {μ : α → Nat} (hP : ∀ a, P a → P (f a)) (h : ∀ a, P a → f a ≠ a → μ (f a) < μ a) : ∀ (m : Nat) {a : α}, P a → μ a ≤ m → f (itr f m a) = itr f m a
  | 0, a, p, l => by
    apply Classical.byContradiction
    intro n
    have := h a p n
    omega
  | m + 1, a, p, l => by
    by_cases e : f a = a
    · rw [itr_stay e]; exact e
    · have := h a p e
      exact itr_fix hP h m (hP a p) (by omega)
theorem itr_eq {α : Type} {f : α → α} {a : α} {i j : Nat} (hi : f (itr f i a) = itr f i a) (hj : f (itr f j a) = itr f j a) : itr f i a = itr f j a := by
  rcases Nat.le_total i j with h | h
  · rw [show j = (j - i) + i by omega, itr_add, itr_stay hi]
  · rw [show i = (i - j) + j by omega, itr_add, itr_stay hj]
section
variable {I : Nat → List Bool → Bool} {n : Nat}
theorem relax_end {s : Sp} (l : s.length = n) : relax I n (itr (relax I n) n s) = itr (relax I n) n s ∧ (itr (relax I n) n s).length = n :=
  ⟨itr_fix (P := fun s => s.length = n) (μ := cnt) (fun _ _ => len_relax) (fun a la h => relax_cnt la h) n l (l ▸ cnt_le), itr_all (P := fun s : Sp => s.length = n) (fun _ _ => len_relax) n l⟩
theorem fix_end {s : Sp} (l : s.length = n) : fixS I n (itr (fixS I n) n s) = itr (fixS I n) n s ∧ (itr (fixS I n) n s).length = n :=
  ⟨itr_fix (P := fun s => s.length = n) (μ := fun s => n - cnt s) (fun _ _ => len_fixS) (fun a la h => by
    have h1 := fix_cnt la h
    have h2 := cnt_le (s := fixS I n a)
    rw [len_fixS] at h2
    show n - cnt (fixS I n a) < n - cnt a
    omega) n l (Nat.sub_le _ _), itr_all (P := fun s : Sp => s.length = n) (fun _ _ => len_fixS) n l⟩
/-- the least trap space around a space -/
abbrev arnd (I : Nat → List Bool → Bool) (n : Nat) (s : Sp) : Sp := itr (relax I n) n s
abbrev perc (I : Nat → List Bool → Bool) (n : Nat) (s : Sp) : Sp := itr (fixS I n) n s
theorem arnd_trap {s : Sp} (l : s.length = n) : trapB I n (arnd I n s) = true := (trap_fix (relax_end l).2).mpr (relax_end l).1
theorem arnd_has {s : Sp} (l : s.length = n) : subB s (arnd I n s) = true :=
  (itr_all (f := relax I n) (P := fun t : Sp => t.length = n ∧ subB s t = true) (fun t ⟨h1, h2⟩ => ⟨len_relax, sub_trans h2 (sub_relax h1)⟩) n ⟨l, sub_refl⟩).2
theorem arnd_least {s t : Sp} (l : s.length = n) (lt : t.length = n) (h : subB s t = true) (tr : trapB I n t = true) : subB (arnd I n s) t = true :=
  (itr_all (f := relax I n) (P := fun u : Sp => u.length = n ∧ subB u t = true) (fun u ⟨h1, h2⟩ => ⟨len_relax, relax_least h1 lt h2 tr⟩) n ⟨l, h⟩).2
theorem perc_trap {s : Sp} (l : s.length = n) (h : trapB I n s = true) : trapB I n (perc I n s) = true :=
  (itr_all (f := fixS I n) (P := fun t : Sp => t.length = n ∧ trapB I n t = true) (fun t ⟨h1, h2⟩ => ⟨len_fixS, fix_trap h1 h2⟩) n ⟨l, h⟩).2
theorem perc_img {F : List Bool → List Bool} (hF : ∀ w, w.length = n → (F w).length = n ∧ ∀ k, k < n → (F w).getD k false = I k w) : ∀ (m : Nat) {s : Sp} {w : List Bool}, s.length = n → trapB I n s = true → agr w s = true → agr (itr F m w) (itr (fixS I n) m s) = true
  | 0, _, _, _, _, a => a
  | m + 1, s, w, l, h, a => by
    have lw : w.length = n := (agr_len a).trans l
    obtain ⟨h1, h2⟩ := hF w lw
    exact perc_img hF m len_fixS (fix_trap l h) (fix_img l h a h1 h2)
/-- all spaces -/
def spcs : Nat → List Sp
  | 0 => [[]]
  | m + 1 => (spcs m).flatMap fun s => [s ++ [none], s ++ [some false], s ++ [some true]]
theorem spcs_mem : ∀ {m : Nat} {s : Sp}, s ∈ spcs m ↔ s.length = m
  | 0, s => by simp [spcs]
  | m + 1, s => by
    unfold spcs
    rw [List.mem_flatMap]
    constructor
    · rintro ⟨t, ht, h⟩
      have := spcs_mem.mp ht
      simp at h
      rcases h with h | h | h <;> simp [h, this]
    · intro h
      have ne : s ≠ [] := by intro e; simp [e] at h
      refine ⟨s.dropLast, spcs_mem.mpr (by simp [h]), ?_⟩
      have e := List.dropLast_concat_getLast ne
      cases q : s.getLast ne with
      | none => rw [q] at e; rw [e]; simp
      | some b =>
        rw [q] at e
        cases b <;> (rw [e]; simp)
theorem spcs_len : ∀ {m : Nat}, (spcs m).length = 3 ^ m
  | 0 => rfl
  | m + 1 => by
    have k : ∀ l : List Sp, (l.flatMap fun s => [s ++ [none], s ++ [some false], s ++ [some true]]).length = 3 * l.length := by
      intro l
      induction l with
      | nil => rfl
      | cons a l ih => rw [List.flatMap_cons, List.length_append, ih, List.length_cons]; simp only [List.length_cons, List.length_nil]; omega
    show ((spcs m).flatMap _).length = _
    rw [k, spcs_len, Nat.pow_succ, Nat.mul_comm]
/-- the law's way: of all trap spaces that have it, the one within all -/
theorem least_of {s : Sp} (l : s.length = n) : ∃ r, (((spcs n).filter (trapB I n)).filter (subB s)).filter (fun one => (((spcs n).filter (trapB I n)).filter (subB s)).all (subB one)) = arnd I n s :: r := by
  have mem : ∀ t, t ∈ ((spcs n).filter (trapB I n)).filter (subB s) ↔ t.length = n ∧ trapB I n t = true ∧ subB s t = true := fun t => by
    rw [List.mem_filter, List.mem_filter, spcs_mem, and_assoc]
  have la := (relax_end (I := I) l).2
  have key : ∀ t, t ∈ ((spcs n).filter (trapB I n)).filter (subB s) → (((spcs n).filter (trapB I n)).filter (subB s)).all (subB t) = true → t = arnd I n s := fun t ht h => by
    obtain ⟨h1, h2, h3⟩ := (mem t).mp ht
    refine sub_anti (h1.trans la.symm) (List.all_eq_true.mp h _ ((mem _).mpr ⟨la, arnd_trap l, arnd_has l⟩)) (arnd_least l h1 h3 h2)
  have there : arnd I n s ∈ (((spcs n).filter (trapB I n)).filter (subB s)).filter (fun one => (((spcs n).filter (trapB I n)).filter (subB s)).all (subB one)) := by
    refine List.mem_filter.mpr ⟨(mem _).mpr ⟨la, arnd_trap l, arnd_has l⟩, List.all_eq_true.mpr fun t ht => ?_⟩
    obtain ⟨h1, h2, h3⟩ := (mem t).mp ht
    exact arnd_least l h1 h3 h2
  cases e : (((spcs n).filter (trapB I n)).filter (subB s)).filter (fun one => (((spcs n).filter (trapB I n)).filter (subB s)).all (subB one)) with
  | nil => rw [e] at there; cases there
  | cons t r =>
    have ht : t ∈ (((spcs n).filter (trapB I n)).filter (subB s)).filter (fun one => (((spcs n).filter (trapB I n)).filter (subB s)).all (subB one)) := by rw [e]; exact .head _
    obtain ⟨h1, h2⟩ := List.mem_filter.mp ht
    exact ⟨r, by rw [key t h1 h2]⟩
end
end RL

noncomputable section
namespace K17
open PySem PySem.Spec PyProof.Rows L2 RL
/-! ### the text -/
def top (i : Nat) : Stmt := PySem.Challenge.pw_switchbench_k17_around_and_percolated.main.body.getD i (.Pass ⟨0, 0, 0, 0⟩)
def errs : List Str := ["InvalidNetwork", "InvalidSpace", "InvalidState"]
/-! ### the mirrors -/
def m__law_within_1 : Ex := mV 3
def m__law_within_2 : Ev → Re Bool := mT (mAnd (mB gNe (.ex (mB gIx (.bo 1) (.bo 3))) (.ex (mC (.str "*")))) (mB gNe (.ex (mB gIx (.bo 1) (.bo 3))) (.ex (mB gIx (.bo 0) (.bo 3)))))
def b__law_within : Sm := sSeq (sR (mFz (mB gEq (.ex (mLc [2, 3] (.nm 3) (mIv gRng1 [mCB (g1 gLen) [.bo 0]]) (m__law_within_2) (m__law_within_1))) (.ex (mLst []))))) (sN)
def m__law_within : MF := mFn [false, false] 4 b__law_within
def d__law_within : {p : D → D → R D // ∀ x0 x1, RefF m__law_within [x0, x1] jD (p x0 x1)} := ⟨fun x0 x1 => _, fun x0 x1 => fn_ref rfl (e := [_, _, _, _]) rfl (s_R (wFz (dT (yB (oE (dLc (iIv (vc (dCB (oc (oB rfl (o0 (fN rfl fun _ => (v0 (fO fun _ => (fLc rfl (fun _ => (pu1 (e1 := [_, _, _, _]) rfl (itC (yAnd (yB (oE (dB (oB rfl (oB rfl (fD rfl rfl fun _ => (oE (dC (fT rfl rfl fun _ => (jAnd (yW (yB (oE (dB (oB rfl (oB rfl (fD rfl rfl fun _ => (oE (dB (oB rfl (oB rfl (fD rfl rfl fun _ => (fT rfl rfl fun _ => (nEe rfl)))))))))))))) fun _ => (itS (elt (dV rfl (nEe rfl))) (nEe rfl)))))))))))))))) fun _ => (oE (dLst (v0 (fT rfl rfl fun _ => (n_R (a := _) rfl)))))))))))))))))))))⟩
@[irreducible] def p__law_within : D → D → R D := d__law_within.1
theorem r__law_within : ∀ x0 x1, RefF m__law_within [x0, x1] jD (p__law_within x0 x1) := by unfold p__law_within; exact d__law_within.2
def m__law_around_1 : Ex := mV 5
def m__law_around_2 : Ev → Re Bool := mT (mCall [false, false] m__law_within [.v (mV 2), .v (mV 5)])
def m__law_around_3 : Ex := mV 6
def m__law_around_4 : Ev → Re Bool := mT (mNot (mCall [false, false] m__law_within [.v (mV 5), .v (mV 6)]))
def m__law_around_5 : Ex := mV 5
def m__law_around_6 : Ev → Re Bool := mT (mB gEq (.ex (mLc [4, 6] (.nm 6) (iOr (mIt (mV 3)) (mIg (gD gKeys) (mV 3))) (m__law_around_4) (m__law_around_3))) (.ex (mLst [])))
def b__law_around : Sm := sSeq (sA 3 (mLc [4, 5] (.nm 5) (iOr (mIt (mV 1)) (mIg (gD gKeys) (mV 1))) (m__law_around_2) (m__law_around_1))) (sSeq (sFz [3]) (sSeq (sR (mFz (mB gIx (.ex (mLc [4, 5] (.nm 5) (iOr (mIt (mV 3)) (mIg (gD gKeys) (mV 3))) (m__law_around_6) (m__law_around_5))) (.ex (mC (.int 0)))))) (sN)))
def m__law_around : MF := mFn [false, false, false] 7 b__law_around
def d__law_around : {p : D → D → D → R D // ∀ x0 x1 x2, RefF m__law_around [x0, x1, x2] jD (p x0 x1 x2)} := ⟨fun x0 x1 x2 => _, fun x0 x1 x2 => fn_ref rfl (e := [_, _, _, _, _, _, _]) rfl (s_A (wLc (iIt (dV rfl (fO fun _ => (fLc rfl (fun _ => (pu1 (e1 := [_, _, _, _, _, _, _]) rfl (itC (yD (dCall (av (dV rfl (av (dV rfl (a0 (cD0n (r__law_within _ _) rfl rfl rfl fun _ => (fBo fun _ => (itS (elt (dV rfl (nEe rfl))) (nEe rfl)))))))))))))) fun _ => (f_P (e1 := [_, _, _, _, _, _, _]) rfl (s_F (e1 := [_, _, _, _, _, _, _]) rfl (s_R (wFz (dB (oE (dLc (iIt (dV rfl (fO fun _ => (fLc rfl (fun _ => (pu1 (e1 := [_, _, _, _, _, _, _]) rfl (itC (yB (oE (dLc (iIt (dV rfl (fO fun _ => (fLc rfl (fun _ => (pu1 (e1 := [_, _, _, _, _, _, _]) rfl (itC (yNot (yD (dCall (av (dV rfl (av (dV rfl (a0 (cD0n (r__law_within _ _) rfl rfl rfl fun _ => (fBo fun _ => (itS (elt (dV rfl (nEe rfl))) (nEe rfl))))))))))))))) fun _ => (oE (dLst (v0 (fT rfl rfl fun _ => (itS (elt (dV rfl (nEe rfl))) (nEe rfl)))))))))))))))) fun _ => (oE (dC (fD rfl rfl fun _ => (n_R (a := _) rfl)))))))))))))))))))))⟩
@[irreducible] def p__law_around : D → D → D → R D := d__law_around.1
theorem r__law_around : ∀ x0 x1 x2, RefF m__law_around [x0, x1, x2] jD (p__law_around x0 x1 x2) := by unfold p__law_around; exact d__law_around.2
def m_is_signs_1 : Ex := mB gIn (.bo 4) (.bo 2)
def b_is_signs : Sm := sSeq (sR (mFz (mAnd (mIsi ["str"] (.bo 0)) (mAnd (mB gEq (.ex (mCB (g1 gLen) [.bo 0])) (.bo 1)) (mCB (g1 gAll) [.ex (mLc [3, 4] (.nm 4) (iOr (mIt (mV 0)) (mIg (gD gKeys) (mV 0))) (mYes) (m_is_signs_1))]))))) (sN)
def m_is_signs : MF := mFn [false, false, false] 5 b_is_signs
def d_is_signs : {p : D → D → D → R D // ∀ x0 x1 x2, RefF m_is_signs [x0, x1, x2] jD (p x0 x1 x2)} := ⟨fun x0 x1 x2 => _, fun x0 x1 x2 => fn_ref rfl (e := [_, _, _, _, _]) rfl (s_R (wFz (dT (yAnd (yIsi (oB rfl (fIsi rfl (jAnd (yW (yAnd (yB (oE (dCB (oc (oB rfl (o0 (fN rfl fun _ => (oB rfl (fT rfl rfl fun _ => (jAnd (yW (yD (dCB (oc (oE (dLc (iIt (dV rfl (fO fun _ => (fLc rfl (fun _ => (pu1 (e1 := [_, _, _, _, _]) rfl (itY (elt (dT (yB (oB rfl (oB rfl (fT rfl rfl fun _ => (nEe rfl)))))))))) fun _ => (o0 (fN rfl fun _ => (fBo fun _ => (nEe rfl)))))))))))))) fun _ => (nEe rfl))))))))))))) fun _ => (n_R (a := _) rfl)))))))))⟩
@[irreducible] def p_is_signs : D → D → D → R D := d_is_signs.1
theorem r_is_signs : ∀ x0 x1 x2, RefF m_is_signs [x0, x1, x2] jD (p_is_signs x0 x1 x2) := by unfold p_is_signs; exact d_is_signs.2
def b_is_integer : Sm := sSeq (sR (mFz (mAnd (mIsi ["int"] (.bo 0)) (mNot (mIsi ["bool"] (.bo 0)))))) (sN)
def m_is_integer : MF := mFn [false] 1 b_is_integer
def d_is_integer : {p : D → R D // ∀ x0, RefF m_is_integer [x0] jD (p x0)} := ⟨fun x0 => _, fun x0 => fn_ref rfl (e := [_]) rfl (s_R (wFz (dT (yAnd (yIsi (oB rfl (fIsi rfl (jAnd (yW (yNot (yIsi (oB rfl (fIsi rfl (nEe rfl)))))) fun _ => (n_R (a := _) rfl)))))))))⟩
@[irreducible] def p_is_integer : D → R D := d_is_integer.1
theorem r_is_integer : ∀ x0, RefF m_is_integer [x0] jD (p_is_integer x0) := by unfold p_is_integer; exact d_is_integer.2
def b_is_between : Sm := sSeq (sR (mFz (mAnd (mCall [false] m_is_integer [.v (mV 0)]) (mChain gLe gLe (.bo 1) (.bo 0) (.bo 2))))) (sN)
def m_is_between : MF := mFn [false, false, false] 3 b_is_between
def d_is_between : {p : D → D → D → R D // ∀ x0 x1 x2, RefF m_is_between [x0, x1, x2] jD (p x0 x1 x2)} := ⟨fun x0 x1 x2 => _, fun x0 x1 x2 => fn_ref rfl (e := [_, _, _]) rfl (s_R (wFz (dT (yAnd (yD (dCall (av (dV rfl (a0 (cD0 (r_is_integer _) rfl rfl rfl rfl fun _ => (fBo fun _ => (jAnd (yW (yCh (oB rfl (oB rfl (jCh rfl rfl (oB rfl (fT rfl rfl fun _ => (nEe rfl))) fun _ => (nEe rfl)))))) fun _ => (n_R (a := _) rfl)))))))))))))⟩
@[irreducible] def p_is_between : D → D → D → R D := d_is_between.1
theorem r_is_between : ∀ x0 x1 x2, RefF m_is_between [x0, x1, x2] jD (p_is_between x0 x1 x2) := by unfold p_is_between; exact d_is_between.2
def m_are_between_1 : Ex := mCall [false, false, false] m_is_between [.v (mV 4), .v (mV 1), .v (mV 2)]
def b_are_between : Sm := sSeq (sR (mFz (mCB (g1 gAll) [.ex (mLc [3, 4] (.nm 4) (iOr (mIt (mV 0)) (mIg (gD gKeys) (mV 0))) (mYes) (m_are_between_1))]))) (sN)
def m_are_between : MF := mFn [false, false, false] 5 b_are_between
def d_are_between : {p : D → D → D → R D // ∀ x0 x1 x2, RefF m_are_between [x0, x1, x2] jD (p x0 x1 x2)} := ⟨fun x0 x1 x2 => _, fun x0 x1 x2 => fn_ref rfl (e := [_, _, _, _, _]) rfl (s_R (wFz (dCB (oc (oE (dLc (iIt (dV rfl (fO fun _ => (fLc rfl (fun _ => (pu1 (e1 := [_, _, _, _, _]) rfl (itY (elt (dCall (av (dV rfl (av (dV rfl (av (dV rfl (a0 (cD0n (r_is_between _ _ _) rfl rfl rfl fun _ => (nEe rfl)))))))))))))) fun _ => (o0 (fN rfl fun _ => (n_R (a := _) rfl)))))))))))))⟩
@[irreducible] def p_are_between : D → D → D → R D := d_are_between.1
theorem r_are_between : ∀ x0 x1 x2, RefF m_are_between [x0, x1, x2] jD (p_are_between x0 x1 x2) := by unfold p_are_between; exact d_are_between.2
def m_is_rising_1 : Ex := mB gLt (.ex (mB gIx (.bo 0) (.bo 2))) (.ex (mB gIx (.bo 0) (.ex (mB gAdd (.bo 2) (.ex (mC (.int 1)))))))
def b_is_rising : Sm := sSeq (sR (mFz (mCB (g1 gAll) [.ex (mLc [1, 2] (.nm 2) (mIv gRng1 [mB gSub (.ex (mCB (g1 gLen) [.bo 0])) (.ex (mC (.int 1)))]) (mYes) (m_is_rising_1))]))) (sN)
def m_is_rising : MF := mFn [false] 3 b_is_rising
def d_is_rising : {p : D → R D // ∀ x0, RefF m_is_rising [x0] jD (p x0)} := ⟨fun x0 => _, fun x0 => fn_ref rfl (e := [_, _, _]) rfl (s_R (wFz (dCB (oc (oE (dLc (iIv (vc (dB (oE (dCB (oc (oB rfl (o0 (fN rfl fun _ => (oE (dC (fD rfl rfl fun _ => (v0 (fO fun _ => (fLc rfl (fun _ => (pu1 (e1 := [_, _, _]) rfl (itY (elt (dT (yB (oE (dB (oB rfl (oB rfl (fD rfl rfl fun _ => (oE (dB (oB rfl (oE (dB (oB rfl (oE (dC (fD rfl rfl fun _ => (fD rfl rfl fun _ => (fT rfl rfl fun _ => (nEe rfl))))))))))))))))))))))) fun _ => (o0 (fN rfl fun _ => (n_R (a := _) rfl))))))))))))))))))))))))⟩
@[irreducible] def p_is_rising : D → R D := d_is_rising.1
theorem r_is_rising : ∀ x0, RefF m_is_rising [x0] jD (p_is_rising x0) := by unfold p_is_rising; exact d_is_rising.2
def b_is_switches_value : Sm := sSeq (sR (mFz (mAnd (mIsi ["tuple"] (.bo 1)) (mAnd (mCall [false, false, false] m_are_between [.v (mV 1), .v (mC (.int 0)), .v (mB gSub (.bo 0) (.ex (mC (.int 1))))]) (mCall [false] m_is_rising [.v (mV 1)]))))) (sN)
def m_is_switches_value : MF := mFn [false, false] 2 b_is_switches_value
def d_is_switches_value : {p : D → D → R D // ∀ x0 x1, RefF m_is_switches_value [x0, x1] jD (p x0 x1)} := ⟨fun x0 x1 => _, fun x0 x1 => fn_ref rfl (e := [_, _]) rfl (s_R (wFz (dT (yAnd (yIsi (oB rfl (fIsi rfl (jAnd (yW (yAnd (yD (dCall (av (dV rfl (av (dC (av (dB (oB rfl (oE (dC (fD rfl rfl fun _ => (a0 (cD0 (r_are_between _ _ _) rfl rfl rfl rfl fun _ => (fBo fun _ => (jAnd (yW (yD (dCall (av (dV rfl (a0 (cD0 (r_is_rising _) rfl rfl rfl rfl fun _ => (fBo fun _ => (nEe rfl))))))))) fun _ => (nEe rfl))))))))))))))))))) fun _ => (n_R (a := _) rfl)))))))))⟩
@[irreducible] def p_is_switches_value : D → D → R D := d_is_switches_value.1
theorem r_is_switches_value : ∀ x0 x1, RefF m_is_switches_value [x0, x1] jD (p_is_switches_value x0 x1) := by unfold p_is_switches_value; exact d_is_switches_value.2
def b_is_rule_value : Sm := sSeq (sIf (mOr (mNot (mIsi ["tuple"] (.bo 1))) (mOr (mB gNe (.ex (mCB (g1 gLen) [.bo 1])) (.ex (mC (.int 2)))) (mNot (mCall [false, false] m_is_switches_value [.v (mV 0), .v (mB gIx (.bo 1) (.ex (mC (.int 0))))])))) (sSeq (sR (mFz (mC (.bool false)))) (sN)) (sN)) (sSeq (sR (mFz (mAnd (mB gLe (.ex (mCB (g1 gLen) [.ex (mB gIx (.bo 1) (.ex (mC (.int 0))))])) (.ex (mC (.int 4)))) (mCall [false, false, false] m_is_signs [.v (mB gIx (.bo 1) (.ex (mC (.int 1)))), .v (mB gShl (.ex (mC (.int 1))) (.ex (mCB (g1 gLen) [.ex (mB gIx (.bo 1) (.ex (mC (.int 0))))]))), .v (mC (.str "01"))])))) (sN))
def m_is_rule_value : MF := mFn [false, false] 2 b_is_rule_value
def d_is_rule_value : {p : D → D → R D // ∀ x0 x1, RefF m_is_rule_value [x0, x1] jD (p x0 x1)} := ⟨fun x0 x1 => _, fun x0 x1 => fn_ref rfl (e := [_, _]) rfl (s_If (yOr (yNot (yIsi (oB rfl (fIsi rfl (jOr (yW (yOr (yB (oE (dCB (oc (oB rfl (o0 (fN rfl fun _ => (oE (dC (fT rfl rfl fun _ => (jOr (yW (yNot (yD (dCall (av (dV rfl (av (dB (oB rfl (oE (dC (fD rfl rfl fun _ => (a0 (cD0 (r_is_switches_value _ _) rfl rfl rfl rfl fun _ => (fBo fun _ => (nEe rfl)))))))))))))))) fun _ => (nEe rfl)))))))))))))) fun _ => (n_If (s_as (s_R (wFz (dC (n_R (a := _) rfl))))) (s_N (s_R (wFz (dT (yAnd (yB (oE (dCB (oc (oE (dB (oB rfl (oE (dC (fD rfl rfl fun _ => (o0 (fN rfl fun _ => (oE (dC (fT rfl rfl fun _ => (jAnd (yW (yD (dCall (av (dB (oB rfl (oE (dC (fD rfl rfl fun _ => (av (dB (oE (dC (oE (dCB (oc (oE (dB (oB rfl (oE (dC (fD rfl rfl fun _ => (o0 (fN rfl fun _ => (fD rfl rfl fun _ => (av (dC (a0 (cD0 (r_is_signs _ _ _) rfl rfl rfl rfl fun _ => (fBo fun _ => (nEe rfl))))))))))))))))))))))))))))))) fun _ => (n_R (a := _) rfl))))))))))))))))))))))))))))))⟩
@[irreducible] def p_is_rule_value : D → D → R D := d_is_rule_value.1
theorem r_is_rule_value : ∀ x0 x1, RefF m_is_rule_value [x0, x1] jD (p_is_rule_value x0 x1) := by unfold p_is_rule_value; exact d_is_rule_value.2
def m_is_net_value_1 : Ex := mCall [false, false] m_is_rule_value [.v (mCB (g1 gLen) [.bo 0]), .v (mV 2)]
def b_is_net_value : Sm := sSeq (sIf (mOr (mNot (mIsi ["tuple"] (.bo 0))) (mNot (mChain gLe gLe (.ex (mC (.int 1))) (.ex (mCB (g1 gLen) [.bo 0])) (.ex (mC (.int 8)))))) (sSeq (sR (mFz (mC (.bool false)))) (sN)) (sN)) (sSeq (sR (mFz (mCB (g1 gAll) [.ex (mLc [1, 2] (.nm 2) (iOr (mIt (mV 0)) (mIg (gD gKeys) (mV 0))) (mYes) (m_is_net_value_1))]))) (sN))
def m_is_net_value : MF := mFn [false] 3 b_is_net_value
def d_is_net_value : {p : D → R D // ∀ x0, RefF m_is_net_value [x0] jD (p x0)} := ⟨fun x0 => _, fun x0 => fn_ref rfl (e := [_, _, _]) rfl (s_If (yOr (yNot (yIsi (oB rfl (fIsi rfl (jOr (yW (yNot (yCh (oE (dC (oE (dCB (oc (oB rfl (o0 (fN rfl fun _ => (jCh rfl rfl (oE (dC (fT rfl rfl fun _ => (nEe rfl)))) fun _ => (nEe rfl))))))))))))) fun _ => (n_If (s_as (s_R (wFz (dC (n_R (a := _) rfl))))) (s_N (s_R (wFz (dCB (oc (oE (dLc (iIt (dV rfl (fO fun _ => (fLc rfl (fun _ => (pu1 (e1 := [_, _, _]) rfl (itY (elt (dCall (av (dCB (oc (oB rfl (o0 (fN rfl fun _ => (av (dV rfl (a0 (cD0n (r_is_rule_value _ _) rfl rfl rfl fun _ => (nEe rfl)))))))))))))))) fun _ => (o0 (fN rfl fun _ => (n_R (a := _) rfl))))))))))))))))))))))⟩
@[irreducible] def p_is_net_value : D → R D := d_is_net_value.1
theorem r_is_net_value : ∀ x0, RefF m_is_net_value [x0] jD (p_is_net_value x0) := by unfold p_is_net_value; exact d_is_net_value.2
def b_check_net : Sm := sSeq (sIf (mNot (mCall [false] m_is_net_value [.v (mV 0)])) (sSeq (sRaise "InvalidNetwork" ["given"] [mV 0]) (sN)) (sN)) (sN)
def m_check_net : MF := mFn [false] 1 b_check_net
def d_check_net : {p : D → R D // ∀ x0, RefF m_check_net [x0] jD (p x0)} := ⟨fun x0 => _, fun x0 => fn_ref rfl (e := [_]) rfl (s_If (yNot (yD (dCall (av (dV rfl (a0 (cD0 (r_is_net_value _) rfl rfl rfl rfl fun _ => (fBo fun _ => (n_If (s_as (s_Rz (vc (dV rfl (v0 (n_Rz rfl rfl)))))) (s_N (n_N (a := _) rfl))))))))))))⟩
@[irreducible] def p_check_net : D → R D := d_check_net.1
theorem r_check_net : ∀ x0, RefF m_check_net [x0] jD (p_check_net x0) := by unfold p_check_net; exact d_check_net.2
def b_check_space : Sm := sSeq (sIf (mNot (mCall [false, false, false] m_is_signs [.v (mV 1), .v (mCB (g1 gLen) [.bo 0]), .v (mC (.str "01*"))])) (sSeq (sRaise "InvalidSpace" ["given"] [mV 1]) (sN)) (sN)) (sN)
def m_check_space : MF := mFn [false, false] 2 b_check_space
def d_check_space : {p : D → D → R D // ∀ x0 x1, RefF m_check_space [x0, x1] jD (p x0 x1)} := ⟨fun x0 x1 => _, fun x0 x1 => fn_ref rfl (e := [_, _]) rfl (s_If (yNot (yD (dCall (av (dV rfl (av (dCB (oc (oB rfl (o0 (fN rfl fun _ => (av (dC (a0 (cD0 (r_is_signs _ _ _) rfl rfl rfl rfl fun _ => (fBo fun _ => (n_If (s_as (s_Rz (vc (dV rfl (v0 (n_Rz rfl rfl)))))) (s_N (n_N (a := _) rfl))))))))))))))))))))⟩
@[irreducible] def p_check_space : D → D → R D := d_check_space.1
theorem r_check_space : ∀ x0 x1, RefF m_check_space [x0, x1] jD (p_check_space x0 x1) := by unfold p_check_space; exact d_check_space.2
def m_given_1 : Sm := sSeq (sA 5 (mFz (mB gAdd (.ex (mB gMul (.ex (mC (.int 2))) (.bo 5))) (.ex (mCB (g1 gInt) [.ex (mB gIx (.bo 2) (.bo 6))]))))) (sSeq (sK [6]) (sN))
def b_given : Sm := sSeq (sU (.tp [3, 4]) (mB gIx (.bo 0) (.bo 1))) (sSeq (sA 5 (mFz (mC (.int 0)))) (sSeq (sFor (.nm 6) (iOr (mIt (mV 3)) (mIg (gD gKeys) (mV 3))) m_given_1) (sSeq (sR (mFz (mB gIx (.bo 4) (.bo 5)))) (sN))))
def m_given : MF := mFn [false, false, false] 7 b_given
def d_given : {p : D → D → D → R D // ∀ x0 x1 x2, RefF m_given [x0, x1, x2] jD (p x0 x1 x2)} := ⟨fun x0 x1 x2 => _, fun x0 x1 x2 => fn_ref rfl (e := [_, _, _, _, _, _, _]) rfl (s_U (dB (oB rfl (oB rfl (fD rfl rfl fun _ => (f_U2 (en := fun _ _ => [_, _, _, _, _, _, _]) (fun _ _ => rfl) fun _ _ => (s_A (wFz (dC (f_P (e1 := [_, _, _, _, _, _, _]) rfl (s_For (iIt (dV rfl (fO fun _ => (f_For (τ := D) (up := fun E c => (E.set 5 (.fz c))) (en' := fun c => [_, _, _, _, _, _, _]) (c0 := _) (fun _ => rfl) rfl (fun _ _ => (u1 (e1 := [_, _, _, _, _, _, _]) rfl (s_A (wFz (dB (oE (dB (oE (dC (oB rfl (fD rfl rfl fun _ => (oE (dCB (oc (oE (dB (oB rfl (oB rfl (fD rfl rfl fun _ => (o0 (fN rfl fun _ => (fD rfl rfl fun _ => (f_P (e1 := [_, _, _, _, _, _, _]) rfl (s_K (e1 := [_, _, _, _, _, _, _]) rfl (n_L (t := _) rfl))))))))))))))))))))))))) fun _ => (s_R (wFz (dB (oB rfl (oB rfl (fD rfl rfl fun _ => (n_R (a := _) rfl))))))))))))))))))))))⟩
@[irreducible] def p_given : D → D → D → R D := d_given.1
theorem r_given : ∀ x0 x1 x2, RefF m_given [x0, x1, x2] jD (p_given x0 x1 x2) := by unfold p_given; exact d_given.2
def m_states_in_1 : Ex := mB gAdd (.bo 5) (.bo 7)
def m_states_in_2 : Sm := sSeq (sE (mExt 4 (mLc [6, 7] (.nm 7) (iOr (mIt (mV 3)) (mIg (gD gKeys) (mV 3))) (mYes) (m_states_in_1)))) (sSeq (sK [5]) (sN))
def m_states_in_3 : Sm := sSeq (sA 3 (mFz (mIf (mB gEq (.bo 2) (.ex (mC (.str "*")))) (mLst [mC (.str "0"), mC (.str "1")]) (mLst [mV 2])))) (sSeq (sA 4 (mLst [])) (sSeq (sFor (.nm 5) (iOr (mIt (mV 1)) (mIg (gD gKeys) (mV 1))) m_states_in_2) (sSeq (sA 1 (mFz (mM 4))) (sSeq (sK [2, 3, 4, 5]) (sN)))))
def b_states_in : Sm := sSeq (sA 1 (mFz (mLst [mC (.str "")]))) (sSeq (sFor (.nm 2) (iOr (mIt (mV 0)) (mIg (gD gKeys) (mV 0))) m_states_in_3) (sSeq (sR (mFz (mV 1))) (sN)))
def m_states_in : MF := mFn [false] 8 b_states_in
def d_states_in : {p : D → R D // ∀ x0, RefF m_states_in [x0] jD (p x0)} := ⟨fun x0 => _, fun x0 => fn_ref rfl (e := [_, _, _, _, _, _, _, _]) rfl (s_A (wFz (dLst (vc (dC (v0 (f_P (e1 := [_, _, _, _, _, _, _, _]) rfl (s_For (iIt (dV rfl (fO fun _ => (f_For (τ := D) (up := fun E c => (E.set 1 (.fz c))) (en' := fun c => [_, _, _, _, _, _, _, _]) (c0 := _) (fun _ => rfl) rfl (fun _ _ => (u1 (e1 := [_, _, _, _, _, _, _, _]) rfl (s_A (wFz (dIf (yB (oB rfl (oE (dC (fT rfl rfl fun _ => (jIf (dW (dLst (vc (dC (vc (dC (v0 (nEe rfl)))))))) (dW (dLst (vc (dV rfl (v0 (nEe rfl)))))) fun _ => (f_P (e1 := [_, _, _, _, _, _, _, _]) rfl (s_A (wLst (v0 (f_P (e1 := [_, _, _, _, _, _, _, _]) rfl (s_For (iIt (dV rfl (fO fun _ => (f_For (τ := (List D)) (up := fun E c => (E.set 4 (.ol c))) (en' := fun c => [_, _, _, _, _, _, _, _]) (c0 := _) (fun _ => rfl) rfl (fun _ _ => (u1 (e1 := [_, _, _, _, _, _, _, _]) rfl (s_E (dExt rfl (wLc (iIt (dV rfl (fO fun _ => (fLc rfl (fun _ => (pu1 (e1 := [_, _, _, _, _, _, _, _]) rfl (itY (elt (dB (oB rfl (oB rfl (fD rfl rfl fun _ => (nEe rfl))))))))) fun _ => (fExt (e1 := [_, _, _, _, _, _, _, _]) rfl rfl (s_K (e1 := [_, _, _, _, _, _, _, _]) rfl (n_L (t := _) rfl)))))))))))) fun _ => (s_A (wFz (dMo (e1 := [_, _, _, _, _, _, _, _]) rfl rfl (f_P (e1 := [_, _, _, _, _, _, _, _]) rfl (s_K (e1 := [_, _, _, _, _, _, _, _]) rfl (n_L (t := _) rfl))))))))))))))))))))))))))) fun _ => (s_R (wFz (dV rfl (n_R (a := _) rfl))))))))))))))))⟩
@[irreducible] def p_states_in : D → R D := d_states_in.1
theorem r_states_in : ∀ x0, RefF m_states_in [x0] jD (p_states_in x0) := by unfold p_states_in; exact d_states_in.2
def m_gives_all_1 : Ex := mIf (mOr (mB gIn (.bo 7) (.bo 4)) (mB gNe (.bo 8) (.ex (mC (.str "*"))))) (mV 8) (mC (.str "0"))
def m_gives_all_2 : Ex := mB gEq (.ex (mCall [false, false, false] m_given [.v (mV 0), .v (mV 1), .v (mV 9)])) (.bo 2)
def b_gives_all : Sm := sSeq (sA 4 (mFz (mB gIx (.ex (mB gIx (.bo 0) (.bo 1))) (.ex (mC (.int 0)))))) (sSeq (sA 5 (mFz (mBM "str" (m1 gJoin) (.ex (mC (.str ""))) [.ex (mLc [6, 7, 8] (.tp [7, 8]) (mIv gEnum [mV 3]) (mYes) (m_gives_all_1))]))) (sSeq (sR (mFz (mCB (g1 gAll) [.ex (mLc [6, 9] (.nm 9) (iOr (mIt (mCall [false] m_states_in [.v (mV 5)])) (mIg (gD gKeys) (mCall [false] m_states_in [.v (mV 5)]))) (mYes) (m_gives_all_2))]))) (sN)))
def m_gives_all : MF := mFn [false, false, false, false] 10 b_gives_all
def d_gives_all : {p : D → D → D → D → R D // ∀ x0 x1 x2 x3, RefF m_gives_all [x0, x1, x2, x3] jD (p x0 x1 x2 x3)} := ⟨fun x0 x1 x2 x3 => _, fun x0 x1 x2 x3 => fn_ref rfl (e := [_, _, _, _, _, _, _, _, _, _]) rfl (s_A (wFz (dB (oE (dB (oB rfl (oB rfl (fD rfl rfl fun _ => (oE (dC (fD rfl rfl fun _ => (f_P (e1 := [_, _, _, _, _, _, _, _, _, _]) rfl (s_A (wFz (dBM (oE (dC (fBM rfl (oc (oE (dLc (iIv (vc (dV rfl (v0 (fO fun _ => (fLc rfl (fun _ => (pu2 (en := fun _ _ => [_, _, _, _, _, _, _, _, _, _]) (fun _ _ => rfl) fun _ _ => (itY (elt (dIf (yOr (yB (oB rfl (oB rfl (fT rfl rfl fun _ => (jOr (yW (yB (oB rfl (oE (dC (fT rfl rfl fun _ => (nEe rfl))))))) fun _ => (jIf (dW (dV rfl (nEe rfl))) (dW (dC (nEe rfl))) fun _ => (nEe rfl))))))))))))) fun _ => (o0 (fM rfl rfl fun _ => (f_P (e1 := [_, _, _, _, _, _, _, _, _, _]) rfl (s_R (wFz (dCB (oc (oE (dLc (iIt (dCall (av (dV rfl (a0 (cD0 (r_states_in _) rfl rfl rfl rfl fun _ => (fO fun _ => (fLc rfl (fun _ => (pu1 (e1 := [_, _, _, _, _, _, _, _, _, _]) rfl (itY (elt (dT (yB (oE (dCall (av (dV rfl (av (dV rfl (av (dV rfl (a0 (cD0n (r_given _ _ _) rfl rfl rfl fun _ => (oB rfl (fT rfl rfl fun _ => (nEe rfl))))))))))))))))))) fun _ => (o0 (fN rfl fun _ => (n_R (a := _) rfl)))))))))))))))))))))))))))))))))))))))))))))))⟩
@[irreducible] def p_gives_all : D → D → D → D → R D := d_gives_all.1
theorem r_gives_all : ∀ x0 x1 x2 x3, RefF m_gives_all [x0, x1, x2, x3] jD (p_gives_all x0 x1 x2 x3) := by unfold p_gives_all; exact d_gives_all.2
def m_forced_in_1 : Ex := mTup [mV 3, mV 5]
def m_forced_in_2 : Ev → Re Bool := mT (mCall [false, false, false, false] m_gives_all [.v (mV 0), .v (mV 3), .v (mV 5), .v (mV 1)])
def m_forced_in_3 : Sm := sSeq (sE (mExt 2 (mLc [4, 5] (.nm 5) (iOr (mIt (mTup [mC (.str "0"), mC (.str "1")])) (mIg (gD gKeys) (mTup [mC (.str "0"), mC (.str "1")]))) (m_forced_in_2) (m_forced_in_1)))) (sSeq (sK [3]) (sN))
def b_forced_in : Sm := sSeq (sA 2 (mLst [])) (sSeq (sFor (.nm 3) (mIv gRng1 [mCB (g1 gLen) [.bo 0]]) m_forced_in_3) (sSeq (sR (mM 2)) (sN)))
def m_forced_in : MF := mFn [false, false] 6 b_forced_in
def d_forced_in : {p : D → D → R (List D) // ∀ x0 x1, RefF m_forced_in [x0, x1] jL (p x0 x1)} := ⟨fun x0 x1 => _, fun x0 x1 => fn_ref rfl (e := [_, _, _, _, _, _]) rfl (s_A (wLst (v0 (f_P (e1 := [_, _, _, _, _, _]) rfl (s_For (iIv (vc (dCB (oc (oB rfl (o0 (fN rfl fun _ => (v0 (fO fun _ => (f_For (τ := (List D)) (up := fun E c => (E.set 2 (.ol c))) (en' := fun c => [_, _, _, _, _, _]) (c0 := _) (fun _ => rfl) rfl (fun _ _ => (u1 (e1 := [_, _, _, _, _, _]) rfl (s_E (dExt rfl (wLc (iIt (dTup (vc (dC (vc (dC (v0 (fO fun _ => (fLc rfl (fun _ => (pu1 (e1 := [_, _, _, _, _, _]) rfl (itC (yD (dCall (av (dV rfl (av (dV rfl (av (dV rfl (av (dV rfl (a0 (cD0n (r_gives_all _ _ _ _) rfl rfl rfl fun _ => (fBo fun _ => (itS (elt (dTup (vc (dV rfl (vc (dV rfl (v0 (nEe rfl)))))))) (nEe rfl)))))))))))))))))) fun _ => (fExt (e1 := [_, _, _, _, _, _]) rfl rfl (s_K (e1 := [_, _, _, _, _, _]) rfl (n_L (t := _) rfl))))))))))))))))) fun _ => (s_R (wMo (e1 := [_, _, _, _, _, _]) rfl rfl (n_R (a := _) rfl))))))))))))))))))⟩
@[irreducible] def p_forced_in : D → D → R (List D) := d_forced_in.1
theorem r_forced_in : ∀ x0 x1, RefF m_forced_in [x0, x1] jL (p_forced_in x0 x1) := by unfold p_forced_in; exact d_forced_in.2
def b_with_sign : Sm := sSeq (sR (mFz (mB gAdd (.ex (mB gAdd (.ex (mSl (.bo 0) none (some (mV 1)))) (.bo 2))) (.ex (mSl (.bo 0) (some (mB gAdd (.bo 1) (.ex (mC (.int 1))))) none))))) (sN)
def m_with_sign : MF := mFn [false, false, false] 3 b_with_sign
def d_with_sign : {p : D → D → D → R D // ∀ x0 x1 x2, RefF m_with_sign [x0, x1, x2] jD (p x0 x1 x2)} := ⟨fun x0 x1 x2 => _, fun x0 x1 x2 => fn_ref rfl (e := [_, _, _]) rfl (s_R (wFz (dB (oE (dB (oE (dSl (oB rfl (pn (ps (dV rfl (fI fun _ => (fS rfl fun _ => (oB rfl (fD rfl rfl fun _ => (oE (dSl (oB rfl (ps (dB (oB rfl (oE (dC (fD rfl rfl fun _ => (fI fun _ => (pn (fS rfl fun _ => (fD rfl rfl fun _ => (n_R (a := _) rfl)))))))))))))))))))))))))))))⟩
@[irreducible] def p_with_sign : D → D → D → R D := d_with_sign.1
theorem r_with_sign : ∀ x0 x1 x2, RefF m_with_sign [x0, x1, x2] jD (p_with_sign x0 x1 x2) := by unfold p_with_sign; exact d_with_sign.2
def m_percolated_in_1 : Sm := sSeq (sIf (mB gEq (.ex (mB gIx (.bo 2) (.bo 3))) (.ex (mC (.str "*")))) (sSeq (sA 1 (mFz (mCall [false, false, false] m_with_sign [.v (mV 1), .v (mV 3), .v (mV 4)]))) (sN)) (sN)) (sSeq (sK [3, 4]) (sN))
def m_percolated_in_2 : Sm := sSeq (sA 2 (mFz (mV 1))) (sSeq (sFor (.tp [3, 4]) (iOr (mIt (mCall [false, false] m_forced_in [.v (mV 0), .v (mV 2)])) (mIg (gD gKeys) (mCall [false, false] m_forced_in [.v (mV 0), .v (mV 2)]))) m_percolated_in_1) (sSeq (sK [3, 4]) (sN)))
def m_percolated_in_3 : Ex := mB gNe (.bo 1) (.bo 2)
def b_percolated_in : Sm := sSeq (sA 2 (mFz (mC (.str "")))) (sSeq (sWhile 100000 m_percolated_in_3 m_percolated_in_2) (sSeq (sR (mFz (mV 1))) (sN)))
def m_percolated_in : MF := mFn [false, false] 5 b_percolated_in
def d_percolated_in : {p : D → D → R D // ∀ x0 x1, RefF m_percolated_in [x0, x1] jD (p x0 x1)} := ⟨fun x0 x1 => _, fun x0 x1 => fn_ref rfl (e := [_, _, _, _, _]) rfl (s_A (wFz (dC (f_P (e1 := [_, _, _, _, _]) rfl (s_Wh (τ := D × D) (up := fun E c => ((E.set 1 (.fz c.1)).set 2 (.fz c.2))) (en' := fun c => [_, _, _, _, _]) (c0 := (_, _)) (fun _ => rfl) rfl (fun _ => yW (yB (oB rfl (oB rfl (fT rfl rfl fun _ => (nEe rfl)))))) (fun _ => (s_A (wFz (dV rfl (f_P (e1 := [_, _, _, _, _]) rfl (s_For (iIt (dCall (av (dV rfl (av (dV rfl (a0 (cL0 (r_forced_in _ _) rfl rfl rfl rfl fun _ => (fO fun _ => (f_For (τ := D) (up := fun E c => (E.set 1 (.fz c))) (en' := fun c => [_, _, _, _, _]) (c0 := _) (fun _ => rfl) rfl (fun _ _ => (f_U2 (en := fun _ _ => [_, _, _, _, _]) (fun _ _ => rfl) fun _ _ => (s_If (yB (oE (dB (oB rfl (oB rfl (fD rfl rfl fun _ => (oE (dC (fT rfl rfl fun _ => (n_If (s_as (s_A (wFz (dCall (av (dV rfl (av (dV rfl (av (dV rfl (a0 (cD0 (r_with_sign _ _ _) rfl rfl rfl rfl fun _ => (f_P (e1 := [_, _, _, _, _]) rfl (s_N (s_K (e1 := [_, _, _, _, _]) rfl (n_L (t := _) rfl)))))))))))))))) (s_N (s_K (e1 := [_, _, _, _, _]) rfl (n_L (t := _) rfl)))))))))))))))) fun _ => (s_K (e1 := [_, _, _, _, _]) rfl (n_L (t := (_, _)) rfl)))))))))))))))))) fun _ => (s_R (wFz (dV rfl (n_R (a := _) rfl)))))))))⟩
@[irreducible] def p_percolated_in : D → D → R D := d_percolated_in.1
theorem r_percolated_in : ∀ x0 x1, RefF m_percolated_in [x0, x1] jD (p_percolated_in x0 x1) := by unfold p_percolated_in; exact d_percolated_in.2
def b_percolated : Sm := sSeq (sE (mCall [false] m_check_net [.v (mV 0)])) (sSeq (sE (mCall [false, false] m_check_space [.v (mV 0), .v (mV 1)])) (sSeq (sR (mFz (mCall [false, false] m_percolated_in [.v (mV 0), .v (mV 1)]))) (sN)))
def m_percolated : MF := mFn [false, false] 2 b_percolated
def d_percolated : {p : D → D → R D // ∀ x0 x1, RefF m_percolated [x0, x1] jD (p x0 x1)} := ⟨fun x0 x1 => _, fun x0 x1 => fn_ref rfl (e := [_, _]) rfl (s_E (dCall (av (dV rfl (a0 (cD0 (r_check_net _) rfl rfl rfl rfl fun _ => (s_E (dCall (av (dV rfl (av (dV rfl (a0 (cD0 (r_check_space _ _) rfl rfl rfl rfl fun _ => (s_R (wFz (dCall (av (dV rfl (av (dV rfl (a0 (cD0 (r_percolated_in _ _) rfl rfl rfl rfl fun _ => (n_R (a := _) rfl))))))))))))))))))))))))⟩
@[irreducible] def p_percolated : D → D → R D := d_percolated.1
theorem r_percolated : ∀ x0 x1, RefF m_percolated [x0, x1] jD (p_percolated x0 x1) := by unfold p_percolated; exact d_percolated.2
def m_fixed_in_1 : Ex := mV 2
def m_fixed_in_2 : Ev → Re Bool := mT (mB gNe (.bo 3) (.ex (mC (.str "*"))))
def b_fixed_in : Sm := sSeq (sR (mLc [1, 2, 3] (.tp [2, 3]) (mIv gEnum [mV 0]) (m_fixed_in_2) (m_fixed_in_1))) (sN)
def m_fixed_in : MF := mFn [false] 4 b_fixed_in
def d_fixed_in : {p : D → R (List D) // ∀ x0, RefF m_fixed_in [x0] jL (p x0)} := ⟨fun x0 => _, fun x0 => fn_ref rfl (e := [_, _, _, _]) rfl (s_R (wLc (iIv (vc (dV rfl (v0 (fO fun _ => (fLc rfl (fun _ => (pu2 (en := fun _ _ => [_, _, _, _]) (fun _ _ => rfl) fun _ _ => (itC (yB (oB rfl (oE (dC (fT rfl rfl fun _ => (itS (elt (dV rfl (nEe rfl))) (nEe rfl)))))))))) fun _ => (n_R (a := _) rfl)))))))))⟩
@[irreducible] def p_fixed_in : D → R (List D) := d_fixed_in.1
theorem r_fixed_in : ∀ x0, RefF m_fixed_in [x0] jL (p_fixed_in x0) := by unfold p_fixed_in; exact d_fixed_in.2
def m_is_trap_in_1 : Ex := mCall [false, false, false, false] m_gives_all [.v (mV 0), .v (mV 3), .v (mB gIx (.bo 1) (.bo 3)), .v (mV 1)]
def b_is_trap_in : Sm := sSeq (sR (mFz (mCB (g1 gAll) [.ex (mLc [2, 3] (.nm 3) (iOr (mIt (mCall [false] m_fixed_in [.v (mV 1)])) (mIg (gD gKeys) (mCall [false] m_fixed_in [.v (mV 1)]))) (mYes) (m_is_trap_in_1))]))) (sN)
def m_is_trap_in : MF := mFn [false, false] 4 b_is_trap_in
def d_is_trap_in : {p : D → D → R D // ∀ x0 x1, RefF m_is_trap_in [x0, x1] jD (p x0 x1)} := ⟨fun x0 x1 => _, fun x0 x1 => fn_ref rfl (e := [_, _, _, _]) rfl (s_R (wFz (dCB (oc (oE (dLc (iIt (dCall (av (dV rfl (a0 (cL0 (r_fixed_in _) rfl rfl rfl rfl fun _ => (fO fun _ => (fLc rfl (fun _ => (pu1 (e1 := [_, _, _, _]) rfl (itY (elt (dCall (av (dV rfl (av (dV rfl (av (dB (oB rfl (oB rfl (fD rfl rfl fun _ => (av (dV rfl (a0 (cD0n (r_gives_all _ _ _ _) rfl rfl rfl fun _ => (nEe rfl))))))))))))))))))) fun _ => (o0 (fN rfl fun _ => (n_R (a := _) rfl)))))))))))))))))⟩
@[irreducible] def p_is_trap_in : D → D → R D := d_is_trap_in.1
theorem r_is_trap_in : ∀ x0 x1, RefF m_is_trap_in [x0, x1] jD (p_is_trap_in x0 x1) := by unfold p_is_trap_in; exact d_is_trap_in.2
def m_around_1 : Ex := mV 4
def m_around_2 : Ev → Re Bool := mT (mNot (mCall [false, false, false, false] m_gives_all [.v (mV 0), .v (mV 4), .v (mB gIx (.bo 1) (.bo 4)), .v (mV 1)]))
def m_around_3 : Ex := mIf (mB gIn (.bo 5) (.bo 2)) (mC (.str "*")) (mV 6)
def m_around_4 : Sm := sSeq (sA 2 (mLc [3, 4] (.nm 4) (iOr (mIt (mCall [false] m_fixed_in [.v (mV 1)])) (mIg (gD gKeys) (mCall [false] m_fixed_in [.v (mV 1)]))) (m_around_2) (m_around_1))) (sSeq (sFz [2]) (sSeq (sA 1 (mFz (mBM "str" (m1 gJoin) (.ex (mC (.str ""))) [.ex (mLc [3, 5, 6] (.tp [5, 6]) (mIv gEnum [mV 1]) (mYes) (m_around_3))]))) (sSeq (sK [2]) (sN))))
def m_around_5 : Ex := mNot (mCall [false, false] m_is_trap_in [.v (mV 0), .v (mV 1)])
def b_around : Sm := sSeq (sWhile 100000 m_around_5 m_around_4) (sSeq (sR (mFz (mV 1))) (sN))
def m_around : MF := mFn [false, false] 7 b_around
def d_around : {p : D → D → R D // ∀ x0 x1, RefF m_around [x0, x1] jD (p x0 x1)} := ⟨fun x0 x1 => _, fun x0 x1 => fn_ref rfl (e := [_, _, _, _, _, _, _]) rfl (s_Wh (τ := D) (up := fun E c => (E.set 1 (.fz c))) (en' := fun c => [_, _, _, _, _, _, _]) (c0 := _) (fun _ => rfl) rfl (fun _ => yW (yNot (yD (dCall (av (dV rfl (av (dV rfl (a0 (cD0 (r_is_trap_in _ _) rfl rfl rfl rfl fun _ => (fBo fun _ => (nEe rfl)))))))))))) (fun _ => (s_A (wLc (iIt (dCall (av (dV rfl (a0 (cL0 (r_fixed_in _) rfl rfl rfl rfl fun _ => (fO fun _ => (fLc rfl (fun _ => (pu1 (e1 := [_, _, _, _, _, _, _]) rfl (itC (yNot (yD (dCall (av (dV rfl (av (dV rfl (av (dB (oB rfl (oB rfl (fD rfl rfl fun _ => (av (dV rfl (a0 (cD0n (r_gives_all _ _ _ _) rfl rfl rfl fun _ => (fBo fun _ => (itS (elt (dV rfl (nEe rfl))) (nEe rfl)))))))))))))))))))))) fun _ => (f_P (e1 := [_, _, _, _, _, _, _]) rfl (s_F (e1 := [_, _, _, _, _, _, _]) rfl (s_A (wFz (dBM (oE (dC (fBM rfl (oc (oE (dLc (iIv (vc (dV rfl (v0 (fO fun _ => (fLc rfl (fun _ => (pu2 (en := fun _ _ => [_, _, _, _, _, _, _]) (fun _ _ => rfl) fun _ _ => (itY (elt (dIf (yB (oB rfl (oB rfl (fT rfl rfl fun _ => (jIf (dW (dC (nEe rfl))) (dW (dV rfl (nEe rfl))) fun _ => (nEe rfl))))))))))) fun _ => (o0 (fM rfl rfl fun _ => (f_P (e1 := [_, _, _, _, _, _, _]) rfl (s_K (e1 := [_, _, _, _, _, _, _]) rfl (n_L (t := _) rfl))))))))))))))))))))))))))))))))) fun _ => (s_R (wFz (dV rfl (n_R (a := _) rfl)))))⟩
@[irreducible] def p_around : D → D → R D := d_around.1
theorem r_around : ∀ x0 x1, RefF m_around [x0, x1] jD (p_around x0 x1) := by unfold p_around; exact d_around.2
def b_trap_around : Sm := sSeq (sE (mCall [false] m_check_net [.v (mV 0)])) (sSeq (sE (mCall [false, false] m_check_space [.v (mV 0), .v (mV 1)])) (sSeq (sR (mFz (mCall [false, false] m_around [.v (mV 0), .v (mV 1)]))) (sN)))
def m_trap_around : MF := mFn [false, false] 2 b_trap_around
def d_trap_around : {p : D → D → R D // ∀ x0 x1, RefF m_trap_around [x0, x1] jD (p x0 x1)} := ⟨fun x0 x1 => _, fun x0 x1 => fn_ref rfl (e := [_, _]) rfl (s_E (dCall (av (dV rfl (a0 (cD0 (r_check_net _) rfl rfl rfl rfl fun _ => (s_E (dCall (av (dV rfl (av (dV rfl (a0 (cD0 (r_check_space _ _) rfl rfl rfl rfl fun _ => (s_R (wFz (dCall (av (dV rfl (av (dV rfl (a0 (cD0 (r_around _ _) rfl rfl rfl rfl fun _ => (n_R (a := _) rfl))))))))))))))))))))))))⟩
@[irreducible] def p_trap_around : D → D → R D := d_trap_around.1
theorem r_trap_around : ∀ x0 x1, RefF m_trap_around [x0, x1] jD (p_trap_around x0 x1) := by unfold p_trap_around; exact d_trap_around.2
def b_check_state : Sm := sSeq (sIf (mNot (mCall [false, false, false] m_is_signs [.v (mV 1), .v (mCB (g1 gLen) [.bo 0]), .v (mC (.str "01"))])) (sSeq (sRaise "InvalidState" ["given"] [mV 1]) (sN)) (sN)) (sN)
def m_check_state : MF := mFn [false, false] 2 b_check_state
def d_check_state : {p : D → D → R D // ∀ x0 x1, RefF m_check_state [x0, x1] jD (p x0 x1)} := ⟨fun x0 x1 => _, fun x0 x1 => fn_ref rfl (e := [_, _]) rfl (s_If (yNot (yD (dCall (av (dV rfl (av (dCB (oc (oB rfl (o0 (fN rfl fun _ => (av (dC (a0 (cD0 (r_is_signs _ _ _) rfl rfl rfl rfl fun _ => (fBo fun _ => (n_If (s_as (s_Rz (vc (dV rfl (v0 (n_Rz rfl rfl)))))) (s_N (n_N (a := _) rfl))))))))))))))))))))⟩
@[irreducible] def p_check_state : D → D → R D := d_check_state.1
theorem r_check_state : ∀ x0 x1, RefF m_check_state [x0, x1] jD (p_check_state x0 x1) := by unfold p_check_state; exact d_check_state.2
def b_trap_of : Sm := sSeq (sE (mCall [false] m_check_net [.v (mV 0)])) (sSeq (sE (mCall [false, false] m_check_state [.v (mV 0), .v (mV 1)])) (sSeq (sR (mFz (mCall [false, false] m_around [.v (mV 0), .v (mV 1)]))) (sN)))
def m_trap_of : MF := mFn [false, false] 2 b_trap_of
def d_trap_of : {p : D → D → R D // ∀ x0 x1, RefF m_trap_of [x0, x1] jD (p x0 x1)} := ⟨fun x0 x1 => _, fun x0 x1 => fn_ref rfl (e := [_, _]) rfl (s_E (dCall (av (dV rfl (a0 (cD0 (r_check_net _) rfl rfl rfl rfl fun _ => (s_E (dCall (av (dV rfl (av (dV rfl (a0 (cD0 (r_check_state _ _) rfl rfl rfl rfl fun _ => (s_R (wFz (dCall (av (dV rfl (av (dV rfl (a0 (cD0 (r_around _ _) rfl rfl rfl rfl fun _ => (n_R (a := _) rfl))))))))))))))))))))))))⟩
@[irreducible] def p_trap_of : D → D → R D := d_trap_of.1
theorem r_trap_of : ∀ x0 x1, RefF m_trap_of [x0, x1] jD (p_trap_of x0 x1) := by unfold p_trap_of; exact d_trap_of.2
def m__law_asked_1 : Sm := sSeq (sIf (mB gEq (.bo 0) (.ex (mC (.str "around")))) (sSeq (sR (mLst [mC (.str "told"), mIf (mV 3) (mCallK [1, 0] m_trap_around [mV 2, mV 1]) (mCall [false, false] m_trap_around [.v (mV 1), .v (mV 2)])])) (sN)) (sN)) (sSeq (sIf (mB gEq (.bo 0) (.ex (mC (.str "percolated")))) (sSeq (sR (mLst [mC (.str "told"), mIf (mV 3) (mCallK [1, 0] m_percolated [mV 2, mV 1]) (mCall [false, false] m_percolated [.v (mV 1), .v (mV 2)])])) (sN)) (sN)) (sSeq (sR (mLst [mC (.str "told"), mIf (mV 3) (mCallK [1, 0] m_trap_of [mV 2, mV 1]) (mCall [false, false] m_trap_of [.v (mV 1), .v (mV 2)])])) (sN)))
def b__law_asked : Sm := sSeq (sTry errs m__law_asked_1 [("InvalidNetwork", some 4, sSeq (sR (mLst [mC (.str "net"), mAttr "InvalidNetwork" "given" 4])) (sN)), ("InvalidSpace", some 4, sSeq (sR (mLst [mC (.str "space"), mAttr "InvalidSpace" "given" 4])) (sN)), ("InvalidState", some 4, sSeq (sR (mLst [mC (.str "state"), mAttr "InvalidState" "given" 4])) (sN))]) (sN)
def m__law_asked : MF := mFn [false, false, false, false] 5 b__law_asked
def d__law_asked : {p : D → D → D → D → R (List D) // ∀ x0 x1 x2 x3, RefF m__law_asked [x0, x1, x2, x3] jL (p x0 x1 x2 x3)} := ⟨fun x0 x1 x2 x3 => _, fun x0 x1 x2 x3 => fn_ref rfl (e := [_, _, _, _, _]) rfl (s_Try (s_If (yB (oB rfl (oE (dC (fT rfl rfl fun _ => (n_If (s_as (s_R (wLst (vc (dC (vc (dIf (yD (dV rfl (fBo fun _ => (jIf (dW (dCallK (vc (dV rfl (vc (dV rfl (v0 (cK0 (r_trap_around _ _) rfl rfl fun _ => (nEe rfl))))))))) (dW (dCall (av (dV rfl (av (dV rfl (a0 (cD0 (r_trap_around _ _) rfl rfl rfl rfl fun _ => (nEe rfl))))))))) fun _ => (v0 (n_R (a := _) ⟨rfl, _, _, rfl⟩))))))))))))) (s_N (s_If (yB (oB rfl (oE (dC (fT rfl rfl fun _ => (n_If (s_as (s_R (wLst (vc (dC (vc (dIf (yD (dV rfl (fBo fun _ => (jIf (dW (dCallK (vc (dV rfl (vc (dV rfl (v0 (cK0 (r_percolated _ _) rfl rfl fun _ => (nEe rfl))))))))) (dW (dCall (av (dV rfl (av (dV rfl (a0 (cD0 (r_percolated _ _) rfl rfl rfl rfl fun _ => (nEe rfl))))))))) fun _ => (v0 (n_R (a := _) ⟨rfl, _, _, rfl⟩))))))))))))) (s_N (s_R (wLst (vc (dC (vc (dIf (yD (dV rfl (fBo fun _ => (jIf (dW (dCallK (vc (dV rfl (vc (dV rfl (v0 (cK0 (r_trap_of _ _) rfl rfl fun _ => (nEe rfl))))))))) (dW (dCall (av (dV rfl (av (dV rfl (a0 (cD0 (r_trap_of _ _) rfl rfl rfl rfl fun _ => (nEe rfl))))))))) fun _ => (v0 (n_R (a := _) ⟨rfl, _, _, rfl⟩)))))))))))))))))))))))))))) (fun _ _ => (h_N (e1 := [_, _, _, _, _]) rfl (s_R (wLst (vc (dC (vc (dAttr rfl fun _ => (v0 (n_R (a := _) ⟨rfl, _, _, rfl⟩)))))))) (h_N (e1 := [_, _, _, _, _]) rfl (s_R (wLst (vc (dC (vc (dAttr rfl fun _ => (v0 (n_R (a := _) ⟨rfl, _, _, rfl⟩)))))))) (h_N (e1 := [_, _, _, _, _]) rfl (s_R (wLst (vc (dC (vc (dAttr rfl fun _ => (v0 (n_R (a := _) ⟨rfl, _, _, rfl⟩)))))))) h_0)))))⟩
@[irreducible] def p__law_asked : D → D → D → D → R (List D) := d__law_asked.1
theorem r__law_asked : ∀ x0 x1 x2 x3, RefF m__law_asked [x0, x1, x2, x3] jL (p__law_asked x0 x1 x2 x3) := by unfold p__law_asked; exact d__law_asked.2
def b__law_box : Sm := sSeq (sR (mLst [mCB (g1 gAbs) [.bo 0], mB gGe (.ex (mCB (g1 gAbs) [.bo 0])) (.ex (mB gPow (.ex (mC (.int 10))) (.ex (mC (.int 18))))), mB gMod (.ex (mCB (g1 gInt) [.ex (mCB (g1 gAbs) [.bo 0])])) (.ex (mC (.int 2147483629))), mC (.int 0)])) (sN)
def m__law_box : MF := mFn [false] 1 b__law_box
def d__law_box : {p : D → R (List D) // ∀ x0, RefF m__law_box [x0] jL (p x0)} := ⟨fun x0 => _, fun x0 => fn_ref rfl (e := [_]) rfl (s_R (wLst (vc (dCB (oc (oB rfl (o0 (fN rfl fun _ => (vc (dT (yB (oE (dCB (oc (oB rfl (o0 (fN rfl fun _ => (oE (dB (oE (dC (oE (dC (fD rfl rfl fun _ => (fT rfl rfl fun _ => (vc (dB (oE (dCB (oc (oE (dCB (oc (oB rfl (o0 (fN rfl fun _ => (o0 (fN rfl fun _ => (oE (dC (fD rfl rfl fun _ => (vc (dC (v0 (n_R (a := _) rfl)))))))))))))))))))))))))))))))))))))))))))))⟩
@[irreducible] def p__law_box : D → R (List D) := d__law_box.1
theorem r__law_box : ∀ x0, RefF m__law_box [x0] jL (p__law_box x0) := by unfold p__law_box; exact d__law_box.2
def b__law_cell : Sm := sSeq (sR (mFz (mIf (mB gLt (.bo 1) (.ex (mCB (g1 gLen) [.bo 0]))) (mB gIx (.bo 0) (.bo 1)) (mB gAdd (.ex (mB gMul (.ex (mC (.int 7499))) (.bo 1))) (.ex (mB gMod (.ex (mCB (g1 gInt) [.ex (mCB (g1 gSum) [.ex (mSl (.bo 0) none (some (mC (.int 1))))])])) (.ex (mC (.int 1000003))))))))) (sN)
def m__law_cell : MF := mFn [false, false] 2 b__law_cell
def d__law_cell : {p : D → D → R D // ∀ x0 x1, RefF m__law_cell [x0, x1] jD (p x0 x1)} := ⟨fun x0 x1 => _, fun x0 x1 => fn_ref rfl (e := [_, _]) rfl (s_R (wFz (dIf (yB (oB rfl (oE (dCB (oc (oB rfl (o0 (fN rfl fun _ => (fT rfl rfl fun _ => (jIf (dW (dB (oB rfl (oB rfl (fD rfl rfl fun _ => (nEe rfl)))))) (dW (dB (oE (dB (oE (dC (oB rfl (fD rfl rfl fun _ => (oE (dB (oE (dCB (oc (oE (dCB (oc (oE (dSl (oB rfl (pn (ps (dC (fI fun _ => (fS rfl fun _ => (o0 (fN rfl fun _ => (o0 (fN rfl fun _ => (oE (dC (fD rfl rfl fun _ => (fD rfl rfl fun _ => (nEe rfl))))))))))))))))))))))))))))))))) fun _ => (n_R (a := _) rfl))))))))))))))⟩
@[irreducible] def p__law_cell : D → D → R D := d__law_cell.1
theorem r__law_cell : ∀ x0 x1, RefF m__law_cell [x0, x1] jD (p__law_cell x0 x1) := by unfold p__law_cell; exact d__law_cell.2
def b__law_take : Sm := sSeq (sIf (mAnd (mB gIx (.bo 0) (.ex (mC (.int 1)))) (mB gGt (.ex (mB gIx (.bo 0) (.ex (mC (.int 0))))) (.ex (mC (.int 0))))) (sSeq (sA 2 (mFz (mB gMod (.ex (mCB (g1 gInt) [.ex (mB gIx (.bo 0) (.ex (mC (.int 0))))])) (.bo 1)))) (sSeq (sPut 0 (mC (.int 0)) (mB gFdiv (.ex (mB gIx (.bo 0) (.ex (mC (.int 0))))) (.bo 1))) (sSeq (sR (mFz (mV 2))) (sN)))) (sN)) (sSeq (sPut 0 (mC (.int 3)) (mB gAdd (.ex (mB gIx (.bo 0) (.ex (mC (.int 3))))) (.ex (mC (.int 1))))) (sSeq (sA 3 (mFz (mB gMod (.ex (mCB (g1 gInt) [.ex (mB gPow (.ex (mB gAdd (.ex (mB gAdd (.ex (mB gIx (.bo 0) (.ex (mC (.int 2))))) (.ex (mB gMul (.ex (mC (.int 15487481))) (.ex (mB gIx (.bo 0) (.ex (mC (.int 3))))))))) (.ex (mC (.int 179426339))))) (.ex (mC (.int 5))))])) (.ex (mC (.int 2147483647)))))) (sSeq (sR (mFz (mB gMod (.ex (mCB (g1 gInt) [.ex (mB gFdiv (.ex (mB gMod (.ex (mCB (g1 gInt) [.ex (mB gPow (.ex (mB gAdd (.ex (mB gMul (.bo 3) (.ex (mC (.int 48271))))) (.ex (mB gMul (.ex (mC (.int 104789))) (.ex (mB gIx (.bo 0) (.ex (mC (.int 3))))))))) (.ex (mC (.int 3))))])) (.ex (mC (.int 2147483587))))) (.ex (mC (.int 64))))])) (.bo 1)))) (sN))))
def m__law_take : MF := mFn [true, false] 4 b__law_take
def d__law_take : {p : (List D) → D → R (D × List D) // ∀ x0 x1, RefI m__law_take [.list x0, x1] jD1 (p x0 x1)} := ⟨fun x0 x1 => _, fun x0 x1 => fn_refI rfl (e := [_, _, _, _]) rfl (s_If (yAnd (yD (dB (oB rfl (oE (dC (fD rfl rfl fun _ => (fBo fun _ => (jAnd (yW (yB (oE (dB (oB rfl (oE (dC (fD rfl rfl fun _ => (oE (dC (fT rfl rfl fun _ => (nEe rfl)))))))))))) fun _ => (n_If (s_as (s_A (wFz (dB (oE (dCB (oc (oE (dB (oB rfl (oE (dC (fD rfl rfl fun _ => (o0 (fN rfl fun _ => (oB rfl (fD rfl rfl fun _ => (f_P (e1 := [_, _, _, _]) rfl (s_as (s_S (dB (oE (dB (oB rfl (oE (dC (fD rfl rfl fun _ => (oB rfl (fD rfl rfl fun _ => (f_S rfl (dC (f_S2 (en := fun _ => [_, _, _, _]) rfl (fun _ => rfl) fun _ => (s_as (s_R (wFz (dV rfl (n_R (a := (_, _)) rfl))))))))))))))))))))))))))))))))))))) (s_N (s_S (dB (oE (dB (oB rfl (oE (dC (fD rfl rfl fun _ => (oE (dC (fD rfl rfl fun _ => (f_S rfl (dC (f_S2 (en := fun _ => [_, _, _, _]) rfl (fun _ => rfl) fun _ => (s_A (wFz (dB (oE (dCB (oc (oE (dB (oE (dB (oE (dB (oE (dB (oB rfl (oE (dC (fD rfl rfl fun _ => (oE (dB (oE (dC (oE (dB (oB rfl (oE (dC (fD rfl rfl fun _ => (fD rfl rfl fun _ => (fD rfl rfl fun _ => (oE (dC (fD rfl rfl fun _ => (oE (dC (fD rfl rfl fun _ => (o0 (fN rfl fun _ => (oE (dC (fD rfl rfl fun _ => (f_P (e1 := [_, _, _, _]) rfl (s_R (wFz (dB (oE (dCB (oc (oE (dB (oE (dB (oE (dCB (oc (oE (dB (oE (dB (oE (dB (oB rfl (oE (dC (fD rfl rfl fun _ => (oE (dB (oE (dC (oE (dB (oB rfl (oE (dC (fD rfl rfl fun _ => (fD rfl rfl fun _ => (fD rfl rfl fun _ => (oE (dC (fD rfl rfl fun _ => (o0 (fN rfl fun _ => (oE (dC (fD rfl rfl fun _ => (oE (dC (fD rfl rfl fun _ => (o0 (fN rfl fun _ => (oB rfl (fD rfl rfl fun _ => (n_R (a := (_, _)) rfl)))))))))))))))))))))))))))))))))))))))))))))))))))))))))))))))))))))))))))))))))))))))))))))))))))))))))))))))))))))))⟩
@[irreducible] def p__law_take : (List D) → D → R (D × List D) := d__law_take.1
theorem r__law_take : ∀ x0 x1, RefI m__law_take [.list x0, x1] jD1 (p__law_take x0 x1) := by unfold p__law_take; exact d__law_take.2
def m__law_mixed_1 : Sm := sSeq (sE (mApp 3 (mPopAt 2 (mCall [true, false] m__law_take [.b 0, .v (mCB (g1 gLen) [.bo 2])])))) (sN)
def m__law_mixed_2 : Ex := mB gNe (.bo 2) (.ex (mLst []))
def b__law_mixed : Sm := sSeq (sPar [2, 3] [mLr [mV 1], mLst []]) (sSeq (sWhile 100000 m__law_mixed_2 m__law_mixed_1) (sSeq (sR (mM 3)) (sN)))
def m__law_mixed : MF := mFn [true, false] 4 b__law_mixed
def d__law_mixed : {p : (List D) → D → R (List D × List D) // ∀ x0 x1, RefI m__law_mixed [.list x0, x1] jL1 (p x0 x1)} := ⟨fun x0 x1 => _, fun x0 x1 => fn_refI rfl (e := [_, _, _, _]) rfl (s_P (τ := (List D) × (List D)) (up := fun E c => E) (vr := fun c => [.fl c.1, .fl c.2]) (en := fun c => [_, _, _, _]) (en2 := fun c => [_, _, _, _]) (fun _ => rfl) (rc (wLr (vc (dV rfl (v0 (fO fun _ => (rc (wLst (v0 (r0 (n_P (t := (_, _)) rfl rfl))))))))))) (fun _ => rfl) fun _ => (s_Wh (τ := (List D) × (List D) × (List D)) (up := fun E c => (((E.set 0 (.io 0 c.1)).set 2 (.ol c.2.1)).set 3 (.ol c.2.2))) (en' := fun c => [_, _, _, _]) (c0 := (_, _, _)) (fun _ => rfl) rfl (fun _ => yW (yB (oB rfl (oE (dLst (v0 (fT rfl rfl fun _ => (nEe rfl)))))))) (fun _ => (s_E (dApp rfl (dPopAt rfl (dCall (ab rfl (av (dCB (oc (oB rfl (o0 (fN rfl fun _ => (a0 (cD1 (en := fun _ => [_, _, _, _]) (r__law_take _ _) rfl rfl rfl (fun _ => rfl) fun _ _ => (fPop (en := fun _ => [_, _, _, _]) rfl (fun _ => rfl) fun _ _ => (fApp (e1 := [_, _, _, _]) rfl rfl (n_L (t := (_, _, _)) rfl))))))))))))))))) fun _ => (s_R (wMo (e1 := [_, _, _, _]) rfl rfl (n_R (a := (_, _)) rfl)))))⟩
@[irreducible] def p__law_mixed : (List D) → D → R (List D × List D) := d__law_mixed.1
theorem r__law_mixed : ∀ x0 x1, RefI m__law_mixed [.list x0, x1] jL1 (p__law_mixed x0 x1) := by unfold p__law_mixed; exact d__law_mixed.2
def m__law_words_1 : Sm := sSeq (sE (mExt 3 (mLst [mB gAdd (.bo 4) (.ex (mC (.str "0"))), mB gAdd (.bo 4) (.ex (mC (.str "1")))]))) (sSeq (sK [4]) (sN))
def m__law_words_2 : Sm := sSeq (sA 3 (mLst [])) (sSeq (sFor (.nm 4) (iOr (mIt (mV 1)) (mIg (gD gKeys) (mV 1))) m__law_words_1) (sSeq (sA 1 (mFz (mM 3))) (sSeq (sK [2, 3, 4]) (sN))))
def b__law_words : Sm := sSeq (sA 1 (mFz (mLst [mC (.str "")]))) (sSeq (sFor (.nm 2) (mIv gRng1 [mV 0]) m__law_words_2) (sSeq (sR (mFz (mV 1))) (sN)))
def m__law_words : MF := mFn [false] 5 b__law_words
def d__law_words : {p : D → R D // ∀ x0, RefF m__law_words [x0] jD (p x0)} := ⟨fun x0 => _, fun x0 => fn_ref rfl (e := [_, _, _, _, _]) rfl (s_A (wFz (dLst (vc (dC (v0 (f_P (e1 := [_, _, _, _, _]) rfl (s_For (iIv (vc (dV rfl (v0 (fO fun _ => (f_For (τ := D) (up := fun E c => (E.set 1 (.fz c))) (en' := fun c => [_, _, _, _, _]) (c0 := _) (fun _ => rfl) rfl (fun _ _ => (u1 (e1 := [_, _, _, _, _]) rfl (s_A (wLst (v0 (f_P (e1 := [_, _, _, _, _]) rfl (s_For (iIt (dV rfl (fO fun _ => (f_For (τ := (List D)) (up := fun E c => (E.set 3 (.ol c))) (en' := fun c => [_, _, _, _, _]) (c0 := _) (fun _ => rfl) rfl (fun _ _ => (u1 (e1 := [_, _, _, _, _]) rfl (s_E (dExt rfl (wLst (vc (dB (oB rfl (oE (dC (fD rfl rfl fun _ => (vc (dB (oB rfl (oE (dC (fD rfl rfl fun _ => (v0 (fExt (e1 := [_, _, _, _, _]) rfl rfl (s_K (e1 := [_, _, _, _, _]) rfl (n_L (t := _) rfl))))))))))))))))))))) fun _ => (s_A (wFz (dMo (e1 := [_, _, _, _, _]) rfl rfl (f_P (e1 := [_, _, _, _, _]) rfl (s_K (e1 := [_, _, _, _, _]) rfl (n_L (t := _) rfl))))))))))))))))) fun _ => (s_R (wFz (dV rfl (n_R (a := _) rfl))))))))))))))))))⟩
@[irreducible] def p__law_words : D → R D := d__law_words.1
theorem r__law_words : ∀ x0, RefF m__law_words [x0] jD (p__law_words x0) := by unfold p__law_words; exact d__law_words.2
def m__law_table_1 : Ex := mIf (mB gNotIn (.ex (mC (.str "0"))) (.bo 7)) (mC (.str "1")) (mC (.str "0"))
def m__law_table_2 : Ex := mIf (mB gIn (.ex (mC (.str "1"))) (.bo 7)) (mC (.str "1")) (mC (.str "0"))
def m__law_table_3 : Ex := mB gIx (.ex (mC (.str "01"))) (.ex (mB gMod (.ex (mCB (g1 gInt) [.ex (mB gAdd (.ex (mBM "str" (m1 (gSS fun a b => .int (Txt.count a b))) (.bo 7) [.ex (mC (.str "1"))])) (.bo 4))])) (.ex (mC (.int 2)))))
def m__law_table_4 : Ex := mB gIx (.ex (mC (.str "01"))) (.ex (mB gMod (.ex (mCB (g1 gInt) [.ex (mB gAdd (.ex (mCB (g1 gInt) [.ex (mB gEq (.ex (mSl (.bo 7) none (some (mC (.int 1))))) (.ex (mC (.str "1"))))])) (.bo 5))])) (.ex (mC (.int 2)))))
def m__law_table_5 : Ex := mB gIx (.ex (mC (.str "01"))) (.ex (mCall [true, false] m__law_take [.b 0, .v (mC (.int 2))]))
def b__law_table : Sm := sSeq (sPar [2, 3] [mFz (mCall [false] m__law_words [.v (mV 1)]), mFz (mCall [true, false] m__law_take [.b 0, .v (mC (.int 7))])]) (sSeq (sIf (mB gEq (.bo 3) (.ex (mC (.int 2)))) (sSeq (sR (mFz (mBM "str" (m1 gJoin) (.ex (mC (.str ""))) [.ex (mLc [6, 7] (.nm 7) (iOr (mIt (mV 2)) (mIg (gD gKeys) (mV 2))) (mYes) (m__law_table_1))]))) (sN)) (sN)) (sSeq (sIf (mB gEq (.bo 3) (.ex (mC (.int 3)))) (sSeq (sR (mFz (mBM "str" (m1 gJoin) (.ex (mC (.str ""))) [.ex (mLc [6, 7] (.nm 7) (iOr (mIt (mV 2)) (mIg (gD gKeys) (mV 2))) (mYes) (m__law_table_2))]))) (sN)) (sN)) (sSeq (sIf (mB gEq (.bo 3) (.ex (mC (.int 4)))) (sSeq (sA 4 (mFz (mCall [true, false] m__law_take [.b 0, .v (mC (.int 2))]))) (sSeq (sR (mFz (mBM "str" (m1 gJoin) (.ex (mC (.str ""))) [.ex (mLc [6, 7] (.nm 7) (iOr (mIt (mV 2)) (mIg (gD gKeys) (mV 2))) (mYes) (m__law_table_3))]))) (sN))) (sN)) (sSeq (sIf (mB gEq (.bo 3) (.ex (mC (.int 5)))) (sSeq (sA 5 (mFz (mCall [true, false] m__law_take [.b 0, .v (mC (.int 2))]))) (sSeq (sR (mFz (mBM "str" (m1 gJoin) (.ex (mC (.str ""))) [.ex (mLc [6, 7] (.nm 7) (iOr (mIt (mV 2)) (mIg (gD gKeys) (mV 2))) (mYes) (m__law_table_4))]))) (sN))) (sN)) (sSeq (sIf (mB gEq (.bo 3) (.ex (mC (.int 6)))) (sSeq (sR (mFz (mB gMul (.ex (mB gIx (.ex (mC (.str "01"))) (.ex (mCall [true, false] m__law_take [.b 0, .v (mC (.int 2))])))) (.ex (mCB (g1 gLen) [.bo 2]))))) (sN)) (sN)) (sSeq (sR (mFz (mBM "str" (m1 gJoin) (.ex (mC (.str ""))) [.ex (mLc [6, 7] (.nm 7) (iOr (mIt (mV 2)) (mIg (gD gKeys) (mV 2))) (mYes) (m__law_table_5))]))) (sN)))))))
def m__law_table : MF := mFn [true, false] 8 b__law_table
def d__law_table : {p : (List D) → D → R (D × List D) // ∀ x0 x1, RefI m__law_table [.list x0, x1] jD1 (p x0 x1)} := ⟨fun x0 x1 => _, fun x0 x1 => fn_refI rfl (e := [_, _, _, _, _, _, _, _]) rfl (s_P (τ := (D) × (D) × ((List D))) (up := fun E c => (E.set 0 (.io 0 c.2.2))) (vr := fun c => [.v c.1, .v c.2.1]) (en := fun c => [_, _, _, _, _, _, _, _]) (en2 := fun c => [_, _, _, _, _, _, _, _]) (fun _ => rfl) (rc (wFz (dCall (av (dV rfl (a0 (cD0n (r__law_words _) rfl rfl rfl fun _ => (rc (wFz (dCall (ab rfl (av (dC (a0 (cD1 (en := fun _ => [_, _, _, _, _, _, _, _]) (r__law_take _ _) rfl rfl rfl (fun _ => rfl) fun _ _ => (r0 (n_P (t := (_, _, _)) rfl rfl))))))))))))))))) (fun _ => rfl) fun _ => (s_If (yB (oB rfl (oE (dC (fT rfl rfl fun _ => (n_If (s_as (s_R (wFz (dBM (oE (dC (fBM rfl (oc (oE (dLc (iIt (dV rfl (fO fun _ => (fLc rfl (fun _ => (pu1 (e1 := [_, _, _, _, _, _, _, _]) rfl (itY (elt (dIf (yB (oE (dC (oB rfl (fT rfl rfl fun _ => (jIf (dW (dC (nEe rfl))) (dW (dC (nEe rfl))) fun _ => (nEe rfl)))))))))))) fun _ => (o0 (fM rfl rfl fun _ => (n_R (a := (_, _)) rfl))))))))))))))))) (s_N (s_If (yB (oB rfl (oE (dC (fT rfl rfl fun _ => (n_If (s_as (s_R (wFz (dBM (oE (dC (fBM rfl (oc (oE (dLc (iIt (dV rfl (fO fun _ => (fLc rfl (fun _ => (pu1 (e1 := [_, _, _, _, _, _, _, _]) rfl (itY (elt (dIf (yB (oE (dC (oB rfl (fT rfl rfl fun _ => (jIf (dW (dC (nEe rfl))) (dW (dC (nEe rfl))) fun _ => (nEe rfl)))))))))))) fun _ => (o0 (fM rfl rfl fun _ => (n_R (a := (_, _)) rfl))))))))))))))))) (s_N (s_If (yB (oB rfl (oE (dC (fT rfl rfl fun _ => (n_If (s_as (s_A (wFz (dCall (ab rfl (av (dC (a0 (cD1 (en := fun _ => [_, _, _, _, _, _, _, _]) (r__law_take _ _) rfl rfl rfl (fun _ => rfl) fun _ _ => (f_P (e1 := [_, _, _, _, _, _, _, _]) rfl (s_as (s_R (wFz (dBM (oE (dC (fBM rfl (oc (oE (dLc (iIt (dV rfl (fO fun _ => (fLc rfl (fun _ => (pu1 (e1 := [_, _, _, _, _, _, _, _]) rfl (itY (elt (dB (oE (dC (oE (dB (oE (dCB (oc (oE (dB (oE (dBM (oB rfl (fBM rfl (oc (oE (dC (o0 (fM rfl rfl fun _ => (oB rfl (fD rfl rfl fun _ => (o0 (fN rfl fun _ => (oE (dC (fD rfl rfl fun _ => (fD rfl rfl fun _ => (nEe rfl)))))))))))))))))))))))))))))))) fun _ => (o0 (fM rfl rfl fun _ => (n_R (a := (_, _)) rfl))))))))))))))))))))))))))) (s_N (s_If (yB (oB rfl (oE (dC (fT rfl rfl fun _ => (n_If (s_as (s_A (wFz (dCall (ab rfl (av (dC (a0 (cD1 (en := fun _ => [_, _, _, _, _, _, _, _]) (r__law_take _ _) rfl rfl rfl (fun _ => rfl) fun _ _ => (f_P (e1 := [_, _, _, _, _, _, _, _]) rfl (s_as (s_R (wFz (dBM (oE (dC (fBM rfl (oc (oE (dLc (iIt (dV rfl (fO fun _ => (fLc rfl (fun _ => (pu1 (e1 := [_, _, _, _, _, _, _, _]) rfl (itY (elt (dB (oE (dC (oE (dB (oE (dCB (oc (oE (dB (oE (dCB (oc (oE (dT (yB (oE (dSl (oB rfl (pn (ps (dC (fI fun _ => (fS rfl fun _ => (oE (dC (fT rfl rfl fun _ => (o0 (fN rfl fun _ => (oB rfl (fD rfl rfl fun _ => (o0 (fN rfl fun _ => (oE (dC (fD rfl rfl fun _ => (fD rfl rfl fun _ => (nEe rfl)))))))))))))))))))))))))))))))))))))))))) fun _ => (o0 (fM rfl rfl fun _ => (n_R (a := (_, _)) rfl))))))))))))))))))))))))))) (s_N (s_If (yB (oB rfl (oE (dC (fT rfl rfl fun _ => (n_If (s_as (s_R (wFz (dB (oE (dB (oE (dC (oE (dCall (ab rfl (av (dC (a0 (cD1 (en := fun _ => [_, _, _, _, _, _, _, _]) (r__law_take _ _) rfl rfl rfl (fun _ => rfl) fun _ _ => (fD rfl rfl fun _ => (oE (dCB (oc (oB rfl (o0 (fN rfl fun _ => (fD rfl rfl fun _ => (n_R (a := (_, _)) rfl)))))))))))))))))))))))) (s_N (s_R (wFz (dBM (oE (dC (fBM rfl (oc (oE (dLc (iIt (dV rfl (fO fun _ => (fLcS (τ := (List D)) (up := fun E c => (E.set 0 (.io 0 c))) (en' := fun c => [_, _, _, _, _, _, _, _]) (c0 := _) (fun _ => rfl) rfl rfl (fun _ _ => (pu1 (e1 := [_, _, _, _, _, _, _, _]) rfl (itY (elt (dB (oE (dC (oE (dCall (ab rfl (av (dC (a0 (cD1 (en := fun _ => [_, _, _, _, _, _, _, _]) (r__law_take _ _) rfl rfl rfl (fun _ => rfl) fun _ _ => (fD rfl rfl fun _ => (nSe (t := _) rfl)))))))))))))))) fun _ _ => (o0 (fM rfl rfl fun _ => (n_R (a := (_, _)) rfl)))))))))))))))))))))))))))))))))))))))))))))))))))))))))⟩
@[irreducible] def p__law_table : (List D) → D → R (D × List D) := d__law_table.1
theorem r__law_table : ∀ x0 x1, RefI m__law_table [.list x0, x1] jD1 (p__law_table x0 x1) := by unfold p__law_table; exact d__law_table.2
def m__law_net_1 : Sm := sSeq (sA 4 (mFz (mCall [true, false] m__law_take [.b 0, .v (mB gAdd (.ex (mCB (gMin) [.ex (mC (.int 3)), .bo 1])) (.ex (mC (.int 1))))]))) (sSeq (sA 5 (mFz (mCB (g1 gTuple) [.ex (mCB (g1 gSorted) [.ex (mSl (.ex (mCall [true, false] m__law_mixed [.b 0, .v (mV 1)])) none (some (mV 4)))])]))) (sSeq (sE (mApp 2 (mTup [mV 5, mCall [true, false] m__law_table [.b 0, .v (mV 4)]]))) (sSeq (sK [3, 4, 5]) (sN))))
def b__law_net : Sm := sSeq (sA 2 (mLst [])) (sSeq (sFor (.nm 3) (mIv gRng1 [mV 1]) m__law_net_1) (sSeq (sR (mFz (mCB (g1 gTuple) [.bo 2]))) (sN)))
def m__law_net : MF := mFn [true, false] 6 b__law_net
def d__law_net : {p : (List D) → D → R (D × List D) // ∀ x0 x1, RefI m__law_net [.list x0, x1] jD1 (p x0 x1)} := ⟨fun x0 x1 => _, fun x0 x1 => fn_refI rfl (e := [_, _, _, _, _, _]) rfl (s_A (wLst (v0 (f_P (e1 := [_, _, _, _, _, _]) rfl (s_For (iIv (vc (dV rfl (v0 (fO fun _ => (f_For (τ := (List D) × (List D)) (up := fun E c => ((E.set 0 (.io 0 c.1)).set 2 (.ol c.2))) (en' := fun c => [_, _, _, _, _, _]) (c0 := (_, _)) (fun _ => rfl) rfl (fun _ _ => (u1 (e1 := [_, _, _, _, _, _]) rfl (s_A (wFz (dCall (ab rfl (av (dB (oE (dCB (oc (oE (dC (oc (oB rfl (o0 (fN rfl fun _ => (oE (dC (fD rfl rfl fun _ => (a0 (cD1 (en := fun _ => [_, _, _, _, _, _]) (r__law_take _ _) rfl rfl rfl (fun _ => rfl) fun _ _ => (f_P (e1 := [_, _, _, _, _, _]) rfl (s_A (wFz (dCB (oc (oE (dCB (oc (oE (dSl (oE (dCall (ab rfl (av (dV rfl (a0 (cL1 (en := fun _ => [_, _, _, _, _, _]) (r__law_mixed _ _) rfl rfl rfl (fun _ => rfl) fun _ _ => (pn (ps (dV rfl (fI fun _ => (fS rfl fun _ => (o0 (fN rfl fun _ => (o0 (fN rfl fun _ => (f_P (e1 := [_, _, _, _, _, _]) rfl (s_E (dApp rfl (dTup (vc (dV rfl (vc (dCall (ab rfl (av (dV rfl (a0 (cD1 (en := fun _ => [_, _, _, _, _, _]) (r__law_table _ _) rfl rfl rfl (fun _ => rfl) fun _ _ => (v0 (fApp (e1 := [_, _, _, _, _, _]) rfl rfl (s_K (e1 := [_, _, _, _, _, _]) rfl (n_L (t := (_, _)) rfl))))))))))))))))))))))))))))))))))))))))))))))))))))))))))))))))) fun _ => (s_R (wFz (dCB (oc (oB rfl (o0 (fN rfl fun _ => (n_R (a := (_, _)) rfl)))))))))))))))))))⟩
@[irreducible] def p__law_net : (List D) → D → R (D × List D) := d__law_net.1
theorem r__law_net : ∀ x0 x1, RefI m__law_net [.list x0, x1] jD1 (p__law_net x0 x1) := by unfold p__law_net; exact d__law_net.2
def b__law_pick : Sm := sSeq (sR (mFz (mB gIx (.bo 1) (.ex (mCall [true, false] m__law_take [.b 0, .v (mCB (g1 gLen) [.bo 1])]))))) (sN)
def m__law_pick : MF := mFn [true, false] 2 b__law_pick
def d__law_pick : {p : (List D) → D → R (D × List D) // ∀ x0 x1, RefI m__law_pick [.list x0, x1] jD1 (p x0 x1)} := ⟨fun x0 x1 => _, fun x0 x1 => fn_refI rfl (e := [_, _]) rfl (s_R (wFz (dB (oB rfl (oE (dCall (ab rfl (av (dCB (oc (oB rfl (o0 (fN rfl fun _ => (a0 (cD1 (en := fun _ => [_, _]) (r__law_take _ _) rfl rfl rfl (fun _ => rfl) fun _ _ => (fD rfl rfl fun _ => (n_R (a := (_, _)) rfl)))))))))))))))))⟩
@[irreducible] def p__law_pick : (List D) → D → R (D × List D) := d__law_pick.1
theorem r__law_pick : ∀ x0 x1, RefI m__law_pick [.list x0, x1] jD1 (p__law_pick x0 x1) := by unfold p__law_pick; exact d__law_pick.2
def m__law_drawn_net_1 : Sm := sSeq (sA 8 (mFz (mSl (.bo 5) none (some (mBM "list" (m1 gIndexL) (.bo 5) [.bo 7]))))) (sSeq (sA 9 (mFz (mCB (g1 gTuple) [.ex (mCB (g1 gSorted) [.ex (mSl (.bo 8) none (some (mCall [true, false] m__law_take [.b 0, .v (mC (.int 3))])))])]))) (sSeq (sE (mApp 6 (mTup [mV 9, mCall [true, false] m__law_table [.b 0, .v (mCB (g1 gLen) [.bo 9])]]))) (sSeq (sK [7, 8, 9]) (sN))))
def m__law_drawn_net_2 : Ex := mTup [mTup [mB gIx (.bo 5) (.ex (mB gMod (.ex (mCB (g1 gInt) [.ex (mB gSub (.ex (mBM "list" (m1 gIndexL) (.bo 5) [.bo 7])) (.ex (mC (.int 1))))])) (.bo 2)))], mCall [true, false] m__law_pick [.b 0, .v (mLst [mC (.str "01"), mC (.str "10")])]]
def m__law_drawn_net_3 : Ex := mTup [mTup [mV 7], mCall [true, false] m__law_pick [.b 0, .v (mLst [mC (.str "01"), mC (.str "01"), mC (.str "00"), mC (.str "11"), mC (.str "10")])]]
def m__law_drawn_net_4 : Ex := mIf (mB gNotIn (.ex (mC (.str "0"))) (.bo 12)) (mC (.str "1")) (mC (.str "0"))
def m__law_drawn_net_5 : Ex := mTup [mV 9, mBM "str" (m1 gJoin) (.ex (mC (.str ""))) [.ex (mLc [10, 12] (.nm 12) (iOr (mIt (mCall [false] m__law_words [.v (mCB (g1 gLen) [.bo 9])])) (mIg (gD gKeys) (mCall [false] m__law_words [.v (mCB (g1 gLen) [.bo 9])]))) (mYes) (m__law_drawn_net_4))]]
def b__law_drawn_net : Sm := sSeq (sPar [2, 3] [mFz (mB gAdd (.ex (mC (.int 1))) (.ex (mCall [true, false] m__law_take [.b 0, .v (mV 1)]))), mFz (mCall [true, false] m__law_take [.b 0, .v (mC (.int 7))])]) (sSeq (sA 4 (mFz (mCall [true, false] m__law_net [.b 0, .v (mV 2)]))) (sSeq (sA 5 (mFz (mCall [true, false] m__law_mixed [.b 0, .v (mV 2)]))) (sSeq (sIf (mB gEq (.bo 3) (.ex (mC (.int 0)))) (sSeq (sA 6 (mLst [])) (sSeq (sFor (.nm 7) (mIv gRng1 [mV 2]) m__law_drawn_net_1) (sSeq (sR (mFz (mCB (g1 gTuple) [.bo 6]))) (sN)))) (sN)) (sSeq (sIf (mB gEq (.bo 3) (.ex (mC (.int 1)))) (sSeq (sR (mFz (mCB (g1 gTuple) [.ex (mLc [10, 7] (.nm 7) (mIv gRng1 [mV 2]) (mYes) (m__law_drawn_net_2))]))) (sN)) (sN)) (sSeq (sIf (mB gEq (.bo 3) (.ex (mC (.int 2)))) (sSeq (sR (mFz (mCB (g1 gTuple) [.ex (mLc [10, 7] (.nm 7) (mIv gRng1 [mV 2]) (mYes) (m__law_drawn_net_3))]))) (sN)) (sN)) (sSeq (sIf (mB gEq (.bo 3) (.ex (mC (.int 3)))) (sSeq (sR (mFz (mCB (g1 gTuple) [.ex (mLc [10, 9, 11] (.tp [9, 11]) (iOr (mIt (mV 4)) (mIg (gD gKeys) (mV 4))) (mYes) (m__law_drawn_net_5))]))) (sN)) (sN)) (sSeq (sR (mFz (mV 4))) (sN))))))))
def m__law_drawn_net : MF := mFn [true, false] 13 b__law_drawn_net
def d__law_drawn_net : {p : (List D) → D → R (D × List D) // ∀ x0 x1, RefI m__law_drawn_net [.list x0, x1] jD1 (p x0 x1)} := ⟨fun x0 x1 => _, fun x0 x1 => fn_refI rfl (e := [_, _, _, _, _, _, _, _, _, _, _, _, _]) rfl (s_P (τ := (D) × (D) × ((List D))) (up := fun E c => (E.set 0 (.io 0 c.2.2))) (vr := fun c => [.v c.1, .v c.2.1]) (en := fun c => [_, _, _, _, _, _, _, _, _, _, _, _, _]) (en2 := fun c => [_, _, _, _, _, _, _, _, _, _, _, _, _]) (fun _ => rfl) (rc (wFz (dB (oE (dC (oE (dCall (ab rfl (av (dV rfl (a0 (cD1 (en := fun _ => [_, _, _, _, _, _, _, _, _, _, _, _, _]) (r__law_take _ _) rfl rfl rfl (fun _ => rfl) fun _ _ => (fD rfl rfl fun _ => (rc (wFz (dCall (ab rfl (av (dC (a0 (cD1 (en := fun _ => [_, _, _, _, _, _, _, _, _, _, _, _, _]) (r__law_take _ _) rfl rfl rfl (fun _ => rfl) fun _ _ => (r0 (n_P (t := (_, _, _)) rfl rfl))))))))))))))))))))))) (fun _ => rfl) fun _ => (s_A (wFz (dCall (ab rfl (av (dV rfl (a0 (cD1 (en := fun _ => [_, _, _, _, _, _, _, _, _, _, _, _, _]) (r__law_net _ _) rfl rfl rfl (fun _ => rfl) fun _ _ => (f_P (e1 := [_, _, _, _, _, _, _, _, _, _, _, _, _]) rfl (s_A (wFz (dCall (ab rfl (av (dV rfl (a0 (cL1 (en := fun _ => [_, _, _, _, _, _, _, _, _, _, _, _, _]) (r__law_mixed _ _) rfl rfl rfl (fun _ => rfl) fun _ _ => (f_P (e1 := [_, _, _, _, _, _, _, _, _, _, _, _, _]) rfl (s_If (yB (oB rfl (oE (dC (fT rfl rfl fun _ => (n_If (s_as (s_A (wLst (v0 (f_P (e1 := [_, _, _, _, _, _, _, _, _, _, _, _, _]) rfl (s_as (s_For (iIv (vc (dV rfl (v0 (fO fun _ => (f_For (τ := (List D) × (List D)) (up := fun E c => ((E.set 0 (.io 0 c.1)).set 6 (.ol c.2))) (en' := fun c => [_, _, _, _, _, _, _, _, _, _, _, _, _]) (c0 := (_, _)) (fun _ => rfl) rfl (fun _ _ => (u1 (e1 := [_, _, _, _, _, _, _, _, _, _, _, _, _]) rfl (s_A (wFz (dSl (oB rfl (pn (ps (dBM (oB rfl (fBM rfl (oc (oB rfl (o0 (fM rfl rfl fun _ => (fI fun _ => (fS rfl fun _ => (f_P (e1 := [_, _, _, _, _, _, _, _, _, _, _, _, _]) rfl (s_A (wFz (dCB (oc (oE (dCB (oc (oE (dSl (oB rfl (pn (ps (dCall (ab rfl (av (dC (a0 (cD1 (en := fun _ => [_, _, _, _, _, _, _, _, _, _, _, _, _]) (r__law_take _ _) rfl rfl rfl (fun _ => rfl) fun _ _ => (fI fun _ => (fS rfl fun _ => (o0 (fN rfl fun _ => (o0 (fN rfl fun _ => (f_P (e1 := [_, _, _, _, _, _, _, _, _, _, _, _, _]) rfl (s_E (dApp rfl (dTup (vc (dV rfl (vc (dCall (ab rfl (av (dCB (oc (oB rfl (o0 (fN rfl fun _ => (a0 (cD1 (en := fun _ => [_, _, _, _, _, _, _, _, _, _, _, _, _]) (r__law_table _ _) rfl rfl rfl (fun _ => rfl) fun _ _ => (v0 (fApp (e1 := [_, _, _, _, _, _, _, _, _, _, _, _, _]) rfl rfl (s_K (e1 := [_, _, _, _, _, _, _, _, _, _, _, _, _]) rfl (n_L (t := (_, _)) rfl))))))))))))))))))))))))))))))))))))))))))))))))))))))))))))))) fun _ => (s_as (s_R (wFz (dCB (oc (oB rfl (o0 (fN rfl fun _ => (n_R (a := (_, _)) rfl)))))))))))))))))))))) (s_N (s_If (yB (oB rfl (oE (dC (fT rfl rfl fun _ => (n_If (s_as (s_R (wFz (dCB (oc (oE (dLc (iIv (vc (dV rfl (v0 (fO fun _ => (fLcS (τ := (List D)) (up := fun E c => (E.set 0 (.io 0 c))) (en' := fun c => [_, _, _, _, _, _, _, _, _, _, _, _, _]) (c0 := _) (fun _ => rfl) rfl rfl (fun _ _ => (pu1 (e1 := [_, _, _, _, _, _, _, _, _, _, _, _, _]) rfl (itY (elt (dTup (vc (dTup (vc (dB (oB rfl (oE (dB (oE (dCB (oc (oE (dB (oE (dBM (oB rfl (fBM rfl (oc (oB rfl (o0 (fM rfl rfl fun _ => (oE (dC (fD rfl rfl fun _ => (o0 (fN rfl fun _ => (oB rfl (fD rfl rfl fun _ => (fD rfl rfl fun _ => (v0 (vc (dCall (ab rfl (av (dLst (vc (dC (vc (dC (v0 (a0 (cD1 (en := fun _ => [_, _, _, _, _, _, _, _, _, _, _, _, _]) (r__law_pick _ _) rfl rfl rfl (fun _ => rfl) fun _ _ => (v0 (nSe (t := _) rfl)))))))))))))))))))))))))))))))))))))))))))))))) fun _ _ => (o0 (fN rfl fun _ => (n_R (a := (_, _)) rfl)))))))))))))))) (s_N (s_If (yB (oB rfl (oE (dC (fT rfl rfl fun _ => (n_If (s_as (s_R (wFz (dCB (oc (oE (dLc (iIv (vc (dV rfl (v0 (fO fun _ => (fLcS (τ := (List D)) (up := fun E c => (E.set 0 (.io 0 c))) (en' := fun c => [_, _, _, _, _, _, _, _, _, _, _, _, _]) (c0 := _) (fun _ => rfl) rfl rfl (fun _ _ => (pu1 (e1 := [_, _, _, _, _, _, _, _, _, _, _, _, _]) rfl (itY (elt (dTup (vc (dTup (vc (dV rfl (v0 (vc (dCall (ab rfl (av (dLst (vc (dC (vc (dC (vc (dC (vc (dC (vc (dC (v0 (a0 (cD1 (en := fun _ => [_, _, _, _, _, _, _, _, _, _, _, _, _]) (r__law_pick _ _) rfl rfl rfl (fun _ => rfl) fun _ _ => (v0 (nSe (t := _) rfl)))))))))))))))))))))))))))))) fun _ _ => (o0 (fN rfl fun _ => (n_R (a := (_, _)) rfl)))))))))))))))) (s_N (s_If (yB (oB rfl (oE (dC (fT rfl rfl fun _ => (n_If (s_as (s_R (wFz (dCB (oc (oE (dLc (iIt (dV rfl (fO fun _ => (fLc rfl (fun _ => (pu2 (en := fun _ _ => [_, _, _, _, _, _, _, _, _, _, _, _, _]) (fun _ _ => rfl) fun _ _ => (itY (elt (dTup (vc (dV rfl (vc (dBM (oE (dC (fBM rfl (oc (oE (dLc (iIt (dCall (av (dCB (oc (oB rfl (o0 (fN rfl fun _ => (a0 (cD0n (r__law_words _) rfl rfl rfl fun _ => (fO fun _ => (fLc rfl (fun _ => (pu1 (e1 := [_, _, _, _, _, _, _, _, _, _, _, _, _]) rfl (itY (elt (dIf (yB (oE (dC (oB rfl (fT rfl rfl fun _ => (jIf (dW (dC (nEe rfl))) (dW (dC (nEe rfl))) fun _ => (nEe rfl)))))))))))) fun _ => (o0 (fM rfl rfl fun _ => (v0 (nEe rfl))))))))))))))))))))))))))))))) fun _ => (o0 (fN rfl fun _ => (n_R (a := (_, _)) rfl)))))))))))))) (s_N (s_R (wFz (dV rfl (n_R (a := (_, _)) rfl)))))))))))))))))))))))))))))))))))))))))))))))))))))))⟩
@[irreducible] def p__law_drawn_net : (List D) → D → R (D × List D) := d__law_drawn_net.1
theorem r__law_drawn_net : ∀ x0 x1, RefI m__law_drawn_net [.list x0, x1] jD1 (p__law_drawn_net x0 x1) := by unfold p__law_drawn_net; exact d__law_drawn_net.2
def m__law_given_1 : Sm := sSeq (sA 5 (mFz (mB gAdd (.ex (mB gMul (.ex (mC (.int 2))) (.bo 5))) (.ex (mCB (g1 gInt) [.ex (mB gEq (.ex (mB gIx (.bo 2) (.bo 6))) (.ex (mC (.str "1"))))]))))) (sSeq (sK [6]) (sN))
def b__law_given : Sm := sSeq (sU (.tp [3, 4]) (mB gIx (.bo 0) (.bo 1))) (sSeq (sA 5 (mFz (mC (.int 0)))) (sSeq (sFor (.nm 6) (iOr (mIt (mV 3)) (mIg (gD gKeys) (mV 3))) m__law_given_1) (sSeq (sR (mFz (mB gIx (.bo 4) (.bo 5)))) (sN))))
def m__law_given : MF := mFn [false, false, false] 7 b__law_given
def d__law_given : {p : D → D → D → R D // ∀ x0 x1 x2, RefF m__law_given [x0, x1, x2] jD (p x0 x1 x2)} := ⟨fun x0 x1 x2 => _, fun x0 x1 x2 => fn_ref rfl (e := [_, _, _, _, _, _, _]) rfl (s_U (dB (oB rfl (oB rfl (fD rfl rfl fun _ => (f_U2 (en := fun _ _ => [_, _, _, _, _, _, _]) (fun _ _ => rfl) fun _ _ => (s_A (wFz (dC (f_P (e1 := [_, _, _, _, _, _, _]) rfl (s_For (iIt (dV rfl (fO fun _ => (f_For (τ := D) (up := fun E c => (E.set 5 (.fz c))) (en' := fun c => [_, _, _, _, _, _, _]) (c0 := _) (fun _ => rfl) rfl (fun _ _ => (u1 (e1 := [_, _, _, _, _, _, _]) rfl (s_A (wFz (dB (oE (dB (oE (dC (oB rfl (fD rfl rfl fun _ => (oE (dCB (oc (oE (dT (yB (oE (dB (oB rfl (oB rfl (fD rfl rfl fun _ => (oE (dC (fT rfl rfl fun _ => (o0 (fN rfl fun _ => (fD rfl rfl fun _ => (f_P (e1 := [_, _, _, _, _, _, _]) rfl (s_K (e1 := [_, _, _, _, _, _, _]) rfl (n_L (t := _) rfl))))))))))))))))))))))))))))))) fun _ => (s_R (wFz (dB (oB rfl (oB rfl (fD rfl rfl fun _ => (n_R (a := _) rfl))))))))))))))))))))))⟩
@[irreducible] def p__law_given : D → D → D → R D := d__law_given.1
theorem r__law_given : ∀ x0 x1 x2, RefF m__law_given [x0, x1, x2] jD (p__law_given x0 x1 x2) := by unfold p__law_given; exact d__law_given.2
def m__law_image_1 : Ex := mCall [false, false, false] m__law_given [.v (mV 0), .v (mV 3), .v (mV 1)]
def b__law_image : Sm := sSeq (sR (mFz (mBM "str" (m1 gJoin) (.ex (mC (.str ""))) [.ex (mLc [2, 3] (.nm 3) (mIv gRng1 [mCB (g1 gLen) [.bo 0]]) (mYes) (m__law_image_1))]))) (sN)
def m__law_image : MF := mFn [false, false] 4 b__law_image
def d__law_image : {p : D → D → R D // ∀ x0 x1, RefF m__law_image [x0, x1] jD (p x0 x1)} := ⟨fun x0 x1 => _, fun x0 x1 => fn_ref rfl (e := [_, _, _, _]) rfl (s_R (wFz (dBM (oE (dC (fBM rfl (oc (oE (dLc (iIv (vc (dCB (oc (oB rfl (o0 (fN rfl fun _ => (v0 (fO fun _ => (fLc rfl (fun _ => (pu1 (e1 := [_, _, _, _]) rfl (itY (elt (dCall (av (dV rfl (av (dV rfl (av (dV rfl (a0 (cD0n (r__law_given _ _ _) rfl rfl rfl fun _ => (nEe rfl)))))))))))))) fun _ => (o0 (fM rfl rfl fun _ => (n_R (a := _) rfl))))))))))))))))))))))⟩
@[irreducible] def p__law_image : D → D → R D := d__law_image.1
theorem r__law_image : ∀ x0 x1, RefF m__law_image [x0, x1] jD (p__law_image x0 x1) := by unfold p__law_image; exact d__law_image.2
def m__law_in_1 : Ex := mV 3
def m__law_in_2 : Ev → Re Bool := mT (mAnd (mB gNe (.ex (mB gIx (.bo 1) (.bo 3))) (.ex (mC (.str "*")))) (mB gNe (.ex (mB gIx (.bo 1) (.bo 3))) (.ex (mB gIx (.bo 0) (.bo 3)))))
def b__law_in : Sm := sSeq (sR (mFz (mB gEq (.ex (mLc [2, 3] (.nm 3) (mIv gRng1 [mCB (g1 gLen) [.bo 1]]) (m__law_in_2) (m__law_in_1))) (.ex (mLst []))))) (sN)
def m__law_in : MF := mFn [false, false] 4 b__law_in
def d__law_in : {p : D → D → R D // ∀ x0 x1, RefF m__law_in [x0, x1] jD (p x0 x1)} := ⟨fun x0 x1 => _, fun x0 x1 => fn_ref rfl (e := [_, _, _, _]) rfl (s_R (wFz (dT (yB (oE (dLc (iIv (vc (dCB (oc (oB rfl (o0 (fN rfl fun _ => (v0 (fO fun _ => (fLc rfl (fun _ => (pu1 (e1 := [_, _, _, _]) rfl (itC (yAnd (yB (oE (dB (oB rfl (oB rfl (fD rfl rfl fun _ => (oE (dC (fT rfl rfl fun _ => (jAnd (yW (yB (oE (dB (oB rfl (oB rfl (fD rfl rfl fun _ => (oE (dB (oB rfl (oB rfl (fD rfl rfl fun _ => (fT rfl rfl fun _ => (nEe rfl)))))))))))))) fun _ => (itS (elt (dV rfl (nEe rfl))) (nEe rfl)))))))))))))))) fun _ => (oE (dLst (v0 (fT rfl rfl fun _ => (n_R (a := _) rfl)))))))))))))))))))))⟩
@[irreducible] def p__law_in : D → D → R D := d__law_in.1
theorem r__law_in : ∀ x0 x1, RefF m__law_in [x0, x1] jD (p__law_in x0 x1) := by unfold p__law_in; exact d__law_in.2
def m__law_states_in_1 : Ex := mV 2
def m__law_states_in_2 : Ev → Re Bool := mT (mCall [false, false] m__law_in [.v (mV 2), .v (mV 0)])
def b__law_states_in : Sm := sSeq (sR (mLc [1, 2] (.nm 2) (iOr (mIt (mCall [false] m__law_words [.v (mCB (g1 gLen) [.bo 0])])) (mIg (gD gKeys) (mCall [false] m__law_words [.v (mCB (g1 gLen) [.bo 0])]))) (m__law_states_in_2) (m__law_states_in_1))) (sN)
def m__law_states_in : MF := mFn [false] 3 b__law_states_in
def d__law_states_in : {p : D → R (List D) // ∀ x0, RefF m__law_states_in [x0] jL (p x0)} := ⟨fun x0 => _, fun x0 => fn_ref rfl (e := [_, _, _]) rfl (s_R (wLc (iIt (dCall (av (dCB (oc (oB rfl (o0 (fN rfl fun _ => (a0 (cD0 (r__law_words _) rfl rfl rfl rfl fun _ => (fO fun _ => (fLc rfl (fun _ => (pu1 (e1 := [_, _, _]) rfl (itC (yD (dCall (av (dV rfl (av (dV rfl (a0 (cD0n (r__law_in _ _) rfl rfl rfl fun _ => (fBo fun _ => (itS (elt (dV rfl (nEe rfl))) (nEe rfl)))))))))))))) fun _ => (n_R (a := _) rfl)))))))))))))))⟩
@[irreducible] def p__law_states_in : D → R (List D) := d__law_states_in.1
theorem r__law_states_in : ∀ x0, RefF m__law_states_in [x0] jL (p__law_states_in x0) := by unfold p__law_states_in; exact d__law_states_in.2
def m__law_leaving_1 : Sm := sSeq (sIf (mAnd (mB gNe (.ex (mB gIx (.bo 1) (.bo 4))) (.ex (mC (.str "*")))) (mB gNe (.ex (mB gIx (.bo 3) (.bo 4))) (.ex (mB gIx (.bo 1) (.bo 4))))) (sSeq (sR (mFz (mTup [mV 2, mV 4]))) (sN)) (sN)) (sSeq (sK [4]) (sN))
def m__law_leaving_2 : Sm := sSeq (sA 3 (mFz (mCall [false, false] m__law_image [.v (mV 0), .v (mV 2)]))) (sSeq (sFor (.nm 4) (mIv gRng1 [mCB (g1 gLen) [.bo 0]]) m__law_leaving_1) (sSeq (sK [2, 3, 4]) (sN)))
def b__law_leaving : Sm := sSeq (sFor (.nm 2) (iOr (mIt (mCall [false] m__law_states_in [.v (mV 1)])) (mIg (gD gKeys) (mCall [false] m__law_states_in [.v (mV 1)]))) m__law_leaving_2) (sSeq (sR (mFz (mC .none))) (sN))
def m__law_leaving : MF := mFn [false, false] 5 b__law_leaving
def d__law_leaving : {p : D → D → R D // ∀ x0 x1, RefF m__law_leaving [x0, x1] jD (p x0 x1)} := ⟨fun x0 x1 => _, fun x0 x1 => fn_ref rfl (e := [_, _, _, _, _]) rfl (s_For (iIt (dCall (av (dV rfl (a0 (cL0 (r__law_states_in _) rfl rfl rfl rfl fun _ => (fO fun _ => (f_ForF (τ := Unit) (up := fun E c => E) (en' := fun c => [_, _, _, _, _]) (c0 := ()) (fun _ => rfl) rfl (fun _ _ => (u1 (e1 := [_, _, _, _, _]) rfl (s_A (wFz (dCall (av (dV rfl (av (dV rfl (a0 (cD0 (r__law_image _ _) rfl rfl rfl rfl fun _ => (f_P (e1 := [_, _, _, _, _]) rfl (s_For (iIv (vc (dCB (oc (oB rfl (o0 (fN rfl fun _ => (v0 (fO fun _ => (f_ForF (τ := Unit) (up := fun E c => E) (en' := fun c => [_, _, _, _, _]) (c0 := ()) (fun _ => rfl) rfl (fun _ _ => (u1 (e1 := [_, _, _, _, _]) rfl (s_If (yAnd (yB (oE (dB (oB rfl (oB rfl (fD rfl rfl fun _ => (oE (dC (fT rfl rfl fun _ => (jAnd (yW (yB (oE (dB (oB rfl (oB rfl (fD rfl rfl fun _ => (oE (dB (oB rfl (oB rfl (fD rfl rfl fun _ => (fT rfl rfl fun _ => (nEe rfl)))))))))))))) fun _ => (n_If (s_as (s_R (wFz (dTup (vc (dV rfl (vc (dV rfl (v0 (n_R (a := (Lp.rt (Lp.rt _))) ⟨⟨rfl, _, _, rfl⟩, _, _, rfl⟩)))))))))) (s_N (s_K (e1 := [_, _, _, _, _]) rfl (n_F (t := ()) rfl)))))))))))))))))) fun _ => (s_K (e1 := [_, _, _, _, _]) rfl (n_F (t := ()) rfl))))))))))))))))))))))))) fun _ => (s_R (wFz (dC (n_R (a := _) rfl)))))))))))))⟩
@[irreducible] def p__law_leaving : D → D → R D := d__law_leaving.1
theorem r__law_leaving : ∀ x0 x1, RefF m__law_leaving [x0, x1] jD (p__law_leaving x0 x1) := by unfold p__law_leaving; exact d__law_leaving.2
def b__law_no_net : Sm := sSeq (sA 1 (mLst [mC .none, mC (.int 5), mC (.str "01"), mTup [], mLst [mTup [mTup [mC (.int 0)], mC (.str "01")]], mTup [mTup [mTup [mC (.int 0)], mC (.str "0")]], mTup [mTup [mTup [mC (.int 0), mC (.int 0)], mC (.str "0110")]], mTup [mTup [mTup [mC (.int 1)], mC (.str "01")]], mTup [mTup [mTup [mC (.int 0)], mC (.str "0x")]], mTup [mTup [mC (.int 0), mC (.str "01")]], mTup [mTup [mTup [mC (.int 0)], mC (.int 1)]], mTup [mTup [mLst [mC (.int 0)], mC (.str "01")]]])) (sSeq (sE (mExt 1 (mLst [mTup [mTup [mTup [mC (.int 0)]]], mTup [mTup [mC .none]], mTup [mTup [mTup [], mC (.str "")]], mTup [mTup [mTup [mC (.bool true)], mC (.str "01")]], mCB (g1 gTuple) [.ex (mB gMul (.ex (mLst [mTup [mTup [], mC (.str "0")]])) (.ex (mC (.int 9))))], mDisp [(mC (.str "a"), mC (.int 1))], mTup [mTup [mTup [mC (.int 0)], mC (.str "01"), mC (.int 1)]]]))) (sSeq (sR (mFz (mB gIx (.bo 1) (.ex (mCall [true, false] m__law_take [.b 0, .v (mCB (g1 gLen) [.bo 1])]))))) (sN)))
def m__law_no_net : MF := mFn [true] 2 b__law_no_net
def d__law_no_net : {p : (List D) → R (D × List D) // ∀ x0, RefI m__law_no_net [.list x0] jD1 (p x0)} := ⟨fun x0 => _, fun x0 => fn_refI rfl (e := [_, _]) rfl (s_A (wLst (vc (dC (vc (dC (vc (dC (vc (dTup (v0 (vc (dLst (vc (dTup (vc (dTup (vc (dC (v0 (vc (dC (v0 (v0 (vc (dTup (vc (dTup (vc (dTup (vc (dC (v0 (vc (dC (v0 (v0 (vc (dTup (vc (dTup (vc (dTup (vc (dC (vc (dC (v0 (vc (dC (v0 (v0 (vc (dTup (vc (dTup (vc (dTup (vc (dC (v0 (vc (dC (v0 (v0 (vc (dTup (vc (dTup (vc (dTup (vc (dC (v0 (vc (dC (v0 (v0 (vc (dTup (vc (dTup (vc (dC (vc (dC (v0 (v0 (vc (dTup (vc (dTup (vc (dTup (vc (dC (v0 (vc (dC (v0 (v0 (vc (dTup (vc (dTup (vc (dLst (vc (dC (v0 (vc (dC (v0 (v0 (v0 (f_P (e1 := [_, _]) rfl (s_E (dExt rfl (wLst (vc (dTup (vc (dTup (vc (dTup (vc (dC (v0 (v0 (v0 (vc (dTup (vc (dTup (vc (dC (v0 (v0 (vc (dTup (vc (dTup (vc (dTup (v0 (vc (dC (v0 (v0 (vc (dTup (vc (dTup (vc (dTup (vc (dC (v0 (vc (dC (v0 (v0 (vc (dCB (oc (oE (dB (oE (dLst (vc (dTup (vc (dTup (v0 (vc (dC (v0 (v0 (oE (dC (fD rfl rfl fun _ => (o0 (fN rfl fun _ => (vc (dDs (dsc (dC (dC (ds0 (nEe rfl))))) fun _ => (vc (dTup (vc (dTup (vc (dTup (vc (dC (v0 (vc (dC (vc (dC (v0 (v0 (v0 (fExt (e1 := [_, _]) rfl rfl (s_R (wFz (dB (oB rfl (oE (dCall (ab rfl (av (dCB (oc (oB rfl (o0 (fN rfl fun _ => (a0 (cD1 (en := fun _ => [_, _]) (r__law_take _ _) rfl rfl rfl (fun _ => rfl) fun _ _ => (fD rfl rfl fun _ => (n_R (a := (_, _)) rfl)))))))))))))))))))))))))))))))))))))))))))))))))))))))))))))))))))))))))))))))))))))))))))))))))))))))))))))))))))))))))))))))))))))))))))))))))))))))))))))))))))))))))))))))))))))))))))))))))))))))))))))))))))))))))))⟩
@[irreducible] def p__law_no_net : (List D) → R (D × List D) := d__law_no_net.1
theorem r__law_no_net : ∀ x0, RefI m__law_no_net [.list x0] jD1 (p__law_no_net x0) := by unfold p__law_no_net; exact d__law_no_net.2
def m__law_same_1 (m : MF) : Ex := mV 3
def m__law_same_2 (m : MF) : Ev → Re Bool := mT (mOr (mB gNotIn (.bo 3) (.bo 0)) (mNot (mCall [false, false] m [.v (mB gIx (.bo 0) (.bo 3)), .v (mB gIx (.bo 1) (.bo 3))])))
def m__law_same_3 (m : MF) : Ex := mV 4
def m__law_same_4 (m : MF) : Ev → Re Bool := mT (mNot (mCall [false, false] m [.v (mB gIx (.bo 0) (.bo 4)), .v (mB gIx (.bo 1) (.bo 4))]))
def b__law_same (m : MF) : Sm := sSeq (sIf (mOr (mB gIs (.bo 1) (.ex (mC .none))) (mIsi ["bool"] (.bo 1))) (sSeq (sR (mFz (mIf (mB gIs (.bo 1) (.ex (mC .none))) (mB gIs (.bo 0) (.ex (mC .none))) (mAnd (mIsi ["bool"] (.bo 0)) (mB gEq (.ex (mB gIs (.bo 0) (.ex (mC (.bool true))))) (.ex (mB gIs (.bo 1) (.ex (mC (.bool true)))))))))) (sN)) (sN)) (sSeq (sIf (mIsi ["int"] (.bo 1)) (sSeq (sR (mFz (mAnd (mIsi ["int"] (.bo 0)) (mAnd (mNot (mIsi ["bool"] (.bo 0))) (mB gEq (.ex (mB gSub (.ex (mCB (g1 gInt) [.bo 0])) (.bo 1))) (.ex (mC (.int 0)))))))) (sN)) (sN)) (sSeq (sIf (mIsi ["str"] (.bo 1)) (sSeq (sR (mFz (mAnd (mIsi ["str"] (.bo 0)) (mB gEq (.bo 0) (.bo 1))))) (sN)) (sN)) (sSeq (sIf (mIsi ["dict"] (.bo 1)) (sSeq (sR (mFz (mAnd (mIsi ["dict"] (.bo 0)) (mAnd (mB gEq (.ex (mCB (g1 gLen) [.bo 0])) (.ex (mCB (g1 gLen) [.bo 1]))) (mB gEq (.ex (mLc [2, 3] (.nm 3) (iOr (mIt (mV 1)) (mIg (gD gKeys) (mV 1))) ((m__law_same_2 m)) ((m__law_same_1 m)))) (.ex (mLst []))))))) (sN)) (sN)) (sSeq (sIf (mOr (mNot (mIsi ["list", "tuple"] (.bo 1))) (mNot (mIsi ["list", "tuple"] (.bo 0)))) (sSeq (sR (mFz (mC (.bool false)))) (sN)) (sN)) (sSeq (sIf (mOr (mB gNe (.ex (mIsi ["list"] (.bo 0))) (.ex (mIsi ["list"] (.bo 1)))) (mB gNe (.ex (mCB (g1 gLen) [.bo 0])) (.ex (mCB (g1 gLen) [.bo 1])))) (sSeq (sR (mFz (mC (.bool false)))) (sN)) (sN)) (sSeq (sR (mFz (mB gEq (.ex (mLc [2, 4] (.nm 4) (mIv gRng1 [mCB (g1 gLen) [.bo 1]]) ((m__law_same_4 m)) ((m__law_same_3 m)))) (.ex (mLst []))))) (sN)))))))
def m__law_same : Nat → MF
  | 0 => fun _ => .no
  | k + 1 => mFn [false, false] 5 (b__law_same (m__law_same k))
def d__law_same : {pb : (D → D → R D) → D → D → R D // ∀ (m : MF) (p : D → D → R D), (∀ x0 x1, RefF m [x0, x1] jD (p x0 x1)) → ∀ x0 x1, RefF (mFn [false, false] 5 (b__law_same m)) [x0, x1] jD (pb p x0 x1)} := ⟨fun p x0 x1 => _, fun m p ih x0 x1 => fn_ref rfl (e := [_, _, _, _, _]) rfl (s_If (yOr (yB (oB rfl (oE (dC (fT rfl rfl fun _ => (jOr (yW (yIsi (oB rfl (fIsi rfl (nEe rfl))))) fun _ => (n_If (s_as (s_R (wFz (dIf (yB (oB rfl (oE (dC (fT rfl rfl fun _ => (jIf (dW (dT (yB (oB rfl (oE (dC (fT rfl rfl fun _ => (nEe rfl)))))))) (dW (dT (yAnd (yIsi (oB rfl (fIsi rfl (jAnd (yW (yB (oE (dT (yB (oB rfl (oE (dC (fT rfl rfl fun _ => (oE (dT (yB (oB rfl (oE (dC (fT rfl rfl fun _ => (fT rfl rfl fun _ => (nEe rfl)))))))))))))))))) fun _ => (nEe rfl)))))))) fun _ => (n_R (a := _) rfl))))))))))) (s_N (s_If (yIsi (oB rfl (fIsi rfl (n_If (s_as (s_R (wFz (dT (yAnd (yIsi (oB rfl (fIsi rfl (jAnd (yW (yAnd (yNot (yIsi (oB rfl (fIsi rfl (jAnd (yW (yB (oE (dB (oE (dCB (oc (oB rfl (o0 (fN rfl fun _ => (oB rfl (fD rfl rfl fun _ => (oE (dC (fT rfl rfl fun _ => (nEe rfl)))))))))))))))) fun _ => (nEe rfl)))))))) fun _ => (n_R (a := _) rfl)))))))))) (s_N (s_If (yIsi (oB rfl (fIsi rfl (n_If (s_as (s_R (wFz (dT (yAnd (yIsi (oB rfl (fIsi rfl (jAnd (yW (yB (oB rfl (oB rfl (fT rfl rfl fun _ => (nEe rfl)))))) fun _ => (n_R (a := _) rfl)))))))))) (s_N (s_If (yIsi (oB rfl (fIsi rfl (n_If (s_as (s_R (wFz (dT (yAnd (yIsi (oB rfl (fIsi rfl (jAnd (yW (yAnd (yB (oE (dCB (oc (oB rfl (o0 (fN rfl fun _ => (oE (dCB (oc (oB rfl (o0 (fN rfl fun _ => (fT rfl rfl fun _ => (jAnd (yW (yB (oE (dLc (iIt (dV rfl (fO fun _ => (fLc rfl (fun _ => (pu1 (e1 := [_, _, _, _, _]) rfl (itC (yOr (yB (oB rfl (oB rfl (fT rfl rfl fun _ => (jOr (yW (yNot (yD (dCall (av (dB (oB rfl (oB rfl (fD rfl rfl fun _ => (av (dB (oB rfl (oB rfl (fD rfl rfl fun _ => (a0 (cD0n (ih _ _) rfl rfl rfl fun _ => (fBo fun _ => (nEe rfl)))))))))))))))))) fun _ => (itS (elt (dV rfl (nEe rfl))) (nEe rfl))))))))))) fun _ => (oE (dLst (v0 (fT rfl rfl fun _ => (nEe rfl))))))))))))) fun _ => (nEe rfl)))))))))))))))))) fun _ => (n_R (a := _) rfl)))))))))) (s_N (s_If (yOr (yNot (yIsi (oB rfl (fIsi rfl (jOr (yW (yNot (yIsi (oB rfl (fIsi rfl (nEe rfl)))))) fun _ => (n_If (s_as (s_R (wFz (dC (n_R (a := _) rfl))))) (s_N (s_If (yOr (yB (oE (dT (yIsi (oB rfl (fIsi rfl (oE (dT (yIsi (oB rfl (fIsi rfl (fT rfl rfl fun _ => (jOr (yW (yB (oE (dCB (oc (oB rfl (o0 (fN rfl fun _ => (oE (dCB (oc (oB rfl (o0 (fN rfl fun _ => (fT rfl rfl fun _ => (nEe rfl)))))))))))))))) fun _ => (n_If (s_as (s_R (wFz (dC (n_R (a := _) rfl))))) (s_N (s_R (wFz (dT (yB (oE (dLc (iIv (vc (dCB (oc (oB rfl (o0 (fN rfl fun _ => (v0 (fO fun _ => (fLc rfl (fun _ => (pu1 (e1 := [_, _, _, _, _]) rfl (itC (yNot (yD (dCall (av (dB (oB rfl (oB rfl (fD rfl rfl fun _ => (av (dB (oB rfl (oB rfl (fD rfl rfl fun _ => (a0 (cD0n (ih _ _) rfl rfl rfl fun _ => (fBo fun _ => (itS (elt (dV rfl (nEe rfl))) (nEe rfl))))))))))))))))))))) fun _ => (oE (dLst (v0 (fT rfl rfl fun _ => (n_R (a := _) rfl)))))))))))))))))))))))))))))))))))))))))))))))))))))))))))))))))))))))))))⟩
def p__law_same : Nat → D → D → R D
  | 0, _, _ => .no
  | n + 1, x0, x1 => d__law_same.1 (p__law_same n) x0 x1
theorem r__law_same : ∀ (n : Nat) x0 x1, RefF (m__law_same n) [x0, x1] jD (p__law_same n x0 x1)
  | 0, _, _ => trivial
  | n + 1, x0, x1 => d__law_same.2 (m__law_same n) (p__law_same n) (r__law_same n) x0 x1
def mF__law_same : MF := m__law_same 9
@[irreducible] def pF__law_same : D → D → R D := p__law_same 9
theorem rF__law_same : ∀ x0 x1, RefF mF__law_same [x0, x1] jD (pF__law_same x0 x1) := by unfold pF__law_same; exact r__law_same 9
def m__law_space_1 : Ex := mCall [true, false] m__law_pick [.b 0, .v (mC (.str "01**"))]
def b__law_space : Sm := sSeq (sR (mFz (mBM "str" (m1 gJoin) (.ex (mC (.str ""))) [.ex (mLc [2, 3] (.nm 3) (mIv gRng1 [mV 1]) (mYes) (m__law_space_1))]))) (sN)
def m__law_space : MF := mFn [true, false] 4 b__law_space
def d__law_space : {p : (List D) → D → R (D × List D) // ∀ x0 x1, RefI m__law_space [.list x0, x1] jD1 (p x0 x1)} := ⟨fun x0 x1 => _, fun x0 x1 => fn_refI rfl (e := [_, _, _, _]) rfl (s_R (wFz (dBM (oE (dC (fBM rfl (oc (oE (dLc (iIv (vc (dV rfl (v0 (fO fun _ => (fLcS (τ := (List D)) (up := fun E c => (E.set 0 (.io 0 c))) (en' := fun c => [_, _, _, _]) (c0 := _) (fun _ => rfl) rfl rfl (fun _ _ => (pu1 (e1 := [_, _, _, _]) rfl (itY (elt (dCall (ab rfl (av (dC (a0 (cD1 (en := fun _ => [_, _, _, _]) (r__law_pick _ _) rfl rfl rfl (fun _ => rfl) fun _ _ => (nSe (t := _) rfl))))))))))) fun _ _ => (o0 (fM rfl rfl fun _ => (n_R (a := (_, _)) rfl))))))))))))))))))⟩
@[irreducible] def p__law_space : (List D) → D → R (D × List D) := d__law_space.1
theorem r__law_space : ∀ x0 x1, RefI m__law_space [.list x0, x1] jD1 (p__law_space x0 x1) := by unfold p__law_space; exact d__law_space.2
def m__law_percolated_1 : Ex := mCall [false, false] m__law_image [.v (mV 0), .v (mV 6)]
def m__law_percolated_2 : Ex := mB gIx (.bo 8) (.bo 7)
def m__law_percolated_3 : Ex := mCB (g1 gSortSet) [.ex (mLc [5, 8] (.nm 8) (iOr (mIt (mV 3)) (mIg (gD gKeys) (mV 3))) (mYes) (m__law_percolated_2))]
def m__law_percolated_4 : Ex := mIf (mAnd (mB gEq (.ex (mB gIx (.bo 1) (.bo 7))) (.ex (mC (.str "*")))) (mB gEq (.ex (mCB (g1 gLen) [.ex (mB gIx (.bo 4) (.bo 7))])) (.ex (mC (.int 1))))) (mB gIx (.ex (mB gIx (.bo 4) (.bo 7))) (.ex (mC (.int 0)))) (mB gIx (.bo 1) (.bo 7))
def m__law_percolated_5 : Sm := sSeq (sA 3 (mLc [5, 6] (.nm 6) (iOr (mIt (mCall [false] m__law_states_in [.v (mV 1)])) (mIg (gD gKeys) (mCall [false] m__law_states_in [.v (mV 1)]))) (mYes) (m__law_percolated_1))) (sSeq (sFz [3]) (sSeq (sA 4 (mLc [5, 7] (.nm 7) (mIv gRng1 [mCB (g1 gLen) [.bo 0]]) (mYes) (m__law_percolated_3))) (sSeq (sFz [4]) (sSeq (sA 1 (mFz (mBM "str" (m1 gJoin) (.ex (mC (.str ""))) [.ex (mLc [5, 7] (.nm 7) (mIv gRng1 [mCB (g1 gLen) [.bo 0]]) (mYes) (m__law_percolated_4))]))) (sSeq (sK [2, 3, 4]) (sN))))))
def b__law_percolated : Sm := sSeq (sFor (.nm 2) (mIv gRng1 [mCB (g1 gLen) [.bo 0]]) m__law_percolated_5) (sSeq (sR (mFz (mV 1))) (sN))
def m__law_percolated : MF := mFn [false, false] 9 b__law_percolated
def d__law_percolated : {p : D → D → R D // ∀ x0 x1, RefF m__law_percolated [x0, x1] jD (p x0 x1)} := ⟨fun x0 x1 => _, fun x0 x1 => fn_ref rfl (e := [_, _, _, _, _, _, _, _, _]) rfl (s_For (iIv (vc (dCB (oc (oB rfl (o0 (fN rfl fun _ => (v0 (fO fun _ => (f_For (τ := D) (up := fun E c => (E.set 1 (.fz c))) (en' := fun c => [_, _, _, _, _, _, _, _, _]) (c0 := _) (fun _ => rfl) rfl (fun _ _ => (u1 (e1 := [_, _, _, _, _, _, _, _, _]) rfl (s_A (wLc (iIt (dCall (av (dV rfl (a0 (cL0 (r__law_states_in _) rfl rfl rfl rfl fun _ => (fO fun _ => (fLc rfl (fun _ => (pu1 (e1 := [_, _, _, _, _, _, _, _, _]) rfl (itY (elt (dCall (av (dV rfl (av (dV rfl (a0 (cD0n (r__law_image _ _) rfl rfl rfl fun _ => (nEe rfl)))))))))))) fun _ => (f_P (e1 := [_, _, _, _, _, _, _, _, _]) rfl (s_F (e1 := [_, _, _, _, _, _, _, _, _]) rfl (s_A (wLc (iIv (vc (dCB (oc (oB rfl (o0 (fN rfl fun _ => (v0 (fO fun _ => (fLc rfl (fun _ => (pu1 (e1 := [_, _, _, _, _, _, _, _, _]) rfl (itY (elt (dCB (oc (oE (dLc (iIt (dV rfl (fO fun _ => (fLc rfl (fun _ => (pu1 (e1 := [_, _, _, _, _, _, _, _, _]) rfl (itY (elt (dB (oB rfl (oB rfl (fD rfl rfl fun _ => (nEe rfl))))))))) fun _ => (o0 (fN rfl fun _ => (nEe rfl))))))))))))))) fun _ => (f_P (e1 := [_, _, _, _, _, _, _, _, _]) rfl (s_F (e1 := [_, _, _, _, _, _, _, _, _]) rfl (s_A (wFz (dBM (oE (dC (fBM rfl (oc (oE (dLc (iIv (vc (dCB (oc (oB rfl (o0 (fN rfl fun _ => (v0 (fO fun _ => (fLc rfl (fun _ => (pu1 (e1 := [_, _, _, _, _, _, _, _, _]) rfl (itY (elt (dIf (yAnd (yB (oE (dB (oB rfl (oB rfl (fD rfl rfl fun _ => (oE (dC (fT rfl rfl fun _ => (jAnd (yW (yB (oE (dCB (oc (oE (dB (oB rfl (oB rfl (fD rfl rfl fun _ => (o0 (fN rfl fun _ => (oE (dC (fT rfl rfl fun _ => (nEe rfl)))))))))))))))) fun _ => (jIf (dW (dB (oE (dB (oB rfl (oB rfl (fD rfl rfl fun _ => (oE (dC (fD rfl rfl fun _ => (nEe rfl))))))))))) (dW (dB (oB rfl (oB rfl (fD rfl rfl fun _ => (nEe rfl)))))) fun _ => (nEe rfl)))))))))))))))))) fun _ => (o0 (fM rfl rfl fun _ => (f_P (e1 := [_, _, _, _, _, _, _, _, _]) rfl (s_K (e1 := [_, _, _, _, _, _, _, _, _]) rfl (n_L (t := _) rfl)))))))))))))))))))))))))))))))))))))))))))))))))))) fun _ => (s_R (wFz (dV rfl (n_R (a := _) rfl)))))))))))))))⟩
@[irreducible] def p__law_percolated : D → D → R D := d__law_percolated.1
theorem r__law_percolated : ∀ x0 x1, RefF m__law_percolated [x0, x1] jD (p__law_percolated x0 x1) := by unfold p__law_percolated; exact d__law_percolated.2
def m__law_space_right_1 : Ex := mV 13
def m__law_space_right_2 : Ev → Re Bool := mT (mB gNe (.ex (mB gIx (.ex (mCall [false, false] m__law_image [.v (mV 0), .v (mV 13)])) (.bo 12))) (.ex (mB gIx (.bo 7) (.bo 12))))
def m__law_space_right_3 : Ex := mV 12
def m__law_space_right_4 : Ev → Re Bool := mT (mAnd (mB gNe (.ex (mB gIx (.bo 7) (.bo 12))) (.ex (mC (.str "*")))) (mB gNe (.ex (mLc [11, 13] (.nm 13) (iOr (mIt (mCall [false] m__law_states_in [.v (mV 7)])) (mIg (gD gKeys) (mCall [false] m__law_states_in [.v (mV 7)]))) (m__law_space_right_2) (m__law_space_right_1))) (.ex (mLst []))))
def m__law_space_right_5 : Ex := mIf (mB gIn (.bo 12) (.bo 9)) (mC (.str "*")) (mB gIx (.bo 7) (.bo 12))
def m__law_space_right_6 : Sm := sSeq (sA 9 (mLc [11, 12] (.nm 12) (mIv gRng1 [mCB (g1 gLen) [.bo 0]]) (m__law_space_right_4) (m__law_space_right_3))) (sSeq (sFz [9]) (sSeq (sA 7 (mFz (mBM "str" (m1 gJoin) (.ex (mC (.str ""))) [.ex (mLc [11, 12] (.nm 12) (mIv gRng1 [mCB (g1 gLen) [.bo 0]]) (mYes) (m__law_space_right_5))]))) (sSeq (sK [8, 9]) (sN))))
def m__law_space_right_7 : Ex := mCall [false, false] m__law_image [.v (mV 0), .v (mV 13)]
def m__law_space_right_8 : Sm := sSeq (sA 10 (mLc [11, 13] (.nm 13) (iOr (mIt (mV 10)) (mIg (gD gKeys) (mV 10))) (mYes) (m__law_space_right_7))) (sSeq (sFz [10]) (sSeq (sK [8]) (sN)))
def m__law_space_right_9 : Ex := mV 13
def m__law_space_right_10 : Ev → Re Bool := mT (mNot (mCall [false, false] m__law_in [.v (mV 13), .v (mV 5)]))
def b__law_space_right : Sm := sSeq (sPar [4, 5] [mFz (mCall [false, false, false] m__law_around [.v (mV 0), .v (mV 1), .v (mV 2)]), mFz (mCall [false, false] m__law_percolated [.v (mV 0), .v (mV 2)])]) (sSeq (sA 6 (mFz (mLst [mCall [false, false, false, false] m__law_asked [.v (mC (.str "around")), .v (mV 0), .v (mV 2), .v (mV 3)], mCall [false, false, false, false] m__law_asked [.v (mC (.str "percolated")), .v (mV 0), .v (mV 2), .v (mNot (mV 3))], mCall [false, false, false, false] m__law_asked [.v (mC (.str "around")), .v (mV 0), .v (mV 2), .v (mNot (mV 3))], mCall [false, false, false, false] m__law_asked [.v (mC (.str "percolated")), .v (mV 0), .v (mV 2), .v (mV 3)]]))) (sSeq (sIf (mNot (mCall [false, false] mF__law_same [.v (mV 6), .v (mB gMul (.ex (mLst [mLst [mC (.str "told"), mV 4], mLst [mC (.str "told"), mV 5]])) (.ex (mC (.int 2))))])) (sSeq (sR (mFz (mC (.bool false)))) (sN)) (sN)) (sSeq (sA 7 (mFz (mV 2))) (sSeq (sFor (.nm 8) (mIv gRng1 [mCB (g1 gLen) [.bo 0]]) m__law_space_right_6) (sSeq (sIf (mB gNe (.bo 7) (.bo 4)) (sSeq (sR (mFz (mC (.bool false)))) (sN)) (sN)) (sSeq (sIf (mB gNotIn (.bo 2) (.bo 1)) (sSeq (sR (mFz (mC (.bool true)))) (sN)) (sN)) (sSeq (sA 10 (mFz (mCall [false] m__law_states_in [.v (mV 2)]))) (sSeq (sFor (.nm 8) (mIv gRng1 [mCB (g1 gLen) [.bo 0]]) m__law_space_right_8) (sSeq (sR (mFz (mAnd (mB gIn (.bo 5) (.bo 1)) (mB gEq (.ex (mLc [11, 13] (.nm 13) (iOr (mIt (mV 10)) (mIg (gD gKeys) (mV 10))) (m__law_space_right_10) (m__law_space_right_9))) (.ex (mLst [])))))) (sN))))))))))
def m__law_space_right : MF := mFn [false, false, false, false] 14 b__law_space_right
def d__law_space_right : {p : D → D → D → D → R D // ∀ x0 x1 x2 x3, RefF m__law_space_right [x0, x1, x2, x3] jD (p x0 x1 x2 x3)} := ⟨fun x0 x1 x2 x3 => _, fun x0 x1 x2 x3 => fn_ref rfl (e := [_, _, _, _, _, _, _, _, _, _, _, _, _, _]) rfl (s_P (τ := (D) × (D)) (up := fun E c => E) (vr := fun c => [.v c.1, .v c.2]) (en := fun c => [_, _, _, _, _, _, _, _, _, _, _, _, _, _]) (en2 := fun c => [_, _, _, _, _, _, _, _, _, _, _, _, _, _]) (fun _ => rfl) (rc (wFz (dCall (av (dV rfl (av (dV rfl (av (dV rfl (a0 (cD0n (r__law_around _ _ _) rfl rfl rfl fun _ => (rc (wFz (dCall (av (dV rfl (av (dV rfl (a0 (cD0n (r__law_percolated _ _) rfl rfl rfl fun _ => (r0 (n_P (t := (_, _)) rfl rfl)))))))))))))))))))))) (fun _ => rfl) fun _ => (s_A (wFz (dLst (vc (dCall (av (dC (av (dV rfl (av (dV rfl (av (dV rfl (a0 (cL0 (r__law_asked _ _ _ _) rfl rfl rfl rfl fun _ => (vc (dCall (av (dC (av (dV rfl (av (dV rfl (av (dT (yNot (yD (dV rfl (fBo fun _ => (a0 (cL0 (r__law_asked _ _ _ _) rfl rfl rfl rfl fun _ => (vc (dCall (av (dC (av (dV rfl (av (dV rfl (av (dT (yNot (yD (dV rfl (fBo fun _ => (a0 (cL0 (r__law_asked _ _ _ _) rfl rfl rfl rfl fun _ => (vc (dCall (av (dC (av (dV rfl (av (dV rfl (av (dV rfl (a0 (cL0 (r__law_asked _ _ _ _) rfl rfl rfl rfl fun _ => (v0 (f_P (e1 := [_, _, _, _, _, _, _, _, _, _, _, _, _, _]) rfl (s_If (yNot (yD (dCall (av (dV rfl (av (dB (oE (dLst (vc (dLst (vc (dC (vc (dV rfl (v0 (vc (dLst (vc (dC (vc (dV rfl (v0 (v0 (oE (dC (fD rfl rfl fun _ => (a0 (cD0 (rF__law_same _ _) rfl rfl rfl rfl fun _ => (fBo fun _ => (n_If (s_as (s_R (wFz (dC (n_R (a := _) rfl))))) (s_N (s_A (wFz (dV rfl (f_P (e1 := [_, _, _, _, _, _, _, _, _, _, _, _, _, _]) rfl (s_For (iIv (vc (dCB (oc (oB rfl (o0 (fN rfl fun _ => (v0 (fO fun _ => (f_For (τ := D) (up := fun E c => (E.set 7 (.fz c))) (en' := fun c => [_, _, _, _, _, _, _, _, _, _, _, _, _, _]) (c0 := _) (fun _ => rfl) rfl (fun _ _ => (u1 (e1 := [_, _, _, _, _, _, _, _, _, _, _, _, _, _]) rfl (s_A (wLc (iIv (vc (dCB (oc (oB rfl (o0 (fN rfl fun _ => (v0 (fO fun _ => (fLc rfl (fun _ => (pu1 (e1 := [_, _, _, _, _, _, _, _, _, _, _, _, _, _]) rfl (itC (yAnd (yB (oE (dB (oB rfl (oB rfl (fD rfl rfl fun _ => (oE (dC (fT rfl rfl fun _ => (jAnd (yW (yB (oE (dLc (iIt (dCall (av (dV rfl (a0 (cL0n (r__law_states_in _) rfl rfl rfl fun _ => (fO fun _ => (fLc rfl (fun _ => (pu1 (e1 := [_, _, _, _, _, _, _, _, _, _, _, _, _, _]) rfl (itC (yB (oE (dB (oE (dCall (av (dV rfl (av (dV rfl (a0 (cD0n (r__law_image _ _) rfl rfl rfl fun _ => (oB rfl (fD rfl rfl fun _ => (oE (dB (oB rfl (oB rfl (fD rfl rfl fun _ => (fT rfl rfl fun _ => (itS (elt (dV rfl (nEe rfl))) (nEe rfl)))))))))))))))))))))))) fun _ => (oE (dLst (v0 (fT rfl rfl fun _ => (nEe rfl))))))))))))))))) fun _ => (itS (elt (dV rfl (nEe rfl))) (nEe rfl)))))))))))))))) fun _ => (f_P (e1 := [_, _, _, _, _, _, _, _, _, _, _, _, _, _]) rfl (s_F (e1 := [_, _, _, _, _, _, _, _, _, _, _, _, _, _]) rfl (s_A (wFz (dBM (oE (dC (fBM rfl (oc (oE (dLc (iIv (vc (dCB (oc (oB rfl (o0 (fN rfl fun _ => (v0 (fO fun _ => (fLc rfl (fun _ => (pu1 (e1 := [_, _, _, _, _, _, _, _, _, _, _, _, _, _]) rfl (itY (elt (dIf (yB (oB rfl (oB rfl (fT rfl rfl fun _ => (jIf (dW (dC (nEe rfl))) (dW (dB (oB rfl (oB rfl (fD rfl rfl fun _ => (nEe rfl)))))) fun _ => (nEe rfl))))))))))) fun _ => (o0 (fM rfl rfl fun _ => (f_P (e1 := [_, _, _, _, _, _, _, _, _, _, _, _, _, _]) rfl (s_K (e1 := [_, _, _, _, _, _, _, _, _, _, _, _, _, _]) rfl (n_L (t := _) rfl)))))))))))))))))))))))))))))))))))))))) fun _ => (s_If (yB (oB rfl (oB rfl (fT rfl rfl fun _ => (n_If (s_as (s_R (wFz (dC (n_R (a := _) rfl))))) (s_N (s_If (yB (oB rfl (oB rfl (fT rfl rfl fun _ => (n_If (s_as (s_R (wFz (dC (n_R (a := _) rfl))))) (s_N (s_A (wFz (dCall (av (dV rfl (a0 (cL0 (r__law_states_in _) rfl rfl rfl rfl fun _ => (f_P (e1 := [_, _, _, _, _, _, _, _, _, _, _, _, _, _]) rfl (s_For (iIv (vc (dCB (oc (oB rfl (o0 (fN rfl fun _ => (v0 (fO fun _ => (f_For (τ := D) (up := fun E c => (E.set 10 (.fz c))) (en' := fun c => [_, _, _, _, _, _, _, _, _, _, _, _, _, _]) (c0 := _) (fun _ => rfl) rfl (fun _ _ => (u1 (e1 := [_, _, _, _, _, _, _, _, _, _, _, _, _, _]) rfl (s_A (wLc (iIt (dV rfl (fO fun _ => (fLc rfl (fun _ => (pu1 (e1 := [_, _, _, _, _, _, _, _, _, _, _, _, _, _]) rfl (itY (elt (dCall (av (dV rfl (av (dV rfl (a0 (cD0n (r__law_image _ _) rfl rfl rfl fun _ => (nEe rfl)))))))))))) fun _ => (f_P (e1 := [_, _, _, _, _, _, _, _, _, _, _, _, _, _]) rfl (s_F (e1 := [_, _, _, _, _, _, _, _, _, _, _, _, _, _]) rfl (s_K (e1 := [_, _, _, _, _, _, _, _, _, _, _, _, _, _]) rfl (n_L (t := _) rfl)))))))))))) fun _ => (s_R (wFz (dT (yAnd (yB (oB rfl (oB rfl (fT rfl rfl fun _ => (jAnd (yW (yB (oE (dLc (iIt (dV rfl (fO fun _ => (fLc rfl (fun _ => (pu1 (e1 := [_, _, _, _, _, _, _, _, _, _, _, _, _, _]) rfl (itC (yNot (yD (dCall (av (dV rfl (av (dV rfl (a0 (cD0n (r__law_in _ _) rfl rfl rfl fun _ => (fBo fun _ => (itS (elt (dV rfl (nEe rfl))) (nEe rfl))))))))))))))) fun _ => (oE (dLst (v0 (fT rfl rfl fun _ => (nEe rfl))))))))))))) fun _ => (n_R (a := _) rfl)))))))))))))))))))))))))))))))))))))))))))))))))))))))))))))))))))))))))))))))))))))))))))))))))))))))))))))))))))))))))))))))))))))))))))))))))))))))))⟩
@[irreducible] def p__law_space_right : D → D → D → D → R D := d__law_space_right.1
theorem r__law_space_right : ∀ x0 x1 x2 x3, RefF m__law_space_right [x0, x1, x2, x3] jD (p__law_space_right x0 x1 x2 x3) := by unfold p__law_space_right; exact d__law_space_right.2
def m__law_spaces_1 : Ex := mB gAdd (.bo 4) (.bo 6)
def m__law_spaces_2 : Sm := sSeq (sE (mExt 3 (mLc [5, 6] (.nm 6) (iOr (mIt (mLst [mC (.str "*"), mC (.str "0"), mC (.str "1")])) (mIg (gD gKeys) (mLst [mC (.str "*"), mC (.str "0"), mC (.str "1")]))) (mYes) (m__law_spaces_1)))) (sSeq (sK [4]) (sN))
def m__law_spaces_3 : Sm := sSeq (sA 3 (mLst [])) (sSeq (sFor (.nm 4) (iOr (mIt (mV 1)) (mIg (gD gKeys) (mV 1))) m__law_spaces_2) (sSeq (sA 1 (mFz (mM 3))) (sSeq (sK [2, 3, 4]) (sN))))
def b__law_spaces : Sm := sSeq (sA 1 (mFz (mLst [mC (.str "")]))) (sSeq (sFor (.nm 2) (mIv gRng1 [mV 0]) m__law_spaces_3) (sSeq (sR (mFz (mV 1))) (sN)))
def m__law_spaces : MF := mFn [false] 7 b__law_spaces
def d__law_spaces : {p : D → R D // ∀ x0, RefF m__law_spaces [x0] jD (p x0)} := ⟨fun x0 => _, fun x0 => fn_ref rfl (e := [_, _, _, _, _, _, _]) rfl (s_A (wFz (dLst (vc (dC (v0 (f_P (e1 := [_, _, _, _, _, _, _]) rfl (s_For (iIv (vc (dV rfl (v0 (fO fun _ => (f_For (τ := D) (up := fun E c => (E.set 1 (.fz c))) (en' := fun c => [_, _, _, _, _, _, _]) (c0 := _) (fun _ => rfl) rfl (fun _ _ => (u1 (e1 := [_, _, _, _, _, _, _]) rfl (s_A (wLst (v0 (f_P (e1 := [_, _, _, _, _, _, _]) rfl (s_For (iIt (dV rfl (fO fun _ => (f_For (τ := (List D)) (up := fun E c => (E.set 3 (.ol c))) (en' := fun c => [_, _, _, _, _, _, _]) (c0 := _) (fun _ => rfl) rfl (fun _ _ => (u1 (e1 := [_, _, _, _, _, _, _]) rfl (s_E (dExt rfl (wLc (iIt (dLst (vc (dC (vc (dC (vc (dC (v0 (fO fun _ => (fLc rfl (fun _ => (pu1 (e1 := [_, _, _, _, _, _, _]) rfl (itY (elt (dB (oB rfl (oB rfl (fD rfl rfl fun _ => (nEe rfl))))))))) fun _ => (fExt (e1 := [_, _, _, _, _, _, _]) rfl rfl (s_K (e1 := [_, _, _, _, _, _, _]) rfl (n_L (t := _) rfl))))))))))))))))))) fun _ => (s_A (wFz (dMo (e1 := [_, _, _, _, _, _, _]) rfl rfl (f_P (e1 := [_, _, _, _, _, _, _]) rfl (s_K (e1 := [_, _, _, _, _, _, _]) rfl (n_L (t := _) rfl))))))))))))))))) fun _ => (s_R (wFz (dV rfl (n_R (a := _) rfl))))))))))))))))))⟩
@[irreducible] def p__law_spaces : D → R D := d__law_spaces.1
theorem r__law_spaces : ∀ x0, RefF m__law_spaces [x0] jD (p__law_spaces x0) := by unfold p__law_spaces; exact d__law_spaces.2
def m_law_1 : Ex := mV 6
def m_law_2 : Ev → Re Bool := mT (mB gIs (.ex (mCall [false, false] m__law_leaving [.v (mV 5), .v (mV 6)])) (.ex (mC .none)))
def m_law_3 : Ex := mCall [true, false] m__law_space [.b 2, .v (mCB (g1 gLen) [.bo 5])]
def m_law_4 : Sm := sSeq (sIf (mNot (mCall [false, false, false, false] m__law_space_right [.v (mV 5), .v (mV 7), .v (mV 6), .v (mV 3)])) (sSeq (sR (mFz (mC (.bool false)))) (sN)) (sN)) (sSeq (sA 3 (mFz (mNot (mV 3)))) (sSeq (sK [6]) (sN)))
def m_law_5 : Ex := mCall [false, false, false, false] m__law_asked [.v (mV 17), .v (mV 11), .v (mV 12), .v (mV 3)]
def m_law_6 : Sm := sSeq (sA 2 (mCall [false] m__law_box [.v (mCall [false, false] m__law_cell [.v (mV 0), .v (mV 1)])])) (sSeq (sPar [3, 4] [mFz (mB gEq (.ex (mCall [true, false] m__law_take [.b 2, .v (mC (.int 2))])) (.ex (mC (.int 0)))), mFz (mAnd (mB gEq (.ex (mCall [true, false] m__law_take [.b 2, .v (mC (.int 8))])) (.ex (mC (.int 0)))) (mB gEq (.bo 1) (.ex (mC (.int 0)))))]) (sSeq (sA 5 (mFz (mIf (mV 4) (mCall [true, false] m__law_net [.b 2, .v (mC (.int 5))]) (mCall [true, false] m__law_drawn_net [.b 2, .v (mC (.int 4))])))) (sSeq (sA 7 (mLc [15, 6] (.nm 6) (iOr (mIt (mCall [false] m__law_spaces [.v (mCB (g1 gLen) [.bo 5])])) (mIg (gD gKeys) (mCall [false] m__law_spaces [.v (mCB (g1 gLen) [.bo 5])]))) (m_law_2) (m_law_1))) (sSeq (sFz [7]) (sSeq (sA 8 (mFz (mB gAdd (.ex (mLc [15, 16] (.nm 16) (mIv gRng1 [mC (.int 4)]) (mYes) (m_law_3))) (.ex (mLst [mCall [true, false] m__law_pick [.b 2, .v (mV 7)], mCall [true, false] m__law_pick [.b 2, .v (mV 7)], mB gMul (.ex (mC (.str "*"))) (.ex (mCB (g1 gLen) [.bo 5]))]))))) (sSeq (sFor (.nm 6) (iOr (mIt (mV 8)) (mIg (gD gKeys) (mV 8))) m_law_4) (sSeq (sA 9 (mFz (mCall [true, false] m__law_pick [.b 2, .v (mCall [false] m__law_words [.v (mCB (g1 gLen) [.bo 5])])]))) (sSeq (sA 10 (mFz (mCall [false, false, false] m__law_around [.v (mV 5), .v (mV 7), .v (mV 9)]))) (sSeq (sIf (mNot (mCall [false, false] mF__law_same [.v (mLst [mCall [false, false, false, false] m__law_asked [.v (mC (.str "of")), .v (mV 5), .v (mV 9), .v (mV 3)], mCall [false, false, false, false] m__law_asked [.v (mC (.str "of")), .v (mV 5), .v (mV 9), .v (mNot (mV 3))]]), .v (mB gMul (.ex (mLst [mLst [mC (.str "told"), mV 10]])) (.ex (mC (.int 2))))])) (sSeq (sR (mFz (mC (.bool false)))) (sN)) (sN)) (sSeq (sPar [11, 12] [mFz (mCall [true] m__law_no_net [.b 2]), mFz (mCall [true, false] m__law_pick [.b 2, .v (mLst [mC .none, mC (.int 5), mC (.str ""), mB gMul (.ex (mC (.str "2"))) (.ex (mCB (g1 gLen) [.bo 5])), mB gMul (.ex (mC (.str "0"))) (.ex (mB gAdd (.ex (mCB (g1 gLen) [.bo 5])) (.ex (mC (.int 1))))), mLst [mC (.str "*")], mTup [mC (.str "*")], mDisp [(mC (.str "a"), mC (.int 1))], mC (.int 0)])])]) (sSeq (sA 13 (mFz (mCall [true, false] m__law_pick [.b 2, .v (mLst [mC .none, mC (.int 5), mC (.str ""), mB gMul (.ex (mC (.str "*"))) (.ex (mCB (g1 gLen) [.bo 5])), mB gMul (.ex (mC (.str "0"))) (.ex (mB gAdd (.ex (mCB (g1 gLen) [.bo 5])) (.ex (mC (.int 1))))), mLst [mC (.str "0")], mDisp [(mC (.str "a"), mC (.int 1))]])]))) (sSeq (sA 14 (mLc [15, 17] (.nm 17) (iOr (mIt (mLst [mC (.str "around"), mC (.str "percolated"), mC (.str "of")])) (mIg (gD gKeys) (mLst [mC (.str "around"), mC (.str "percolated"), mC (.str "of")]))) (mYes) (m_law_5))) (sSeq (sFz [14]) (sSeq (sA 14 (mFz (mB gAdd (.bo 14) (.ex (mLst [mCall [false, false, false, false] m__law_asked [.v (mC (.str "around")), .v (mV 5), .v (mV 12), .v (mV 3)], mCall [false, false, false, false] m__law_asked [.v (mC (.str "percolated")), .v (mV 5), .v (mV 12), .v (mNot (mV 3))], mCall [false, false, false, false] m__law_asked [.v (mC (.str "of")), .v (mV 5), .v (mV 13), .v (mV 3)]]))))) (sSeq (sIf (mNot (mCall [false, false] mF__law_same [.v (mV 14), .v (mB gAdd (.ex (mB gMul (.ex (mLst [mLst [mC (.str "net"), mV 11]])) (.ex (mC (.int 3))))) (.ex (mLst [mLst [mC (.str "space"), mV 12], mLst [mC (.str "space"), mV 12], mLst [mC (.str "state"), mV 13]])))])) (sSeq (sR (mFz (mC (.bool false)))) (sN)) (sN)) (sSeq (sK [1, 2, 3, 4, 5, 6, 7, 8, 9, 10, 11, 12, 13, 14]) (sN)))))))))))))))))
def b_law : Sm := sSeq (sFor (.nm 1) (mIv gRng1 [mCB (gMax) [.ex (mC (.int 2)), .ex (mCB (gMin) [.ex (mC (.int 5)), .ex (mCB (g1 gLen) [.bo 0])])]]) m_law_6) (sSeq (sR (mFz (mC (.bool true)))) (sN))
def m_law : MF := mFn [false] 18 b_law
def d_law : {p : D → R D // ∀ x0, RefF m_law [x0] jD (p x0)} := ⟨fun x0 => _, fun x0 => fn_ref rfl (e := [_, _, _, _, _, _, _, _, _, _, _, _, _, _, _, _, _, _]) rfl (s_For (iIv (vc (dCB (oc (oE (dC (oc (oE (dCB (oc (oE (dC (oc (oE (dCB (oc (oB rfl (o0 (fN rfl fun _ => (o0 (fN rfl fun _ => (o0 (fN rfl fun _ => (v0 (fO fun _ => (f_ForF (τ := Unit) (up := fun E c => E) (en' := fun c => [_, _, _, _, _, _, _, _, _, _, _, _, _, _, _, _, _, _]) (c0 := ()) (fun _ => rfl) rfl (fun _ _ => (u1 (e1 := [_, _, _, _, _, _, _, _, _, _, _, _, _, _, _, _, _, _]) rfl (s_A (wCall (av (dCall (av (dV rfl (av (dV rfl (a0 (cD0 (r__law_cell _ _) rfl rfl rfl rfl fun _ => (a0 (wL0 (r__law_box _) rfl rfl rfl rfl fun _ => (f_P (e1 := [_, _, _, _, _, _, _, _, _, _, _, _, _, _, _, _, _, _]) rfl (s_P (τ := (D) × (D) × ((List D))) (up := fun E c => (E.set 2 (.ol c.2.2))) (vr := fun c => [.v c.1, .v c.2.1]) (en := fun c => [_, _, _, _, _, _, _, _, _, _, _, _, _, _, _, _, _, _]) (en2 := fun c => [_, _, _, _, _, _, _, _, _, _, _, _, _, _, _, _, _, _]) (fun _ => rfl) (rc (wFz (dT (yB (oE (dCall (ab rfl (av (dC (a0 (cD1 (en := fun _ => [_, _, _, _, _, _, _, _, _, _, _, _, _, _, _, _, _, _]) (r__law_take _ _) rfl rfl rfl (fun _ => rfl) fun _ _ => (oE (dC (fT rfl rfl fun _ => (rc (wFz (dT (yAnd (yB (oE (dCall (ab rfl (av (dC (a0 (cD1 (en := fun _ => [_, _, _, _, _, _, _, _, _, _, _, _, _, _, _, _, _, _]) (r__law_take _ _) rfl rfl rfl (fun _ => rfl) fun _ _ => (oE (dC (fT rfl rfl fun _ => (jAnd (yW (yB (oB rfl (oE (dC (fT rfl rfl fun _ => (nEe rfl))))))) fun _ => (r0 (n_P (t := (_, _, _)) rfl rfl)))))))))))))))))))))))))))))))) (fun _ => rfl) fun _ => (s_A (wFz (dIf (yD (dV rfl (fBo fun _ => (jIfS (τ := (List D)) (up := fun E c => (E.set 2 (.ol c))) (en' := fun c => [_, _, _, _, _, _, _, _, _, _, _, _, _, _, _, _, _, _]) (fun _ => rfl) (dW (dCall (ab rfl (av (dC (a0 (cD1 (en := fun _ => [_, _, _, _, _, _, _, _, _, _, _, _, _, _, _, _, _, _]) (r__law_net _ _) rfl rfl rfl (fun _ => rfl) fun _ _ => (nSe (t := _) rfl)))))))) (dW (dCall (ab rfl (av (dC (a0 (cD1 (en := fun _ => [_, _, _, _, _, _, _, _, _, _, _, _, _, _, _, _, _, _]) (r__law_drawn_net _ _) rfl rfl rfl (fun _ => rfl) fun _ _ => (nSe (t := _) rfl)))))))) fun _ _ => (f_P (e1 := [_, _, _, _, _, _, _, _, _, _, _, _, _, _, _, _, _, _]) rfl (s_A (wLc (iIt (dCall (av (dCB (oc (oB rfl (o0 (fN rfl fun _ => (a0 (cD0 (r__law_spaces _) rfl rfl rfl rfl fun _ => (fO fun _ => (fLc rfl (fun _ => (pu1 (e1 := [_, _, _, _, _, _, _, _, _, _, _, _, _, _, _, _, _, _]) rfl (itC (yB (oE (dCall (av (dV rfl (av (dV rfl (a0 (cD0n (r__law_leaving _ _) rfl rfl rfl fun _ => (oE (dC (fT rfl rfl fun _ => (itS (elt (dV rfl (nEe rfl))) (nEe rfl))))))))))))))))) fun _ => (f_P (e1 := [_, _, _, _, _, _, _, _, _, _, _, _, _, _, _, _, _, _]) rfl (s_F (e1 := [_, _, _, _, _, _, _, _, _, _, _, _, _, _, _, _, _, _]) rfl (s_A (wFz (dB (oE (dLc (iIv (vc (dC (v0 (fO fun _ => (fLcS (τ := (List D)) (up := fun E c => (E.set 2 (.ol c))) (en' := fun c => [_, _, _, _, _, _, _, _, _, _, _, _, _, _, _, _, _, _]) (c0 := _) (fun _ => rfl) rfl rfl (fun _ _ => (pu1 (e1 := [_, _, _, _, _, _, _, _, _, _, _, _, _, _, _, _, _, _]) rfl (itY (elt (dCall (ab rfl (av (dCB (oc (oB rfl (o0 (fN rfl fun _ => (a0 (cD1 (en := fun _ => [_, _, _, _, _, _, _, _, _, _, _, _, _, _, _, _, _, _]) (r__law_space _ _) rfl rfl rfl (fun _ => rfl) fun _ _ => (nSe (t := _) rfl))))))))))))))) fun _ _ => (oE (dLst (vc (dCall (ab rfl (av (dV rfl (a0 (cD1 (en := fun _ => [_, _, _, _, _, _, _, _, _, _, _, _, _, _, _, _, _, _]) (r__law_pick _ _) rfl rfl rfl (fun _ => rfl) fun _ _ => (vc (dCall (ab rfl (av (dV rfl (a0 (cD1 (en := fun _ => [_, _, _, _, _, _, _, _, _, _, _, _, _, _, _, _, _, _]) (r__law_pick _ _) rfl rfl rfl (fun _ => rfl) fun _ _ => (vc (dB (oE (dC (oE (dCB (oc (oB rfl (o0 (fN rfl fun _ => (fD rfl rfl fun _ => (v0 (fD rfl rfl fun _ => (f_P (e1 := [_, _, _, _, _, _, _, _, _, _, _, _, _, _, _, _, _, _]) rfl (s_For (iIt (dV rfl (fO fun _ => (f_ForF (τ := D) (up := fun E c => (E.set 3 (.fz c))) (en' := fun c => [_, _, _, _, _, _, _, _, _, _, _, _, _, _, _, _, _, _]) (c0 := _) (fun _ => rfl) rfl (fun _ _ => (u1 (e1 := [_, _, _, _, _, _, _, _, _, _, _, _, _, _, _, _, _, _]) rfl (s_If (yNot (yD (dCall (av (dV rfl (av (dV rfl (av (dV rfl (av (dV rfl (a0 (cD0 (r__law_space_right _ _ _ _) rfl rfl rfl rfl fun _ => (fBo fun _ => (n_If (s_as (s_R (wFz (dC (n_R (a := (Lp.rt (Lp.rt _))) ⟨⟨rfl, _, _, rfl⟩, _, _, rfl⟩))))) (s_N (s_A (wFz (dT (yNot (yD (dV rfl (fBo fun _ => (f_P (e1 := [_, _, _, _, _, _, _, _, _, _, _, _, _, _, _, _, _, _]) rfl (s_K (e1 := [_, _, _, _, _, _, _, _, _, _, _, _, _, _, _, _, _, _]) rfl (n_F (t := _) rfl))))))))))))))))))))))))))))) fun _ => (s_A (wFz (dCall (ab rfl (av (dCall (av (dCB (oc (oB rfl (o0 (fN rfl fun _ => (a0 (cD0 (r__law_words _) rfl rfl rfl rfl fun _ => (a0 (cD1 (en := fun _ => [_, _, _, _, _, _, _, _, _, _, _, _, _, _, _, _, _, _]) (r__law_pick _ _) rfl rfl rfl (fun _ => rfl) fun _ _ => (f_P (e1 := [_, _, _, _, _, _, _, _, _, _, _, _, _, _, _, _, _, _]) rfl (s_A (wFz (dCall (av (dV rfl (av (dV rfl (av (dV rfl (a0 (cD0 (r__law_around _ _ _) rfl rfl rfl rfl fun _ => (f_P (e1 := [_, _, _, _, _, _, _, _, _, _, _, _, _, _, _, _, _, _]) rfl (s_If (yNot (yD (dCall (av (dLst (vc (dCall (av (dC (av (dV rfl (av (dV rfl (av (dV rfl (a0 (cL0 (r__law_asked _ _ _ _) rfl rfl rfl rfl fun _ => (vc (dCall (av (dC (av (dV rfl (av (dV rfl (av (dT (yNot (yD (dV rfl (fBo fun _ => (a0 (cL0 (r__law_asked _ _ _ _) rfl rfl rfl rfl fun _ => (v0 (av (dB (oE (dLst (vc (dLst (vc (dC (vc (dV rfl (v0 (v0 (oE (dC (fD rfl rfl fun _ => (a0 (cD0 (rF__law_same _ _) rfl rfl rfl rfl fun _ => (fBo fun _ => (n_If (s_as (s_R (wFz (dC (n_R (a := (Lp.rt _)) ⟨rfl, _, _, rfl⟩))))) (s_N (s_P (τ := (D) × (D) × ((List D))) (up := fun E c => (E.set 2 (.ol c.2.2))) (vr := fun c => [.v c.1, .v c.2.1]) (en := fun c => [_, _, _, _, _, _, _, _, _, _, _, _, _, _, _, _, _, _]) (en2 := fun c => [_, _, _, _, _, _, _, _, _, _, _, _, _, _, _, _, _, _]) (fun _ => rfl) (rc (wFz (dCall (ab rfl (a0 (cD1 (en := fun _ => [_, _, _, _, _, _, _, _, _, _, _, _, _, _, _, _, _, _]) (r__law_no_net _) rfl rfl rfl (fun _ => rfl) fun _ _ => (rc (wFz (dCall (ab rfl (av (dLst (vc (dC (vc (dC (vc (dC (vc (dB (oE (dC (oE (dCB (oc (oB rfl (o0 (fN rfl fun _ => (fD rfl rfl fun _ => (vc (dB (oE (dC (oE (dB (oE (dCB (oc (oB rfl (o0 (fN rfl fun _ => (oE (dC (fD rfl rfl fun _ => (fD rfl rfl fun _ => (vc (dLst (vc (dC (v0 (vc (dTup (vc (dC (v0 (vc (dDs (dsc (dC (dC (ds0 (nEe rfl))))) fun _ => (vc (dC (v0 (a0 (cD1 (en := fun _ => [_, _, _, _, _, _, _, _, _, _, _, _, _, _, _, _, _, _]) (r__law_pick _ _) rfl rfl rfl (fun _ => rfl) fun _ _ => (r0 (n_P (t := (_, _, _)) rfl rfl)))))))))))))))))))))))))))))))))))))))))))))))))))))))))))))))) (fun _ => rfl) fun _ => (s_A (wFz (dCall (ab rfl (av (dLst (vc (dC (vc (dC (vc (dC (vc (dB (oE (dC (oE (dCB (oc (oB rfl (o0 (fN rfl fun _ => (fD rfl rfl fun _ => (vc (dB (oE (dC (oE (dB (oE (dCB (oc (oB rfl (o0 (fN rfl fun _ => (oE (dC (fD rfl rfl fun _ => (fD rfl rfl fun _ => (vc (dLst (vc (dC (v0 (vc (dDs (dsc (dC (dC (ds0 (nEe rfl))))) fun _ => (v0 (a0 (cD1 (en := fun _ => [_, _, _, _, _, _, _, _, _, _, _, _, _, _, _, _, _, _]) (r__law_pick _ _) rfl rfl rfl (fun _ => rfl) fun _ _ => (f_P (e1 := [_, _, _, _, _, _, _, _, _, _, _, _, _, _, _, _, _, _]) rfl (s_A (wLc (iIt (dLst (vc (dC (vc (dC (vc (dC (v0 (fO fun _ => (fLc rfl (fun _ => (pu1 (e1 := [_, _, _, _, _, _, _, _, _, _, _, _, _, _, _, _, _, _]) rfl (itY (elt (dCall (av (dV rfl (av (dV rfl (av (dV rfl (av (dV rfl (a0 (cL0n (r__law_asked _ _ _ _) rfl rfl rfl fun _ => (nEe rfl)))))))))))))))) fun _ => (f_P (e1 := [_, _, _, _, _, _, _, _, _, _, _, _, _, _, _, _, _, _]) rfl (s_F (e1 := [_, _, _, _, _, _, _, _, _, _, _, _, _, _, _, _, _, _]) rfl (s_A (wFz (dB (oB rfl (oE (dLst (vc (dCall (av (dC (av (dV rfl (av (dV rfl (av (dV rfl (a0 (cL0 (r__law_asked _ _ _ _) rfl rfl rfl rfl fun _ => (vc (dCall (av (dC (av (dV rfl (av (dV rfl (av (dT (yNot (yD (dV rfl (fBo fun _ => (a0 (cL0 (r__law_asked _ _ _ _) rfl rfl rfl rfl fun _ => (vc (dCall (av (dC (av (dV rfl (av (dV rfl (av (dV rfl (a0 (cL0 (r__law_asked _ _ _ _) rfl rfl rfl rfl fun _ => (v0 (fD rfl rfl fun _ => (f_P (e1 := [_, _, _, _, _, _, _, _, _, _, _, _, _, _, _, _, _, _]) rfl (s_If (yNot (yD (dCall (av (dV rfl (av (dB (oE (dB (oE (dLst (vc (dLst (vc (dC (vc (dV rfl (v0 (v0 (oE (dC (fD rfl rfl fun _ => (oE (dLst (vc (dLst (vc (dC (vc (dV rfl (v0 (vc (dLst (vc (dC (vc (dV rfl (v0 (vc (dLst (vc (dC (vc (dV rfl (v0 (v0 (fD rfl rfl fun _ => (a0 (cD0 (rF__law_same _ _) rfl rfl rfl rfl fun _ => (fBo fun _ => (n_If (s_as (s_R (wFz (dC (n_R (a := (Lp.rt _)) ⟨rfl, _, _, rfl⟩))))) (s_N (s_K (e1 := [_, _, _, _, _, _, _, _, _, _, _, _, _, _, _, _, _, _]) rfl (n_F (t := ()) rfl)))))))))))))))))))))))))))))))))))))))))))))))))))))))))))))))))))))))))))))))))))))))))))))))))))))))))))))))))))))))))))))))))))))))))))))))))))))))))))))))))))))))))))))))))))))))))))))))))))))))))))))))))))))))))))))))))))))))))))))))))))))))))))))))))))))))))))))))))))))))))))))))))))))))))))))))))))))))))))))))))))))))))))))))))))) fun _ => (s_R (wFz (dC (n_R (a := _) rfl)))))))))))))))))))))))))))))))⟩
@[irreducible] def p_law : D → R D := d_law.1
theorem r_law : ∀ x0, RefF m_law [x0] jD (p_law x0) := by unfold p_law; exact d_law.2
end K17
end

namespace K17
open PySem PySem.Spec PyProof.Rows L2 RL
/-! ### what stands there -/
structure G (K : PySem.W.Frag) (mg : Str → Option Value) where
  c_MOST_INPUTS : ∃ t, mg "MOST_INPUTS" = some (.int 4 t)
  c_MOST_SWITCHES : ∃ t, mg "MOST_SWITCHES" = some (.int 8 t)
  n_abs : mg "abs" = none
  n_all : mg "all" = none
  n_bool : mg "bool" = none
  n_dict : mg "dict" = none
  n_enumerate : mg "enumerate" = none
  n_int : mg "int" = none
  n_isinstance : mg "isinstance" = none
  n_len : mg "len" = none
  n_list : mg "list" = none
  n_max : mg "max" = none
  n_min : mg "min" = none
  n_range : mg "range" = none
  n_set : mg "set" = none
  n_sorted : mg "sorted" = none
  n_str : mg "str" = none
  n_sum : mg "sum" = none
  n_tuple : mg "tuple" = none
  d__law_within : Df K mg "_law_within" (defArgs (top 54)) (defBody (top 54)) (defScope (top 54))
  d__law_around : Df K mg "_law_around" (defArgs (top 55)) (defBody (top 55)) (defScope (top 55))
  d_is_signs : Df K mg "is_signs" (defArgs (top 12)) (defBody (top 12)) (defScope (top 12))
  d_is_integer : Df K mg "is_integer" (defArgs (top 8)) (defBody (top 8)) (defScope (top 8))
  d_is_between : Df K mg "is_between" (defArgs (top 9)) (defBody (top 9)) (defScope (top 9))
  d_are_between : Df K mg "are_between" (defArgs (top 10)) (defBody (top 10)) (defScope (top 10))
  d_is_rising : Df K mg "is_rising" (defArgs (top 11)) (defBody (top 11)) (defScope (top 11))
  d_is_switches_value : Df K mg "is_switches_value" (defArgs (top 13)) (defBody (top 13)) (defScope (top 13))
  d_is_rule_value : Df K mg "is_rule_value" (defArgs (top 14)) (defBody (top 14)) (defScope (top 14))
  d_is_net_value : Df K mg "is_net_value" (defArgs (top 15)) (defBody (top 15)) (defScope (top 15))
  d_check_net : Df K mg "check_net" (defArgs (top 16)) (defBody (top 16)) (defScope (top 16))
  d_check_space : Df K mg "check_space" (defArgs (top 18)) (defBody (top 18)) (defScope (top 18))
  d_given : Df K mg "given" (defArgs (top 21)) (defBody (top 21)) (defScope (top 21))
  d_states_in : Df K mg "states_in" (defArgs (top 19)) (defBody (top 19)) (defScope (top 19))
  d_gives_all : Df K mg "gives_all" (defArgs (top 23)) (defBody (top 23)) (defScope (top 23))
  d_forced_in : Df K mg "forced_in" (defArgs (top 24)) (defBody (top 24)) (defScope (top 24))
  d_with_sign : Df K mg "with_sign" (defArgs (top 28)) (defBody (top 28)) (defScope (top 28))
  d_percolated_in : Df K mg "percolated_in" (defArgs (top 31)) (defBody (top 31)) (defScope (top 31))
  d_percolated : Df K mg "percolated" (defArgs (top 32)) (defBody (top 32)) (defScope (top 32))
  d_fixed_in : Df K mg "fixed_in" (defArgs (top 26)) (defBody (top 26)) (defScope (top 26))
  d_is_trap_in : Df K mg "is_trap_in" (defArgs (top 27)) (defBody (top 27)) (defScope (top 27))
  d_around : Df K mg "around" (defArgs (top 29)) (defBody (top 29)) (defScope (top 29))
  d_trap_around : Df K mg "trap_around" (defArgs (top 30)) (defBody (top 30)) (defScope (top 30))
  d_check_state : Df K mg "check_state" (defArgs (top 17)) (defBody (top 17)) (defScope (top 17))
  d_trap_of : Df K mg "trap_of" (defArgs (top 33)) (defBody (top 33)) (defScope (top 33))
  d__law_asked : Df K mg "_law_asked" (defArgs (top 53)) (defBody (top 53)) (defScope (top 53))
  d__law_box : Df K mg "_law_box" (defArgs (top 36)) (defBody (top 36)) (defScope (top 36))
  d__law_cell : Df K mg "_law_cell" (defArgs (top 35)) (defBody (top 35)) (defScope (top 35))
  d__law_take : Df K mg "_law_take" (defArgs (top 37)) (defBody (top 37)) (defScope (top 37))
  d__law_mixed : Df K mg "_law_mixed" (defArgs (top 40)) (defBody (top 40)) (defScope (top 40))
  d__law_words : Df K mg "_law_words" (defArgs (top 41)) (defBody (top 41)) (defScope (top 41))
  d__law_table : Df K mg "_law_table" (defArgs (top 44)) (defBody (top 44)) (defScope (top 44))
  d__law_net : Df K mg "_law_net" (defArgs (top 45)) (defBody (top 45)) (defScope (top 45))
  d__law_pick : Df K mg "_law_pick" (defArgs (top 39)) (defBody (top 39)) (defScope (top 39))
  d__law_drawn_net : Df K mg "_law_drawn_net" (defArgs (top 52)) (defBody (top 52)) (defScope (top 52))
  d__law_given : Df K mg "_law_given" (defArgs (top 42)) (defBody (top 42)) (defScope (top 42))
  d__law_image : Df K mg "_law_image" (defArgs (top 43)) (defBody (top 43)) (defScope (top 43))
  d__law_in : Df K mg "_law_in" (defArgs (top 47)) (defBody (top 47)) (defScope (top 47))
  d__law_states_in : Df K mg "_law_states_in" (defArgs (top 48)) (defBody (top 48)) (defScope (top 48))
  d__law_leaving : Df K mg "_law_leaving" (defArgs (top 51)) (defBody (top 51)) (defScope (top 51))
  d__law_no_net : Df K mg "_law_no_net" (defArgs (top 46)) (defBody (top 46)) (defScope (top 46))
  d__law_same : Df K mg "_law_same" (defArgs (top 38)) (defBody (top 38)) (defScope (top 38))
  d__law_space : Df K mg "_law_space" (defArgs (top 50)) (defBody (top 50)) (defScope (top 50))
  d__law_percolated : Df K mg "_law_percolated" (defArgs (top 56)) (defBody (top 56)) (defScope (top 56))
  d__law_space_right : Df K mg "_law_space_right" (defArgs (top 57)) (defBody (top 57)) (defScope (top 57))
  d__law_spaces : Df K mg "_law_spaces" (defArgs (top 49)) (defBody (top 49)) (defScope (top 49))
  d_law : Df K mg "law" (defArgs (top 58)) (defBody (top 58)) (defScope (top 58))
  e_InvalidNetwork : Dm K mg "InvalidNetwork" "InvalidNetwork.__init__" (defArgs (inClass (top 2) 0)) (defBody (inClass (top 2) 0)) (defScope (inClass (top 2) 0)) ["given"]
  e_InvalidSpace : Dm K mg "InvalidSpace" "InvalidSpace.__init__" (defArgs (inClass (top 3) 0)) (defBody (inClass (top 3) 0)) (defScope (inClass (top 3) 0)) ["given"]
  e_InvalidState : Dm K mg "InvalidState" "InvalidState.__init__" (defArgs (inClass (top 4) 0)) (defBody (inClass (top 4) 0)) (defScope (inClass (top 4) 0)) ["given"]
  tl : ∀ x y, x ∈ errs → y ∈ errs → ∀ a b, mg x = some (.ref a) → mg y = some (.ref b) → PySem.W.exmOne K (.ref a) (.ref b) = some (decide (x = y))
section
variable {P : Program} {w : World} {K : PySem.W.Frag} {mg : Str → Option Value} {base : Heap}
theorem G.b__law_within (g : G K mg) : Binds K g.d__law_within.d ["one", "other"] [] := g.d__law_within.F.bindsN fun _ _ _ _ _ _ us hl => match us, hl with | [_, _], _ => rfl
theorem G.b__law_around (g : G K mg) : Binds K g.d__law_around.d ["net", "traps", "space"] [] := g.d__law_around.F.bindsN fun _ _ _ _ _ _ us hl => match us, hl with | [_, _, _], _ => rfl
theorem G.b_is_signs (g : G K mg) : Binds K g.d_is_signs.d ["value", "many", "signs"] [] := g.d_is_signs.F.bindsN fun _ _ _ _ _ _ us hl => match us, hl with | [_, _, _], _ => rfl
theorem G.b_is_integer (g : G K mg) : Binds K g.d_is_integer.d ["value"] [] := g.d_is_integer.F.bindsN fun _ _ _ _ _ _ us hl => match us, hl with | [_], _ => rfl
theorem G.b_is_between (g : G K mg) : Binds K g.d_is_between.d ["value", "least", "most"] [] := g.d_is_between.F.bindsN fun _ _ _ _ _ _ us hl => match us, hl with | [_, _, _], _ => rfl
theorem G.b_are_between (g : G K mg) : Binds K g.d_are_between.d ["values", "least", "most"] [] := g.d_are_between.F.bindsN fun _ _ _ _ _ _ us hl => match us, hl with | [_, _, _], _ => rfl
theorem G.b_is_rising (g : G K mg) : Binds K g.d_is_rising.d ["items"] [] := g.d_is_rising.F.bindsN fun _ _ _ _ _ _ us hl => match us, hl with | [_], _ => rfl
theorem G.b_is_switches_value (g : G K mg) : Binds K g.d_is_switches_value.d ["count", "value"] [] := g.d_is_switches_value.F.bindsN fun _ _ _ _ _ _ us hl => match us, hl with | [_, _], _ => rfl
theorem G.b_is_rule_value (g : G K mg) : Binds K g.d_is_rule_value.d ["count", "value"] [] := g.d_is_rule_value.F.bindsN fun _ _ _ _ _ _ us hl => match us, hl with | [_, _], _ => rfl
theorem G.b_is_net_value (g : G K mg) : Binds K g.d_is_net_value.d ["value"] [] := g.d_is_net_value.F.bindsN fun _ _ _ _ _ _ us hl => match us, hl with | [_], _ => rfl
theorem G.b_check_net (g : G K mg) : Binds K g.d_check_net.d ["net"] [] := g.d_check_net.F.bindsN fun _ _ _ _ _ _ us hl => match us, hl with | [_], _ => rfl
theorem G.b_check_space (g : G K mg) : Binds K g.d_check_space.d ["net", "space"] [] := g.d_check_space.F.bindsN fun _ _ _ _ _ _ us hl => match us, hl with | [_, _], _ => rfl
theorem G.b_given (g : G K mg) : Binds K g.d_given.d ["net", "switch", "state"] [] := g.d_given.F.bindsN fun _ _ _ _ _ _ us hl => match us, hl with | [_, _, _], _ => rfl
theorem G.b_states_in (g : G K mg) : Binds K g.d_states_in.d ["space"] [] := g.d_states_in.F.bindsN fun _ _ _ _ _ _ us hl => match us, hl with | [_], _ => rfl
theorem G.b_gives_all (g : G K mg) : Binds K g.d_gives_all.d ["net", "switch", "sign", "space"] [] := g.d_gives_all.F.bindsN fun _ _ _ _ _ _ us hl => match us, hl with | [_, _, _, _], _ => rfl
theorem G.b_forced_in (g : G K mg) : Binds K g.d_forced_in.d ["net", "space"] [] := g.d_forced_in.F.bindsN fun _ _ _ _ _ _ us hl => match us, hl with | [_, _], _ => rfl
theorem G.b_with_sign (g : G K mg) : Binds K g.d_with_sign.d ["space", "switch", "sign"] [] := g.d_with_sign.F.bindsN fun _ _ _ _ _ _ us hl => match us, hl with | [_, _, _], _ => rfl
theorem G.b_percolated_in (g : G K mg) : Binds K g.d_percolated_in.d ["net", "space"] [] := g.d_percolated_in.F.bindsN fun _ _ _ _ _ _ us hl => match us, hl with | [_, _], _ => rfl
theorem G.b_percolated (g : G K mg) : Binds K g.d_percolated.d ["net", "space"] [] := g.d_percolated.F.bindsN fun _ _ _ _ _ _ us hl => match us, hl with | [_, _], _ => rfl
theorem G.b_fixed_in (g : G K mg) : Binds K g.d_fixed_in.d ["space"] [] := g.d_fixed_in.F.bindsN fun _ _ _ _ _ _ us hl => match us, hl with | [_], _ => rfl
theorem G.b_is_trap_in (g : G K mg) : Binds K g.d_is_trap_in.d ["net", "space"] [] := g.d_is_trap_in.F.bindsN fun _ _ _ _ _ _ us hl => match us, hl with | [_, _], _ => rfl
theorem G.b_around (g : G K mg) : Binds K g.d_around.d ["net", "space"] [] := g.d_around.F.bindsN fun _ _ _ _ _ _ us hl => match us, hl with | [_, _], _ => rfl
theorem G.b_trap_around (g : G K mg) : Binds K g.d_trap_around.d ["net", "space"] [] := g.d_trap_around.F.bindsN fun _ _ _ _ _ _ us hl => match us, hl with | [_, _], _ => rfl
theorem G.b_check_state (g : G K mg) : Binds K g.d_check_state.d ["net", "state"] [] := g.d_check_state.F.bindsN fun _ _ _ _ _ _ us hl => match us, hl with | [_, _], _ => rfl
theorem G.b_trap_of (g : G K mg) : Binds K g.d_trap_of.d ["net", "state"] [] := g.d_trap_of.F.bindsN fun _ _ _ _ _ _ us hl => match us, hl with | [_, _], _ => rfl
theorem G.b__law_asked (g : G K mg) : Binds K g.d__law_asked.d ["word", "net", "value", "by_name"] [] := g.d__law_asked.F.bindsN fun _ _ _ _ _ _ us hl => match us, hl with | [_, _, _, _], _ => rfl
theorem G.b__law_box (g : G K mg) : Binds K g.d__law_box.d ["great"] [] := g.d__law_box.F.bindsN fun _ _ _ _ _ _ us hl => match us, hl with | [_], _ => rfl
theorem G.b__law_cell (g : G K mg) : Binds K g.d__law_cell.d ["script", "k"] [] := g.d__law_cell.F.bindsN fun _ _ _ _ _ _ us hl => match us, hl with | [_, _], _ => rfl
theorem G.b__law_take (g : G K mg) : Binds K g.d__law_take.d ["box", "many"] [] := g.d__law_take.F.bindsN fun _ _ _ _ _ _ us hl => match us, hl with | [_, _], _ => rfl
theorem G.b__law_mixed (g : G K mg) : Binds K g.d__law_mixed.d ["box", "many"] [] := g.d__law_mixed.F.bindsN fun _ _ _ _ _ _ us hl => match us, hl with | [_, _], _ => rfl
theorem G.b__law_words (g : G K mg) : Binds K g.d__law_words.d ["length"] [] := g.d__law_words.F.bindsN fun _ _ _ _ _ _ us hl => match us, hl with | [_], _ => rfl
theorem G.b__law_table (g : G K mg) : Binds K g.d__law_table.d ["box", "size"] [] := g.d__law_table.F.bindsN fun _ _ _ _ _ _ us hl => match us, hl with | [_, _], _ => rfl
theorem G.b__law_net (g : G K mg) : Binds K g.d__law_net.d ["box", "count"] [] := g.d__law_net.F.bindsN fun _ _ _ _ _ _ us hl => match us, hl with | [_, _], _ => rfl
theorem G.b__law_pick (g : G K mg) : Binds K g.d__law_pick.d ["box", "items"] [] := g.d__law_pick.F.bindsN fun _ _ _ _ _ _ us hl => match us, hl with | [_, _], _ => rfl
theorem G.b__law_drawn_net (g : G K mg) : Binds K g.d__law_drawn_net.d ["box", "most"] [] := g.d__law_drawn_net.F.bindsN fun _ _ _ _ _ _ us hl => match us, hl with | [_, _], _ => rfl
theorem G.b__law_given (g : G K mg) : Binds K g.d__law_given.d ["net", "switch", "state"] [] := g.d__law_given.F.bindsN fun _ _ _ _ _ _ us hl => match us, hl with | [_, _, _], _ => rfl
theorem G.b__law_image (g : G K mg) : Binds K g.d__law_image.d ["net", "state"] [] := g.d__law_image.F.bindsN fun _ _ _ _ _ _ us hl => match us, hl with | [_, _], _ => rfl
theorem G.b__law_in (g : G K mg) : Binds K g.d__law_in.d ["state", "space"] [] := g.d__law_in.F.bindsN fun _ _ _ _ _ _ us hl => match us, hl with | [_, _], _ => rfl
theorem G.b__law_states_in (g : G K mg) : Binds K g.d__law_states_in.d ["space"] [] := g.d__law_states_in.F.bindsN fun _ _ _ _ _ _ us hl => match us, hl with | [_], _ => rfl
theorem G.b__law_leaving (g : G K mg) : Binds K g.d__law_leaving.d ["net", "space"] [] := g.d__law_leaving.F.bindsN fun _ _ _ _ _ _ us hl => match us, hl with | [_, _], _ => rfl
theorem G.b__law_no_net (g : G K mg) : Binds K g.d__law_no_net.d ["box"] [] := g.d__law_no_net.F.bindsN fun _ _ _ _ _ _ us hl => match us, hl with | [_], _ => rfl
theorem G.b__law_same (g : G K mg) : Binds K g.d__law_same.d ["told", "due"] [] := g.d__law_same.F.bindsN fun _ _ _ _ _ _ us hl => match us, hl with | [_, _], _ => rfl
theorem G.b__law_space (g : G K mg) : Binds K g.d__law_space.d ["box", "count"] [] := g.d__law_space.F.bindsN fun _ _ _ _ _ _ us hl => match us, hl with | [_, _], _ => rfl
theorem G.b__law_percolated (g : G K mg) : Binds K g.d__law_percolated.d ["net", "space"] [] := g.d__law_percolated.F.bindsN fun _ _ _ _ _ _ us hl => match us, hl with | [_, _], _ => rfl
theorem G.b__law_space_right (g : G K mg) : Binds K g.d__law_space_right.d ["net", "traps", "space", "by_name"] [] := g.d__law_space_right.F.bindsN fun _ _ _ _ _ _ us hl => match us, hl with | [_, _, _, _], _ => rfl
theorem G.b__law_spaces (g : G K mg) : Binds K g.d__law_spaces.d ["count"] [] := g.d__law_spaces.F.bindsN fun _ _ _ _ _ _ us hl => match us, hl with | [_], _ => rfl
theorem G.b_law (g : G K mg) : Binds K g.d_law.d ["script"] [] := g.d_law.F.bindsN fun _ _ _ _ _ _ us hl => match us, hl with | [_], _ => rfl
theorem kw_percolated_space_net (g : G K mg) : KwB K g.d_percolated.d ["net", "space"] ["space", "net"] [1, 0] := kwB_of g.d_percolated.F fun _ _ _ _ _ _ ws us hl hp => match ws, hl with | [_, _], _ => by cases hp; rfl
theorem kw_trap_around_space_net (g : G K mg) : KwB K g.d_trap_around.d ["net", "space"] ["space", "net"] [1, 0] := kwB_of g.d_trap_around.F fun _ _ _ _ _ _ ws us hl hp => match ws, hl with | [_, _], _ => by cases hp; rfl
theorem kw_trap_of_state_net (g : G K mg) : KwB K g.d_trap_of.d ["net", "state"] ["state", "net"] [1, 0] := kwB_of g.d_trap_of.F fun _ _ _ _ _ _ ws us hl hp => match ws, hl with | [_, _], _ => by cases hp; rfl
theorem si_InvalidNetwork : FnScope ["self", "given"] ["self", "given"] (defScope (inClass (top 2) 0)) := ⟨rfl, rfl, rfl, by decide +kernel, rfl, by decide +kernel, by decide +kernel⟩
theorem oi_InvalidNetwork (g : G K mg) : FnOk P w K mg base (L2.CX P w) 1 g.e_InvalidNetwork.a g.e_InvalidNetwork.d ["self", "given"] (spI K ["given"]) := init1 g.e_InvalidNetwork.F si_InvalidNetwork fun cdv A outer s H E => (pss_one (ps_ost (pv 0) (pv 1)))
theorem xc_InvalidNetwork (g : G K mg) : XcOk P w K mg base "InvalidNetwork" g.e_InvalidNetwork.C ["given"] := g.e_InvalidNetwork.xc (g.e_InvalidNetwork.F.bindsN fun _ _ _ _ _ _ us hl => match us, hl with | [_, _], _ => rfl) (oi_InvalidNetwork g)
theorem si_InvalidSpace : FnScope ["self", "given"] ["self", "given"] (defScope (inClass (top 3) 0)) := ⟨rfl, rfl, rfl, by decide +kernel, rfl, by decide +kernel, by decide +kernel⟩
theorem oi_InvalidSpace (g : G K mg) : FnOk P w K mg base (L2.CX P w) 1 g.e_InvalidSpace.a g.e_InvalidSpace.d ["self", "given"] (spI K ["given"]) := init1 g.e_InvalidSpace.F si_InvalidSpace fun cdv A outer s H E => (pss_one (ps_ost (pv 0) (pv 1)))
theorem xc_InvalidSpace (g : G K mg) : XcOk P w K mg base "InvalidSpace" g.e_InvalidSpace.C ["given"] := g.e_InvalidSpace.xc (g.e_InvalidSpace.F.bindsN fun _ _ _ _ _ _ us hl => match us, hl with | [_, _], _ => rfl) (oi_InvalidSpace g)
theorem si_InvalidState : FnScope ["self", "given"] ["self", "given"] (defScope (inClass (top 4) 0)) := ⟨rfl, rfl, rfl, by decide +kernel, rfl, by decide +kernel, by decide +kernel⟩
theorem oi_InvalidState (g : G K mg) : FnOk P w K mg base (L2.CX P w) 1 g.e_InvalidState.a g.e_InvalidState.d ["self", "given"] (spI K ["given"]) := init1 g.e_InvalidState.F si_InvalidState fun cdv A outer s H E => (pss_one (ps_ost (pv 0) (pv 1)))
theorem xc_InvalidState (g : G K mg) : XcOk P w K mg base "InvalidState" g.e_InvalidState.C ["given"] := g.e_InvalidState.xc (g.e_InvalidState.F.bindsN fun _ _ _ _ _ _ us hl => match us, hl with | [_, _], _ => rfl) (oi_InvalidState g)
theorem sc__law_within : FnScope ["one", "other", ".0", "k"] ["one", "other"] (defScope (top 54)) := ⟨rfl, rfl, rfl, by decide +kernel, rfl, by decide +kernel, by decide +kernel⟩
theorem ok__law_within (g : G K mg) : FnOk P w K mg base (L2.CX P w) 1 g.d__law_within.a g.d__law_within.d ["one", "other"] (spM K mg [false, false] m__law_within) :=
  fn_ok (k := 0) (N := ["one", "other", ".0", "k"]) (ms := [false, false]) (m := b__law_within) g.d__law_within.F sc__law_within rfl fun cdv A outer s H E hr tk pb => (db_cons (ds_ret (de_fz (be_cmp (o_eq (hu hr)) (do_ex (de_lc (own := [(".0", 2), ("k", 3)]) rfl sc__law_within.nd (di_rng1 g.n_range (de_callB b_len g.n_len (dp_cons (do_bo 0) dp_nil) (hv := bt_len))) (blkOk_by (by kernel_rfl)) (fun _ _ _ _ _ => (pg_name sc__law_within.nd rfl (Or.inl rfl))) (fun _ _ _ _ _ => (dt_one (be_bw (bw_and (be_cmp (o_ne (hu hr)) (do_ex (de_ix (o_ix (hu hr)) (do_bo 1) (do_bo 3))) (do_ex de_str)) (bw_one (be_cmp (o_ne (hu hr)) (do_ex (de_ix (o_ix (hu hr)) (do_bo 1) (do_bo 3))) (do_ex (de_ix (o_ix (hu hr)) (do_bo 0) (do_bo 3))))))))) (fun _ _ _ _ _ => (de_v 3)))) (do_ex (de_lst da_nil))).v)) db_nil)
theorem sc__law_around : FnScope ["net", "traps", "space", "found", ".0", "one", "other"] ["net", "traps", "space"] (defScope (top 55)) := ⟨rfl, rfl, rfl, by decide +kernel, rfl, by decide +kernel, by decide +kernel⟩
theorem ok__law_around (g : G K mg) : FnOk P w K mg base (L2.CX P w) 2 g.d__law_around.a g.d__law_around.d ["net", "traps", "space"] (spM K mg [false, false, false] m__law_around) :=
  fn_ok (k := 1) (N := ["net", "traps", "space", "found", ".0", "one", "other"]) (ms := [false, false, false]) (m := b__law_around) g.d__law_around.F sc__law_around rfl fun cdv A outer s H E hr tk pb => (db_cons (ds_set (i := 3) sc__law_around.nd rfl (Or.inr rfl) (de_lc (own := [(".0", 4), ("one", 5)]) rfl sc__law_around.nd (di_or (di_v (de_v 1)) (di_keys (de_v 1))) (blkOk_by (by kernel_rfl)) (fun _ _ _ _ _ => (pg_name sc__law_around.nd rfl (Or.inl rfl))) (fun _ _ _ _ _ => (dt_one (be_val (de_call takes0 (ok__law_within g) (hr.mono (by decide)) g.d__law_within.g g.d__law_within.F.kp g.b__law_within (dr_v (de_v 2) (dr_v (de_v 5) dr_nil)))))) (fun _ _ _ _ _ => (de_v 5)))) (db_frz [3] (db_cons (ds_ret (de_fz (de_ix (o_ix (hu hr)) (do_ex (de_lc (own := [(".0", 4), ("one", 5)]) rfl sc__law_around.nd (di_or (di_v (de_v 3)) (di_keys (de_v 3))) (blkOk_by (by kernel_rfl)) (fun _ _ _ _ _ => (pg_name sc__law_around.nd rfl (Or.inr rfl))) (fun _ _ _ _ _ => (dt_one (be_cmp (o_eq (hu hr)) (do_ex (de_lc (own := [(".0", 4), ("other", 6)]) rfl sc__law_around.nd (di_or (di_v (de_v 3)) (di_keys (de_v 3))) (blkOk_by (by kernel_rfl)) (fun _ _ _ _ _ => (pg_name sc__law_around.nd rfl (Or.inl rfl))) (fun _ _ _ _ _ => (dt_one (be_not (be_val (de_call takes0 (ok__law_within g) (hr.mono (by decide)) g.d__law_within.g g.d__law_within.F.kp g.b__law_within (dr_v (de_v 5) (dr_v (de_v 6) dr_nil))))))) (fun _ _ _ _ _ => (de_v 6)))) (do_ex (de_lst da_nil))))) (fun _ _ _ _ _ => (de_v 5)))) (do_ex de_int)))) db_nil)))
theorem sc_is_signs : FnScope ["value", "many", "signs", ".0", "sign"] ["value", "many", "signs"] (defScope (top 12)) := ⟨rfl, rfl, rfl, by decide +kernel, rfl, by decide +kernel, by decide +kernel⟩
theorem ok_is_signs (g : G K mg) : FnOk P w K mg base (L2.CX P w) 1 g.d_is_signs.a g.d_is_signs.d ["value", "many", "signs"] (spM K mg [false, false, false] m_is_signs) :=
  fn_ok (k := 0) (N := ["value", "many", "signs", ".0", "sign"]) (ms := [false, false, false]) (m := b_is_signs) g.d_is_signs.F sc_is_signs rfl fun cdv A outer s H E hr tk pb => (db_cons (ds_ret (de_fz (be_bw (bw_and (be_isi1 tk_str g.n_isinstance (do_bo 0) (nt_of g.n_str (hv := bt_str))) (bw_and (be_cmp (o_eq (hu hr)) (do_ex (de_callB b_len g.n_len (dp_cons (do_bo 0) dp_nil) (hv := bt_len))) (do_bo 1)) (bw_one (be_val (de_callB (b_all rfl) g.n_all (dp_cons (do_ex (de_lc (own := [(".0", 3), ("sign", 4)]) rfl sc_is_signs.nd (di_or (di_v (de_v 0)) (di_keys (de_v 0))) (blkOk_by (by kernel_rfl)) (fun _ _ _ _ _ => (pg_name sc_is_signs.nd rfl (Or.inl rfl))) (fun _ _ _ _ _ => dt_nil) (fun _ _ _ _ _ => (be_cmp (o_in (hu hr)) (do_bo 4) (do_bo 2)).v))) dp_nil) (hv := bt_all))))))).v)) db_nil)
theorem sc_is_integer : FnScope ["value"] ["value"] (defScope (top 8)) := ⟨rfl, rfl, rfl, by decide +kernel, rfl, by decide +kernel, by decide +kernel⟩
theorem ok_is_integer (g : G K mg) : FnOk P w K mg base (L2.CX P w) 1 g.d_is_integer.a g.d_is_integer.d ["value"] (spM K mg [false] m_is_integer) :=
  fn_ok (k := 0) (N := ["value"]) (ms := [false]) (m := b_is_integer) g.d_is_integer.F sc_is_integer rfl fun cdv A outer s H E hr tk pb => (db_cons (ds_ret (de_fz (be_bw (bw_and (be_isi1 tk_int g.n_isinstance (do_bo 0) (nt_of g.n_int (hv := bt_int))) (bw_one (be_not (be_isi1 tk_bool g.n_isinstance (do_bo 0) (nt_of g.n_bool (hv := bt_bool))))))).v)) db_nil)
theorem sc_is_between : FnScope ["value", "least", "most"] ["value", "least", "most"] (defScope (top 9)) := ⟨rfl, rfl, rfl, by decide +kernel, rfl, by decide +kernel, by decide +kernel⟩
theorem ok_is_between (g : G K mg) : FnOk P w K mg base (L2.CX P w) 2 g.d_is_between.a g.d_is_between.d ["value", "least", "most"] (spM K mg [false, false, false] m_is_between) :=
  fn_ok (k := 1) (N := ["value", "least", "most"]) (ms := [false, false, false]) (m := b_is_between) g.d_is_between.F sc_is_between rfl fun cdv A outer s H E hr tk pb => (db_cons (ds_ret (de_fz (be_bw (bw_and (be_val (de_call tk (ok_is_integer g) (hr.mono (by decide)) g.d_is_integer.g g.d_is_integer.F.kp g.b_is_integer (dr_v (de_v 0) dr_nil))) (bw_one (be_chain (o_le (hu hr)) (o_le (hu hr)) (do_bo 1) (do_bo 0) (do_bo 2))))).v)) db_nil)
theorem sc_are_between : FnScope ["values", "least", "most", ".0", "value"] ["values", "least", "most"] (defScope (top 10)) := ⟨rfl, rfl, rfl, by decide +kernel, rfl, by decide +kernel, by decide +kernel⟩
theorem ok_are_between (g : G K mg) : FnOk P w K mg base (L2.CX P w) 3 g.d_are_between.a g.d_are_between.d ["values", "least", "most"] (spM K mg [false, false, false] m_are_between) :=
  fn_ok (k := 2) (N := ["values", "least", "most", ".0", "value"]) (ms := [false, false, false]) (m := b_are_between) g.d_are_between.F sc_are_between rfl fun cdv A outer s H E hr tk pb => (db_cons (ds_ret (de_fz (de_callB (b_all rfl) g.n_all (dp_cons (do_ex (de_lc (own := [(".0", 3), ("value", 4)]) rfl sc_are_between.nd (di_or (di_v (de_v 0)) (di_keys (de_v 0))) (blkOk_by (by kernel_rfl)) (fun _ _ _ _ _ => (pg_name sc_are_between.nd rfl (Or.inl rfl))) (fun _ _ _ _ _ => dt_nil) (fun _ _ _ _ _ => (de_call takes0 (ok_is_between g) (hr.mono (by decide)) g.d_is_between.g g.d_is_between.F.kp g.b_is_between (dr_v (de_v 4) (dr_v (de_v 1) (dr_v (de_v 2) dr_nil))))))) dp_nil) (hv := bt_all)))) db_nil)
theorem sc_is_rising : FnScope ["items", ".0", "at"] ["items"] (defScope (top 11)) := ⟨rfl, rfl, rfl, by decide +kernel, rfl, by decide +kernel, by decide +kernel⟩
theorem ok_is_rising (g : G K mg) : FnOk P w K mg base (L2.CX P w) 1 g.d_is_rising.a g.d_is_rising.d ["items"] (spM K mg [false] m_is_rising) :=
  fn_ok (k := 0) (N := ["items", ".0", "at"]) (ms := [false]) (m := b_is_rising) g.d_is_rising.F sc_is_rising rfl fun cdv A outer s H E hr tk pb => (db_cons (ds_ret (de_fz (de_callB (b_all rfl) g.n_all (dp_cons (do_ex (de_lc (own := [(".0", 1), ("at", 2)]) rfl sc_is_rising.nd (di_rng1 g.n_range (de_bin o_sub (do_ex (de_callB b_len g.n_len (dp_cons (do_bo 0) dp_nil) (hv := bt_len))) (do_ex de_int))) (blkOk_by (by kernel_rfl)) (fun _ _ _ _ _ => (pg_name sc_is_rising.nd rfl (Or.inl rfl))) (fun _ _ _ _ _ => dt_nil) (fun _ _ _ _ _ => (be_cmp (o_lt (hu hr)) (do_ex (de_ix (o_ix (hu hr)) (do_bo 0) (do_bo 2))) (do_ex (de_ix (o_ix (hu hr)) (do_bo 0) (do_ex (de_bin o_add (do_bo 2) (do_ex de_int)))))).v))) dp_nil) (hv := bt_all)))) db_nil)
theorem sc_is_switches_value : FnScope ["count", "value"] ["count", "value"] (defScope (top 13)) := ⟨rfl, rfl, rfl, by decide +kernel, rfl, by decide +kernel, by decide +kernel⟩
theorem ok_is_switches_value (g : G K mg) : FnOk P w K mg base (L2.CX P w) 4 g.d_is_switches_value.a g.d_is_switches_value.d ["count", "value"] (spM K mg [false, false] m_is_switches_value) :=
  fn_ok (k := 3) (N := ["count", "value"]) (ms := [false, false]) (m := b_is_switches_value) g.d_is_switches_value.F sc_is_switches_value rfl fun cdv A outer s H E hr tk pb => (db_cons (ds_ret (de_fz (be_bw (bw_and (be_isi1 tk_tuple g.n_isinstance (do_bo 1) (nt_of g.n_tuple (hv := bt_tuple))) (bw_and (be_val (de_call tk (ok_are_between g) (hr.mono (by decide)) g.d_are_between.g g.d_are_between.F.kp g.b_are_between (dr_v (de_v 1) (dr_v de_int (dr_v (de_bin o_sub (do_bo 0) (do_ex de_int)) dr_nil))))) (bw_one (be_val (de_call tk (ok_is_rising g) (hr.mono (by decide)) g.d_is_rising.g g.d_is_rising.F.kp g.b_is_rising (dr_v (de_v 1) dr_nil))))))).v)) db_nil)
theorem sc_is_rule_value : FnScope ["count", "value"] ["count", "value"] (defScope (top 14)) := ⟨rfl, rfl, rfl, by decide +kernel, rfl, by decide +kernel, by decide +kernel⟩
theorem ok_is_rule_value (g : G K mg) : FnOk P w K mg base (L2.CX P w) 5 g.d_is_rule_value.a g.d_is_rule_value.d ["count", "value"] (spM K mg [false, false] m_is_rule_value) :=
  fn_ok (k := 4) (N := ["count", "value"]) (ms := [false, false]) (m := b_is_rule_value) g.d_is_rule_value.F sc_is_rule_value rfl fun cdv A outer s H E hr tk pb => (db_cons (ds_if (be_bw (bw_or (be_not (be_isi1 tk_tuple g.n_isinstance (do_bo 1) (nt_of g.n_tuple (hv := bt_tuple)))) (bw_or (be_cmp (o_ne (hu hr)) (do_ex (de_callB b_len g.n_len (dp_cons (do_bo 1) dp_nil) (hv := bt_len))) (do_ex de_int)) (bw_one (be_not (be_val (de_call tk (ok_is_switches_value g) (hr.mono (by decide)) g.d_is_switches_value.g g.d_is_switches_value.F.kp g.b_is_switches_value (dr_v (de_v 0) (dr_v (de_ix (o_ix (hu hr)) (do_bo 1) (do_ex de_int)) dr_nil))))))))) (db_cons (ds_ret (de_fz de_bool)) db_nil) db_nil) (db_cons (ds_ret (de_fz (be_bw (bw_and (be_cmp (o_le (hu hr)) (do_ex (de_callB b_len g.n_len (dp_cons (do_ex (de_ix (o_ix (hu hr)) (do_bo 1) (do_ex de_int))) dp_nil) (hv := bt_len))) (do_ex (de_gint g.c_MOST_INPUTS))) (bw_one (be_val (de_call tk (ok_is_signs g) (hr.mono (by decide)) g.d_is_signs.g g.d_is_signs.F.kp g.b_is_signs (dr_v (de_ix (o_ix (hu hr)) (do_bo 1) (do_ex de_int)) (dr_v (de_bin o_shl (do_ex de_int) (do_ex (de_callB b_len g.n_len (dp_cons (do_ex (de_ix (o_ix (hu hr)) (do_bo 1) (do_ex de_int))) dp_nil) (hv := bt_len)))) (dr_v de_str dr_nil)))))))).v)) db_nil))
theorem sc_is_net_value : FnScope ["value", ".0", "rule"] ["value"] (defScope (top 15)) := ⟨rfl, rfl, rfl, by decide +kernel, rfl, by decide +kernel, by decide +kernel⟩
theorem ok_is_net_value (g : G K mg) : FnOk P w K mg base (L2.CX P w) 6 g.d_is_net_value.a g.d_is_net_value.d ["value"] (spM K mg [false] m_is_net_value) :=
  fn_ok (k := 5) (N := ["value", ".0", "rule"]) (ms := [false]) (m := b_is_net_value) g.d_is_net_value.F sc_is_net_value rfl fun cdv A outer s H E hr tk pb => (db_cons (ds_if (be_bw (bw_or (be_not (be_isi1 tk_tuple g.n_isinstance (do_bo 0) (nt_of g.n_tuple (hv := bt_tuple)))) (bw_one (be_not (be_chain (o_le (hu hr)) (o_le (hu hr)) (do_ex de_int) (do_ex (de_callB b_len g.n_len (dp_cons (do_bo 0) dp_nil) (hv := bt_len))) (do_ex (de_gint g.c_MOST_SWITCHES))))))) (db_cons (ds_ret (de_fz de_bool)) db_nil) db_nil) (db_cons (ds_ret (de_fz (de_callB (b_all rfl) g.n_all (dp_cons (do_ex (de_lc (own := [(".0", 1), ("rule", 2)]) rfl sc_is_net_value.nd (di_or (di_v (de_v 0)) (di_keys (de_v 0))) (blkOk_by (by kernel_rfl)) (fun _ _ _ _ _ => (pg_name sc_is_net_value.nd rfl (Or.inl rfl))) (fun _ _ _ _ _ => dt_nil) (fun _ _ _ _ _ => (de_call takes0 (ok_is_rule_value g) (hr.mono (by decide)) g.d_is_rule_value.g g.d_is_rule_value.F.kp g.b_is_rule_value (dr_v (de_callB b_len g.n_len (dp_cons (do_bo 0) dp_nil) (hv := bt_len)) (dr_v (de_v 2) dr_nil)))))) dp_nil) (hv := bt_all)))) db_nil))
theorem sc_check_net : FnScope ["net"] ["net"] (defScope (top 16)) := ⟨rfl, rfl, rfl, by decide +kernel, rfl, by decide +kernel, by decide +kernel⟩
theorem ok_check_net (g : G K mg) : FnOk P w K mg base (L2.CX P w) 7 g.d_check_net.a g.d_check_net.d ["net"] (spM K mg [false] m_check_net) :=
  fn_ok (k := 6) (N := ["net"]) (ms := [false]) (m := b_check_net) g.d_check_net.F sc_check_net rfl fun cdv A outer s H E hr tk pb => (db_cons (ds_if (be_not (be_val (de_call tk (ok_is_net_value g) (hr.mono (by decide)) g.d_is_net_value.g g.d_is_net_value.F.kp g.b_is_net_value (dr_v (de_v 0) dr_nil)))) (db_cons (ds_raise rfl tk (xc_InvalidNetwork g) (hr.mono (by decide)) (da_cons (de_v 0) da_nil)) db_nil) db_nil) db_nil)
theorem sc_check_space : FnScope ["net", "space"] ["net", "space"] (defScope (top 18)) := ⟨rfl, rfl, rfl, by decide +kernel, rfl, by decide +kernel, by decide +kernel⟩
theorem ok_check_space (g : G K mg) : FnOk P w K mg base (L2.CX P w) 3 g.d_check_space.a g.d_check_space.d ["net", "space"] (spM K mg [false, false] m_check_space) :=
  fn_ok (k := 2) (N := ["net", "space"]) (ms := [false, false]) (m := b_check_space) g.d_check_space.F sc_check_space rfl fun cdv A outer s H E hr tk pb => (db_cons (ds_if (be_not (be_val (de_call tk (ok_is_signs g) (hr.mono (by decide)) g.d_is_signs.g g.d_is_signs.F.kp g.b_is_signs (dr_v (de_v 1) (dr_v (de_callB b_len g.n_len (dp_cons (do_bo 0) dp_nil) (hv := bt_len)) (dr_v de_str dr_nil)))))) (db_cons (ds_raise rfl tk (xc_InvalidSpace g) (hr.mono (by decide)) (da_cons (de_v 1) da_nil)) db_nil) db_nil) db_nil)
theorem sc_given : FnScope ["net", "switch", "state", "inputs", "table", "place", "one"] ["net", "switch", "state"] (defScope (top 21)) := ⟨rfl, rfl, rfl, by decide +kernel, rfl, by decide +kernel, by decide +kernel⟩
theorem ok_given (g : G K mg) : FnOk P w K mg base (L2.CX P w) 1 g.d_given.a g.d_given.d ["net", "switch", "state"] (spM K mg [false, false, false] m_given) :=
  fn_ok (k := 0) (N := ["net", "switch", "state", "inputs", "table", "place", "one"]) (ms := [false, false, false]) (m := b_given) g.d_given.F sc_given rfl fun cdv A outer s H E hr tk pb => (db_cons (ds_unp (t := .tp [3, 4]) (de_ix (o_ix (hu hr)) (do_bo 0) (do_bo 1)) (pg_tup rfl (pgs_cons (pg_name sc_given.nd rfl (Or.inl rfl)) (pgs_cons (pg_name sc_given.nd rfl (Or.inl rfl)) pgs_nil)))) (db_cons (ds_set (i := 5) sc_given.nd rfl (Or.inl rfl) (de_fz de_int)) (db_cons (ds_for (t := .nm 6) pb rfl (di_or (di_v (de_v 3)) (di_keys (de_v 3))) (pg_name sc_given.nd rfl (Or.inl rfl)) (db_cons (ds_set (i := 5) sc_given.nd rfl (Or.inl rfl) (de_fz (de_bin o_add (do_ex (de_bin o_mul (do_ex de_int) (do_bo 5))) (do_ex (de_callT b_int g.n_int (dp_cons (do_ex (de_ix (o_ix (hu hr)) (do_bo 2) (do_bo 6))) dp_nil) (hv := bt_int)))))) (db_kill [6] db_nil))) (db_cons (ds_ret (de_fz (de_ix (o_ix (hu hr)) (do_bo 4) (do_bo 5)))) db_nil))))
theorem sc_states_in : FnScope ["space", "found", "sign", "ends", "longer", "word", ".0", "end"] ["space"] (defScope (top 19)) := ⟨rfl, rfl, rfl, by decide +kernel, rfl, by decide +kernel, by decide +kernel⟩
theorem ok_states_in (g : G K mg) : FnOk P w K mg base (L2.CX P w) 1 g.d_states_in.a g.d_states_in.d ["space"] (spM K mg [false] m_states_in) :=
  fn_ok (k := 0) (N := ["space", "found", "sign", "ends", "longer", "word", ".0", "end"]) (ms := [false]) (m := b_states_in) g.d_states_in.F sc_states_in rfl fun cdv A outer s H E hr tk pb => (db_cons (ds_set (i := 1) sc_states_in.nd rfl (Or.inl rfl) (de_fz (de_lst (da_cons de_str da_nil)))) (db_cons (ds_for (t := .nm 2) pb rfl (di_or (di_v (de_v 0)) (di_keys (de_v 0))) (pg_name sc_states_in.nd rfl (Or.inl rfl)) (db_cons (ds_set (i := 3) sc_states_in.nd rfl (Or.inl rfl) (de_fz (de_if (be_cmp (o_eq (hu hr)) (do_bo 2) (do_ex de_str)) (de_lst (da_cons de_str (da_cons de_str da_nil))) (de_lst (da_cons (de_v 2) da_nil))))) (db_cons (ds_set (i := 4) sc_states_in.nd rfl (Or.inl rfl) (de_lst da_nil)) (db_cons (ds_for (t := .nm 5) pb rfl (di_or (di_v (de_v 1)) (di_keys (de_v 1))) (pg_name sc_states_in.nd rfl (Or.inr rfl)) (db_cons (ds_expr (de_ext (pv 4) (de_lc (own := [(".0", 6), ("end", 7)]) rfl sc_states_in.nd (di_or (di_v (de_v 3)) (di_keys (de_v 3))) (blkOk_by (by kernel_rfl)) (fun _ _ _ _ _ => (pg_name sc_states_in.nd rfl (Or.inl rfl))) (fun _ _ _ _ _ => dt_nil) (fun _ _ _ _ _ => (de_bin o_add (do_bo 5) (do_bo 7)))))) (db_kill [5] db_nil))) (db_cons (ds_set (i := 1) sc_states_in.nd rfl (Or.inl rfl) (de_fz (de_m 4))) (db_kill [2, 3, 4, 5] db_nil)))))) (db_cons (ds_ret (de_fz (de_v 1))) db_nil)))
theorem sc_gives_all : FnScope ["net", "switch", "sign", "space", "inputs", "free", ".0", "at", "one", "state"] ["net", "switch", "sign", "space"] (defScope (top 23)) := ⟨rfl, rfl, rfl, by decide +kernel, rfl, by decide +kernel, by decide +kernel⟩
theorem ok_gives_all (g : G K mg) : FnOk P w K mg base (L2.CX P w) 2 g.d_gives_all.a g.d_gives_all.d ["net", "switch", "sign", "space"] (spM K mg [false, false, false, false] m_gives_all) :=
  fn_ok (k := 1) (N := ["net", "switch", "sign", "space", "inputs", "free", ".0", "at", "one", "state"]) (ms := [false, false, false, false]) (m := b_gives_all) g.d_gives_all.F sc_gives_all rfl fun cdv A outer s H E hr tk pb => (db_cons (ds_set (i := 4) sc_gives_all.nd rfl (Or.inr rfl) (de_fz (de_ix (o_ix (hu hr)) (do_ex (de_ix (o_ix (hu hr)) (do_bo 0) (do_bo 1))) (do_ex de_int)))) (db_cons (ds_set (i := 5) sc_gives_all.nd rfl (Or.inl rfl) (de_fz (de_meth PySem.F.plainAttrs_str PySem.F.slot_str_join PySem.F.type_str_join p_join (do_ex de_str) (dp_cons (do_ex (de_lc (own := [(".0", 6), ("at", 7), ("one", 8)]) rfl sc_gives_all.nd (di_enum g.n_enumerate (de_v 3)) (blkOk_by (by kernel_rfl)) (fun _ _ _ _ _ => (pg_tup rfl (pgs_cons (pg_name sc_gives_all.nd rfl (Or.inl rfl)) (pgs_cons (pg_name sc_gives_all.nd rfl (Or.inl rfl)) pgs_nil)))) (fun _ _ _ _ _ => dt_nil) (fun _ _ _ _ _ => (de_if (be_bw (bw_or (be_cmp (o_in (hu hr)) (do_bo 7) (do_bo 4)) (bw_one (be_cmp (o_ne (hu hr)) (do_bo 8) (do_ex de_str))))) (de_v 8) de_str)))) dp_nil)))) (db_cons (ds_ret (de_fz (de_callB (b_all rfl) g.n_all (dp_cons (do_ex (de_lc (own := [(".0", 6), ("state", 9)]) rfl sc_gives_all.nd (di_or (di_v (de_call tk (ok_states_in g) (hr.mono (by decide)) g.d_states_in.g g.d_states_in.F.kp g.b_states_in (dr_v (de_v 5) dr_nil))) (di_keys (de_call tk (ok_states_in g) (hr.mono (by decide)) g.d_states_in.g g.d_states_in.F.kp g.b_states_in (dr_v (de_v 5) dr_nil)))) (blkOk_by (by kernel_rfl)) (fun _ _ _ _ _ => (pg_name sc_gives_all.nd rfl (Or.inl rfl))) (fun _ _ _ _ _ => dt_nil) (fun _ _ _ _ _ => (be_cmp (o_eq (hu hr)) (do_ex (de_call takes0 (ok_given g) (hr.mono (by decide)) g.d_given.g g.d_given.F.kp g.b_given (dr_v (de_v 0) (dr_v (de_v 1) (dr_v (de_v 9) dr_nil))))) (do_bo 2)).v))) dp_nil) (hv := bt_all)))) db_nil)))
theorem sc_forced_in : FnScope ["net", "space", "found", "switch", ".0", "sign"] ["net", "space"] (defScope (top 24)) := ⟨rfl, rfl, rfl, by decide +kernel, rfl, by decide +kernel, by decide +kernel⟩
theorem ok_forced_in (g : G K mg) : FnOk P w K mg base (L2.CX P w) 3 g.d_forced_in.a g.d_forced_in.d ["net", "space"] (spM K mg [false, false] m_forced_in) :=
  fn_ok (k := 2) (N := ["net", "space", "found", "switch", ".0", "sign"]) (ms := [false, false]) (m := b_forced_in) g.d_forced_in.F sc_forced_in rfl fun cdv A outer s H E hr tk pb => (db_cons (ds_set (i := 2) sc_forced_in.nd rfl (Or.inl rfl) (de_lst da_nil)) (db_cons (ds_for (t := .nm 3) pb rfl (di_rng1 g.n_range (de_callB b_len g.n_len (dp_cons (do_bo 0) dp_nil) (hv := bt_len))) (pg_name sc_forced_in.nd rfl (Or.inr rfl)) (db_cons (ds_expr (de_ext (pv 2) (de_lc (own := [(".0", 4), ("sign", 5)]) rfl sc_forced_in.nd (di_or (di_v (de_tup (da_cons de_str (da_cons de_str da_nil)))) (di_keys (de_tup (da_cons de_str (da_cons de_str da_nil))))) (blkOk_by (by kernel_rfl)) (fun _ _ _ _ _ => (pg_name sc_forced_in.nd rfl (Or.inl rfl))) (fun _ _ _ _ _ => (dt_one (be_val (de_call takes0 (ok_gives_all g) (hr.mono (by decide)) g.d_gives_all.g g.d_gives_all.F.kp g.b_gives_all (dr_v (de_v 0) (dr_v (de_v 3) (dr_v (de_v 5) (dr_v (de_v 1) dr_nil)))))))) (fun _ _ _ _ _ => (de_tup (da_cons (de_v 3) (da_cons (de_v 5) da_nil))))))) (db_kill [3] db_nil))) (db_cons (ds_ret (de_m 2)) db_nil)))
theorem sc_with_sign : FnScope ["space", "switch", "sign"] ["space", "switch", "sign"] (defScope (top 28)) := ⟨rfl, rfl, rfl, by decide +kernel, rfl, by decide +kernel, by decide +kernel⟩
theorem ok_with_sign (g : G K mg) : FnOk P w K mg base (L2.CX P w) 1 g.d_with_sign.a g.d_with_sign.d ["space", "switch", "sign"] (spM K mg [false, false, false] m_with_sign) :=
  fn_ok (k := 0) (N := ["space", "switch", "sign"]) (ms := [false, false, false]) (m := b_with_sign) g.d_with_sign.F sc_with_sign rfl fun cdv A outer s H E hr tk pb => (db_cons (ds_ret (de_fz (de_bin o_add (do_ex (de_bin o_add (do_ex (de_sl (do_bo 0) dpo_none (dpo_some (de_v 1)))) (do_bo 2))) (do_ex (de_sl (do_bo 0) (dpo_some (de_bin o_add (do_bo 1) (do_ex de_int))) dpo_none))))) db_nil)
theorem sc_percolated_in : FnScope ["net", "space", "before", "switch", "sign"] ["net", "space"] (defScope (top 31)) := ⟨rfl, rfl, rfl, by decide +kernel, rfl, by decide +kernel, by decide +kernel⟩
theorem ok_percolated_in (g : G K mg) : FnOk P w K mg base (L2.CX P w) 4 g.d_percolated_in.a g.d_percolated_in.d ["net", "space"] (spM K mg [false, false] m_percolated_in) :=
  fn_ok (k := 3) (N := ["net", "space", "before", "switch", "sign"]) (ms := [false, false]) (m := b_percolated_in) g.d_percolated_in.F sc_percolated_in rfl fun cdv A outer s H E hr tk pb => (db_cons (ds_set (i := 2) sc_percolated_in.nd rfl (Or.inl rfl) (de_fz de_str)) (db_cons (ds_while pb (be_cmp (o_ne (hu hr)) (do_bo 1) (do_bo 2)) (db_cons (ds_set (i := 2) sc_percolated_in.nd rfl (Or.inl rfl) (de_fz (de_v 1))) (db_cons (ds_for (t := .tp [3, 4]) pb rfl (di_or (di_v (de_call tk (ok_forced_in g) (hr.mono (by decide)) g.d_forced_in.g g.d_forced_in.F.kp g.b_forced_in (dr_v (de_v 0) (dr_v (de_v 2) dr_nil)))) (di_keys (de_call tk (ok_forced_in g) (hr.mono (by decide)) g.d_forced_in.g g.d_forced_in.F.kp g.b_forced_in (dr_v (de_v 0) (dr_v (de_v 2) dr_nil))))) (pg_tup rfl (pgs_cons (pg_name sc_percolated_in.nd rfl (Or.inl rfl)) (pgs_cons (pg_name sc_percolated_in.nd rfl (Or.inl rfl)) pgs_nil))) (db_cons (ds_if (be_cmp (o_eq (hu hr)) (do_ex (de_ix (o_ix (hu hr)) (do_bo 2) (do_bo 3))) (do_ex de_str)) (db_cons (ds_set (i := 1) sc_percolated_in.nd rfl (Or.inl rfl) (de_fz (de_call tk (ok_with_sign g) (hr.mono (by decide)) g.d_with_sign.g g.d_with_sign.F.kp g.b_with_sign (dr_v (de_v 1) (dr_v (de_v 3) (dr_v (de_v 4) dr_nil)))))) db_nil) db_nil) (db_kill [3, 4] db_nil))) (db_kill [3, 4] db_nil)))) (db_cons (ds_ret (de_fz (de_v 1))) db_nil)))
theorem sc_percolated : FnScope ["net", "space"] ["net", "space"] (defScope (top 32)) := ⟨rfl, rfl, rfl, by decide +kernel, rfl, by decide +kernel, by decide +kernel⟩
theorem ok_percolated (g : G K mg) : FnOk P w K mg base (L2.CX P w) 8 g.d_percolated.a g.d_percolated.d ["net", "space"] (spM K mg [false, false] m_percolated) :=
  fn_ok (k := 7) (N := ["net", "space"]) (ms := [false, false]) (m := b_percolated) g.d_percolated.F sc_percolated rfl fun cdv A outer s H E hr tk pb => (db_cons (ds_expr (de_call tk (ok_check_net g) (hr.mono (by decide)) g.d_check_net.g g.d_check_net.F.kp g.b_check_net (dr_v (de_v 0) dr_nil))) (db_cons (ds_expr (de_call tk (ok_check_space g) (hr.mono (by decide)) g.d_check_space.g g.d_check_space.F.kp g.b_check_space (dr_v (de_v 0) (dr_v (de_v 1) dr_nil)))) (db_cons (ds_ret (de_fz (de_call tk (ok_percolated_in g) (hr.mono (by decide)) g.d_percolated_in.g g.d_percolated_in.F.kp g.b_percolated_in (dr_v (de_v 0) (dr_v (de_v 1) dr_nil))))) db_nil)))
theorem sc_fixed_in : FnScope ["space", ".0", "switch", "sign"] ["space"] (defScope (top 26)) := ⟨rfl, rfl, rfl, by decide +kernel, rfl, by decide +kernel, by decide +kernel⟩
theorem ok_fixed_in (g : G K mg) : FnOk P w K mg base (L2.CX P w) 1 g.d_fixed_in.a g.d_fixed_in.d ["space"] (spM K mg [false] m_fixed_in) :=
  fn_ok (k := 0) (N := ["space", ".0", "switch", "sign"]) (ms := [false]) (m := b_fixed_in) g.d_fixed_in.F sc_fixed_in rfl fun cdv A outer s H E hr tk pb => (db_cons (ds_ret (de_lc (own := [(".0", 1), ("switch", 2), ("sign", 3)]) rfl sc_fixed_in.nd (di_enum g.n_enumerate (de_v 0)) (blkOk_by (by kernel_rfl)) (fun _ _ _ _ _ => (pg_tup rfl (pgs_cons (pg_name sc_fixed_in.nd rfl (Or.inl rfl)) (pgs_cons (pg_name sc_fixed_in.nd rfl (Or.inl rfl)) pgs_nil)))) (fun _ _ _ _ _ => (dt_one (be_cmp (o_ne (hu hr)) (do_bo 3) (do_ex de_str)))) (fun _ _ _ _ _ => (de_v 2)))) db_nil)
theorem sc_is_trap_in : FnScope ["net", "space", ".0", "switch"] ["net", "space"] (defScope (top 27)) := ⟨rfl, rfl, rfl, by decide +kernel, rfl, by decide +kernel, by decide +kernel⟩
theorem ok_is_trap_in (g : G K mg) : FnOk P w K mg base (L2.CX P w) 3 g.d_is_trap_in.a g.d_is_trap_in.d ["net", "space"] (spM K mg [false, false] m_is_trap_in) :=
  fn_ok (k := 2) (N := ["net", "space", ".0", "switch"]) (ms := [false, false]) (m := b_is_trap_in) g.d_is_trap_in.F sc_is_trap_in rfl fun cdv A outer s H E hr tk pb => (db_cons (ds_ret (de_fz (de_callB (b_all rfl) g.n_all (dp_cons (do_ex (de_lc (own := [(".0", 2), ("switch", 3)]) rfl sc_is_trap_in.nd (di_or (di_v (de_call tk (ok_fixed_in g) (hr.mono (by decide)) g.d_fixed_in.g g.d_fixed_in.F.kp g.b_fixed_in (dr_v (de_v 1) dr_nil))) (di_keys (de_call tk (ok_fixed_in g) (hr.mono (by decide)) g.d_fixed_in.g g.d_fixed_in.F.kp g.b_fixed_in (dr_v (de_v 1) dr_nil)))) (blkOk_by (by kernel_rfl)) (fun _ _ _ _ _ => (pg_name sc_is_trap_in.nd rfl (Or.inl rfl))) (fun _ _ _ _ _ => dt_nil) (fun _ _ _ _ _ => (de_call takes0 (ok_gives_all g) (hr.mono (by decide)) g.d_gives_all.g g.d_gives_all.F.kp g.b_gives_all (dr_v (de_v 0) (dr_v (de_v 3) (dr_v (de_ix (o_ix (hu hr)) (do_bo 1) (do_bo 3)) (dr_v (de_v 1) dr_nil)))))))) dp_nil) (hv := bt_all)))) db_nil)
theorem sc_around : FnScope ["net", "space", "leaving", ".0", "switch", "at", "sign"] ["net", "space"] (defScope (top 29)) := ⟨rfl, rfl, rfl, by decide +kernel, rfl, by decide +kernel, by decide +kernel⟩
theorem ok_around (g : G K mg) : FnOk P w K mg base (L2.CX P w) 4 g.d_around.a g.d_around.d ["net", "space"] (spM K mg [false, false] m_around) :=
  fn_ok (k := 3) (N := ["net", "space", "leaving", ".0", "switch", "at", "sign"]) (ms := [false, false]) (m := b_around) g.d_around.F sc_around rfl fun cdv A outer s H E hr tk pb => (db_cons (ds_while pb (be_not (be_val (de_call tk (ok_is_trap_in g) (hr.mono (by decide)) g.d_is_trap_in.g g.d_is_trap_in.F.kp g.b_is_trap_in (dr_v (de_v 0) (dr_v (de_v 1) dr_nil))))) (db_cons (ds_set (i := 2) sc_around.nd rfl (Or.inr rfl) (de_lc (own := [(".0", 3), ("switch", 4)]) rfl sc_around.nd (di_or (di_v (de_call tk (ok_fixed_in g) (hr.mono (by decide)) g.d_fixed_in.g g.d_fixed_in.F.kp g.b_fixed_in (dr_v (de_v 1) dr_nil))) (di_keys (de_call tk (ok_fixed_in g) (hr.mono (by decide)) g.d_fixed_in.g g.d_fixed_in.F.kp g.b_fixed_in (dr_v (de_v 1) dr_nil)))) (blkOk_by (by kernel_rfl)) (fun _ _ _ _ _ => (pg_name sc_around.nd rfl (Or.inl rfl))) (fun _ _ _ _ _ => (dt_one (be_not (be_val (de_call takes0 (ok_gives_all g) (hr.mono (by decide)) g.d_gives_all.g g.d_gives_all.F.kp g.b_gives_all (dr_v (de_v 0) (dr_v (de_v 4) (dr_v (de_ix (o_ix (hu hr)) (do_bo 1) (do_bo 4)) (dr_v (de_v 1) dr_nil))))))))) (fun _ _ _ _ _ => (de_v 4)))) (db_frz [2] (db_cons (ds_set (i := 1) sc_around.nd rfl (Or.inr rfl) (de_fz (de_meth PySem.F.plainAttrs_str PySem.F.slot_str_join PySem.F.type_str_join p_join (do_ex de_str) (dp_cons (do_ex (de_lc (own := [(".0", 3), ("at", 5), ("sign", 6)]) rfl sc_around.nd (di_enum g.n_enumerate (de_v 1)) (blkOk_by (by kernel_rfl)) (fun _ _ _ _ _ => (pg_tup rfl (pgs_cons (pg_name sc_around.nd rfl (Or.inl rfl)) (pgs_cons (pg_name sc_around.nd rfl (Or.inl rfl)) pgs_nil)))) (fun _ _ _ _ _ => dt_nil) (fun _ _ _ _ _ => (de_if (be_cmp (o_in (hu hr)) (do_bo 5) (do_bo 2)) de_str (de_v 6))))) dp_nil)))) (db_kill [2] db_nil))))) (db_cons (ds_ret (de_fz (de_v 1))) db_nil))
theorem sc_trap_around : FnScope ["net", "space"] ["net", "space"] (defScope (top 30)) := ⟨rfl, rfl, rfl, by decide +kernel, rfl, by decide +kernel, by decide +kernel⟩
theorem ok_trap_around (g : G K mg) : FnOk P w K mg base (L2.CX P w) 8 g.d_trap_around.a g.d_trap_around.d ["net", "space"] (spM K mg [false, false] m_trap_around) :=
  fn_ok (k := 7) (N := ["net", "space"]) (ms := [false, false]) (m := b_trap_around) g.d_trap_around.F sc_trap_around rfl fun cdv A outer s H E hr tk pb => (db_cons (ds_expr (de_call tk (ok_check_net g) (hr.mono (by decide)) g.d_check_net.g g.d_check_net.F.kp g.b_check_net (dr_v (de_v 0) dr_nil))) (db_cons (ds_expr (de_call tk (ok_check_space g) (hr.mono (by decide)) g.d_check_space.g g.d_check_space.F.kp g.b_check_space (dr_v (de_v 0) (dr_v (de_v 1) dr_nil)))) (db_cons (ds_ret (de_fz (de_call tk (ok_around g) (hr.mono (by decide)) g.d_around.g g.d_around.F.kp g.b_around (dr_v (de_v 0) (dr_v (de_v 1) dr_nil))))) db_nil)))
theorem sc_check_state : FnScope ["net", "state"] ["net", "state"] (defScope (top 17)) := ⟨rfl, rfl, rfl, by decide +kernel, rfl, by decide +kernel, by decide +kernel⟩
theorem ok_check_state (g : G K mg) : FnOk P w K mg base (L2.CX P w) 3 g.d_check_state.a g.d_check_state.d ["net", "state"] (spM K mg [false, false] m_check_state) :=
  fn_ok (k := 2) (N := ["net", "state"]) (ms := [false, false]) (m := b_check_state) g.d_check_state.F sc_check_state rfl fun cdv A outer s H E hr tk pb => (db_cons (ds_if (be_not (be_val (de_call tk (ok_is_signs g) (hr.mono (by decide)) g.d_is_signs.g g.d_is_signs.F.kp g.b_is_signs (dr_v (de_v 1) (dr_v (de_callB b_len g.n_len (dp_cons (do_bo 0) dp_nil) (hv := bt_len)) (dr_v de_str dr_nil)))))) (db_cons (ds_raise rfl tk (xc_InvalidState g) (hr.mono (by decide)) (da_cons (de_v 1) da_nil)) db_nil) db_nil) db_nil)
theorem sc_trap_of : FnScope ["net", "state"] ["net", "state"] (defScope (top 33)) := ⟨rfl, rfl, rfl, by decide +kernel, rfl, by decide +kernel, by decide +kernel⟩
theorem ok_trap_of (g : G K mg) : FnOk P w K mg base (L2.CX P w) 8 g.d_trap_of.a g.d_trap_of.d ["net", "state"] (spM K mg [false, false] m_trap_of) :=
  fn_ok (k := 7) (N := ["net", "state"]) (ms := [false, false]) (m := b_trap_of) g.d_trap_of.F sc_trap_of rfl fun cdv A outer s H E hr tk pb => (db_cons (ds_expr (de_call tk (ok_check_net g) (hr.mono (by decide)) g.d_check_net.g g.d_check_net.F.kp g.b_check_net (dr_v (de_v 0) dr_nil))) (db_cons (ds_expr (de_call tk (ok_check_state g) (hr.mono (by decide)) g.d_check_state.g g.d_check_state.F.kp g.b_check_state (dr_v (de_v 0) (dr_v (de_v 1) dr_nil)))) (db_cons (ds_ret (de_fz (de_call tk (ok_around g) (hr.mono (by decide)) g.d_around.g g.d_around.F.kp g.b_around (dr_v (de_v 0) (dr_v (de_v 1) dr_nil))))) db_nil)))
theorem sc__law_asked : FnScope ["word", "net", "value", "by_name", "e"] ["word", "net", "value", "by_name"] (defScope (top 53)) := ⟨rfl, rfl, rfl, by decide +kernel, rfl, by decide +kernel, by decide +kernel⟩
theorem ok__law_asked (g : G K mg) : FnOk P w K mg base (L2.CX P w) 9 g.d__law_asked.a g.d__law_asked.d ["word", "net", "value", "by_name"] (spM K mg [false, false, false, false] m__law_asked) :=
  fn_ok (k := 8) (N := ["word", "net", "value", "by_name", "e"]) (ms := [false, false, false, false]) (m := b__law_asked) g.d__law_asked.F sc__law_asked rfl fun cdv A outer s H E hr tk pb => (db_cons (ds_try (L := errs) rfl rfl sc__law_asked.nd tk (fun W1 pn1 xe1 tk1 pb => (db_cons (ds_if (be_cmp (o_eq (hu hr)) (do_bo 0) (do_ex de_str)) (db_cons (ds_ret (de_lst (da_cons de_str (da_cons (de_if (be_val (de_v 3)) (de_callK (n := 2) tk1 (ok_trap_around g) (hr.mono (by decide)) g.d_trap_around.g g.d_trap_around.F.kp (kw_trap_around_space_net g) (dk_cons (de_v 2) (dk_cons (de_v 1) dk_nil))) (de_call tk1 (ok_trap_around g) (hr.mono (by decide)) g.d_trap_around.g g.d_trap_around.F.kp g.b_trap_around (dr_v (de_v 1) (dr_v (de_v 2) dr_nil)))) da_nil)))) db_nil) db_nil) (db_cons (ds_if (be_cmp (o_eq (hu hr)) (do_bo 0) (do_ex de_str)) (db_cons (ds_ret (de_lst (da_cons de_str (da_cons (de_if (be_val (de_v 3)) (de_callK (n := 2) tk1 (ok_percolated g) (hr.mono (by decide)) g.d_percolated.g g.d_percolated.F.kp (kw_percolated_space_net g) (dk_cons (de_v 2) (dk_cons (de_v 1) dk_nil))) (de_call tk1 (ok_percolated g) (hr.mono (by decide)) g.d_percolated.g g.d_percolated.F.kp g.b_percolated (dr_v (de_v 1) (dr_v (de_v 2) dr_nil)))) da_nil)))) db_nil) db_nil) (db_cons (ds_ret (de_lst (da_cons de_str (da_cons (de_if (be_val (de_v 3)) (de_callK (n := 2) tk1 (ok_trap_of g) (hr.mono (by decide)) g.d_trap_of.g g.d_trap_of.F.kp (kw_trap_of_state_net g) (dk_cons (de_v 2) (dk_cons (de_v 1) dk_nil))) (de_call tk1 (ok_trap_of g) (hr.mono (by decide)) g.d_trap_of.g g.d_trap_of.F.kp g.b_trap_of (dr_v (de_v 1) (dr_v (de_v 2) dr_nil)))) da_nil)))) db_nil)))) (HmOk.named (i := 4) (nm_err g.e_InvalidNetwork.e.gl) (tells_of g.tl g.e_InvalidNetwork.e.gl (by simp [errs])) rfl rfl (fun a oe cls x pn hz hf => (db_cons (ds_ret (de_lst (da_cons de_str (da_cons (de_attr g.e_InvalidNetwork.e.xf (g.e_InvalidNetwork.e.na _ (by simp)) g.e_InvalidNetwork.e.gl hz hf (pv 4)) da_nil)))) db_nil)) (HmOk.named (i := 4) (nm_err g.e_InvalidSpace.e.gl) (tells_of g.tl g.e_InvalidSpace.e.gl (by simp [errs])) rfl rfl (fun a oe cls x pn hz hf => (db_cons (ds_ret (de_lst (da_cons de_str (da_cons (de_attr g.e_InvalidSpace.e.xf (g.e_InvalidSpace.e.na _ (by simp)) g.e_InvalidSpace.e.gl hz hf (pv 4)) da_nil)))) db_nil)) (HmOk.named (i := 4) (nm_err g.e_InvalidState.e.gl) (tells_of g.tl g.e_InvalidState.e.gl (by simp [errs])) rfl rfl (fun a oe cls x pn hz hf => (db_cons (ds_ret (de_lst (da_cons de_str (da_cons (de_attr g.e_InvalidState.e.xf (g.e_InvalidState.e.na _ (by simp)) g.e_InvalidState.e.gl hz hf (pv 4)) da_nil)))) db_nil)) HmOk.nil)))) db_nil)
theorem sc__law_box : FnScope ["great"] ["great"] (defScope (top 36)) := ⟨rfl, rfl, rfl, by decide +kernel, rfl, by decide +kernel, by decide +kernel⟩
theorem ok__law_box (g : G K mg) : FnOk P w K mg base (L2.CX P w) 1 g.d__law_box.a g.d__law_box.d ["great"] (spM K mg [false] m__law_box) :=
  fn_ok (k := 0) (N := ["great"]) (ms := [false]) (m := b__law_box) g.d__law_box.F sc__law_box rfl fun cdv A outer s H E hr tk pb => (db_cons (ds_ret (de_lst (da_cons (de_callB b_abs g.n_abs (dp_cons (do_bo 0) dp_nil) (hv := bt_abs)) (da_cons (be_cmp (o_ge (hu hr)) (do_ex (de_callB b_abs g.n_abs (dp_cons (do_bo 0) dp_nil) (hv := bt_abs))) (do_ex (de_bin o_pow (do_ex de_int) (do_ex de_int)))).v (da_cons (de_bin o_mod (do_ex (de_callT b_int g.n_int (dp_cons (do_ex (de_callB b_abs g.n_abs (dp_cons (do_bo 0) dp_nil) (hv := bt_abs))) dp_nil) (hv := bt_int))) (do_ex de_int)) (da_cons de_int da_nil)))))) db_nil)
theorem sc__law_cell : FnScope ["script", "k"] ["script", "k"] (defScope (top 35)) := ⟨rfl, rfl, rfl, by decide +kernel, rfl, by decide +kernel, by decide +kernel⟩
theorem ok__law_cell (g : G K mg) : FnOk P w K mg base (L2.CX P w) 1 g.d__law_cell.a g.d__law_cell.d ["script", "k"] (spM K mg [false, false] m__law_cell) :=
  fn_ok (k := 0) (N := ["script", "k"]) (ms := [false, false]) (m := b__law_cell) g.d__law_cell.F sc__law_cell rfl fun cdv A outer s H E hr tk pb => (db_cons (ds_ret (de_fz (de_if (be_cmp (o_lt (hu hr)) (do_bo 1) (do_ex (de_callB b_len g.n_len (dp_cons (do_bo 0) dp_nil) (hv := bt_len)))) (de_ix (o_ix (hu hr)) (do_bo 0) (do_bo 1)) (de_bin o_add (do_ex (de_bin o_mul (do_ex de_int) (do_bo 1))) (do_ex (de_bin o_mod (do_ex (de_callT b_int g.n_int (dp_cons (do_ex (de_callB (b_sum rfl) g.n_sum (dp_cons (do_ex (de_sl (do_bo 0) dpo_none (dpo_some de_int))) dp_nil) (hv := bt_sum))) dp_nil) (hv := bt_int))) (do_ex de_int))))))) db_nil)
theorem sc__law_take : FnScope ["box", "many", "digit", "mixed"] ["box", "many"] (defScope (top 37)) := ⟨rfl, rfl, rfl, by decide +kernel, rfl, by decide +kernel, by decide +kernel⟩
theorem ok__law_take (g : G K mg) : FnOk P w K mg base (L2.CX P w) 1 g.d__law_take.a g.d__law_take.d ["box", "many"] (spM K mg [true, false] m__law_take) :=
  fn_ok (k := 0) (N := ["box", "many", "digit", "mixed"]) (ms := [true, false]) (m := b__law_take) g.d__law_take.F sc__law_take rfl fun cdv A outer s H E hr tk pb => (db_cons (ds_if (be_bw (bw_and (be_val (de_ix (o_ix (hu hr)) (do_bo 0) (do_ex de_int))) (bw_one (be_cmp (o_gt (hu hr)) (do_ex (de_ix (o_ix (hu hr)) (do_bo 0) (do_ex de_int))) (do_ex de_int))))) (db_cons (ds_set (i := 2) sc__law_take.nd rfl (Or.inl rfl) (de_fz (de_bin o_mod (do_ex (de_callT b_int g.n_int (dp_cons (do_ex (de_ix (o_ix (hu hr)) (do_bo 0) (do_ex de_int))) dp_nil) (hv := bt_int))) (do_bo 1)))) (db_cons (ds_put (pv 0) de_int (de_bin o_fdiv (do_ex (de_ix (o_ix (hu hr)) (do_bo 0) (do_ex de_int))) (do_bo 1))) (db_cons (ds_ret (de_fz (de_v 2))) db_nil))) db_nil) (db_cons (ds_put (pv 0) de_int (de_bin o_add (do_ex (de_ix (o_ix (hu hr)) (do_bo 0) (do_ex de_int))) (do_ex de_int))) (db_cons (ds_set (i := 3) sc__law_take.nd rfl (Or.inl rfl) (de_fz (de_bin o_mod (do_ex (de_callT b_int g.n_int (dp_cons (do_ex (de_bin o_pow (do_ex (de_bin o_add (do_ex (de_bin o_add (do_ex (de_ix (o_ix (hu hr)) (do_bo 0) (do_ex de_int))) (do_ex (de_bin o_mul (do_ex de_int) (do_ex (de_ix (o_ix (hu hr)) (do_bo 0) (do_ex de_int))))))) (do_ex de_int))) (do_ex de_int))) dp_nil) (hv := bt_int))) (do_ex de_int)))) (db_cons (ds_ret (de_fz (de_bin o_mod (do_ex (de_callT b_int g.n_int (dp_cons (do_ex (de_bin o_fdiv (do_ex (de_bin o_mod (do_ex (de_callT b_int g.n_int (dp_cons (do_ex (de_bin o_pow (do_ex (de_bin o_add (do_ex (de_bin o_mul (do_bo 3) (do_ex de_int))) (do_ex (de_bin o_mul (do_ex de_int) (do_ex (de_ix (o_ix (hu hr)) (do_bo 0) (do_ex de_int))))))) (do_ex de_int))) dp_nil) (hv := bt_int))) (do_ex de_int))) (do_ex de_int))) dp_nil) (hv := bt_int))) (do_bo 1)))) db_nil))))
theorem sc__law_mixed : FnScope ["box", "many", "left", "found"] ["box", "many"] (defScope (top 40)) := ⟨rfl, rfl, rfl, by decide +kernel, rfl, by decide +kernel, by decide +kernel⟩
theorem ok__law_mixed (g : G K mg) : FnOk P w K mg base (L2.CX P w) 2 g.d__law_mixed.a g.d__law_mixed.d ["box", "many"] (spM K mg [true, false] m__law_mixed) :=
  fn_ok (k := 1) (N := ["box", "many", "left", "found"]) (ms := [true, false]) (m := b__law_mixed) g.d__law_mixed.F sc__law_mixed rfl fun cdv A outer s H E hr tk pb => (db_cons (ds_par (i := 2) (j := 3) rfl sc__law_mixed.nd rfl rfl (by decide) rfl rfl (da_cons (de_lr1 rfl g.n_list g.n_range (de_v 1)) (da_cons (de_lst da_nil) da_nil)) rfl) (db_cons (ds_while pb (be_cmp (o_ne (hu hr)) (do_bo 2) (do_ex (de_lst da_nil))) (db_cons (ds_expr (de_app (pv 3) (de_popAt (pv 2) (de_call tk (ok__law_take g) (hr.mono (by decide)) g.d__law_take.g g.d__law_take.F.kp g.b__law_take (dr_b (pv 0) (dr_v (de_callB b_len g.n_len (dp_cons (do_bo 2) dp_nil) (hv := bt_len)) dr_nil)))))) db_nil)) (db_cons (ds_ret (de_m 3)) db_nil)))
theorem sc__law_words : FnScope ["length", "found", "turn", "longer", "word"] ["length"] (defScope (top 41)) := ⟨rfl, rfl, rfl, by decide +kernel, rfl, by decide +kernel, by decide +kernel⟩
theorem ok__law_words (g : G K mg) : FnOk P w K mg base (L2.CX P w) 1 g.d__law_words.a g.d__law_words.d ["length"] (spM K mg [false] m__law_words) :=
  fn_ok (k := 0) (N := ["length", "found", "turn", "longer", "word"]) (ms := [false]) (m := b__law_words) g.d__law_words.F sc__law_words rfl fun cdv A outer s H E hr tk pb => (db_cons (ds_set (i := 1) sc__law_words.nd rfl (Or.inl rfl) (de_fz (de_lst (da_cons de_str da_nil)))) (db_cons (ds_for (t := .nm 2) pb rfl (di_rng1 g.n_range (de_v 0)) (pg_name sc__law_words.nd rfl (Or.inl rfl)) (db_cons (ds_set (i := 3) sc__law_words.nd rfl (Or.inl rfl) (de_lst da_nil)) (db_cons (ds_for (t := .nm 4) pb rfl (di_or (di_v (de_v 1)) (di_keys (de_v 1))) (pg_name sc__law_words.nd rfl (Or.inl rfl)) (db_cons (ds_expr (de_ext (pv 3) (de_lst (da_cons (de_bin o_add (do_bo 4) (do_ex de_str)) (da_cons (de_bin o_add (do_bo 4) (do_ex de_str)) da_nil))))) (db_kill [4] db_nil))) (db_cons (ds_set (i := 1) sc__law_words.nd rfl (Or.inl rfl) (de_fz (de_m 3))) (db_kill [2, 3, 4] db_nil))))) (db_cons (ds_ret (de_fz (de_v 1))) db_nil)))
theorem sc__law_table : FnScope ["box", "size", "rows", "way", "odd", "other", ".0", "row"] ["box", "size"] (defScope (top 44)) := ⟨rfl, rfl, rfl, by decide +kernel, rfl, by decide +kernel, by decide +kernel⟩
theorem ok__law_table (g : G K mg) : FnOk P w K mg base (L2.CX P w) 2 g.d__law_table.a g.d__law_table.d ["box", "size"] (spM K mg [true, false] m__law_table) :=
  fn_ok (k := 1) (N := ["box", "size", "rows", "way", "odd", "other", ".0", "row"]) (ms := [true, false]) (m := b__law_table) g.d__law_table.F sc__law_table rfl fun cdv A outer s H E hr tk pb => (db_cons (ds_par (i := 2) (j := 3) rfl sc__law_table.nd rfl rfl (by decide) rfl rfl (da_cons (de_fz (de_call tk (ok__law_words g) (hr.mono (by decide)) g.d__law_words.g g.d__law_words.F.kp g.b__law_words (dr_v (de_v 1) dr_nil))) (da_cons (de_fz (de_call tk (ok__law_take g) (hr.mono (by decide)) g.d__law_take.g g.d__law_take.F.kp g.b__law_take (dr_b (pv 0) (dr_v de_int dr_nil)))) da_nil)) rfl) (db_cons (ds_if (be_cmp (o_eq (hu hr)) (do_bo 3) (do_ex de_int)) (db_cons (ds_ret (de_fz (de_meth PySem.F.plainAttrs_str PySem.F.slot_str_join PySem.F.type_str_join p_join (do_ex de_str) (dp_cons (do_ex (de_lc (own := [(".0", 6), ("row", 7)]) rfl sc__law_table.nd (di_or (di_v (de_v 2)) (di_keys (de_v 2))) (blkOk_by (by kernel_rfl)) (fun _ _ _ _ _ => (pg_name sc__law_table.nd rfl (Or.inl rfl))) (fun _ _ _ _ _ => dt_nil) (fun _ _ _ _ _ => (de_if (be_cmp (o_notIn (hu hr)) (do_ex de_str) (do_bo 7)) de_str de_str)))) dp_nil)))) db_nil) db_nil) (db_cons (ds_if (be_cmp (o_eq (hu hr)) (do_bo 3) (do_ex de_int)) (db_cons (ds_ret (de_fz (de_meth PySem.F.plainAttrs_str PySem.F.slot_str_join PySem.F.type_str_join p_join (do_ex de_str) (dp_cons (do_ex (de_lc (own := [(".0", 6), ("row", 7)]) rfl sc__law_table.nd (di_or (di_v (de_v 2)) (di_keys (de_v 2))) (blkOk_by (by kernel_rfl)) (fun _ _ _ _ _ => (pg_name sc__law_table.nd rfl (Or.inl rfl))) (fun _ _ _ _ _ => dt_nil) (fun _ _ _ _ _ => (de_if (be_cmp (o_in (hu hr)) (do_ex de_str) (do_bo 7)) de_str de_str)))) dp_nil)))) db_nil) db_nil) (db_cons (ds_if (be_cmp (o_eq (hu hr)) (do_bo 3) (do_ex de_int)) (db_cons (ds_set (i := 4) sc__law_table.nd rfl (Or.inr rfl) (de_fz (de_call tk (ok__law_take g) (hr.mono (by decide)) g.d__law_take.g g.d__law_take.F.kp g.b__law_take (dr_b (pv 0) (dr_v de_int dr_nil))))) (db_cons (ds_ret (de_fz (de_meth PySem.F.plainAttrs_str PySem.F.slot_str_join PySem.F.type_str_join p_join (do_ex de_str) (dp_cons (do_ex (de_lc (own := [(".0", 6), ("row", 7)]) rfl sc__law_table.nd (di_or (di_v (de_v 2)) (di_keys (de_v 2))) (blkOk_by (by kernel_rfl)) (fun _ _ _ _ _ => (pg_name sc__law_table.nd rfl (Or.inl rfl))) (fun _ _ _ _ _ => dt_nil) (fun _ _ _ _ _ => (de_ix (o_ix (hu hr)) (do_ex de_str) (do_ex (de_bin o_mod (do_ex (de_callT b_int g.n_int (dp_cons (do_ex (de_bin o_add (do_ex (de_meth PySem.F.plainAttrs_str PySem.F.slot_str_count PySem.F.type_str_count p_count (do_bo 7) (dp_cons (do_ex de_str) dp_nil))) (do_bo 4))) dp_nil) (hv := bt_int))) (do_ex de_int))))))) dp_nil)))) db_nil)) db_nil) (db_cons (ds_if (be_cmp (o_eq (hu hr)) (do_bo 3) (do_ex de_int)) (db_cons (ds_set (i := 5) sc__law_table.nd rfl (Or.inr rfl) (de_fz (de_call tk (ok__law_take g) (hr.mono (by decide)) g.d__law_take.g g.d__law_take.F.kp g.b__law_take (dr_b (pv 0) (dr_v de_int dr_nil))))) (db_cons (ds_ret (de_fz (de_meth PySem.F.plainAttrs_str PySem.F.slot_str_join PySem.F.type_str_join p_join (do_ex de_str) (dp_cons (do_ex (de_lc (own := [(".0", 6), ("row", 7)]) rfl sc__law_table.nd (di_or (di_v (de_v 2)) (di_keys (de_v 2))) (blkOk_by (by kernel_rfl)) (fun _ _ _ _ _ => (pg_name sc__law_table.nd rfl (Or.inl rfl))) (fun _ _ _ _ _ => dt_nil) (fun _ _ _ _ _ => (de_ix (o_ix (hu hr)) (do_ex de_str) (do_ex (de_bin o_mod (do_ex (de_callT b_int g.n_int (dp_cons (do_ex (de_bin o_add (do_ex (de_callT b_int g.n_int (dp_cons (do_ex (be_cmp (o_eq (hu hr)) (do_ex (de_sl (do_bo 7) dpo_none (dpo_some de_int))) (do_ex de_str)).v) dp_nil) (hv := bt_int))) (do_bo 5))) dp_nil) (hv := bt_int))) (do_ex de_int))))))) dp_nil)))) db_nil)) db_nil) (db_cons (ds_if (be_cmp (o_eq (hu hr)) (do_bo 3) (do_ex de_int)) (db_cons (ds_ret (de_fz (de_bin o_mul (do_ex (de_ix (o_ix (hu hr)) (do_ex de_str) (do_ex (de_call tk (ok__law_take g) (hr.mono (by decide)) g.d__law_take.g g.d__law_take.F.kp g.b__law_take (dr_b (pv 0) (dr_v de_int dr_nil)))))) (do_ex (de_callB b_len g.n_len (dp_cons (do_bo 2) dp_nil) (hv := bt_len)))))) db_nil) db_nil) (db_cons (ds_ret (de_fz (de_meth PySem.F.plainAttrs_str PySem.F.slot_str_join PySem.F.type_str_join p_join (do_ex de_str) (dp_cons (do_ex (de_lc (own := [(".0", 6), ("row", 7)]) rfl sc__law_table.nd (di_or (di_v (de_v 2)) (di_keys (de_v 2))) (blkOk_by (by kernel_rfl)) (fun _ _ _ _ _ => (pg_name sc__law_table.nd rfl (Or.inl rfl))) (fun _ _ _ _ _ => dt_nil) (fun _ _ _ _ _ => (de_ix (o_ix (hu hr)) (do_ex de_str) (do_ex (de_call takes0 (ok__law_take g) (hr.mono (by decide)) g.d__law_take.g g.d__law_take.F.kp g.b__law_take (dr_b (pv 0) (dr_v de_int dr_nil)))))))) dp_nil)))) db_nil)))))))
theorem sc__law_net : FnScope ["box", "count", "net", "switch", "size", "inputs"] ["box", "count"] (defScope (top 45)) := ⟨rfl, rfl, rfl, by decide +kernel, rfl, by decide +kernel, by decide +kernel⟩
theorem ok__law_net (g : G K mg) : FnOk P w K mg base (L2.CX P w) 3 g.d__law_net.a g.d__law_net.d ["box", "count"] (spM K mg [true, false] m__law_net) :=
  fn_ok (k := 2) (N := ["box", "count", "net", "switch", "size", "inputs"]) (ms := [true, false]) (m := b__law_net) g.d__law_net.F sc__law_net rfl fun cdv A outer s H E hr tk pb => (db_cons (ds_set (i := 2) sc__law_net.nd rfl (Or.inl rfl) (de_lst da_nil)) (db_cons (ds_for (t := .nm 3) pb rfl (di_rng1 g.n_range (de_v 1)) (pg_name sc__law_net.nd rfl (Or.inl rfl)) (db_cons (ds_set (i := 4) sc__law_net.nd rfl (Or.inl rfl) (de_fz (de_call tk (ok__law_take g) (hr.mono (by decide)) g.d__law_take.g g.d__law_take.F.kp g.b__law_take (dr_b (pv 0) (dr_v (de_bin o_add (do_ex (de_callB (b_min rfl (hu hr)) g.n_min (dp_cons (do_ex de_int) (dp_cons (do_bo 1) dp_nil)) (hv := bt_min))) (do_ex de_int)) dr_nil))))) (db_cons (ds_set (i := 5) sc__law_net.nd rfl (Or.inl rfl) (de_fz (de_callT b_tuple g.n_tuple (dp_cons (do_ex (de_callB (b_sorted (hu hr)) g.n_sorted (dp_cons (do_ex (de_sl (do_ex (de_call tk (ok__law_mixed g) (hr.mono (by decide)) g.d__law_mixed.g g.d__law_mixed.F.kp g.b__law_mixed (dr_b (pv 0) (dr_v (de_v 1) dr_nil)))) dpo_none (dpo_some (de_v 4)))) dp_nil) (hv := bt_sorted))) dp_nil) (hv := bt_tuple)))) (db_cons (ds_expr (de_app (pv 2) (de_tup (da_cons (de_v 5) (da_cons (de_call tk (ok__law_table g) (hr.mono (by decide)) g.d__law_table.g g.d__law_table.F.kp g.b__law_table (dr_b (pv 0) (dr_v (de_v 4) dr_nil))) da_nil))))) (db_kill [3, 4, 5] db_nil))))) (db_cons (ds_ret (de_fz (de_callT b_tuple g.n_tuple (dp_cons (do_bo 2) dp_nil) (hv := bt_tuple)))) db_nil)))
theorem sc__law_pick : FnScope ["box", "items"] ["box", "items"] (defScope (top 39)) := ⟨rfl, rfl, rfl, by decide +kernel, rfl, by decide +kernel, by decide +kernel⟩
theorem ok__law_pick (g : G K mg) : FnOk P w K mg base (L2.CX P w) 2 g.d__law_pick.a g.d__law_pick.d ["box", "items"] (spM K mg [true, false] m__law_pick) :=
  fn_ok (k := 1) (N := ["box", "items"]) (ms := [true, false]) (m := b__law_pick) g.d__law_pick.F sc__law_pick rfl fun cdv A outer s H E hr tk pb => (db_cons (ds_ret (de_fz (de_ix (o_ix (hu hr)) (do_bo 1) (do_ex (de_call tk (ok__law_take g) (hr.mono (by decide)) g.d__law_take.g g.d__law_take.F.kp g.b__law_take (dr_b (pv 0) (dr_v (de_callB b_len g.n_len (dp_cons (do_bo 1) dp_nil) (hv := bt_len)) dr_nil))))))) db_nil)
theorem sc__law_drawn_net : FnScope ["box", "most", "count", "way", "net", "order", "rules", "switch", "ahead", "inputs", ".0", "table", "row"] ["box", "most"] (defScope (top 52)) := ⟨rfl, rfl, rfl, by decide +kernel, rfl, by decide +kernel, by decide +kernel⟩
theorem ok__law_drawn_net (g : G K mg) : FnOk P w K mg base (L2.CX P w) 4 g.d__law_drawn_net.a g.d__law_drawn_net.d ["box", "most"] (spM K mg [true, false] m__law_drawn_net) :=
  fn_ok (k := 3) (N := ["box", "most", "count", "way", "net", "order", "rules", "switch", "ahead", "inputs", ".0", "table", "row"]) (ms := [true, false]) (m := b__law_drawn_net) g.d__law_drawn_net.F sc__law_drawn_net rfl fun cdv A outer s H E hr tk pb => (db_cons (ds_parU (is := [2, 3]) rfl (pg_tup rfl (pgs_cons (pg_name sc__law_drawn_net.nd rfl (Or.inr rfl)) (pgs_cons (pg_name sc__law_drawn_net.nd rfl (Or.inl rfl)) pgs_nil))) (da_cons (de_fz (de_bin o_add (do_ex de_int) (do_ex (de_call tk (ok__law_take g) (hr.mono (by decide)) g.d__law_take.g g.d__law_take.F.kp g.b__law_take (dr_b (pv 0) (dr_v (de_v 1) dr_nil)))))) (da_cons (de_fz (de_call tk (ok__law_take g) (hr.mono (by decide)) g.d__law_take.g g.d__law_take.F.kp g.b__law_take (dr_b (pv 0) (dr_v de_int dr_nil)))) da_nil))) (db_cons (ds_set (i := 4) sc__law_drawn_net.nd rfl (Or.inl rfl) (de_fz (de_call tk (ok__law_net g) (hr.mono (by decide)) g.d__law_net.g g.d__law_net.F.kp g.b__law_net (dr_b (pv 0) (dr_v (de_v 2) dr_nil))))) (db_cons (ds_set (i := 5) sc__law_drawn_net.nd rfl (Or.inr rfl) (de_fz (de_call tk (ok__law_mixed g) (hr.mono (by decide)) g.d__law_mixed.g g.d__law_mixed.F.kp g.b__law_mixed (dr_b (pv 0) (dr_v (de_v 2) dr_nil))))) (db_cons (ds_if (be_cmp (o_eq (hu hr)) (do_bo 3) (do_ex de_int)) (db_cons (ds_set (i := 6) sc__law_drawn_net.nd rfl (Or.inl rfl) (de_lst da_nil)) (db_cons (ds_for (t := .nm 7) pb rfl (di_rng1 g.n_range (de_v 2)) (pg_name sc__law_drawn_net.nd rfl (Or.inl rfl)) (db_cons (ds_set (i := 8) sc__law_drawn_net.nd rfl (Or.inl rfl) (de_fz (de_sl (do_bo 5) dpo_none (dpo_some (de_meth PySem.F.plainAttrs_list PySem.F.slot_list_index PySem.F.type_list_index p_index (do_bo 5) (dp_cons (do_bo 7) dp_nil)))))) (db_cons (ds_set (i := 9) sc__law_drawn_net.nd rfl (Or.inl rfl) (de_fz (de_callT b_tuple g.n_tuple (dp_cons (do_ex (de_callB (b_sorted (hu hr)) g.n_sorted (dp_cons (do_ex (de_sl (do_bo 8) dpo_none (dpo_some (de_call tk (ok__law_take g) (hr.mono (by decide)) g.d__law_take.g g.d__law_take.F.kp g.b__law_take (dr_b (pv 0) (dr_v de_int dr_nil)))))) dp_nil) (hv := bt_sorted))) dp_nil) (hv := bt_tuple)))) (db_cons (ds_expr (de_app (pv 6) (de_tup (da_cons (de_v 9) (da_cons (de_call tk (ok__law_table g) (hr.mono (by decide)) g.d__law_table.g g.d__law_table.F.kp g.b__law_table (dr_b (pv 0) (dr_v (de_callB b_len g.n_len (dp_cons (do_bo 9) dp_nil) (hv := bt_len)) dr_nil))) da_nil))))) (db_kill [7, 8, 9] db_nil))))) (db_cons (ds_ret (de_fz (de_callT b_tuple g.n_tuple (dp_cons (do_bo 6) dp_nil) (hv := bt_tuple)))) db_nil))) db_nil) (db_cons (ds_if (be_cmp (o_eq (hu hr)) (do_bo 3) (do_ex de_int)) (db_cons (ds_ret (de_fz (de_callT b_tuple g.n_tuple (dp_cons (do_ex (de_lc (own := [(".0", 10), ("switch", 7)]) rfl sc__law_drawn_net.nd (di_rng1 g.n_range (de_v 2)) (blkOk_by (by kernel_rfl)) (fun _ _ _ _ _ => (pg_name sc__law_drawn_net.nd rfl (Or.inl rfl))) (fun _ _ _ _ _ => dt_nil) (fun _ _ _ _ _ => (de_tup (da_cons (de_tup (da_cons (de_ix (o_ix (hu hr)) (do_bo 5) (do_ex (de_bin o_mod (do_ex (de_callT b_int g.n_int (dp_cons (do_ex (de_bin o_sub (do_ex (de_meth PySem.F.plainAttrs_list PySem.F.slot_list_index PySem.F.type_list_index p_index (do_bo 5) (dp_cons (do_bo 7) dp_nil))) (do_ex de_int))) dp_nil) (hv := bt_int))) (do_bo 2)))) da_nil)) (da_cons (de_call takes0 (ok__law_pick g) (hr.mono (by decide)) g.d__law_pick.g g.d__law_pick.F.kp g.b__law_pick (dr_b (pv 0) (dr_v (de_lst (da_cons de_str (da_cons de_str da_nil))) dr_nil))) da_nil)))))) dp_nil) (hv := bt_tuple)))) db_nil) db_nil) (db_cons (ds_if (be_cmp (o_eq (hu hr)) (do_bo 3) (do_ex de_int)) (db_cons (ds_ret (de_fz (de_callT b_tuple g.n_tuple (dp_cons (do_ex (de_lc (own := [(".0", 10), ("switch", 7)]) rfl sc__law_drawn_net.nd (di_rng1 g.n_range (de_v 2)) (blkOk_by (by kernel_rfl)) (fun _ _ _ _ _ => (pg_name sc__law_drawn_net.nd rfl (Or.inl rfl))) (fun _ _ _ _ _ => dt_nil) (fun _ _ _ _ _ => (de_tup (da_cons (de_tup (da_cons (de_v 7) da_nil)) (da_cons (de_call takes0 (ok__law_pick g) (hr.mono (by decide)) g.d__law_pick.g g.d__law_pick.F.kp g.b__law_pick (dr_b (pv 0) (dr_v (de_lst (da_cons de_str (da_cons de_str (da_cons de_str (da_cons de_str (da_cons de_str da_nil)))))) dr_nil))) da_nil)))))) dp_nil) (hv := bt_tuple)))) db_nil) db_nil) (db_cons (ds_if (be_cmp (o_eq (hu hr)) (do_bo 3) (do_ex de_int)) (db_cons (ds_ret (de_fz (de_callT b_tuple g.n_tuple (dp_cons (do_ex (de_lc (own := [(".0", 10), ("inputs", 9), ("table", 11)]) rfl sc__law_drawn_net.nd (di_or (di_v (de_v 4)) (di_keys (de_v 4))) (blkOk_by (by kernel_rfl)) (fun _ _ _ _ _ => (pg_tup rfl (pgs_cons (pg_name sc__law_drawn_net.nd rfl (Or.inl rfl)) (pgs_cons (pg_name sc__law_drawn_net.nd rfl (Or.inl rfl)) pgs_nil)))) (fun _ _ _ _ _ => dt_nil) (fun _ _ _ _ _ => (de_tup (da_cons (de_v 9) (da_cons (de_meth PySem.F.plainAttrs_str PySem.F.slot_str_join PySem.F.type_str_join p_join (do_ex de_str) (dp_cons (do_ex (de_lc (own := [(".0", 10), ("row", 12)]) rfl sc__law_drawn_net.nd (di_or (di_v (de_call takes0 (ok__law_words g) (hr.mono (by decide)) g.d__law_words.g g.d__law_words.F.kp g.b__law_words (dr_v (de_callB b_len g.n_len (dp_cons (do_bo 9) dp_nil) (hv := bt_len)) dr_nil))) (di_keys (de_call takes0 (ok__law_words g) (hr.mono (by decide)) g.d__law_words.g g.d__law_words.F.kp g.b__law_words (dr_v (de_callB b_len g.n_len (dp_cons (do_bo 9) dp_nil) (hv := bt_len)) dr_nil)))) (blkOk_by (by kernel_rfl)) (fun _ _ _ _ _ => (pg_name sc__law_drawn_net.nd rfl (Or.inl rfl))) (fun _ _ _ _ _ => dt_nil) (fun _ _ _ _ _ => (de_if (be_cmp (o_notIn (hu hr)) (do_ex de_str) (do_bo 12)) de_str de_str)))) dp_nil)) da_nil)))))) dp_nil) (hv := bt_tuple)))) db_nil) db_nil) (db_cons (ds_ret (de_fz (de_v 4))) db_nil))))))))
theorem sc__law_given : FnScope ["net", "switch", "state", "inputs", "table", "place", "one"] ["net", "switch", "state"] (defScope (top 42)) := ⟨rfl, rfl, rfl, by decide +kernel, rfl, by decide +kernel, by decide +kernel⟩
theorem ok__law_given (g : G K mg) : FnOk P w K mg base (L2.CX P w) 1 g.d__law_given.a g.d__law_given.d ["net", "switch", "state"] (spM K mg [false, false, false] m__law_given) :=
  fn_ok (k := 0) (N := ["net", "switch", "state", "inputs", "table", "place", "one"]) (ms := [false, false, false]) (m := b__law_given) g.d__law_given.F sc__law_given rfl fun cdv A outer s H E hr tk pb => (db_cons (ds_unp (t := .tp [3, 4]) (de_ix (o_ix (hu hr)) (do_bo 0) (do_bo 1)) (pg_tup rfl (pgs_cons (pg_name sc__law_given.nd rfl (Or.inl rfl)) (pgs_cons (pg_name sc__law_given.nd rfl (Or.inl rfl)) pgs_nil)))) (db_cons (ds_set (i := 5) sc__law_given.nd rfl (Or.inl rfl) (de_fz de_int)) (db_cons (ds_for (t := .nm 6) pb rfl (di_or (di_v (de_v 3)) (di_keys (de_v 3))) (pg_name sc__law_given.nd rfl (Or.inl rfl)) (db_cons (ds_set (i := 5) sc__law_given.nd rfl (Or.inl rfl) (de_fz (de_bin o_add (do_ex (de_bin o_mul (do_ex de_int) (do_bo 5))) (do_ex (de_callT b_int g.n_int (dp_cons (do_ex (be_cmp (o_eq (hu hr)) (do_ex (de_ix (o_ix (hu hr)) (do_bo 2) (do_bo 6))) (do_ex de_str)).v) dp_nil) (hv := bt_int)))))) (db_kill [6] db_nil))) (db_cons (ds_ret (de_fz (de_ix (o_ix (hu hr)) (do_bo 4) (do_bo 5)))) db_nil))))
theorem sc__law_image : FnScope ["net", "state", ".0", "switch"] ["net", "state"] (defScope (top 43)) := ⟨rfl, rfl, rfl, by decide +kernel, rfl, by decide +kernel, by decide +kernel⟩
theorem ok__law_image (g : G K mg) : FnOk P w K mg base (L2.CX P w) 2 g.d__law_image.a g.d__law_image.d ["net", "state"] (spM K mg [false, false] m__law_image) :=
  fn_ok (k := 1) (N := ["net", "state", ".0", "switch"]) (ms := [false, false]) (m := b__law_image) g.d__law_image.F sc__law_image rfl fun cdv A outer s H E hr tk pb => (db_cons (ds_ret (de_fz (de_meth PySem.F.plainAttrs_str PySem.F.slot_str_join PySem.F.type_str_join p_join (do_ex de_str) (dp_cons (do_ex (de_lc (own := [(".0", 2), ("switch", 3)]) rfl sc__law_image.nd (di_rng1 g.n_range (de_callB b_len g.n_len (dp_cons (do_bo 0) dp_nil) (hv := bt_len))) (blkOk_by (by kernel_rfl)) (fun _ _ _ _ _ => (pg_name sc__law_image.nd rfl (Or.inl rfl))) (fun _ _ _ _ _ => dt_nil) (fun _ _ _ _ _ => (de_call takes0 (ok__law_given g) (hr.mono (by decide)) g.d__law_given.g g.d__law_given.F.kp g.b__law_given (dr_v (de_v 0) (dr_v (de_v 3) (dr_v (de_v 1) dr_nil))))))) dp_nil)))) db_nil)
theorem sc__law_in : FnScope ["state", "space", ".0", "k"] ["state", "space"] (defScope (top 47)) := ⟨rfl, rfl, rfl, by decide +kernel, rfl, by decide +kernel, by decide +kernel⟩
theorem ok__law_in (g : G K mg) : FnOk P w K mg base (L2.CX P w) 1 g.d__law_in.a g.d__law_in.d ["state", "space"] (spM K mg [false, false] m__law_in) :=
  fn_ok (k := 0) (N := ["state", "space", ".0", "k"]) (ms := [false, false]) (m := b__law_in) g.d__law_in.F sc__law_in rfl fun cdv A outer s H E hr tk pb => (db_cons (ds_ret (de_fz (be_cmp (o_eq (hu hr)) (do_ex (de_lc (own := [(".0", 2), ("k", 3)]) rfl sc__law_in.nd (di_rng1 g.n_range (de_callB b_len g.n_len (dp_cons (do_bo 1) dp_nil) (hv := bt_len))) (blkOk_by (by kernel_rfl)) (fun _ _ _ _ _ => (pg_name sc__law_in.nd rfl (Or.inl rfl))) (fun _ _ _ _ _ => (dt_one (be_bw (bw_and (be_cmp (o_ne (hu hr)) (do_ex (de_ix (o_ix (hu hr)) (do_bo 1) (do_bo 3))) (do_ex de_str)) (bw_one (be_cmp (o_ne (hu hr)) (do_ex (de_ix (o_ix (hu hr)) (do_bo 1) (do_bo 3))) (do_ex (de_ix (o_ix (hu hr)) (do_bo 0) (do_bo 3))))))))) (fun _ _ _ _ _ => (de_v 3)))) (do_ex (de_lst da_nil))).v)) db_nil)
theorem sc__law_states_in : FnScope ["space", ".0", "state"] ["space"] (defScope (top 48)) := ⟨rfl, rfl, rfl, by decide +kernel, rfl, by decide +kernel, by decide +kernel⟩
theorem ok__law_states_in (g : G K mg) : FnOk P w K mg base (L2.CX P w) 2 g.d__law_states_in.a g.d__law_states_in.d ["space"] (spM K mg [false] m__law_states_in) :=
  fn_ok (k := 1) (N := ["space", ".0", "state"]) (ms := [false]) (m := b__law_states_in) g.d__law_states_in.F sc__law_states_in rfl fun cdv A outer s H E hr tk pb => (db_cons (ds_ret (de_lc (own := [(".0", 1), ("state", 2)]) rfl sc__law_states_in.nd (di_or (di_v (de_call tk (ok__law_words g) (hr.mono (by decide)) g.d__law_words.g g.d__law_words.F.kp g.b__law_words (dr_v (de_callB b_len g.n_len (dp_cons (do_bo 0) dp_nil) (hv := bt_len)) dr_nil))) (di_keys (de_call tk (ok__law_words g) (hr.mono (by decide)) g.d__law_words.g g.d__law_words.F.kp g.b__law_words (dr_v (de_callB b_len g.n_len (dp_cons (do_bo 0) dp_nil) (hv := bt_len)) dr_nil)))) (blkOk_by (by kernel_rfl)) (fun _ _ _ _ _ => (pg_name sc__law_states_in.nd rfl (Or.inl rfl))) (fun _ _ _ _ _ => (dt_one (be_val (de_call takes0 (ok__law_in g) (hr.mono (by decide)) g.d__law_in.g g.d__law_in.F.kp g.b__law_in (dr_v (de_v 2) (dr_v (de_v 0) dr_nil)))))) (fun _ _ _ _ _ => (de_v 2)))) db_nil)
theorem sc__law_leaving : FnScope ["net", "space", "state", "image", "switch"] ["net", "space"] (defScope (top 51)) := ⟨rfl, rfl, rfl, by decide +kernel, rfl, by decide +kernel, by decide +kernel⟩
theorem ok__law_leaving (g : G K mg) : FnOk P w K mg base (L2.CX P w) 3 g.d__law_leaving.a g.d__law_leaving.d ["net", "space"] (spM K mg [false, false] m__law_leaving) :=
  fn_ok (k := 2) (N := ["net", "space", "state", "image", "switch"]) (ms := [false, false]) (m := b__law_leaving) g.d__law_leaving.F sc__law_leaving rfl fun cdv A outer s H E hr tk pb => (db_cons (ds_for (t := .nm 2) pb rfl (di_or (di_v (de_call tk (ok__law_states_in g) (hr.mono (by decide)) g.d__law_states_in.g g.d__law_states_in.F.kp g.b__law_states_in (dr_v (de_v 1) dr_nil))) (di_keys (de_call tk (ok__law_states_in g) (hr.mono (by decide)) g.d__law_states_in.g g.d__law_states_in.F.kp g.b__law_states_in (dr_v (de_v 1) dr_nil)))) (pg_name sc__law_leaving.nd rfl (Or.inl rfl)) (db_cons (ds_set (i := 3) sc__law_leaving.nd rfl (Or.inl rfl) (de_fz (de_call tk (ok__law_image g) (hr.mono (by decide)) g.d__law_image.g g.d__law_image.F.kp g.b__law_image (dr_v (de_v 0) (dr_v (de_v 2) dr_nil))))) (db_cons (ds_for (t := .nm 4) pb rfl (di_rng1 g.n_range (de_callB b_len g.n_len (dp_cons (do_bo 0) dp_nil) (hv := bt_len))) (pg_name sc__law_leaving.nd rfl (Or.inl rfl)) (db_cons (ds_if (be_bw (bw_and (be_cmp (o_ne (hu hr)) (do_ex (de_ix (o_ix (hu hr)) (do_bo 1) (do_bo 4))) (do_ex de_str)) (bw_one (be_cmp (o_ne (hu hr)) (do_ex (de_ix (o_ix (hu hr)) (do_bo 3) (do_bo 4))) (do_ex (de_ix (o_ix (hu hr)) (do_bo 1) (do_bo 4))))))) (db_cons (ds_ret (de_fz (de_tup (da_cons (de_v 2) (da_cons (de_v 4) da_nil))))) db_nil) db_nil) (db_kill [4] db_nil))) (db_kill [2, 3, 4] db_nil)))) (db_cons (ds_ret (de_fz de_none)) db_nil))
theorem sc__law_no_net : FnScope ["box", "odd"] ["box"] (defScope (top 46)) := ⟨rfl, rfl, rfl, by decide +kernel, rfl, by decide +kernel, by decide +kernel⟩
theorem ok__law_no_net (g : G K mg) : FnOk P w K mg base (L2.CX P w) 2 g.d__law_no_net.a g.d__law_no_net.d ["box"] (spM K mg [true] m__law_no_net) :=
  fn_ok (k := 1) (N := ["box", "odd"]) (ms := [true]) (m := b__law_no_net) g.d__law_no_net.F sc__law_no_net rfl fun cdv A outer s H E hr tk pb => (db_cons (ds_set (i := 1) sc__law_no_net.nd rfl (Or.inl rfl) (de_lst (da_cons de_none (da_cons de_int (da_cons de_str (da_cons (de_tup da_nil) (da_cons (de_lst (da_cons (de_tup (da_cons (de_tup (da_cons de_int da_nil)) (da_cons de_str da_nil))) da_nil)) (da_cons (de_tup (da_cons (de_tup (da_cons (de_tup (da_cons de_int da_nil)) (da_cons de_str da_nil))) da_nil)) (da_cons (de_tup (da_cons (de_tup (da_cons (de_tup (da_cons de_int (da_cons de_int da_nil))) (da_cons de_str da_nil))) da_nil)) (da_cons (de_tup (da_cons (de_tup (da_cons (de_tup (da_cons de_int da_nil)) (da_cons de_str da_nil))) da_nil)) (da_cons (de_tup (da_cons (de_tup (da_cons (de_tup (da_cons de_int da_nil)) (da_cons de_str da_nil))) da_nil)) (da_cons (de_tup (da_cons (de_tup (da_cons de_int (da_cons de_str da_nil))) da_nil)) (da_cons (de_tup (da_cons (de_tup (da_cons (de_tup (da_cons de_int da_nil)) (da_cons de_int da_nil))) da_nil)) (da_cons (de_tup (da_cons (de_tup (da_cons (de_lst (da_cons de_int da_nil)) (da_cons de_str da_nil))) da_nil)) da_nil)))))))))))))) (db_cons (ds_expr (de_ext (pv 1) (de_lst (da_cons (de_tup (da_cons (de_tup (da_cons (de_tup (da_cons de_int da_nil)) da_nil)) da_nil)) (da_cons (de_tup (da_cons (de_tup (da_cons de_none da_nil)) da_nil)) (da_cons (de_tup (da_cons (de_tup (da_cons (de_tup da_nil) (da_cons de_str da_nil))) da_nil)) (da_cons (de_tup (da_cons (de_tup (da_cons (de_tup (da_cons de_bool da_nil)) (da_cons de_str da_nil))) da_nil)) (da_cons (de_callT b_tuple g.n_tuple (dp_cons (do_ex (de_bin o_mul (do_ex (de_lst (da_cons (de_tup (da_cons (de_tup da_nil) (da_cons de_str da_nil))) da_nil))) (do_ex de_int))) dp_nil) (hv := bt_tuple)) (da_cons (de_disp (dps_cons de_str de_int dps_nil)) (da_cons (de_tup (da_cons (de_tup (da_cons (de_tup (da_cons de_int da_nil)) (da_cons de_str (da_cons de_int da_nil)))) da_nil)) da_nil)))))))))) (db_cons (ds_ret (de_fz (de_ix (o_ix (hu hr)) (do_bo 1) (do_ex (de_call tk (ok__law_take g) (hr.mono (by decide)) g.d__law_take.g g.d__law_take.F.kp g.b__law_take (dr_b (pv 0) (dr_v (de_callB b_len g.n_len (dp_cons (do_bo 1) dp_nil) (hv := bt_len)) dr_nil))))))) db_nil)))
theorem sc__law_same : FnScope ["told", "due", ".0", "key", "k"] ["told", "due"] (defScope (top 38)) := ⟨rfl, rfl, rfl, by decide +kernel, rfl, by decide +kernel, by decide +kernel⟩
theorem ok__law_same (g : G K mg) : ∀ n : Nat, FnOk P w K mg base (L2.CX P w) (1 + n) g.d__law_same.a g.d__law_same.d ["told", "due"] (spM K mg [false, false] (m__law_same n))
  | 0 => fn_no rfl
  | n + 1 => by
    have ih := ok__law_same g n
    exact fn_ok (k := 1 + n) (N := ["told", "due", ".0", "key", "k"]) (ms := [false, false]) (m := b__law_same (m__law_same n)) g.d__law_same.F sc__law_same rfl fun cdv A outer s H E hr tk pb => (db_cons (ds_if (be_bw (bw_or (be_cmp o_is (do_bo 1) (do_ex de_none)) (bw_one (be_isi1 tk_bool g.n_isinstance (do_bo 1) (nt_of g.n_bool (hv := bt_bool)))))) (db_cons (ds_ret (de_fz (de_if (be_cmp o_is (do_bo 1) (do_ex de_none)) (be_cmp o_is (do_bo 0) (do_ex de_none)).v (be_bw (bw_and (be_isi1 tk_bool g.n_isinstance (do_bo 0) (nt_of g.n_bool (hv := bt_bool))) (bw_one (be_cmp (o_eq (hu hr)) (do_ex (be_cmp o_is (do_bo 0) (do_ex de_bool)).v) (do_ex (be_cmp o_is (do_bo 1) (do_ex de_bool)).v))))).v))) db_nil) db_nil) (db_cons (ds_if (be_isi1 tk_int g.n_isinstance (do_bo 1) (nt_of g.n_int (hv := bt_int))) (db_cons (ds_ret (de_fz (be_bw (bw_and (be_isi1 tk_int g.n_isinstance (do_bo 0) (nt_of g.n_int (hv := bt_int))) (bw_and (be_not (be_isi1 tk_bool g.n_isinstance (do_bo 0) (nt_of g.n_bool (hv := bt_bool)))) (bw_one (be_cmp (o_eq (hu hr)) (do_ex (de_bin o_sub (do_ex (de_callT b_int g.n_int (dp_cons (do_bo 0) dp_nil) (hv := bt_int))) (do_bo 1))) (do_ex de_int)))))).v)) db_nil) db_nil) (db_cons (ds_if (be_isi1 tk_str g.n_isinstance (do_bo 1) (nt_of g.n_str (hv := bt_str))) (db_cons (ds_ret (de_fz (be_bw (bw_and (be_isi1 tk_str g.n_isinstance (do_bo 0) (nt_of g.n_str (hv := bt_str))) (bw_one (be_cmp (o_eq (hu hr)) (do_bo 0) (do_bo 1))))).v)) db_nil) db_nil) (db_cons (ds_if (be_isi1 tk_dict g.n_isinstance (do_bo 1) (nt_of g.n_dict (hv := bt_dict))) (db_cons (ds_ret (de_fz (be_bw (bw_and (be_isi1 tk_dict g.n_isinstance (do_bo 0) (nt_of g.n_dict (hv := bt_dict))) (bw_and (be_cmp (o_eq (hu hr)) (do_ex (de_callB b_len g.n_len (dp_cons (do_bo 0) dp_nil) (hv := bt_len))) (do_ex (de_callB b_len g.n_len (dp_cons (do_bo 1) dp_nil) (hv := bt_len)))) (bw_one (be_cmp (o_eq (hu hr)) (do_ex (de_lc (own := [(".0", 2), ("key", 3)]) rfl sc__law_same.nd (di_or (di_v (de_v 1)) (di_keys (de_v 1))) (blkOk_by (by kernel_rfl)) (fun _ _ _ _ _ => (pg_name sc__law_same.nd rfl (Or.inl rfl))) (fun _ _ _ _ _ => (dt_one (be_bw (bw_or (be_cmp (o_notIn (hu hr)) (do_bo 3) (do_bo 0)) (bw_one (be_not (be_val (de_call takes0 ih (hr.mono (by omega)) g.d__law_same.g g.d__law_same.F.kp g.b__law_same (dr_v (de_ix (o_ix (hu hr)) (do_bo 0) (do_bo 3)) (dr_v (de_ix (o_ix (hu hr)) (do_bo 1) (do_bo 3)) dr_nil)))))))))) (fun _ _ _ _ _ => (de_v 3)))) (do_ex (de_lst da_nil))))))).v)) db_nil) db_nil) (db_cons (ds_if (be_bw (bw_or (be_not (be_isiT (tks_cons tk_list (tks_cons tk_tuple tks_nil)) g.n_isinstance (do_bo 1) (NTs.cons (nt_of g.n_list (hv := bt_list)) (NTs.cons (nt_of g.n_tuple (hv := bt_tuple)) NTs.nil)))) (bw_one (be_not (be_isiT (tks_cons tk_list (tks_cons tk_tuple tks_nil)) g.n_isinstance (do_bo 0) (NTs.cons (nt_of g.n_list (hv := bt_list)) (NTs.cons (nt_of g.n_tuple (hv := bt_tuple)) NTs.nil))))))) (db_cons (ds_ret (de_fz de_bool)) db_nil) db_nil) (db_cons (ds_if (be_bw (bw_or (be_cmp (o_ne (hu hr)) (do_ex (be_isi1 tk_list g.n_isinstance (do_bo 0) (nt_of g.n_list (hv := bt_list))).v) (do_ex (be_isi1 tk_list g.n_isinstance (do_bo 1) (nt_of g.n_list (hv := bt_list))).v)) (bw_one (be_cmp (o_ne (hu hr)) (do_ex (de_callB b_len g.n_len (dp_cons (do_bo 0) dp_nil) (hv := bt_len))) (do_ex (de_callB b_len g.n_len (dp_cons (do_bo 1) dp_nil) (hv := bt_len))))))) (db_cons (ds_ret (de_fz de_bool)) db_nil) db_nil) (db_cons (ds_ret (de_fz (be_cmp (o_eq (hu hr)) (do_ex (de_lc (own := [(".0", 2), ("k", 4)]) rfl sc__law_same.nd (di_rng1 g.n_range (de_callB b_len g.n_len (dp_cons (do_bo 1) dp_nil) (hv := bt_len))) (blkOk_by (by kernel_rfl)) (fun _ _ _ _ _ => (pg_name sc__law_same.nd rfl (Or.inl rfl))) (fun _ _ _ _ _ => (dt_one (be_not (be_val (de_call takes0 ih (hr.mono (by omega)) g.d__law_same.g g.d__law_same.F.kp g.b__law_same (dr_v (de_ix (o_ix (hu hr)) (do_bo 0) (do_bo 4)) (dr_v (de_ix (o_ix (hu hr)) (do_bo 1) (do_bo 4)) dr_nil))))))) (fun _ _ _ _ _ => (de_v 4)))) (do_ex (de_lst da_nil))).v)) db_nil)))))))
theorem sc__law_space : FnScope ["box", "count", ".0", "switch"] ["box", "count"] (defScope (top 50)) := ⟨rfl, rfl, rfl, by decide +kernel, rfl, by decide +kernel, by decide +kernel⟩
theorem ok__law_space (g : G K mg) : FnOk P w K mg base (L2.CX P w) 3 g.d__law_space.a g.d__law_space.d ["box", "count"] (spM K mg [true, false] m__law_space) :=
  fn_ok (k := 2) (N := ["box", "count", ".0", "switch"]) (ms := [true, false]) (m := b__law_space) g.d__law_space.F sc__law_space rfl fun cdv A outer s H E hr tk pb => (db_cons (ds_ret (de_fz (de_meth PySem.F.plainAttrs_str PySem.F.slot_str_join PySem.F.type_str_join p_join (do_ex de_str) (dp_cons (do_ex (de_lc (own := [(".0", 2), ("switch", 3)]) rfl sc__law_space.nd (di_rng1 g.n_range (de_v 1)) (blkOk_by (by kernel_rfl)) (fun _ _ _ _ _ => (pg_name sc__law_space.nd rfl (Or.inl rfl))) (fun _ _ _ _ _ => dt_nil) (fun _ _ _ _ _ => (de_call takes0 (ok__law_pick g) (hr.mono (by decide)) g.d__law_pick.g g.d__law_pick.F.kp g.b__law_pick (dr_b (pv 0) (dr_v de_str dr_nil)))))) dp_nil)))) db_nil)
theorem sc__law_percolated : FnScope ["net", "space", "turn", "images", "signs", ".0", "state", "k", "image"] ["net", "space"] (defScope (top 56)) := ⟨rfl, rfl, rfl, by decide +kernel, rfl, by decide +kernel, by decide +kernel⟩
theorem ok__law_percolated (g : G K mg) : FnOk P w K mg base (L2.CX P w) 3 g.d__law_percolated.a g.d__law_percolated.d ["net", "space"] (spM K mg [false, false] m__law_percolated) :=
  fn_ok (k := 2) (N := ["net", "space", "turn", "images", "signs", ".0", "state", "k", "image"]) (ms := [false, false]) (m := b__law_percolated) g.d__law_percolated.F sc__law_percolated rfl fun cdv A outer s H E hr tk pb => (db_cons (ds_for (t := .nm 2) pb rfl (di_rng1 g.n_range (de_callB b_len g.n_len (dp_cons (do_bo 0) dp_nil) (hv := bt_len))) (pg_name sc__law_percolated.nd rfl (Or.inl rfl)) (db_cons (ds_set (i := 3) sc__law_percolated.nd rfl (Or.inr rfl) (de_lc (own := [(".0", 5), ("state", 6)]) rfl sc__law_percolated.nd (di_or (di_v (de_call tk (ok__law_states_in g) (hr.mono (by decide)) g.d__law_states_in.g g.d__law_states_in.F.kp g.b__law_states_in (dr_v (de_v 1) dr_nil))) (di_keys (de_call tk (ok__law_states_in g) (hr.mono (by decide)) g.d__law_states_in.g g.d__law_states_in.F.kp g.b__law_states_in (dr_v (de_v 1) dr_nil)))) (blkOk_by (by kernel_rfl)) (fun _ _ _ _ _ => (pg_name sc__law_percolated.nd rfl (Or.inl rfl))) (fun _ _ _ _ _ => dt_nil) (fun _ _ _ _ _ => (de_call takes0 (ok__law_image g) (hr.mono (by decide)) g.d__law_image.g g.d__law_image.F.kp g.b__law_image (dr_v (de_v 0) (dr_v (de_v 6) dr_nil)))))) (db_frz [3] (db_cons (ds_set (i := 4) sc__law_percolated.nd rfl (Or.inr rfl) (de_lc (own := [(".0", 5), ("k", 7)]) rfl sc__law_percolated.nd (di_rng1 g.n_range (de_callB b_len g.n_len (dp_cons (do_bo 0) dp_nil) (hv := bt_len))) (blkOk_by (by kernel_rfl)) (fun _ _ _ _ _ => (pg_name sc__law_percolated.nd rfl (Or.inr rfl))) (fun _ _ _ _ _ => dt_nil) (fun _ _ _ _ _ => (de_ss rfl g.n_sorted g.n_set (do_ex (de_lc (own := [(".0", 5), ("image", 8)]) rfl sc__law_percolated.nd (di_or (di_v (de_v 3)) (di_keys (de_v 3))) (blkOk_by (by kernel_rfl)) (fun _ _ _ _ _ => (pg_name sc__law_percolated.nd rfl (Or.inl rfl))) (fun _ _ _ _ _ => dt_nil) (fun _ _ _ _ _ => (de_ix (o_ix (hu hr)) (do_bo 8) (do_bo 7))))) (hv := bt_sorted) (hv2 := bt_set))))) (db_frz [4] (db_cons (ds_set (i := 1) sc__law_percolated.nd rfl (Or.inr rfl) (de_fz (de_meth PySem.F.plainAttrs_str PySem.F.slot_str_join PySem.F.type_str_join p_join (do_ex de_str) (dp_cons (do_ex (de_lc (own := [(".0", 5), ("k", 7)]) rfl sc__law_percolated.nd (di_rng1 g.n_range (de_callB b_len g.n_len (dp_cons (do_bo 0) dp_nil) (hv := bt_len))) (blkOk_by (by kernel_rfl)) (fun _ _ _ _ _ => (pg_name sc__law_percolated.nd rfl (Or.inl rfl))) (fun _ _ _ _ _ => dt_nil) (fun _ _ _ _ _ => (de_if (be_bw (bw_and (be_cmp (o_eq (hu hr)) (do_ex (de_ix (o_ix (hu hr)) (do_bo 1) (do_bo 7))) (do_ex de_str)) (bw_one (be_cmp (o_eq (hu hr)) (do_ex (de_callB b_len g.n_len (dp_cons (do_ex (de_ix (o_ix (hu hr)) (do_bo 4) (do_bo 7))) dp_nil) (hv := bt_len))) (do_ex de_int))))) (de_ix (o_ix (hu hr)) (do_ex (de_ix (o_ix (hu hr)) (do_bo 4) (do_bo 7))) (do_ex de_int)) (de_ix (o_ix (hu hr)) (do_bo 1) (do_bo 7)))))) dp_nil)))) (db_kill [2, 3, 4] db_nil))))))) (db_cons (ds_ret (de_fz (de_v 1))) db_nil))
theorem sc__law_space_right : FnScope ["net", "traps", "space", "by_name", "around_v", "fixed", "told", "free", "turn", "leaving", "late", ".0", "k", "state"] ["net", "traps", "space", "by_name"] (defScope (top 57)) := ⟨rfl, rfl, rfl, by decide +kernel, rfl, by decide +kernel, by decide +kernel⟩
theorem ok__law_space_right (g : G K mg) : FnOk P w K mg base (L2.CX P w) 11 g.d__law_space_right.a g.d__law_space_right.d ["net", "traps", "space", "by_name"] (spM K mg [false, false, false, false] m__law_space_right) :=
  fn_ok (k := 10) (N := ["net", "traps", "space", "by_name", "around_v", "fixed", "told", "free", "turn", "leaving", "late", ".0", "k", "state"]) (ms := [false, false, false, false]) (m := b__law_space_right) g.d__law_space_right.F sc__law_space_right rfl fun cdv A outer s H E hr tk pb => (db_cons (ds_parU (is := [4, 5]) rfl (pg_tup rfl (pgs_cons (pg_name sc__law_space_right.nd rfl (Or.inl rfl)) (pgs_cons (pg_name sc__law_space_right.nd rfl (Or.inr rfl)) pgs_nil))) (da_cons (de_fz (de_call tk (ok__law_around g) (hr.mono (by decide)) g.d__law_around.g g.d__law_around.F.kp g.b__law_around (dr_v (de_v 0) (dr_v (de_v 1) (dr_v (de_v 2) dr_nil))))) (da_cons (de_fz (de_call tk (ok__law_percolated g) (hr.mono (by decide)) g.d__law_percolated.g g.d__law_percolated.F.kp g.b__law_percolated (dr_v (de_v 0) (dr_v (de_v 2) dr_nil)))) da_nil))) (db_cons (ds_set (i := 6) sc__law_space_right.nd rfl (Or.inl rfl) (de_fz (de_lst (da_cons (de_call tk (ok__law_asked g) (hr.mono (by decide)) g.d__law_asked.g g.d__law_asked.F.kp g.b__law_asked (dr_v de_str (dr_v (de_v 0) (dr_v (de_v 2) (dr_v (de_v 3) dr_nil))))) (da_cons (de_call tk (ok__law_asked g) (hr.mono (by decide)) g.d__law_asked.g g.d__law_asked.F.kp g.b__law_asked (dr_v de_str (dr_v (de_v 0) (dr_v (de_v 2) (dr_v (be_not (be_val (de_v 3))).v dr_nil))))) (da_cons (de_call tk (ok__law_asked g) (hr.mono (by decide)) g.d__law_asked.g g.d__law_asked.F.kp g.b__law_asked (dr_v de_str (dr_v (de_v 0) (dr_v (de_v 2) (dr_v (be_not (be_val (de_v 3))).v dr_nil))))) (da_cons (de_call tk (ok__law_asked g) (hr.mono (by decide)) g.d__law_asked.g g.d__law_asked.F.kp g.b__law_asked (dr_v de_str (dr_v (de_v 0) (dr_v (de_v 2) (dr_v (de_v 3) dr_nil))))) da_nil))))))) (db_cons (ds_if (be_not (be_val (de_call tk (ok__law_same g 9) (hr.mono (by decide)) g.d__law_same.g g.d__law_same.F.kp g.b__law_same (dr_v (de_v 6) (dr_v (de_bin o_mul (do_ex (de_lst (da_cons (de_lst (da_cons de_str (da_cons (de_v 4) da_nil))) (da_cons (de_lst (da_cons de_str (da_cons (de_v 5) da_nil))) da_nil)))) (do_ex de_int)) dr_nil))))) (db_cons (ds_ret (de_fz de_bool)) db_nil) db_nil) (db_cons (ds_set (i := 7) sc__law_space_right.nd rfl (Or.inr rfl) (de_fz (de_v 2))) (db_cons (ds_for (t := .nm 8) pb rfl (di_rng1 g.n_range (de_callB b_len g.n_len (dp_cons (do_bo 0) dp_nil) (hv := bt_len))) (pg_name sc__law_space_right.nd rfl (Or.inl rfl)) (db_cons (ds_set (i := 9) sc__law_space_right.nd rfl (Or.inr rfl) (de_lc (own := [(".0", 11), ("k", 12)]) rfl sc__law_space_right.nd (di_rng1 g.n_range (de_callB b_len g.n_len (dp_cons (do_bo 0) dp_nil) (hv := bt_len))) (blkOk_by (by kernel_rfl)) (fun _ _ _ _ _ => (pg_name sc__law_space_right.nd rfl (Or.inr rfl))) (fun _ _ _ _ _ => (dt_one (be_bw (bw_and (be_cmp (o_ne (hu hr)) (do_ex (de_ix (o_ix (hu hr)) (do_bo 7) (do_bo 12))) (do_ex de_str)) (bw_one (be_cmp (o_ne (hu hr)) (do_ex (de_lc (own := [(".0", 11), ("state", 13)]) rfl sc__law_space_right.nd (di_or (di_v (de_call takes0 (ok__law_states_in g) (hr.mono (by decide)) g.d__law_states_in.g g.d__law_states_in.F.kp g.b__law_states_in (dr_v (de_v 7) dr_nil))) (di_keys (de_call takes0 (ok__law_states_in g) (hr.mono (by decide)) g.d__law_states_in.g g.d__law_states_in.F.kp g.b__law_states_in (dr_v (de_v 7) dr_nil)))) (blkOk_by (by kernel_rfl)) (fun _ _ _ _ _ => (pg_name sc__law_space_right.nd rfl (Or.inl rfl))) (fun _ _ _ _ _ => (dt_one (be_cmp (o_ne (hu hr)) (do_ex (de_ix (o_ix (hu hr)) (do_ex (de_call takes0 (ok__law_image g) (hr.mono (by decide)) g.d__law_image.g g.d__law_image.F.kp g.b__law_image (dr_v (de_v 0) (dr_v (de_v 13) dr_nil)))) (do_bo 12))) (do_ex (de_ix (o_ix (hu hr)) (do_bo 7) (do_bo 12)))))) (fun _ _ _ _ _ => (de_v 13)))) (do_ex (de_lst da_nil)))))))) (fun _ _ _ _ _ => (de_v 12)))) (db_frz [9] (db_cons (ds_set (i := 7) sc__law_space_right.nd rfl (Or.inr rfl) (de_fz (de_meth PySem.F.plainAttrs_str PySem.F.slot_str_join PySem.F.type_str_join p_join (do_ex de_str) (dp_cons (do_ex (de_lc (own := [(".0", 11), ("k", 12)]) rfl sc__law_space_right.nd (di_rng1 g.n_range (de_callB b_len g.n_len (dp_cons (do_bo 0) dp_nil) (hv := bt_len))) (blkOk_by (by kernel_rfl)) (fun _ _ _ _ _ => (pg_name sc__law_space_right.nd rfl (Or.inl rfl))) (fun _ _ _ _ _ => dt_nil) (fun _ _ _ _ _ => (de_if (be_cmp (o_in (hu hr)) (do_bo 12) (do_bo 9)) de_str (de_ix (o_ix (hu hr)) (do_bo 7) (do_bo 12)))))) dp_nil)))) (db_kill [8, 9] db_nil))))) (db_cons (ds_if (be_cmp (o_ne (hu hr)) (do_bo 7) (do_bo 4)) (db_cons (ds_ret (de_fz de_bool)) db_nil) db_nil) (db_cons (ds_if (be_cmp (o_notIn (hu hr)) (do_bo 2) (do_bo 1)) (db_cons (ds_ret (de_fz de_bool)) db_nil) db_nil) (db_cons (ds_set (i := 10) sc__law_space_right.nd rfl (Or.inl rfl) (de_fz (de_call tk (ok__law_states_in g) (hr.mono (by decide)) g.d__law_states_in.g g.d__law_states_in.F.kp g.b__law_states_in (dr_v (de_v 2) dr_nil)))) (db_cons (ds_for (t := .nm 8) pb rfl (di_rng1 g.n_range (de_callB b_len g.n_len (dp_cons (do_bo 0) dp_nil) (hv := bt_len))) (pg_name sc__law_space_right.nd rfl (Or.inl rfl)) (db_cons (ds_setLc (i := 10) (own := [(".0", 11), ("state", 13)]) rfl sc__law_space_right.nd rfl rfl rfl (di_or (di_v (de_v 10)) (di_keys (de_v 10))) (blkOk_by (by kernel_rfl)) (fun _ _ _ _ _ => (pg_name sc__law_space_right.nd rfl (Or.inl rfl))) (fun _ _ _ _ _ => dt_nil) (fun _ _ _ _ _ => (de_call takes0 (ok__law_image g) (hr.mono (by decide)) g.d__law_image.g g.d__law_image.F.kp g.b__law_image (dr_v (de_v 0) (dr_v (de_v 13) dr_nil))))) (db_frz [10] (db_kill [8] db_nil)))) (db_cons (ds_ret (de_fz (be_bw (bw_and (be_cmp (o_in (hu hr)) (do_bo 5) (do_bo 1)) (bw_one (be_cmp (o_eq (hu hr)) (do_ex (de_lc (own := [(".0", 11), ("state", 13)]) rfl sc__law_space_right.nd (di_or (di_v (de_v 10)) (di_keys (de_v 10))) (blkOk_by (by kernel_rfl)) (fun _ _ _ _ _ => (pg_name sc__law_space_right.nd rfl (Or.inl rfl))) (fun _ _ _ _ _ => (dt_one (be_not (be_val (de_call takes0 (ok__law_in g) (hr.mono (by decide)) g.d__law_in.g g.d__law_in.F.kp g.b__law_in (dr_v (de_v 13) (dr_v (de_v 5) dr_nil))))))) (fun _ _ _ _ _ => (de_v 13)))) (do_ex (de_lst da_nil)))))).v)) db_nil))))))))))
theorem sc__law_spaces : FnScope ["count", "found", "turn", "longer", "space", ".0", "sign"] ["count"] (defScope (top 49)) := ⟨rfl, rfl, rfl, by decide +kernel, rfl, by decide +kernel, by decide +kernel⟩
theorem ok__law_spaces (g : G K mg) : FnOk P w K mg base (L2.CX P w) 1 g.d__law_spaces.a g.d__law_spaces.d ["count"] (spM K mg [false] m__law_spaces) :=
  fn_ok (k := 0) (N := ["count", "found", "turn", "longer", "space", ".0", "sign"]) (ms := [false]) (m := b__law_spaces) g.d__law_spaces.F sc__law_spaces rfl fun cdv A outer s H E hr tk pb => (db_cons (ds_set (i := 1) sc__law_spaces.nd rfl (Or.inl rfl) (de_fz (de_lst (da_cons de_str da_nil)))) (db_cons (ds_for (t := .nm 2) pb rfl (di_rng1 g.n_range (de_v 0)) (pg_name sc__law_spaces.nd rfl (Or.inl rfl)) (db_cons (ds_set (i := 3) sc__law_spaces.nd rfl (Or.inl rfl) (de_lst da_nil)) (db_cons (ds_for (t := .nm 4) pb rfl (di_or (di_v (de_v 1)) (di_keys (de_v 1))) (pg_name sc__law_spaces.nd rfl (Or.inr rfl)) (db_cons (ds_expr (de_ext (pv 3) (de_lc (own := [(".0", 5), ("sign", 6)]) rfl sc__law_spaces.nd (di_or (di_v (de_lst (da_cons de_str (da_cons de_str (da_cons de_str da_nil))))) (di_keys (de_lst (da_cons de_str (da_cons de_str (da_cons de_str da_nil)))))) (blkOk_by (by kernel_rfl)) (fun _ _ _ _ _ => (pg_name sc__law_spaces.nd rfl (Or.inl rfl))) (fun _ _ _ _ _ => dt_nil) (fun _ _ _ _ _ => (de_bin o_add (do_bo 4) (do_bo 6)))))) (db_kill [4] db_nil))) (db_cons (ds_set (i := 1) sc__law_spaces.nd rfl (Or.inl rfl) (de_fz (de_m 3))) (db_kill [2, 3, 4] db_nil))))) (db_cons (ds_ret (de_fz (de_v 1))) db_nil)))
theorem sc_law : FnScope ["script", "k", "box", "by_name", "great", "net", "space", "traps", "spaces", "state", "due", "bad", "odd", "one", "told", ".0", "turn", "word"] ["script"] (defScope (top 58)) := ⟨rfl, rfl, rfl, by decide +kernel, rfl, by decide +kernel, by decide +kernel⟩
theorem ok_law (g : G K mg) : FnOk P w K mg base (L2.CX P w) 12 g.d_law.a g.d_law.d ["script"] (spM K mg [false] m_law) :=
  fn_ok (k := 11) (N := ["script", "k", "box", "by_name", "great", "net", "space", "traps", "spaces", "state", "due", "bad", "odd", "one", "told", ".0", "turn", "word"]) (ms := [false]) (m := b_law) g.d_law.F sc_law rfl fun cdv A outer s H E hr tk pb => (db_cons (ds_for (t := .nm 1) pb rfl (di_rng1 g.n_range (de_callB (b_max rfl (hu hr)) g.n_max (dp_cons (do_ex de_int) (dp_cons (do_ex (de_callB (b_min rfl (hu hr)) g.n_min (dp_cons (do_ex de_int) (dp_cons (do_ex (de_callB b_len g.n_len (dp_cons (do_bo 0) dp_nil) (hv := bt_len))) dp_nil)) (hv := bt_min))) dp_nil)) (hv := bt_max))) (pg_name sc_law.nd rfl (Or.inl rfl)) (db_cons (ds_set (i := 2) sc_law.nd rfl (Or.inr rfl) (de_call tk (ok__law_box g) (hr.mono (by decide)) g.d__law_box.g g.d__law_box.F.kp g.b__law_box (dr_v (de_call tk (ok__law_cell g) (hr.mono (by decide)) g.d__law_cell.g g.d__law_cell.F.kp g.b__law_cell (dr_v (de_v 0) (dr_v (de_v 1) dr_nil))) dr_nil))) (db_cons (ds_parU (is := [3, 4]) rfl (pg_tup rfl (pgs_cons (pg_name sc_law.nd rfl (Or.inr rfl)) (pgs_cons (pg_name sc_law.nd rfl (Or.inl rfl)) pgs_nil))) (da_cons (de_fz (be_cmp (o_eq (hu hr)) (do_ex (de_call tk (ok__law_take g) (hr.mono (by decide)) g.d__law_take.g g.d__law_take.F.kp g.b__law_take (dr_b (pv 2) (dr_v de_int dr_nil)))) (do_ex de_int)).v) (da_cons (de_fz (be_bw (bw_and (be_cmp (o_eq (hu hr)) (do_ex (de_call tk (ok__law_take g) (hr.mono (by decide)) g.d__law_take.g g.d__law_take.F.kp g.b__law_take (dr_b (pv 2) (dr_v de_int dr_nil)))) (do_ex de_int)) (bw_one (be_cmp (o_eq (hu hr)) (do_bo 1) (do_ex de_int))))).v) da_nil))) (db_cons (ds_set (i := 5) sc_law.nd rfl (Or.inr rfl) (de_fz (de_if (be_val (de_v 4)) (de_call tk (ok__law_net g) (hr.mono (by decide)) g.d__law_net.g g.d__law_net.F.kp g.b__law_net (dr_b (pv 2) (dr_v de_int dr_nil))) (de_call tk (ok__law_drawn_net g) (hr.mono (by decide)) g.d__law_drawn_net.g g.d__law_drawn_net.F.kp g.b__law_drawn_net (dr_b (pv 2) (dr_v de_int dr_nil)))))) (db_cons (ds_setLc (i := 7) (own := [(".0", 15), ("space", 6)]) rfl sc_law.nd rfl rfl rfl (di_or (di_v (de_call tk (ok__law_spaces g) (hr.mono (by decide)) g.d__law_spaces.g g.d__law_spaces.F.kp g.b__law_spaces (dr_v (de_callB b_len g.n_len (dp_cons (do_bo 5) dp_nil) (hv := bt_len)) dr_nil))) (di_keys (de_call tk (ok__law_spaces g) (hr.mono (by decide)) g.d__law_spaces.g g.d__law_spaces.F.kp g.b__law_spaces (dr_v (de_callB b_len g.n_len (dp_cons (do_bo 5) dp_nil) (hv := bt_len)) dr_nil)))) (blkOk_by (by kernel_rfl)) (fun _ _ _ _ _ => (pg_name sc_law.nd rfl (Or.inl rfl))) (fun _ _ _ _ _ => (dt_one (be_cmp o_is (do_ex (de_call takes0 (ok__law_leaving g) (hr.mono (by decide)) g.d__law_leaving.g g.d__law_leaving.F.kp g.b__law_leaving (dr_v (de_v 5) (dr_v (de_v 6) dr_nil)))) (do_ex de_none)))) (fun _ _ _ _ _ => (de_v 6))) (db_frz [7] (db_cons (ds_set (i := 8) sc_law.nd rfl (Or.inl rfl) (de_fz (de_bin o_add (do_ex (de_lc (own := [(".0", 15), ("turn", 16)]) rfl sc_law.nd (di_rng1 g.n_range de_int) (blkOk_by (by kernel_rfl)) (fun _ _ _ _ _ => (pg_name sc_law.nd rfl (Or.inl rfl))) (fun _ _ _ _ _ => dt_nil) (fun _ _ _ _ _ => (de_call takes0 (ok__law_space g) (hr.mono (by decide)) g.d__law_space.g g.d__law_space.F.kp g.b__law_space (dr_b (pv 2) (dr_v (de_callB b_len g.n_len (dp_cons (do_bo 5) dp_nil) (hv := bt_len)) dr_nil)))))) (do_ex (de_lst (da_cons (de_call tk (ok__law_pick g) (hr.mono (by decide)) g.d__law_pick.g g.d__law_pick.F.kp g.b__law_pick (dr_b (pv 2) (dr_v (de_v 7) dr_nil))) (da_cons (de_call tk (ok__law_pick g) (hr.mono (by decide)) g.d__law_pick.g g.d__law_pick.F.kp g.b__law_pick (dr_b (pv 2) (dr_v (de_v 7) dr_nil))) (da_cons (de_bin o_mul (do_ex de_str) (do_ex (de_callB b_len g.n_len (dp_cons (do_bo 5) dp_nil) (hv := bt_len)))) da_nil)))))))) (db_cons (ds_for (t := .nm 6) pb rfl (di_or (di_v (de_v 8)) (di_keys (de_v 8))) (pg_name sc_law.nd rfl (Or.inl rfl)) (db_cons (ds_if (be_not (be_val (de_call tk (ok__law_space_right g) (hr.mono (by decide)) g.d__law_space_right.g g.d__law_space_right.F.kp g.b__law_space_right (dr_v (de_v 5) (dr_v (de_v 7) (dr_v (de_v 6) (dr_v (de_v 3) dr_nil))))))) (db_cons (ds_ret (de_fz de_bool)) db_nil) db_nil) (db_cons (ds_set (i := 3) sc_law.nd rfl (Or.inr rfl) (de_fz (be_not (be_val (de_v 3))).v)) (db_kill [6] db_nil)))) (db_cons (ds_set (i := 9) sc_law.nd rfl (Or.inl rfl) (de_fz (de_call tk (ok__law_pick g) (hr.mono (by decide)) g.d__law_pick.g g.d__law_pick.F.kp g.b__law_pick (dr_b (pv 2) (dr_v (de_call tk (ok__law_words g) (hr.mono (by decide)) g.d__law_words.g g.d__law_words.F.kp g.b__law_words (dr_v (de_callB b_len g.n_len (dp_cons (do_bo 5) dp_nil) (hv := bt_len)) dr_nil)) dr_nil))))) (db_cons (ds_set (i := 10) sc_law.nd rfl (Or.inl rfl) (de_fz (de_call tk (ok__law_around g) (hr.mono (by decide)) g.d__law_around.g g.d__law_around.F.kp g.b__law_around (dr_v (de_v 5) (dr_v (de_v 7) (dr_v (de_v 9) dr_nil)))))) (db_cons (ds_if (be_not (be_val (de_call tk (ok__law_same g 9) (hr.mono (by decide)) g.d__law_same.g g.d__law_same.F.kp g.b__law_same (dr_v (de_lst (da_cons (de_call tk (ok__law_asked g) (hr.mono (by decide)) g.d__law_asked.g g.d__law_asked.F.kp g.b__law_asked (dr_v de_str (dr_v (de_v 5) (dr_v (de_v 9) (dr_v (de_v 3) dr_nil))))) (da_cons (de_call tk (ok__law_asked g) (hr.mono (by decide)) g.d__law_asked.g g.d__law_asked.F.kp g.b__law_asked (dr_v de_str (dr_v (de_v 5) (dr_v (de_v 9) (dr_v (be_not (be_val (de_v 3))).v dr_nil))))) da_nil))) (dr_v (de_bin o_mul (do_ex (de_lst (da_cons (de_lst (da_cons de_str (da_cons (de_v 10) da_nil))) da_nil))) (do_ex de_int)) dr_nil))))) (db_cons (ds_ret (de_fz de_bool)) db_nil) db_nil) (db_cons (ds_parU (is := [11, 12]) rfl (pg_tup rfl (pgs_cons (pg_name sc_law.nd rfl (Or.inr rfl)) (pgs_cons (pg_name sc_law.nd rfl (Or.inr rfl)) pgs_nil))) (da_cons (de_fz (de_call tk (ok__law_no_net g) (hr.mono (by decide)) g.d__law_no_net.g g.d__law_no_net.F.kp g.b__law_no_net (dr_b (pv 2) dr_nil))) (da_cons (de_fz (de_call tk (ok__law_pick g) (hr.mono (by decide)) g.d__law_pick.g g.d__law_pick.F.kp g.b__law_pick (dr_b (pv 2) (dr_v (de_lst (da_cons de_none (da_cons de_int (da_cons de_str (da_cons (de_bin o_mul (do_ex de_str) (do_ex (de_callB b_len g.n_len (dp_cons (do_bo 5) dp_nil) (hv := bt_len)))) (da_cons (de_bin o_mul (do_ex de_str) (do_ex (de_bin o_add (do_ex (de_callB b_len g.n_len (dp_cons (do_bo 5) dp_nil) (hv := bt_len))) (do_ex de_int)))) (da_cons (de_lst (da_cons de_str da_nil)) (da_cons (de_tup (da_cons de_str da_nil)) (da_cons (de_disp (dps_cons de_str de_int dps_nil)) (da_cons de_int da_nil)))))))))) dr_nil)))) da_nil))) (db_cons (ds_set (i := 13) sc_law.nd rfl (Or.inl rfl) (de_fz (de_call tk (ok__law_pick g) (hr.mono (by decide)) g.d__law_pick.g g.d__law_pick.F.kp g.b__law_pick (dr_b (pv 2) (dr_v (de_lst (da_cons de_none (da_cons de_int (da_cons de_str (da_cons (de_bin o_mul (do_ex de_str) (do_ex (de_callB b_len g.n_len (dp_cons (do_bo 5) dp_nil) (hv := bt_len)))) (da_cons (de_bin o_mul (do_ex de_str) (do_ex (de_bin o_add (do_ex (de_callB b_len g.n_len (dp_cons (do_bo 5) dp_nil) (hv := bt_len))) (do_ex de_int)))) (da_cons (de_lst (da_cons de_str da_nil)) (da_cons (de_disp (dps_cons de_str de_int dps_nil)) da_nil)))))))) dr_nil))))) (db_cons (ds_setLc (i := 14) (own := [(".0", 15), ("word", 17)]) rfl sc_law.nd rfl rfl rfl (di_or (di_v (de_lst (da_cons de_str (da_cons de_str (da_cons de_str da_nil))))) (di_keys (de_lst (da_cons de_str (da_cons de_str (da_cons de_str da_nil)))))) (blkOk_by (by kernel_rfl)) (fun _ _ _ _ _ => (pg_name sc_law.nd rfl (Or.inl rfl))) (fun _ _ _ _ _ => dt_nil) (fun _ _ _ _ _ => (de_call takes0 (ok__law_asked g) (hr.mono (by decide)) g.d__law_asked.g g.d__law_asked.F.kp g.b__law_asked (dr_v (de_v 17) (dr_v (de_v 11) (dr_v (de_v 12) (dr_v (de_v 3) dr_nil))))))) (db_frz [14] (db_cons (ds_set (i := 14) sc_law.nd rfl (Or.inl rfl) (de_fz (de_bin o_add (do_bo 14) (do_ex (de_lst (da_cons (de_call tk (ok__law_asked g) (hr.mono (by decide)) g.d__law_asked.g g.d__law_asked.F.kp g.b__law_asked (dr_v de_str (dr_v (de_v 5) (dr_v (de_v 12) (dr_v (de_v 3) dr_nil))))) (da_cons (de_call tk (ok__law_asked g) (hr.mono (by decide)) g.d__law_asked.g g.d__law_asked.F.kp g.b__law_asked (dr_v de_str (dr_v (de_v 5) (dr_v (de_v 12) (dr_v (be_not (be_val (de_v 3))).v dr_nil))))) (da_cons (de_call tk (ok__law_asked g) (hr.mono (by decide)) g.d__law_asked.g g.d__law_asked.F.kp g.b__law_asked (dr_v de_str (dr_v (de_v 5) (dr_v (de_v 13) (dr_v (de_v 3) dr_nil))))) da_nil)))))))) (db_cons (ds_if (be_not (be_val (de_call tk (ok__law_same g 9) (hr.mono (by decide)) g.d__law_same.g g.d__law_same.F.kp g.b__law_same (dr_v (de_v 14) (dr_v (de_bin o_add (do_ex (de_bin o_mul (do_ex (de_lst (da_cons (de_lst (da_cons de_str (da_cons (de_v 11) da_nil))) da_nil))) (do_ex de_int))) (do_ex (de_lst (da_cons (de_lst (da_cons de_str (da_cons (de_v 12) da_nil))) (da_cons (de_lst (da_cons de_str (da_cons (de_v 12) da_nil))) (da_cons (de_lst (da_cons de_str (da_cons (de_v 13) da_nil))) da_nil)))))) dr_nil))))) (db_cons (ds_ret (de_fz de_bool)) db_nil) db_nil) (db_kill [1, 2, 3, 4, 5, 6, 7, 8, 9, 10, 11, 12, 13, 14] db_nil)))))))))))))))))) (db_cons (ds_ret (de_fz de_bool)) db_nil))
end
/-! ### the head -/
def fn : List He.DefD := [(⟨("_law_within", none), "_law_within", "_law_within", defArgs (top 54), defBody (top 54), defScope (top 54), [], []⟩ : He.DefD),
  (⟨("_law_around", none), "_law_around", "_law_around", defArgs (top 55), defBody (top 55), defScope (top 55), [], []⟩ : He.DefD),
  (⟨("is_signs", none), "is_signs", "is_signs", defArgs (top 12), defBody (top 12), defScope (top 12), [], []⟩ : He.DefD),
  (⟨("is_integer", none), "is_integer", "is_integer", defArgs (top 8), defBody (top 8), defScope (top 8), [], []⟩ : He.DefD),
  (⟨("is_between", none), "is_between", "is_between", defArgs (top 9), defBody (top 9), defScope (top 9), [], []⟩ : He.DefD),
  (⟨("are_between", none), "are_between", "are_between", defArgs (top 10), defBody (top 10), defScope (top 10), [], []⟩ : He.DefD),
  (⟨("is_rising", none), "is_rising", "is_rising", defArgs (top 11), defBody (top 11), defScope (top 11), [], []⟩ : He.DefD),
  (⟨("is_switches_value", none), "is_switches_value", "is_switches_value", defArgs (top 13), defBody (top 13), defScope (top 13), [], []⟩ : He.DefD),
  (⟨("is_rule_value", none), "is_rule_value", "is_rule_value", defArgs (top 14), defBody (top 14), defScope (top 14), [], []⟩ : He.DefD),
  (⟨("is_net_value", none), "is_net_value", "is_net_value", defArgs (top 15), defBody (top 15), defScope (top 15), [], []⟩ : He.DefD),
  (⟨("check_net", none), "check_net", "check_net", defArgs (top 16), defBody (top 16), defScope (top 16), [], []⟩ : He.DefD),
  (⟨("check_space", none), "check_space", "check_space", defArgs (top 18), defBody (top 18), defScope (top 18), [], []⟩ : He.DefD),
  (⟨("given", none), "given", "given", defArgs (top 21), defBody (top 21), defScope (top 21), [], []⟩ : He.DefD),
  (⟨("states_in", none), "states_in", "states_in", defArgs (top 19), defBody (top 19), defScope (top 19), [], []⟩ : He.DefD),
  (⟨("gives_all", none), "gives_all", "gives_all", defArgs (top 23), defBody (top 23), defScope (top 23), [], []⟩ : He.DefD),
  (⟨("forced_in", none), "forced_in", "forced_in", defArgs (top 24), defBody (top 24), defScope (top 24), [], []⟩ : He.DefD),
  (⟨("with_sign", none), "with_sign", "with_sign", defArgs (top 28), defBody (top 28), defScope (top 28), [], []⟩ : He.DefD),
  (⟨("percolated_in", none), "percolated_in", "percolated_in", defArgs (top 31), defBody (top 31), defScope (top 31), [], []⟩ : He.DefD),
  (⟨("percolated", none), "percolated", "percolated", defArgs (top 32), defBody (top 32), defScope (top 32), [], []⟩ : He.DefD),
  (⟨("fixed_in", none), "fixed_in", "fixed_in", defArgs (top 26), defBody (top 26), defScope (top 26), [], []⟩ : He.DefD),
  (⟨("is_trap_in", none), "is_trap_in", "is_trap_in", defArgs (top 27), defBody (top 27), defScope (top 27), [], []⟩ : He.DefD),
  (⟨("around", none), "around", "around", defArgs (top 29), defBody (top 29), defScope (top 29), [], []⟩ : He.DefD),
  (⟨("trap_around", none), "trap_around", "trap_around", defArgs (top 30), defBody (top 30), defScope (top 30), [], []⟩ : He.DefD),
  (⟨("check_state", none), "check_state", "check_state", defArgs (top 17), defBody (top 17), defScope (top 17), [], []⟩ : He.DefD),
  (⟨("trap_of", none), "trap_of", "trap_of", defArgs (top 33), defBody (top 33), defScope (top 33), [], []⟩ : He.DefD),
  (⟨("_law_asked", none), "_law_asked", "_law_asked", defArgs (top 53), defBody (top 53), defScope (top 53), [], []⟩ : He.DefD),
  (⟨("_law_box", none), "_law_box", "_law_box", defArgs (top 36), defBody (top 36), defScope (top 36), [], []⟩ : He.DefD),
  (⟨("_law_cell", none), "_law_cell", "_law_cell", defArgs (top 35), defBody (top 35), defScope (top 35), [], []⟩ : He.DefD),
  (⟨("_law_take", none), "_law_take", "_law_take", defArgs (top 37), defBody (top 37), defScope (top 37), [], []⟩ : He.DefD),
  (⟨("_law_mixed", none), "_law_mixed", "_law_mixed", defArgs (top 40), defBody (top 40), defScope (top 40), [], []⟩ : He.DefD),
  (⟨("_law_words", none), "_law_words", "_law_words", defArgs (top 41), defBody (top 41), defScope (top 41), [], []⟩ : He.DefD),
  (⟨("_law_table", none), "_law_table", "_law_table", defArgs (top 44), defBody (top 44), defScope (top 44), [], []⟩ : He.DefD),
  (⟨("_law_net", none), "_law_net", "_law_net", defArgs (top 45), defBody (top 45), defScope (top 45), [], []⟩ : He.DefD),
  (⟨("_law_pick", none), "_law_pick", "_law_pick", defArgs (top 39), defBody (top 39), defScope (top 39), [], []⟩ : He.DefD),
  (⟨("_law_drawn_net", none), "_law_drawn_net", "_law_drawn_net", defArgs (top 52), defBody (top 52), defScope (top 52), [], []⟩ : He.DefD),
  (⟨("_law_given", none), "_law_given", "_law_given", defArgs (top 42), defBody (top 42), defScope (top 42), [], []⟩ : He.DefD),
  (⟨("_law_image", none), "_law_image", "_law_image", defArgs (top 43), defBody (top 43), defScope (top 43), [], []⟩ : He.DefD),
  (⟨("_law_in", none), "_law_in", "_law_in", defArgs (top 47), defBody (top 47), defScope (top 47), [], []⟩ : He.DefD),
  (⟨("_law_states_in", none), "_law_states_in", "_law_states_in", defArgs (top 48), defBody (top 48), defScope (top 48), [], []⟩ : He.DefD),
  (⟨("_law_leaving", none), "_law_leaving", "_law_leaving", defArgs (top 51), defBody (top 51), defScope (top 51), [], []⟩ : He.DefD),
  (⟨("_law_no_net", none), "_law_no_net", "_law_no_net", defArgs (top 46), defBody (top 46), defScope (top 46), [], []⟩ : He.DefD),
  (⟨("_law_same", none), "_law_same", "_law_same", defArgs (top 38), defBody (top 38), defScope (top 38), [], []⟩ : He.DefD),
  (⟨("_law_space", none), "_law_space", "_law_space", defArgs (top 50), defBody (top 50), defScope (top 50), [], []⟩ : He.DefD),
  (⟨("_law_percolated", none), "_law_percolated", "_law_percolated", defArgs (top 56), defBody (top 56), defScope (top 56), [], []⟩ : He.DefD),
  (⟨("_law_space_right", none), "_law_space_right", "_law_space_right", defArgs (top 57), defBody (top 57), defScope (top 57), [], []⟩ : He.DefD),
  (⟨("_law_spaces", none), "_law_spaces", "_law_spaces", defArgs (top 49), defBody (top 49), defScope (top 49), [], []⟩ : He.DefD),
  (⟨("law", none), "law", "law", defArgs (top 58), defBody (top 58), defScope (top 58), [], []⟩ : He.DefD),
  (⟨("InvalidNetwork", some "__init__"), "__init__", "InvalidNetwork.__init__", defArgs (inClass (top 2) 0), defBody (inClass (top 2) 0), defScope (inClass (top 2) 0), [], []⟩ : He.DefD),
  (⟨("InvalidSpace", some "__init__"), "__init__", "InvalidSpace.__init__", defArgs (inClass (top 3) 0), defBody (inClass (top 3) 0), defScope (inClass (top 3) 0), [], []⟩ : He.DefD),
  (⟨("InvalidState", some "__init__"), "__init__", "InvalidState.__init__", defArgs (inClass (top 4) 0), defBody (inClass (top 4) 0), defScope (inClass (top 4) 0), [], []⟩ : He.DefD)]
def fa : List He.Fa := [(He.Fa.glo "_law_within"), (He.Fa.glo "_law_around"), (He.Fa.glo "is_signs"), (He.Fa.glo "is_integer"), (He.Fa.glo "is_between"), (He.Fa.glo "are_between"), (He.Fa.glo "is_rising"), (He.Fa.glo "is_switches_value"), (He.Fa.glo "is_rule_value"), (He.Fa.glo "is_net_value"), (He.Fa.glo "check_net"), (He.Fa.glo "check_space"), (He.Fa.glo "given"), (He.Fa.glo "states_in"), (He.Fa.glo "gives_all"), (He.Fa.glo "forced_in"), (He.Fa.glo "with_sign"), (He.Fa.glo "percolated_in"), (He.Fa.glo "percolated"), (He.Fa.glo "fixed_in"), (He.Fa.glo "is_trap_in"), (He.Fa.glo "around"), (He.Fa.glo "trap_around"), (He.Fa.glo "check_state"), (He.Fa.glo "trap_of"), (He.Fa.glo "_law_asked"), (He.Fa.glo "_law_box"), (He.Fa.glo "_law_cell"), (He.Fa.glo "_law_take"), (He.Fa.glo "_law_mixed"), (He.Fa.glo "_law_words"), (He.Fa.glo "_law_table"), (He.Fa.glo "_law_net"), (He.Fa.glo "_law_pick"), (He.Fa.glo "_law_drawn_net"), (He.Fa.glo "_law_given"), (He.Fa.glo "_law_image"), (He.Fa.glo "_law_in"), (He.Fa.glo "_law_states_in"), (He.Fa.glo "_law_leaving"), (He.Fa.glo "_law_no_net"), (He.Fa.glo "_law_same"), (He.Fa.glo "_law_space"), (He.Fa.glo "_law_percolated"), (He.Fa.glo "_law_space_right"), (He.Fa.glo "_law_spaces"), (He.Fa.glo "law"), (He.Fa.int "MOST_INPUTS" 4), (He.Fa.int "MOST_SWITCHES" 8), (He.Fa.free "abs"), (He.Fa.free "all"), (He.Fa.free "bool"), (He.Fa.free "dict"), (He.Fa.free "enumerate"), (He.Fa.free "int"), (He.Fa.free "isinstance"), (He.Fa.free "len"), (He.Fa.free "list"), (He.Fa.free "max"), (He.Fa.free "min"), (He.Fa.free "range"), (He.Fa.free "set"), (He.Fa.free "sorted"), (He.Fa.free "str"), (He.Fa.free "sum"), (He.Fa.free "tuple")]
def es : List (Str × List Str) := [("InvalidNetwork", ["given"]), ("InvalidSpace", ["given"]), ("InvalidState", ["given"])]
theorem g_of {K : PySem.W.Frag} {h : Heap} {mg : Str → Option Value} (X : K.In h) (Y : h.Ns mainGlobals mg) (c : SaysR fa fn es K) : Nonempty (G K mg) := by
  obtain ⟨d__law_within⟩ := df_of X Y c 0 0 rfl rfl
  obtain ⟨d__law_around⟩ := df_of X Y c 1 1 rfl rfl
  obtain ⟨d_is_signs⟩ := df_of X Y c 2 2 rfl rfl
  obtain ⟨d_is_integer⟩ := df_of X Y c 3 3 rfl rfl
  obtain ⟨d_is_between⟩ := df_of X Y c 4 4 rfl rfl
  obtain ⟨d_are_between⟩ := df_of X Y c 5 5 rfl rfl
  obtain ⟨d_is_rising⟩ := df_of X Y c 6 6 rfl rfl
  obtain ⟨d_is_switches_value⟩ := df_of X Y c 7 7 rfl rfl
  obtain ⟨d_is_rule_value⟩ := df_of X Y c 8 8 rfl rfl
  obtain ⟨d_is_net_value⟩ := df_of X Y c 9 9 rfl rfl
  obtain ⟨d_check_net⟩ := df_of X Y c 10 10 rfl rfl
  obtain ⟨d_check_space⟩ := df_of X Y c 11 11 rfl rfl
  obtain ⟨d_given⟩ := df_of X Y c 12 12 rfl rfl
  obtain ⟨d_states_in⟩ := df_of X Y c 13 13 rfl rfl
  obtain ⟨d_gives_all⟩ := df_of X Y c 14 14 rfl rfl
  obtain ⟨d_forced_in⟩ := df_of X Y c 15 15 rfl rfl
  obtain ⟨d_with_sign⟩ := df_of X Y c 16 16 rfl rfl
  obtain ⟨d_percolated_in⟩ := df_of X Y c 17 17 rfl rfl
  obtain ⟨d_percolated⟩ := df_of X Y c 18 18 rfl rfl
  obtain ⟨d_fixed_in⟩ := df_of X Y c 19 19 rfl rfl
  obtain ⟨d_is_trap_in⟩ := df_of X Y c 20 20 rfl rfl
  obtain ⟨d_around⟩ := df_of X Y c 21 21 rfl rfl
  obtain ⟨d_trap_around⟩ := df_of X Y c 22 22 rfl rfl
  obtain ⟨d_check_state⟩ := df_of X Y c 23 23 rfl rfl
  obtain ⟨d_trap_of⟩ := df_of X Y c 24 24 rfl rfl
  obtain ⟨d__law_asked⟩ := df_of X Y c 25 25 rfl rfl
  obtain ⟨d__law_box⟩ := df_of X Y c 26 26 rfl rfl
  obtain ⟨d__law_cell⟩ := df_of X Y c 27 27 rfl rfl
  obtain ⟨d__law_take⟩ := df_of X Y c 28 28 rfl rfl
  obtain ⟨d__law_mixed⟩ := df_of X Y c 29 29 rfl rfl
  obtain ⟨d__law_words⟩ := df_of X Y c 30 30 rfl rfl
  obtain ⟨d__law_table⟩ := df_of X Y c 31 31 rfl rfl
  obtain ⟨d__law_net⟩ := df_of X Y c 32 32 rfl rfl
  obtain ⟨d__law_pick⟩ := df_of X Y c 33 33 rfl rfl
  obtain ⟨d__law_drawn_net⟩ := df_of X Y c 34 34 rfl rfl
  obtain ⟨d__law_given⟩ := df_of X Y c 35 35 rfl rfl
  obtain ⟨d__law_image⟩ := df_of X Y c 36 36 rfl rfl
  obtain ⟨d__law_in⟩ := df_of X Y c 37 37 rfl rfl
  obtain ⟨d__law_states_in⟩ := df_of X Y c 38 38 rfl rfl
  obtain ⟨d__law_leaving⟩ := df_of X Y c 39 39 rfl rfl
  obtain ⟨d__law_no_net⟩ := df_of X Y c 40 40 rfl rfl
  obtain ⟨d__law_same⟩ := df_of X Y c 41 41 rfl rfl
  obtain ⟨d__law_space⟩ := df_of X Y c 42 42 rfl rfl
  obtain ⟨d__law_percolated⟩ := df_of X Y c 43 43 rfl rfl
  obtain ⟨d__law_space_right⟩ := df_of X Y c 44 44 rfl rfl
  obtain ⟨d__law_spaces⟩ := df_of X Y c 45 45 rfl rfl
  obtain ⟨d_law⟩ := df_of X Y c 46 46 rfl rfl
  obtain ⟨e_InvalidNetwork⟩ := dm_of X Y c 47 0 rfl rfl
  obtain ⟨e_InvalidSpace⟩ := dm_of X Y c 48 1 rfl rfl
  obtain ⟨e_InvalidState⟩ := dm_of X Y c 49 2 rfl rfl
  exact ⟨⟨He.int_ok X Y (c.fact 47 rfl),
    He.int_ok X Y (c.fact 48 rfl),
    He.free_ok X Y (c.fact 49 rfl),
    He.free_ok X Y (c.fact 50 rfl),
    He.free_ok X Y (c.fact 51 rfl),
    He.free_ok X Y (c.fact 52 rfl),
    He.free_ok X Y (c.fact 53 rfl),
    He.free_ok X Y (c.fact 54 rfl),
    He.free_ok X Y (c.fact 55 rfl),
    He.free_ok X Y (c.fact 56 rfl),
    He.free_ok X Y (c.fact 57 rfl),
    He.free_ok X Y (c.fact 58 rfl),
    He.free_ok X Y (c.fact 59 rfl),
    He.free_ok X Y (c.fact 60 rfl),
    He.free_ok X Y (c.fact 61 rfl),
    He.free_ok X Y (c.fact 62 rfl),
    He.free_ok X Y (c.fact 63 rfl),
    He.free_ok X Y (c.fact 64 rfl),
    He.free_ok X Y (c.fact 65 rfl),
    d__law_within,
    d__law_around,
    d_is_signs,
    d_is_integer,
    d_is_between,
    d_are_between,
    d_is_rising,
    d_is_switches_value,
    d_is_rule_value,
    d_is_net_value,
    d_check_net,
    d_check_space,
    d_given,
    d_states_in,
    d_gives_all,
    d_forced_in,
    d_with_sign,
    d_percolated_in,
    d_percolated,
    d_fixed_in,
    d_is_trap_in,
    d_around,
    d_trap_around,
    d_check_state,
    d_trap_of,
    d__law_asked,
    d__law_box,
    d__law_cell,
    d__law_take,
    d__law_mixed,
    d__law_words,
    d__law_table,
    d__law_net,
    d__law_pick,
    d__law_drawn_net,
    d__law_given,
    d__law_image,
    d__law_in,
    d__law_states_in,
    d__law_leaving,
    d__law_no_net,
    d__law_same,
    d__law_space,
    d__law_percolated,
    d__law_space_right,
    d__law_spaces,
    d_law,
    e_InvalidNetwork,
    e_InvalidSpace,
    e_InvalidState,
    tl_of X Y c rfl⟩⟩
def loose : List Str := [("SwitchError" : Str), ("InvalidNetwork" : Str), ("InvalidSpace" : Str), ("InvalidState" : Str), ("MOST_SWITCHES" : Str), ("MOST_INPUTS" : Str), ("is_integer" : Str), ("is_between" : Str), ("are_between" : Str), ("is_rising" : Str), ("is_signs" : Str), ("is_switches_value" : Str), ("is_rule_value" : Str), ("is_net_value" : Str), ("check_net" : Str), ("check_state" : Str), ("check_space" : Str), ("states_in" : Str), ("given" : Str), ("gives_all" : Str), ("forced_in" : Str), ("fixed_in" : Str), ("is_trap_in" : Str), ("with_sign" : Str), ("around" : Str), ("trap_around" : Str), ("percolated_in" : Str), ("percolated" : Str), ("trap_of" : Str), ("_law_cell" : Str), ("_law_box" : Str), ("_law_take" : Str), ("_law_same" : Str), ("_law_pick" : Str), ("_law_mixed" : Str), ("_law_words" : Str), ("_law_given" : Str), ("_law_image" : Str), ("_law_table" : Str), ("_law_net" : Str), ("_law_no_net" : Str), ("_law_in" : Str), ("_law_states_in" : Str), ("_law_spaces" : Str), ("_law_space" : Str), ("_law_leaving" : Str), ("_law_drawn_net" : Str), ("_law_asked" : Str), ("_law_within" : Str), ("_law_around" : Str), ("_law_percolated" : Str), ("_law_space_right" : Str)]
def ob (s : PySem.W.SharedT) : He.AlD := obsRG 5 fa fn es (HandSHeadRun.getT s)
abbrev rowR : PySem.W.OpenRow := PySem.W.OpenLaw.row PySem.Challenge.rw_switchbench_k17_around_and_percolated
abbrev hk : PySem.W.Hook := hookR 5 fa fn es
theorem ob_eq (s : PySem.W.SharedT) : ob s = hk.obs s.abs := obsRG_eq (HandSHeadRun.getT_eq s)
theorem run (w : World) : HandSHeadRun.RunEq rowR (PySem.W.view rowR.prog [58]) hk ob 2560 loose w := by
  intro os
  kernel_rfl
theorem facts {P : Program} {w : World} {K : PySem.W.Frag} {h : Heap} {mg : Str → Option Value} {f : Addr} (X : K.In h) (Y : h.Ns mainGlobals mg) (hfa : mg ("law" : Str) = some (.ref f)) (c : SaysR fa fn es K) :
    ∃ fd : FuncData, (∀ (s : Shared) (v : Value), BindsTo s fd ⟨[v], []⟩ [("script", v)]) ∧ ∀ base : Heap, K.In base → base.Ns mainGlobals mg → FnOk P w K mg base (L2.CX P w) 12 f fd ["script"] (spM K mg [false] m_law) := by
  obtain ⟨g⟩ := g_of X Y c
  have e := hfa.symm.trans g.d_law.g
  cases e
  have b := FunD.bindsA (ps := ["script"]) g.d_law.F fun _ _ _ _ _ _ us hl => match us, hl with | [_], _ => rfl
  exact ⟨_, fun s v => b s [v] rfl, fun base _ _ => ok_law g⟩
end K17

section
open PySem RL
local macro_rules | `(tactic| walk_at "q") => `(tactic| simp -implicitDefEqProofs only [R.bind_ok, R.bind_okr, R.bind_okr', R.nx_ok, qD_some, qL_fl, qB_some, qX_some, qBo_bool, qI_int, qT_tup, qT2_tup, qT3_tup, qT4_tup, qG_true, VR_v, VR_fl, VR_fd, qLp_go, qLp_br, qLp_rt, qTry_ok, qTry_ex, iter_list, iter_tuple, bit0, bit1, bit01, bitE, add_int, sub_int, lt_int, gt_int, RL.le_int, ge_int, RL.eq_int, ne_int, eq_bool, ne_bool, int_int, int_bool, len_list, len_tuple, len_bits, tup_list, tup_tuple, ixl0, ixl1, ixl2, ixl3, ixt0, ixt1, ixt2, put_0, put_3, Bool.not_true, Bool.not_false, if_true, if_false, reduceIte, Bool.false_eq_true, decide_true, decide_false, List.any_cons, List.any_nil, isT_none, isT_bool, isT_int, isT_str, isT_list, isT_tuple, isT_dict, isT_rule, isT_net, len_rule, net_len, rule_un, rule_0, rule_1, iter_net, natL_length, strL_length, List.length_map, List.length_range, Bool.or_false, Bool.false_or, Bool.or_true, Bool.true_or, Bool.and_true, Bool.true_and, Bool.and_false, Bool.false_and, beq_true, beq_false, beq_self_eq_true, reduceCtorEq, String.reduceBEq, String.reduceEq, Bool.not_eq_true', Bool.not_eq_false', eq_self, List.nil_append, List.cons_append, List.append_nil, Option.toList, gIs, gIsNot, gIsV, RL.isNone, Option.map_some, Option.map_none, Int.reduceEq, Int.reduceLT, Int.reduceLE, Int.reduceAdd, Int.reduceSub])
local macro_rules | `(tactic| walk_at "qs") => `(tactic| simp -implicitDefEqProofs only [R.bind_ok, R.bind_okr, R.bind_okr', R.nx_ok, qD_some, qL_fl, qB_some, qX_some, qBo_bool, qI_int, qT_tup, qT2_tup, qT3_tup, qT4_tup, qG_true, VR_v, VR_fl, VR_fd, qLp_go, qLp_br, qLp_rt, qTry_ok, qTry_ex, iter_list, iter_tuple, bit0, bit1, bit01, bitE, add_int, sub_int, lt_int, gt_int, RL.le_int, ge_int, RL.eq_int, ne_int, eq_bool, ne_bool, int_int, int_bool, len_list, len_tuple, len_bits, tup_list, tup_tuple, ixl0, ixl1, ixl2, ixl3, ixt0, ixt1, ixt2, put_0, put_3, Bool.not_true, Bool.not_false, if_true, if_false, reduceIte, Bool.false_eq_true, decide_true, decide_false, List.any_cons, List.any_nil, isT_none, isT_bool, isT_int, isT_str, isT_list, isT_tuple, isT_dict, isT_rule, isT_net, len_rule, net_len, rule_un, rule_0, rule_1, iter_net, natL_length, strL_length, List.length_map, List.length_range, Bool.or_false, Bool.false_or, Bool.or_true, Bool.true_or, Bool.and_true, Bool.true_and, Bool.and_false, Bool.false_and, beq_true, beq_false, beq_self_eq_true, reduceCtorEq, String.reduceBEq, String.reduceEq, Bool.not_eq_true', Bool.not_eq_false', eq_self, List.nil_append, List.cons_append, List.append_nil, Option.toList, gIs, gIsNot, gIsV, RL.isNone, Option.map_some, Option.map_none, Int.reduceEq, Int.reduceLT, Int.reduceLE, Int.reduceAdd, Int.reduceSub, *])

namespace K17
abbrev box (g : Int) (fl : Bool) (s c : Int) : List D := [.int g, .bool fl, .int s, .int c]
theorem abs_lt64 {i : Int} (h0 : 0 ≤ i) (h : i < 2 ^ 64) : i.natAbs < 2 ^ 64 := by omega
theorem abs_lt1000 {i : Int} (h0 : 0 ≤ i) (h : i < 2 ^ 64) : i.natAbs < 2 ^ 1000 := Nat.lt_of_lt_of_le (abs_lt64 h0 h) (Nat.pow_le_pow_right (by decide) (by decide))
theorem lt1000 {n : Int} (h : n < 2 ^ 60) : n < 2 ^ 1000 := Int.lt_of_lt_of_le h (by decide +kernel)
theorem take_a {g s c n : Int} (hg : 0 < g) (hn : 0 < n) (hn2 : n < 2 ^ 60) : p__law_take (box g true s c) (.int n) = .ok (.int (g % n), box (g / n) true s c) := by
  have q1 := mod_int (a := g) hn
  have q2 := fdiv_int (a := g) hn (lt1000 hn2)
  unfold p__law_take d__law_take box
  dsimp only
  walk_at "qs"
def draw (s c n : Int) : Int := ((((s + 15487481 * (c + 1) + 179426339) ^ Int.toNat 5 % 2147483647) * 48271 + 104789 * (c + 1)) ^ Int.toNat 3 % 2147483587 / 64) % n
theorem take_b {g s c n : Int} {fl : Bool} (hf : fl = false ∨ ¬ 0 < g) (hs : 0 ≤ s) (hs2 : s < 2147483629) (hc : 0 ≤ c) (hc2 : c < 1000000000) (hn : 0 < n) : p__law_take (box g fl s c) (.int n) = .ok (.int (draw s c n), box g fl s (c + 1)) := by
  have m0 : 0 ≤ (s + 15487481 * (c + 1) + 179426339) ^ Int.toNat 5 % 2147483647 := Int.emod_nonneg _ (by decide)
  have m1 : (s + 15487481 * (c + 1) + 179426339) ^ Int.toNat 5 % 2147483647 < 2147483647 := Int.emod_lt_of_pos _ (by decide)
  have e1 := mul_int (a := 15487481) (b := c + 1) (abs_lt1000 (by decide) (by decide)) (abs_lt1000 (by omega) (by omega))
  have e2 := pow_int (a := s + 15487481 * (c + 1) + 179426339) (b := 5) (by decide) (by decide) (abs_lt64 (by omega) (by omega))
  have e3 := mul_int (a := (s + 15487481 * (c + 1) + 179426339) ^ Int.toNat 5 % 2147483647) (b := 48271) (abs_lt1000 m0 (by omega)) (abs_lt1000 (by decide) (by decide))
  have e4 := mul_int (a := 104789) (b := c + 1) (abs_lt1000 (by decide) (by decide)) (abs_lt1000 (by omega) (by omega))
  have e5 := pow_int (a := (s + 15487481 * (c + 1) + 179426339) ^ Int.toNat 5 % 2147483647 * 48271 + 104789 * (c + 1)) (b := 3) (by decide) (by decide) (abs_lt64 (by omega) (by omega))
  have e6 := fun a => mod_int (a := a) (b := 2147483647) (by decide)
  have e7 := fun a => mod_int (a := a) (b := 2147483587) (by decide)
  have e8 := fun a => fdiv_int (a := a) (b := 64) (by decide) (by decide +kernel)
  have e9 := fun a => mod_int (a := a) hn
  unfold p__law_take d__law_take box draw
  dsimp only
  rcases hf with hf | hf
  · subst hf
    walk_at "qs"
  · cases fl
    · walk_at "qs"
    · walk_at "qs"
/-- a good box: c draws so far at most -/
def Bx (c : Nat) (l : List D) : Prop := ∃ (g : Int) (fl : Bool) (s k : Int), l = box g fl s k ∧ 0 ≤ s ∧ s < 2147483629 ∧ 0 ≤ k ∧ k ≤ (c : Int)
theorem Bx.up {c c' : Nat} {l : List D} (b : Bx c l) (h : c ≤ c') : Bx c' l := by
  obtain ⟨g, fl, s, k, e, h1, h2, h3, h4⟩ := b
  exact ⟨g, fl, s, k, e, h1, h2, h3, by omega⟩
theorem take_ok {c : Nat} {l : List D} {n : Nat} (b : Bx c l) (hc : c < 1000000000) (hn : 0 < n) (hn2 : n < 2 ^ 60) : (p__law_take l (.int n)).Sat fun x => ∃ d : Nat, d < n ∧ x.1 = .int d ∧ Bx (c + 1) x.2 := by
  obtain ⟨g, fl, s, k, rfl, h1, h2, h3, h4⟩ := b
  have hn' : (0 : Int) < n := by exact_mod_cast hn
  by_cases hf : fl = true ∧ 0 < g
  · obtain ⟨rfl, hg⟩ := hf
    have e := take_a (s := s) (c := k) hg hn' (by exact_mod_cast hn2)
    have d0 := Int.emod_nonneg g (Int.ne_of_gt hn')
    have d1 := Int.emod_lt_of_pos g hn'
    exact ⟨_, e, (g % n).toNat, by omega, by rw [Int.toNat_of_nonneg d0], _, _, s, k, rfl, h1, h2, h3, by omega⟩
  · have hf' : fl = false ∨ ¬ 0 < g := by
      cases fl
      · exact .inl rfl
      · exact .inr fun hg => hf ⟨rfl, hg⟩
    have e := take_b (c := k) hf' h1 h2 h3 (by omega) hn'
    have d0 : 0 ≤ draw s k n := Int.emod_nonneg _ (Int.ne_of_gt hn')
    have d1 : draw s k n < n := Int.emod_lt_of_pos _ hn'
    exact ⟨_, e, (draw s k n).toNat, by omega, by rw [Int.toNat_of_nonneg d0], _, _, s, k + 1, rfl, h1, h2, by omega, by omega⟩
theorem box_ok (i : Int) : (p__law_box (.int i)).Sat (Bx 0) := by
  refine ⟨box (if i < 0 then -i else i) (decide ((10 : Int) ^ Int.toNat 18 ≤ (if i < 0 then -i else i))) ((if i < 0 then -i else i) % 2147483629) 0, ?_, ⟨_, _, _, _, rfl, Int.emod_nonneg _ (by decide), Int.emod_lt_of_pos _ (by decide), by decide, by decide⟩⟩
  have e1 := pow_int (a := 10) (b := 18) (by decide) (by decide) (by decide)
  have e2 := fun a => mod_int (a := a) (b := 2147483629) (by decide)
  unfold p__law_box d__law_box
  dsimp only
  generalize hj : (if i < 0 then -i else i) = j
  have e3 : g1 gAbs [.int i] = some (.v (.int j)) := by rw [abs_int, hj]
  walk_at "qs"
theorem pick_ok {c : Nat} {l items : List D} (b : Bx c l) (hc : c < 1000000000) (hn : items ≠ []) (hn2 : items.length < 2 ^ 60) : (p__law_pick l (.list items)).Sat fun x => x.1 ∈ items ∧ Bx (c + 1) x.2 := by
  unfold p__law_pick d__law_pick
  dsimp only
  walk_at "q"
  refine (take_ok b hc (List.length_pos_iff.mpr hn) hn2).bind fun x ⟨d, hd, e, bx⟩ => ?_
  have q := ix_list (l := items) (List.getElem?_eq_getElem hd)
  rw [e, q]
  exact .ok ⟨List.getElem_mem hd, bx⟩
theorem mixed_ok {c n : Nat} {l : List D} (b : Bx c l) (hc : c + n < 1000000000) (hn : n < 1000) : (p__law_mixed l (.int n)).Sat fun x => ∃ p : List Nat, p.Perm (List.range n) ∧ x.1 = natL p ∧ Bx (c + n) x.2 := by
  unfold p__law_mixed d__law_mixed
  dsimp only
  rw [lr_nat hn]
  walk_at "q"
  refine R.Sat.bind (qWh_sat (m := n) (fun m t => ∃ left found : List Nat, left.length = m ∧ (left ++ found).Perm (List.range n) ∧ Bx (c + found.length) t.1 ∧ t.2 = (natL left, natL found)) (by omega) ⟨List.range n, [], by simp, by simp, b, rfl⟩ fun m t ⟨left, found, h1, h2, h3, h4⟩ => ?_) fun t ⟨left, found, h1, h2, h3, h4⟩ => ?_
  · have hl : left.length + found.length = n := by have := h2.length_eq; simpa using this
    obtain ⟨t1, t2⟩ := t
    cases h4
    dsimp only
    rw [ne_nilI natL_shaped, natL_isEmpty, qB_some]
    cases left with
    | nil => exact .inl ⟨h1.symm, rfl⟩
    | cons x xs =>
      refine .inr ⟨xs.length, h1.symm, rfl, ?_⟩
      rw [natL_length]
      refine (take_ok h3 (by omega) (by simp) (by omega)).bind fun y ⟨d, hd, e, bx⟩ => ?_
      rw [e]
      have s1 : popAt (natL (x :: xs)) (.int (d : Int)) = some (.int (((x :: xs).getD d 0 : Nat) : Int), natL ((x :: xs).eraseIdx d)) := by
        unfold popAt
        dsimp only
        rw [if_pos (by omega), natL_length, seqIdx hd]
        dsimp only
        rw [natL_get hd, natL_erase]
        rfl
      rw [s1]
      walk_at "q"
      rw [qG_of (small_of (by rw [natL_length]; omega)), natL_app]
      refine .ok ⟨_, _, ?_, (perm_move hd).trans h2, ?_, rfl⟩
      · rw [List.length_eraseIdx, if_pos hd, List.length_cons]; omega
      · rw [List.length_append, List.length_singleton]; exact bx
  · have k5 : left = [] := List.eq_nil_of_length_eq_zero h1
    subst k5
    have k6 : found.length = n := by have := h2.length_eq; simpa using this
    rw [h4]
    exact .ok ⟨found, by simpa using h2, rfl, by rw [← k6]; exact h3⟩
end K17

namespace K17
theorem words_loop {n : Nat} (hn : n ≤ 8) (f : D → D → R D) (hf : ∀ (L : List (List Bool)) (x : D), L.length ≤ 1000 → (∀ w ∈ L, w.length < 1000) → f x (.list (strL L)) = .ok (.list (strL (L.flatMap fun w => [w ++ [false], w ++ [true]])))) :
    qFor f (natL (List.range n)) (.list [.str (bitS [])]) = .ok (.list (strL (wordsB n))) := by
  have k := qFor_map (f := f) (l := List.range n) (fun (i : Nat) => PyData.int (i : Int)) (fun p => .list (strL (wordsB p.length))) fun p a hp => by
    have hl := pre_len hp
    rw [List.length_range] at hl
    have e : wordsB (p ++ [a]).length = (wordsB p.length).flatMap fun w => [w ++ [false], w ++ [true]] := by rw [List.length_append]; rfl
    rw [e]
    refine hf _ _ ?_ fun w hw => by rw [words_mem.mp hw]; omega
    rw [words_len]
    have : 2 ^ p.length ≤ 2 ^ 8 := Nat.pow_le_pow_right (by decide) (by omega)
    omega
  rw [List.length_range] at k
  exact k
theorem words_in {L : List (List Bool)} (hl : L.length ≤ 1000) (hw : ∀ w ∈ L, w.length < 1000) (f : D → List D → R (List D))
    (hf : ∀ (w : List Bool) (A : List D), f (.str (bitS w)) A = (qD (gAdd (.str (bitS w)) (.str (bitS [false])))).bind fun x => (qD (gAdd (.str (bitS w)) (.str (bitS [true])))).bind fun y => qG (decide (A.length + [x, y].length ≤ sizeLine)) (.ok (A ++ [x, y]))) :
    qFor f (strL L) [] = .ok (strL (L.flatMap fun w => [w ++ [false], w ++ [true]])) := by
  refine qFor_map (f := f) (l := L) (fun w => PyData.str (bitS w)) (fun p => strL (p.flatMap fun w => [w ++ [false], w ++ [true]])) fun p w hp => ?_
  have h1 := hw w (pre_mem hp)
  have hl2 := pre_len hp
  rw [hf, bitS_add h1, bitS_add h1]
  walk_at "q"
  have hlen : (strL (p.flatMap fun w => [w ++ [false], w ++ [true]])).length ≤ 2000 := by
    unfold strL
    rw [List.length_map, List.length_flatMap]
    have : ∀ l : List (List Bool), (l.map fun w : List Bool => [w ++ [false], w ++ [true]].length).sum = 2 * l.length := by
      intro l
      induction l with
      | nil => rfl
      | cons a l ih => rw [List.map_cons, List.sum_cons, ih, List.length_cons (a := a) (as := l)]; show 2 + _ = _; omega
    rw [this]
    omega
  rw [qG_of]
  · rw [List.flatMap_append]
    unfold strL
    rw [List.map_append]
    rfl
  · rw [decide_eq_true]
    have : 2002 ≤ sizeLine := by decide
    rw [strL_length] at hlen
    simp only [List.length_cons, List.length_nil, strL_length]
    omega
theorem words_ok {n : Nat} (hn : n ≤ 8) : p__law_words (.int (n : Int)) = .ok (.list (strL (wordsB n))) := by
  unfold p__law_words d__law_words
  dsimp only
  rw [rng_nat (by omega)]
  walk_at "q"
  refine words_loop hn _ fun L x hl hw => ?_
  walk_at "q"
  rw [words_in hl hw _ fun w A => by walk_at "q"]
  walk_at "q"
theorem place_loop {st : List Bool} {ins : List Nat} (hn : ins.length ≤ 8) (hj : ∀ j ∈ ins, j < st.length) (f : D → D → R D) (hf : ∀ p j : Nat, p < 1000 → j < st.length → f (.int (j : Int)) (.int (p : Int)) = .ok (.int (2 * (p : Int) + if st.getD j false = true then 1 else 0))) :
    qFor f (natL ins) (.int 0) = .ok (.int (plc st ins : Int)) := by
  refine qFor_map (f := f) (l := ins) (fun (i : Nat) => PyData.int (i : Int)) (fun p => .int (plc st p : Int)) fun p j hp => ?_
  rw [hf _ _ (plc_pre hn hp) (hj _ (pre_mem hp)), two_mul, plc_snoc]
theorem given_ok {net : List Rule} {k : Nat} {r : Rule} {st : List Bool} (h : net[k]? = some r) (g : Good st.length r) : p_given (netD net) (.int (k : Int)) (.str (bitS st)) = .ok (.str (bitS [img r st])) := by
  unfold p_given d_given
  dsimp only
  simp only [net_ix h]
  walk_at "q"
  rw [place_loop (by have := g.1; omega) g.2.1 _ fun p j hp hj => by
    rw [mul2 (by omega), ix_bit hj]
    walk_at "q"
    rw [show g1 gInt [PyData.str (bitS [st.getD j false])] = _ from int_bit]
    walk_at "q"]
  walk_at "q"
  rw [img_ix g]
  walk_at "q"
theorem lgiven_ok {net : List Rule} {k : Nat} {r : Rule} {st : List Bool} (h : net[k]? = some r) (g : Good st.length r) : p__law_given (netD net) (.int (k : Int)) (.str (bitS st)) = .ok (.str (bitS [img r st])) := by
  unfold p__law_given d__law_given
  dsimp only
  simp only [net_ix h]
  walk_at "q"
  rw [place_loop (by have := g.1; omega) g.2.1 _ fun p j hp hj => by
    rw [mul2 (by omega), ix_bit hj]
    walk_at "q"
    rw [eq_bit]
    walk_at "q"]
  walk_at "q"
  rw [img_ix g]
  walk_at "q"
theorem image_lc {net : List Rule} {st : List Bool} {g : D → R (Option D)} (hg : ∀ (k : Nat) (r : Rule), net[k]? = some r → g (.int (k : Int)) = .ok (some (.str (bitS [img r st])))) : qLc g (natL (List.range net.length)) = .ok ((imgs net st).map fun b => .str (bitS [b])) := by
  unfold natL
  rw [qLc_map (fun (i : Nat) => PyData.int (i : Int)) (fun k => .str (bitS [img (net.getD k ([], [])) st])) fun k hk => hg k _ (rule_at (List.mem_range.mp hk))]
  unfold imgs
  rw [List.map_map, map_range_getD (f := fun r => PyData.str (bitS [img r st]))]
  rfl
theorem rng_small {n : Nat} (h : n < 1000) : small (natL (List.range n)) = true := small_of (by rw [natL_length, List.length_range]; omega)
theorem limage_ok {net : List Rule} {st : List Bool} (hn : net.length < 1000) (hg : ∀ r ∈ net, Good st.length r) : p__law_image (netD net) (.str (bitS st)) = .ok (.str (bitS (imgs net st))) := by
  unfold p__law_image d__law_image
  dsimp only
  rw [net_len, qD_some, R.bind_ok, VR_v, rng_nat hn]
  walk_at "q"
  rw [qG_of (rng_small hn), image_lc (net := net) (st := st) fun k r h => by
    rw [lgiven_ok h (hg r (List.mem_of_getElem? h))]
    walk_at "q"]
  walk_at "q"
  rw [qG_of (by rfl), show m1 gJoin (.str (bitS [])) [.list ((imgs net st).map fun b => .str (bitS [b]))] = _ from gJoin_bits (by rw [imgs_len]; omega)]
  walk_at "q"
end K17

namespace K17
theorem qLc_true {α : Type} {f : D → R (Option D)} {l : List α} (g : α → D) (H : ∀ a ∈ l, f (g a) = .ok (some (.bool true))) (hl : l.length < 1000000) :
    (qLc f (l.map g)).bind (fun x => qD (g1 gAll [.list x])) = .ok (.bool true) := by
  rw [qLc_map g (fun _ => .bool true) H, R.bind_ok, gAll_true fun d hd => by obtain ⟨_, _, e⟩ := List.mem_map.mp hd; exact e.symm]
  rfl
theorem is_between_int (v a b : Int) : p_is_between (.int v) (.int a) (.int b) = .ok (.bool (decide (a ≤ v) && decide (v ≤ b))) := by
  unfold p_is_between d_is_between p_is_integer d_is_integer
  dsimp only
  walk_at "q"
  by_cases h1 : a ≤ v
  · rw [decide_eq_true h1]
    walk_at "q"
  · rw [decide_eq_false h1]
    walk_at "q"
theorem are_between_ok {ins : List Nat} {n : Nat} (h : ∀ j ∈ ins, j < n) (hl : ins.length < 1000) : p_are_between (.tuple (natL ins)) (.int 0) (.int ((n : Int) - 1)) = .ok (.bool true) := by
  unfold p_are_between d_are_between
  dsimp only
  walk_at "q"
  rw [qG_of (small_of (by rw [natL_length]; omega))]
  exact qLc_true (l := ins) (fun (j : Nat) => .int (j : Int)) (fun j hj => by
    have := h j hj
    rw [is_between_int, decide_eq_true (by omega), decide_eq_true (by omega)]
    walk_at "q") (by omega)
theorem rising_ok {ins : List Nat} (h : ins.Pairwise (· < ·)) (hl : ins.length < 1000) : p_is_rising (.tuple (natL ins)) = .ok (.bool true) := by
  unfold p_is_rising d_is_rising
  dsimp only
  rw [len_natT]
  walk_at "q"
  rw [gRng1_pred hl]
  walk_at "q"
  rw [qG_of (rng_small (by omega))]
  refine qLc_true (l := List.range (ins.length - 1)) (fun (j : Nat) => .int (j : Int)) (fun j hj => ?_) (by rw [List.length_range]; omega)
  have hj2 := List.mem_range.mp hj
  rw [tup_ix (by omega)]
  walk_at "q"
  rw [show ((j : Int) + 1) = ((j + 1 : Nat) : Int) by omega, tup_ix (by omega)]
  walk_at "q"
  rw [decide_eq_true]
  rw [List.getD_eq_getElem?_getD, List.getD_eq_getElem?_getD, List.getElem?_eq_getElem (by omega), List.getElem?_eq_getElem (by omega)]
  have := List.pairwise_iff_getElem.mp h j (j + 1) (by omega) (by omega) (by omega)
  simpa using this
theorem switches_ok {ins : List Nat} {n : Nat} (h : ∀ j ∈ ins, j < n) (hp : ins.Pairwise (· < ·)) (hl : ins.length < 1000) : p_is_switches_value (.int (n : Int)) (.tuple (natL ins)) = .ok (.bool true) := by
  unfold p_is_switches_value d_is_switches_value
  dsimp only
  walk_at "q"
  rw [are_between_ok h hl]
  walk_at "q"
  rw [rising_ok hp hl]
  walk_at "q"
theorem signs_ok {st : List Bool} (hn : st.length < 1000) : p_is_signs (.str (bitS st)) (.int (st.length : Int)) (.str (bitS [false, true])) = .ok (.bool true) := by
  unfold p_is_signs d_is_signs
  dsimp only
  walk_at "q"
  rw [iter_bits]
  walk_at "q"
  have e := qLc_true (f := fun x => (qB (gIn x (.str (bitS [false, true])))).bind fun x => R.ok (some (PyData.bool x))) (l := st) (fun b => .str (bitS [b])) (fun b _ => by
    rw [in_bits]
    cases b <;> rfl) (by omega)
  rw [qG_of (small_of (by rw [List.length_map]; omega)), ← R.bind_assoc, e]
  walk_at "q"
theorem rule_ok {r : Rule} {n : Nat} (g : Good n r) : p_is_rule_value (.int (n : Int)) (ruleD r) = .ok (.bool true) := by
  have hl : r.1.length < 1000 := by have := g.1; omega
  have p4 := good_len g
  unfold p_is_rule_value d_is_rule_value
  dsimp only
  walk_at "q"
  rw [switches_ok g.2.1 g.2.2.1 hl]
  walk_at "q"
  rw [decide_eq_true (by have := g.1; omega), shl1 (by have := g.1; omega)]
  walk_at "q"
  have e : ((2 ^ r.1.length : Nat) : Int) = (r.2.length : Int) := by rw [g.2.2.2]
  rw [e, signs_ok (by omega)]
  walk_at "q"
theorem net_value_ok {net : List Rule} (g : GoodNet net) : p_is_net_value (netD net) = .ok (.bool true) := by
  unfold p_is_net_value d_is_net_value
  dsimp only
  walk_at "q"
  rw [decide_eq_true (by have := g.1; omega)]
  walk_at "q"
  rw [decide_eq_true (by have := g.2.1; omega)]
  walk_at "q"
  rw [qG_of (small_of (by rw [List.length_map]; have := g.2.1; omega))]
  exact qLc_true ruleD (fun r hr => by
    rw [rule_ok (g.2.2 r hr)]
    walk_at "q") (by have := g.2.1; omega)
theorem check_net_ok {net : List Rule} (g : GoodNet net) : p_check_net (netD net) = .ok .none := by
  unfold p_check_net d_check_net
  dsimp only
  rw [net_value_ok g]
  walk_at "q"
theorem check_state_ok {net : List Rule} {st : List Bool} (h : st.length = net.length) (hn : net.length ≤ 8) : p_check_state (netD net) (.str (bitS st)) = .ok .none := by
  unfold p_check_state d_check_state
  dsimp only
  rw [net_len]
  walk_at "q"
  rw [← h, signs_ok (by omega)]
  walk_at "q"
end K17

namespace K17
/-- a table of so many inputs -/
def Tab (n : Nat) (d : D) : Prop := ∃ tb : List Bool, tb.length = 2 ^ n ∧ d = .str (bitS tb)
theorem tab_words {n : Nat} {b : List Bool → Bool} : Tab n (.str (bitS ((wordsB n).map b))) := ⟨_, by rw [List.length_map, words_len], rfl⟩
theorem table_rand {c n : Nat} {l : List D} (b : Bx c l) (hn : n ≤ 4) (hc : c < 900000000) {f : D → List D → R (Option D × List D)} (hf : ∀ d l, f d l = (p__law_take l (.int 2)).bind fun p => (qD (gIx (.str (bitS [false, true])) p.1)).bind fun x => .ok (some x, p.2)) :
    (qLcS f (strL (wordsB n)) l).Sat fun x => ∃ bs : List Bool, bs.length = 2 ^ n ∧ x.1 = bs.map (fun c => .str (bitS [c])) ∧ Bx (c + 2 ^ n) x.2 := by
  have h16 : 2 ^ n ≤ 2 ^ 4 := Nat.pow_le_pow_right (by decide) hn
  refine (qLcS_sat (f := f) (l := wordsB n) (t0 := l) (fun w => PyData.str (bitS w)) (fun p ds t => ∃ bs : List Bool, bs.length = p.length ∧ ds = bs.map (fun c => .str (bitS [c])) ∧ Bx (c + p.length) t) ⟨[], rfl, rfl, b⟩ fun p a ds t hp ⟨bs, h1, h2, h3⟩ => ?_).mono fun x ⟨bs, h1, h2, h3⟩ => ⟨bs, by rw [h1, words_len], h2, by rw [words_len] at h3; exact h3⟩
  have hl := pre_len hp
  rw [words_len] at hl
  rw [hf]
  refine (take_ok (n := 2) h3 (by omega) (by omega) (by omega)).bind fun x ⟨d, hd, e, bx⟩ => ?_
  rw [e, ix01 (by omega) (by omega)]
  walk_at "q"
  refine .ok ⟨bs ++ [decide ((d : Int) = 1)], by simp [h1], by subst h2; simp, ?_⟩
  rw [List.length_append, List.length_singleton]
  exact bx
theorem table_ok {c n : Nat} {l : List D} (b : Bx c l) (hn : n ≤ 4) (hc : c < 800000000) : (p__law_table l (.int (n : Int))).Sat fun x => Tab n x.1 ∧ Bx (c + 20) x.2 := by
  have h16 : 2 ^ n ≤ 2 ^ 4 := Nat.pow_le_pow_right (by decide) hn
  unfold p__law_table d__law_table
  dsimp only
  rw [words_ok (by omega)]
  walk_at "q"
  rw [R.bind_assoc]
  refine (take_ok (n := 7) b (by omega) (by omega) (by omega)).bind fun x ⟨w, hw, e, bx⟩ => ?_
  rw [e]
  walk_at "q"
  have hj : ∀ b : List Bool → Bool, m1 gJoin (.str (bitS [])) [.list (((wordsB n).map b).map fun c => .str (bitS [c]))] = some (.v (.str (bitS ((wordsB n).map b)))) := fun b => gJoin_bits (by rw [List.length_map, words_len]; omega)
  have hsm : small (strL (wordsB n)) = true := small_of (by rw [strL_length, words_len]; omega)
  rw [hsm]
  have hty : decide (tyD (PyData.str (bitS [])) = "str") = true := by rfl
  rw [hty]
  walk_at "q"
  by_cases w2 : (w : Int) = 2
  · rw [decide_eq_true w2]
    walk_at "q"
    obtain ⟨h1, h2, h3⟩ := words_lc (n := n) (f := fun x => (qB (gNotIn (.str (bitS [false])) x)).bind fun x => (if x = true then R.ok (PyData.str (bitS [true])) else R.ok (.str (bitS [false]))).bind fun x => .ok (some x)) (fun w => !decide (false ∈ w)) (fun w hw => by
      rw [notin_bits]
      walk_at "q"
      by_cases z : false ∈ w <;> simp [z] <;> rfl) (by omega)
    rw [h2]
    walk_at "q"
    rw [h3]
    exact .ok ⟨tab_words, bx.up (by omega)⟩
  rw [decide_eq_false w2]
  walk_at "q"
  by_cases w3 : (w : Int) = 3
  · rw [decide_eq_true w3]
    walk_at "q"
    obtain ⟨h1, h2, h3⟩ := words_lc (n := n) (f := fun x => (qB (gIn (.str (bitS [true])) x)).bind fun x => (if x = true then R.ok (PyData.str (bitS [true])) else R.ok (.str (bitS [false]))).bind fun x => .ok (some x)) (fun w => decide (true ∈ w)) (fun w hw => by
      rw [in_bits]
      walk_at "q"
      by_cases z : true ∈ w <;> simp [z] <;> rfl) (by omega)
    rw [h2]
    walk_at "q"
    rw [h3]
    exact .ok ⟨tab_words, bx.up (by omega)⟩
  rw [decide_eq_false w3]
  walk_at "q"
  by_cases w4 : (w : Int) = 4
  · rw [decide_eq_true w4]
    walk_at "q"
    refine (take_ok (n := 2) bx (by omega) (by omega) (by omega)).bind fun y ⟨o, ho, e2, bx2⟩ => ?_
    rw [e2]
    obtain ⟨h1, h2, h3⟩ := words_lc (n := n) (f := fun x => qG (decide (tyD x = "str")) ((qD (m1 (gSS fun a b => .int (Txt.count a b)) x [.str (bitS [true])])).bind fun x => (qD (gAdd x (.int (o : Int)))).bind fun x => (qD (g1 gInt [x])).bind fun x => (qD (gMod x (.int 2))).bind fun x => (qD (gIx (.str (bitS [false, true])) x)).bind fun x => .ok (some x))) (fun w => decide ((Txt.count (bitS w) (bitS [true]) + (o : Int)) % 2 = 1)) (fun w hw => by
      rw [qG_of (by rfl), show m1 (gSS fun a b => PyData.int (Txt.count a b)) (.str (bitS w)) [.str (bitS [true])] = some (.v (.int (Txt.count (bitS w) (bitS [true])))) from rfl]
      walk_at "q"
      rw [mod_int (by decide)]
      walk_at "q"
      rw [ix01 (Int.emod_nonneg _ (by decide)) (Int.emod_lt_of_pos _ (by decide))]
      walk_at "q") (by omega)
    rw [h2]
    walk_at "q"
    rw [h3]
    exact .ok ⟨tab_words, bx2.up (by omega)⟩
  rw [decide_eq_false w4]
  walk_at "q"
  by_cases w5 : (w : Int) = 5
  · rw [decide_eq_true w5]
    walk_at "q"
    refine (take_ok (n := 2) bx (by omega) (by omega) (by omega)).bind fun y ⟨o, ho, e2, bx2⟩ => ?_
    rw [e2]
    obtain ⟨h1, h2, h3⟩ := words_lc (n := n) (f := fun x => (qD (gSl x none (some 1))).bind fun x => (qB (gEq x (.str (bitS [true])))).bind fun x => (qD (gAdd (.int (if x = true then 1 else 0)) (.int (o : Int)))).bind fun x => (qD (g1 gInt [x])).bind fun x => (qD (gMod x (.int 2))).bind fun x => (qD (gIx (.str (bitS [false, true])) x)).bind fun x => .ok (some x)) (fun w => decide (((if decide (w.take 1 = [true]) = true then (1 : Int) else 0) + (o : Int)) % 2 = 1)) (fun w hw => by
      rw [show gSl (.str (bitS w)) none (some 1) = some (.v (.str (bitS (w.take 1)))) from sl_to (k := 1)]
      walk_at "q"
      rw [eq_bits]
      walk_at "q"
      rw [mod_int (by decide)]
      walk_at "q"
      rw [ix01 (Int.emod_nonneg _ (by decide)) (Int.emod_lt_of_pos _ (by decide))]
      walk_at "q") (by omega)
    rw [h2]
    walk_at "q"
    rw [h3]
    exact .ok ⟨tab_words, bx2.up (by omega)⟩
  rw [decide_eq_false w5]
  walk_at "q"
  by_cases w6 : (w : Int) = 6
  · rw [decide_eq_true w6]
    walk_at "q"
    refine (take_ok (n := 2) bx (by omega) (by omega) (by omega)).bind fun y ⟨o, ho, e2, bx2⟩ => ?_
    rw [e2, ix01 (by omega) (by omega)]
    walk_at "q"
    rw [words_len, mul_bits (by omega)]
    walk_at "q"
    exact .ok ⟨⟨_, List.length_replicate, rfl⟩, bx2.up (by omega)⟩
  rw [decide_eq_false w6]
  walk_at "q"
  refine (table_rand bx hn (by omega) fun d l => rfl).bind fun y ⟨bs, hb, e2, bx2⟩ => ?_
  rw [e2, show m1 gJoin (.str (bitS [])) [.list (bs.map fun c => .str (bitS [c]))] = some (.v (.str (bitS bs))) from gJoin_bits (by omega)]
  walk_at "q"
  exact .ok ⟨⟨bs, hb, rfl⟩, bx2.up (by omega)⟩
theorem min_nat {a b : Nat} : gMin [.int (a : Int), .int (b : Int)] = some (.v (.int ((min a b : Nat) : Int))) := by
  rw [min2]
  by_cases h : b < a
  · rw [if_pos (by exact_mod_cast h), Nat.min_eq_right (by omega)]
  · rw [if_neg (by exact_mod_cast h), Nat.min_eq_left (by omega)]
/-- a rule of n switches, not too great -/
def RuleD (n : Nat) (d : D) : Prop := ∃ r : Rule, Good n r ∧ d = ruleD r
def NetD (n : Nat) (d : D) : Prop := ∃ net : List Rule, net.length = n ∧ GoodNet net ∧ d = netD net
theorem net_of {n : Nat} {ds : List D} (h1 : 1 ≤ n) (h8 : n ≤ 8) (hl : ds.length = n) (h : ∀ d ∈ ds, RuleD n d) : NetD n (.tuple ds) := by
  have : ∀ ds : List D, (∀ d ∈ ds, RuleD n d) → ∃ net : List Rule, net.map ruleD = ds ∧ ∀ r ∈ net, Good n r := by
    intro ds
    induction ds with
    | nil => exact fun _ => ⟨[], rfl, by simp⟩
    | cons d ds ih =>
      intro h
      obtain ⟨net, e, g⟩ := ih fun x hx => h x (List.mem_cons_of_mem _ hx)
      obtain ⟨r, gr, er⟩ := h d List.mem_cons_self
      exact ⟨r :: net, by rw [List.map_cons, e, er], fun x hx => by rcases List.mem_cons.mp hx with rfl | hx; exact gr; exact g x hx⟩
  obtain ⟨net, e, g⟩ := this ds h
  have hn : net.length = n := by rw [← hl, ← e, List.length_map]
  exact ⟨net, hn, ⟨by omega, by omega, by rw [hn]; exact g⟩, by unfold netD; rw [e]⟩
theorem rule_of {n : Nat} {ins : List Nat} {d : D} (hl : ins.length ≤ 4) (hn : ∀ j ∈ ins, j < n) (hp : ins.Pairwise (· < ·)) (ht : Tab ins.length d) : RuleD n (.tuple [.tuple (natL ins), d]) := by
  obtain ⟨tb, h, e⟩ := ht
  exact ⟨(ins, tb), ⟨hl, hn, hp, h⟩, by rw [e]; rfl⟩
/-- some of a row of switches, in order -/
theorem some_of {n k : Nat} {p : List Nat} (hp : p.Perm (List.range n)) : (∀ j ∈ sortN (p.take k), j < n) ∧ (sortN (p.take k)).Pairwise (· < ·) ∧ (sortN (p.take k)).length ≤ k := by
  have nd : p.Nodup := hp.nodup_iff.mpr List.nodup_range
  refine ⟨fun j hj => ?_, sortN_lt (nd.sublist (List.take_sublist k p)), ?_⟩
  · have := (List.take_sublist k p).mem (sortN_perm.mem_iff.mp hj)
    exact List.mem_range.mp (hp.mem_iff.mp this)
  · rw [sortN_perm.length_eq, List.length_take]; omega
theorem lnet_ok {c n : Nat} {l : List D} (b : Bx c l) (h1 : 1 ≤ n) (hn : n ≤ 8) (hc : c < 700000000) : (p__law_net l (.int (n : Int))).Sat fun x => NetD n x.1 ∧ Bx (c + 300) x.2 := by
  unfold p__law_net d__law_net
  dsimp only
  rw [rng_nat (by omega)]
  walk_at "q"
  refine R.Sat.bind (qFor_sat (l := List.range n) (t0 := (l, [])) (fun (k : Nat) => PyData.int (k : Int)) (fun p t => t.2.length = p.length ∧ (∀ d ∈ t.2, RuleD n d) ∧ Bx (c + p.length * 35) t.1) ⟨rfl, by simp, by simpa using b⟩ fun p k t hp ⟨k1, k2, k3⟩ => ?_) fun t ⟨k1, k2, k3⟩ => ?_
  · have hl := pre_len hp
    rw [List.length_range] at hl
    rw [show (3 : Int) = ((3 : Nat) : Int) from rfl, min_nat]
    walk_at "q"
    rw [show ((min 3 n : Nat) : Int) + 1 = ((min 3 n + 1 : Nat) : Int) by omega]
    refine (take_ok k3 (by omega) (by omega) (by omega)).bind fun x ⟨s, hs, e, bx⟩ => ?_
    refine (mixed_ok bx (by omega) (by omega)).bind fun y ⟨q, hq, e2, bx2⟩ => ?_
    rw [e, e2]
    walk_at "q"
    rw [sl_list]
    walk_at "q"
    rw [sorted_nat]
    walk_at "q"
    obtain ⟨m1, m2, m3⟩ := some_of (k := s) hq
    have e5 : ((sortN (q.take s)).length) = s := by
      rw [sortN_perm.length_eq, List.length_take, hq.length_eq, List.length_range]; omega
    refine (table_ok (n := s) bx2 (by omega) (by omega)).bind fun z ⟨ht, bx3⟩ => ?_
    rw [qG_of (small_of (by omega))]
    refine .ok ⟨by simp [k1], ?_, ?_⟩
    · intro d hd
      rcases List.mem_append.mp hd with hd | hd
      · exact k2 d hd
      · rw [List.mem_singleton.mp hd]
        exact rule_of (by omega) m1 m2 (by rw [e5]; exact ht)
    · rw [List.length_append, List.length_singleton]
      exact bx3.up (by omega)
  · rw [List.length_range] at k1 k3
    exact .ok ⟨net_of h1 hn k1 k2, k3.up (by omega)⟩
end K17

namespace K17
theorem pick_words {c : Nat} {l : List D} {ws : List (List Bool)} (b : Bx c l) (hc : c < 1000000000) (hn : ws ≠ []) (hn2 : ws.length < 2 ^ 60) : (p__law_pick l (.list (strL ws))).Sat fun x => ∃ w ∈ ws, x.1 = .str (bitS w) ∧ Bx (c + 1) x.2 := by
  refine (pick_ok b hc (by intro z; exact hn (by simpa [strL] using z)) (by rw [strL_length]; exact hn2)).mono fun x ⟨h1, h2⟩ => ?_
  obtain ⟨w, hw, e⟩ := List.mem_map.mp h1
  exact ⟨w, hw, e.symm, h2⟩
theorem one_rule {n k : Nat} {w : List Bool} (hk : k < n) (hw : w.length = 2) : RuleD n (.tuple [.tuple [.int (k : Int)], .str (bitS w)]) :=
  rule_of (ins := [k]) (by simp) (by simpa using hk) (by simp) ⟨w, by simpa using hw, rfl⟩
theorem drawn_end {c n : Nat} {bs : List D} {f : D → List D → R (Option D × List D)} (h1 : 1 ≤ n) (h8 : n ≤ 8) (b : Bx c bs) (hc : c < 600000000) (hf : ∀ (k : Nat) (t : List D) (c : Nat), k < n → c < 700000000 → Bx c t → (f (.int (k : Int)) t).Sat fun x => ∃ d, x.1 = some d ∧ RuleD n d ∧ Bx (c + 1) x.2) :
    (qLcS f (natL (List.range n)) bs).Sat fun x => NetD n (.tuple x.1) ∧ Bx (c + 8) x.2 := by
  refine (qLcS_sat (f := f) (l := List.range n) (t0 := bs) (fun (k : Nat) => PyData.int (k : Int)) (fun p ds t => ds.length = p.length ∧ (∀ d ∈ ds, RuleD n d) ∧ Bx (c + p.length) t) ⟨rfl, by simp, b⟩ fun p k ds t hp ⟨k1, k2, k3⟩ => ?_).mono fun x ⟨k1, k2, k3⟩ => ?_
  · have hl := pre_len hp
    rw [List.length_range] at hl
    refine (hf k t _ (List.mem_range.mp (pre_mem hp)) (by omega) k3).mono fun x ⟨d, e, hr, bx⟩ => ?_
    rw [e]
    refine ⟨by simp [k1], fun y hy => ?_, by rw [List.length_append, List.length_singleton]; exact bx⟩
    rcases List.mem_append.mp hy with hy | hy
    · exact k2 y hy
    · rw [List.mem_singleton.mp hy]; exact hr
  · rw [List.length_range] at k1 k3
    exact ⟨net_of h1 h8 k1 k2, k3.up (by omega)⟩
theorem drawn_ok {c m : Nat} {l : List D} (b : Bx c l) (h1 : 1 ≤ m) (hm : m ≤ 6) (hc : c < 500000000) : (p__law_drawn_net l (.int (m : Int))).Sat fun x => (∃ n, 1 ≤ n ∧ n ≤ m ∧ NetD n x.1) ∧ Bx (c + 700) x.2 := by
  unfold p__law_drawn_net d__law_drawn_net
  dsimp only
  rw [R.bind_assoc]
  refine (take_ok (n := m) b (by omega) (by omega) (by omega)).bind fun x ⟨n0, hn0, e, bx⟩ => ?_
  rw [e]
  walk_at "q"
  rw [R.bind_assoc]
  refine (take_ok (n := 7) bx (by omega) (by omega) (by omega)).bind fun x ⟨w, hw, e, bx⟩ => ?_
  rw [e, show (1 : Int) + (n0 : Int) = ((n0 + 1 : Nat) : Int) by omega]
  have hn : n0 + 1 ≤ m := by omega
  have hn1 : 1 ≤ n0 + 1 := by omega
  generalize n0 + 1 = n at hn hn1 ⊢
  walk_at "q"
  refine (lnet_ok bx hn1 (by omega) (by omega)).bind fun x ⟨⟨net, hl, gn, e⟩, bx⟩ => ?_
  refine (mixed_ok bx (by omega) (by omega)).bind fun y ⟨q, hq, e2, bx⟩ => ?_
  have nd : q.Nodup := hq.nodup_iff.mpr List.nodup_range
  have ql : q.length = n := by rw [hq.length_eq, List.length_range]
  rw [e, e2]
  walk_at "q"
  by_cases w0 : (w : Int) = 0
  · rw [decide_eq_true w0]
    walk_at "q"
    rw [rng_nat (by omega)]
    walk_at "q"
    refine R.Sat.bind (qFor_sat (l := List.range n) (t0 := (y.2, [])) (fun (k : Nat) => PyData.int (k : Int)) (fun p t => t.2.length = p.length ∧ (∀ d ∈ t.2, RuleD n d) ∧ Bx (c + 1 + 1 + 300 + n + p.length * 21) t.1) ⟨rfl, by simp, by simpa using bx⟩ fun p k t hp ⟨k1, k2, k3⟩ => ?_) fun t ⟨k1, k2, k3⟩ => ?_
    · have hl := pre_len hp
      rw [List.length_range] at hl
      have hk := List.mem_range.mp (pre_mem hp)
      obtain ⟨j, hj, ej⟩ := index_nat (l := q) (k := k) (hq.mem_iff.mpr (List.mem_range.mpr hk))
      rw [qG_of (by rfl), ej]
      walk_at "q"
      rw [sl_list]
      walk_at "q"
      refine (take_ok (n := 3) k3 (by omega) (by omega) (by omega)).bind fun x ⟨s, hs, e, bx⟩ => ?_
      rw [e]
      walk_at "q"
      rw [sl_list]
      walk_at "q"
      rw [sorted_nat]
      walk_at "q"
      have sub : ((q.take j).take s).Sublist q := (List.take_sublist _ _).trans (List.take_sublist _ _)
      have m1 : ∀ i ∈ sortN ((q.take j).take s), i < n := fun i hi => List.mem_range.mp (hq.mem_iff.mp (sub.mem (sortN_perm.mem_iff.mp hi)))
      have m2 := sortN_lt (nd.sublist sub)
      have m3 : (sortN ((q.take j).take s)).length ≤ 2 := by rw [sortN_perm.length_eq, List.length_take]; omega
      refine (table_ok bx (by omega) (by omega)).bind fun z ⟨ht, bx3⟩ => ?_
      rw [qG_of (small_of (by omega))]
      refine .ok ⟨by simp [k1], ?_, ?_⟩
      · intro d hd
        rcases List.mem_append.mp hd with hd | hd
        · exact k2 d hd
        · rw [List.mem_singleton.mp hd]
          exact rule_of (by omega) m1 m2 ht
      · rw [List.length_append, List.length_singleton]
        exact bx3.up (by omega)
    · rw [List.length_range] at k1 k3
      exact .ok ⟨⟨n, hn1, hn, net_of hn1 (by omega) k1 k2⟩, k3.up (by omega)⟩
  rw [decide_eq_false w0]
  walk_at "q"
  by_cases w1 : (w : Int) = 1
  · rw [decide_eq_true w1]
    walk_at "q"
    rw [rng_nat (by omega)]
    walk_at "q"
    rw [qG_of (rng_small (by omega))]
    refine (drawn_end hn1 (by omega) bx (by omega) fun k t c hk hc bt => ?_).bind fun x ⟨hx, bx⟩ => ?_
    · obtain ⟨j, hj, ej⟩ := index_nat (l := q) (k := k) (hq.mem_iff.mpr (List.mem_range.mpr hk))
      rw [qG_of (by rfl), ej]
      walk_at "q"
      rw [mod_int (by omega)]
      walk_at "q"
      have d0 : 0 ≤ ((j : Int) - 1) % (n : Int) := Int.emod_nonneg _ (by omega)
      have d1 : ((j : Int) - 1) % (n : Int) < n := Int.emod_lt_of_pos _ (by omega)
      rw [show ((j : Int) - 1) % (n : Int) = (((((j : Int) - 1) % (n : Int)).toNat : Nat) : Int) by omega, ix_list (natL_get (by omega))]
      walk_at "q"
      rw [bit10]
      refine (pick_words (ws := [[false, true], [true, false]]) bt (by omega) (by simp) (by simp)).bind fun x ⟨v, hv, e, bx⟩ => ?_
      rw [e]
      refine .ok ⟨_, rfl, one_rule ?_ ?_, bx⟩
      · have : (((j : Int) - 1) % (n : Int)).toNat < q.length := by omega
        rw [List.getD_eq_getElem?_getD, List.getElem?_eq_getElem this]
        exact List.mem_range.mp (hq.mem_iff.mp (List.getElem_mem this))
      · simp at hv; rcases hv with rfl | rfl <;> rfl
    · exact .ok ⟨⟨n, hn1, hn, hx⟩, bx.up (by omega)⟩
  rw [decide_eq_false w1]
  walk_at "q"
  by_cases w2 : (w : Int) = 2
  · rw [decide_eq_true w2]
    walk_at "q"
    rw [rng_nat (by omega)]
    walk_at "q"
    rw [qG_of (rng_small (by omega)), bit10, bit00, bit11]
    refine (drawn_end hn1 (by omega) bx (by omega) fun k t c hk hc bt => ?_).bind fun x ⟨hx, bx⟩ => ?_
    · refine (pick_words (ws := [[false, true], [false, true], [false, false], [true, true], [true, false]]) bt (by omega) (by simp) (by simp)).bind fun x ⟨v, hv, e, bx⟩ => ?_
      rw [e]
      refine .ok ⟨_, rfl, one_rule hk ?_, bx⟩
      simp at hv; rcases hv with rfl | rfl | rfl | rfl <;> rfl
    · exact .ok ⟨⟨n, hn1, hn, hx⟩, bx.up (by omega)⟩
  rw [decide_eq_false w2]
  walk_at "q"
  by_cases w3 : (w : Int) = 3
  · rw [decide_eq_true w3]
    walk_at "q"
    rw [qG_of (small_of (by rw [List.length_map]; omega)), qLc_map ruleD (fun r => .tuple [.tuple (natL r.1), .str (bitS ((wordsB r.1.length).map fun w => !decide (false ∈ w)))]) fun r hr => ?_]
    · walk_at "q"
      refine .ok ⟨⟨n, hn1, hn, net_of hn1 (by omega) (by rw [List.length_map]; exact hl) fun d hd => ?_⟩, bx.up (by omega)⟩
      obtain ⟨r, hr, rfl⟩ := List.mem_map.mp hd
      have g := gn.2.2 r hr
      rw [hl] at g
      exact rule_of g.1 g.2.1 g.2.2.1 tab_words
    · have g := gn.2.2 r hr
      walk_at "q"
      rw [qG_of (by rfl), words_ok (by have := g.1; omega)]
      walk_at "q"
      obtain ⟨h1, h2, h3⟩ := words_lc (n := r.1.length) (f := fun x => (qB (gNotIn (.str (bitS [false])) x)).bind fun x => (if x = true then R.ok (PyData.str (bitS [true])) else R.ok (.str (bitS [false]))).bind fun x => .ok (some x)) (fun w => !decide (false ∈ w)) (fun w hw => by
        rw [notin_bits]
        walk_at "q"
        by_cases z : false ∈ w <;> simp [z] <;> rfl) (by have := g.1; omega)
      rw [qG_of h1, h2]
      walk_at "q"
      rw [h3]
      walk_at "q"
  rw [decide_eq_false w3]
  walk_at "q"
  exact .ok ⟨⟨n, hn1, hn, ⟨net, hl, gn, rfl⟩⟩, bx.up (by omega)⟩
end K17

namespace K17
theorem same_refl : ∀ (n : Nat) (d : D), niceB n d = true → p__law_same n d d = .ok (.bool true)
  | 0, _, h => by cases h
  | n + 1, d, h => by
    unfold p__law_same d__law_same
    dsimp only
    cases d with
    | none => walk_at "q"
    | bool b =>
      cases b <;> walk_at "q"
    | int i =>
      walk_at "q"
      rw [Int.sub_self]
      walk_at "q"
    | str x =>
      walk_at "q"
      rw [eq_str]
      walk_at "q"
    | list ds =>
      have h' : (decide (ds.length < 1000) && ds.all (niceB n)) = true := h
      rw [Bool.and_eq_true, List.all_eq_true] at h'
      have hl := of_decide_eq_true h'.1
      walk_at "q"
      rw [rng_nat hl]
      walk_at "q"
      rw [rng_small hl, natL_def, qLc_none (fun (i : Nat) => PyData.int (i : Int)) fun k hk => ?_]
      · walk_at "q"
        rw [eq_nilI shaped_nil]
        walk_at "q"
        rfl
      · have hk2 := List.mem_range.mp hk
        rw [ix_list (List.getElem?_eq_getElem hk2)]
        walk_at "q"
        rw [same_refl n _ (h'.2 _ (List.getElem_mem hk2))]
        walk_at "q"
    | tuple ds =>
      have h' : (decide (ds.length < 1000) && ds.all (niceB n)) = true := h
      rw [Bool.and_eq_true, List.all_eq_true] at h'
      have hl := of_decide_eq_true h'.1
      walk_at "q"
      rw [rng_nat hl]
      walk_at "q"
      rw [rng_small hl, natL_def, qLc_none (fun (i : Nat) => PyData.int (i : Int)) fun k hk => ?_]
      · walk_at "q"
        rw [eq_nilI shaped_nil]
        walk_at "q"
        rfl
      · have hk2 := List.mem_range.mp hk
        rw [ix_tup (List.getElem?_eq_getElem hk2)]
        walk_at "q"
        rw [same_refl n _ (h'.2 _ (List.getElem_mem hk2))]
        walk_at "q"
    | dict kvs =>
      match kvs, h with
      | [(.str k, v)], h =>
        have h' : (decide (k.length < 1000) && niceB n v) = true := h
        rw [Bool.and_eq_true] at h'
        have ih := same_refl n v h'.2
        have e1 := dict1_iter (v := v) (of_decide_eq_true h'.1)
        have e2 := dict1_notin (k := k) (v := v)
        have e3 := dict1_ix (k := k) (v := v)
        walk_at "q"
        rw [len_dict]
        walk_at "q"
        rw [e1]
        walk_at "q"
        rw [qG_of (by rfl), show [PyData.str k] = [k].map (fun k => PyData.str k) from rfl, qLc_none (l := [k]) (fun k => PyData.str k) fun a ha => ?_]
        · walk_at "q"
          rw [eq_nilI shaped_nil]
          walk_at "q"
          rfl
        · rw [List.mem_singleton.mp ha, e2, e3]
          walk_at "q"
          rw [ih]
          walk_at "q"
theorem same_ok {d : D} (h : niceB 9 d = true) : pF__law_same d d = .ok (.bool true) := by
  unfold pF__law_same
  exact same_refl 9 d h
theorem cell_ok {ns : List Int} {k : Nat} (hk : k < 1000) : ∃ i, p__law_cell (.list (ns.map .int)) (.int (k : Int)) = .ok (.int i) := by
  unfold p__law_cell d__law_cell
  dsimp only
  walk_at "q"
  by_cases h : (k : Int) < (ns.length : Int)
  · have h2 : k < ns.length := by exact_mod_cast h
    rw [decide_eq_true h, ix_list (d := .int ns[k]) (by rw [List.getElem?_map, List.getElem?_eq_getElem h2]; rfl)]
    walk_at "q"
    exact ⟨_, rfl⟩
  · rw [decide_eq_false h, mul_int (by decide) (nat_small (by omega))]
    walk_at "q"
    have e : gSl (.list (ns.map PyData.int)) none (some 1) = some (.fl ((ns.take 1).map .int)) := by
      show some (VR.fl (cutL (ns.map PyData.int) none (some ((1 : Nat) : Int)))) = _
      rw [cut_to, List.map_take]
    rw [e]
    walk_at "q"
    have e2 : g1 gSum [.list ((ns.take 1).map PyData.int)] = some (.v (.int (ns.take 1).sum)) := by
      show (intsOf _).map _ = _
      rw [ints_map]; rfl
    rw [e2]
    walk_at "q"
    rw [mod_int (by decide)]
    walk_at "q"
    exact ⟨_, rfl⟩
end K17

namespace K17
theorem qWh_mu {τ : Type} {c : τ → R Bool} {f : τ → R τ} (P : τ → Prop) (μ : τ → Nat) (k : ∀ t, P t → c t = .ok false ∨ (c t = .ok true ∧ (f t).Sat fun t1 => P t1 ∧ μ t1 < μ t)) : ∀ {n : Nat} {t : τ}, μ t < n → P t → (qWh c f n t).Sat fun t1 => P t1 ∧ c t1 = .ok false
  | 0, t, h, _ => absurd h (Nat.not_lt_zero _)
  | n + 1, t, h, p => by
    unfold qWh
    rcases k t p with hc | ⟨hc, hf⟩
    · rw [hc]; exact .ok ⟨p, hc⟩
    · rw [hc]
      exact hf.bind fun t1 ⟨p1, lt⟩ => qWh_mu P μ k (by omega) p1
abbrev netI (net : List Rule) (k : Nat) (w : List Bool) : Bool := img (net.getD k ([], [])) w
theorem sp1 {b : Bool} : spS [some b] = bitS [b] := (bit_sp (l := [b])).symm
theorem ext_in {L : List (List Bool)} {es : List Bool} (hl : L.length ≤ 1000) (hw : ∀ w ∈ L, w.length < 1000) (he : es.length ≤ 2) (f : D → List D → R (List D))
    (hf : ∀ (w : List Bool) (A : List D), f (.str (bitS w)) A = (qX (iterD (.list (es.map fun b => .str (bitS [b]))))).bind fun x => qG (small x) ((qLc (fun y => (qD (gAdd (.str (bitS w)) y)).bind fun z => .ok (some z)) x).bind fun x => qG (decide (A.length + x.length ≤ sizeLine)) (.ok (A ++ x)))) :
    qFor f (strL L) [] = .ok (strL (L.flatMap fun w => es.map fun b => w ++ [b])) := by
  refine qFor_map (f := f) (l := L) (fun w => PyData.str (bitS w)) (fun p => strL (p.flatMap fun w => es.map fun b => w ++ [b])) fun p w hp => ?_
  have h1 := hw w (pre_mem hp)
  have hl2 := pre_len hp
  rw [hf]
  walk_at "q"
  rw [qG_of (small_of (by rw [List.length_map]; omega)), qLc_map (fun b => PyData.str (bitS [b])) (fun b => .str (bitS (w ++ [b]))) fun b _ => by rw [bitS_add h1]; walk_at "q"]
  walk_at "q"
  have hlen : (p.flatMap fun w => es.map fun b => w ++ [b]).length ≤ 2 * p.length := by
    clear hl2 hp hf
    induction p with
    | nil => simp
    | cons a p ih => rw [List.flatMap_cons, List.length_append, List.length_map, List.length_cons]; omega
  rw [qG_of]
  · rw [List.flatMap_append]
    unfold strL
    rw [List.map_append]
    simp
  · rw [decide_eq_true]
    have : 3002 ≤ sizeLine := by decide
    omega
theorem stp_eq {L : List (List Bool)} {o : Option Bool} : stp L o = L.flatMap fun w => (match o with
  | none => [false, true]
  | some b => [b]).map fun b => w ++ [b] := by
  cases o <;> rfl
theorem stp_ok {s p : Sp} {o : Option Bool} (h : s.length ≤ 8) (hp : p ++ [o] <+: s) : (p.foldl stp [[]]).length ≤ 1000 ∧ ∀ w ∈ p.foldl stp [[]], w.length < 1000 := by
  have hl := pre_len hp
  refine ⟨?_, fun w hw => ?_⟩
  · have := stS_len (s := p)
    have h2 : 2 ^ p.length ≤ 2 ^ 8 := Nat.pow_le_pow_right (by decide) (by omega)
    unfold stS at this
    omega
  · have := agr_len (stS_mem.mp hw)
    omega
theorem states_in_ok {s : Sp} (h : s.length ≤ 8) : p_states_in (.str (spS s)) = .ok (.list (strL (stS s))) := by
  unfold p_states_in d_states_in
  dsimp only
  rw [iter_sp]
  walk_at "q"
  have key := fun f hf => qFor_map (f := f) (l := s) (fun o => PyData.str (spS [o])) (fun p => PyData.list (strL (p.foldl stp [[]]))) hf
  refine key _ fun p o hp => ?_
  obtain ⟨h1, h2⟩ := stp_ok h hp
  rw [star_sp, eq_sp, List.foldl_append]
  cases o with
  | none =>
    rw [decide_eq_true rfl]
    walk_at "q"
    rw [ext_in (es := [false, true]) h1 h2 (by simp) _ fun w A => rfl]
    walk_at "q"
    rw [List.foldl_cons, List.foldl_nil, stp_eq]
  | some b =>
    rw [decide_eq_false (by simp)]
    walk_at "q"
    rw [ext_in (es := [b]) h1 h2 (by simp) _ fun w A => by rw [sp1]; rfl]
    walk_at "q"
    rw [List.foldl_cons, List.foldl_nil, stp_eq]
/-- the space with what does not matter put to 0 -/
def freeV (ins : List Nat) (s : Sp) (k : Nat) : Option Bool := if k ∈ ins ∨ s.getD k none ≠ none then s.getD k none else some false
theorem freeV_in {ins : List Nat} {s : Sp} {k : Nat} (h : k ∈ ins) : freeV ins s k = s.getD k none := if_pos (.inl h)
theorem freeV_fix {ins : List Nat} {s : Sp} {k : Nat} (h : s.getD k none ≠ none) : freeV ins s k = s.getD k none := if_pos (.inr h)
theorem freeV_out {ins : List Nat} {s : Sp} {k : Nat} (h : k ∉ ins) (n : s.getD k none = none) : freeV ins s k = some false := if_neg fun q => q.elim h fun z => z n
def freeS (ins : List Nat) (s : Sp) : Sp := (List.range s.length).map (freeV ins s)
theorem freeS_len {ins : List Nat} {s : Sp} : (freeS ins s).length = s.length := by simp [freeS]
theorem in_natT {k : Nat} {l : List Nat} : gIn (.int (k : Int)) (.tuple (natL l)) = some (.v (.bool (decide (k ∈ l)))) := by
  have e : inB (.int (k : Int)) (.tuple (natL l)) = some ((natL l).any fun z => PyData.eqv z (.int (k : Int))) := by
    show (if _ then _ else _) = _
    rw [if_pos]
    have : (natL l).all RL.flatD = true := by
      rw [List.all_eq_true]
      intro d h
      obtain ⟨i, _, rfl⟩ := List.mem_map.mp h
      rfl
    rw [this]; rfl
  unfold gIn
  rw [e, any_nat]; rfl
theorem plcF_same {w v : List Bool} : ∀ {ins : List Nat} {p : Nat}, (∀ j ∈ ins, w.getD j false = v.getD j false) → plcF w p ins = plcF v p ins
  | [], _, _ => rfl
  | j :: ins, p, h => by
    unfold plcF
    rw [List.foldl_cons, List.foldl_cons, h j (.head _)]
    exact plcF_same fun i hi => h i (.tail _ hi)
theorem img_same {r : Rule} {w v : List Bool} (h : ∀ j ∈ r.1, w.getD j false = v.getD j false) : img r w = img r v := by
  unfold img plc
  rw [plcF_same h]
theorem free_all {r : Rule} {s : Sp} {c : Bool} : ((stS (freeS r.1 s)).all fun w => img r w == c) = ((stS s).all fun w => img r w == c) := by
  rw [Bool.eq_iff_iff, List.all_eq_true, List.all_eq_true]
  have at_ : ∀ k, k < s.length → (freeS r.1 s).getD k none = freeV r.1 s k := fun k hk => map_get hk
  constructor
  · intro h w hw
    have a := agr_iff.mp (stS_mem.mp hw)
    have e : img r w = img r ((List.range s.length).map fun k => if k ∈ r.1 ∨ s.getD k none ≠ none then w.getD k false else false) := img_same fun j hj => by
      by_cases hk : j < s.length
      · rw [map_get hk, if_pos (.inl hj)]
      · rw [map_get' hk, List.getD_eq_getElem?_getD, List.getElem?_eq_none (by omega)]; rfl
    rw [e]
    refine h _ (stS_mem.mpr (agr_iff.mpr ⟨by rw [List.length_map, List.length_range, freeS_len], fun k c e => ?_⟩))
    have hk : k < s.length := by
      have := lt_of_some e
      rwa [freeS_len] at this
    rw [at_ k hk] at e
    rw [map_get hk]
    by_cases z : k ∈ r.1 ∨ s.getD k none ≠ none
    · rw [show freeV r.1 s k = _ from if_pos z] at e
      rw [if_pos z]
      exact a.2 k c e
    · rw [show freeV r.1 s k = _ from if_neg z] at e
      rw [if_neg z]
      cases e; rfl
  · intro h w hw
    have a := agr_iff.mp (stS_mem.mp hw)
    refine h w (stS_mem.mpr (agr_iff.mpr ⟨a.1.trans freeS_len, fun k c e => a.2 k c ?_⟩))
    rw [at_ k (lt_of_some e), freeV_fix (by rw [e]; simp), e]
theorem gives_all_ok {net : List Rule} {s : Sp} {k : Nat} {c : Bool} (g : GoodNet net) (hs : s.length = net.length) (hk : k < net.length) : p_gives_all (netD net) (.int (k : Int)) (.str (bitS [c])) (.str (spS s)) = .ok (.bool (gS (netI net) s k c)) := by
  have hn := g.2.1
  have gr := good_at g.2.2 hk
  unfold p_gives_all d_gives_all
  dsimp only
  rw [net_ix (rule_at hk)]
  walk_at "q"
  rw [qG_of (by rfl), enum_sp]
  walk_at "q"
  have key := fun f hf => qLc_map (f := f) (l := List.range s.length) (fun (k : Nat) => PyData.tuple [.int (k : Int), .str (spS [s.getD k none])]) (fun j => .str (spS [freeV (net.getD k ([], [])).1 s j])) hf
  rw [qG_of (small_of (by rw [List.length_map, List.length_range]; omega)), key _ fun j hj => by
    walk_at "q"
    rw [in_natT]
    walk_at "q"
    by_cases z : j ∈ (net.getD k ([], [])).1
    · rw [decide_eq_true z, freeV_in z]
      walk_at "q"
    · rw [decide_eq_false z, star_sp, ne_sp]
      walk_at "q"
      by_cases y : s.getD j none = none
      · rw [freeV_out z y, decide_eq_true (show [s.getD j none] = [none] by rw [y])]
        walk_at "q"
        rw [sp1]
      · rw [freeV_fix y, decide_eq_false (show ¬ [s.getD j none] = [none] by intro q; exact y (by simpa using q))]
        walk_at "q"]
  walk_at "q"
  have e : ((List.range s.length).map fun j => PyData.str (spS [freeV (net.getD k ([], [])).1 s j])) = (freeS (net.getD k ([], [])).1 s).map fun o => .str (spS [o]) := by
    unfold freeS
    rw [List.map_map]
    rfl
  rw [e, show m1 gJoin (.str (bitS [])) [.list ((freeS (net.getD k ([], [])).1 s).map fun o => PyData.str (spS [o]))] = _ from gJoin_sp (by rw [freeS_len]; omega)]
  walk_at "q"
  rw [states_in_ok (by rw [freeS_len]; omega)]
  walk_at "q"
  have few : (stS (freeS (net.getD k ([], [])).1 s)).length < 1000000 := by
    have h1 := stS_len (s := freeS (net.getD k ([], [])).1 s)
    have h2 : 2 ^ (freeS (net.getD k ([], [])).1 s).length ≤ 2 ^ 8 := Nat.pow_le_pow_right (by decide) (by rw [freeS_len]; omega)
    omega
  have key2 := fun f hf => qLc_map (f := f) (l := stS (freeS (net.getD k ([], [])).1 s)) (fun w => PyData.str (bitS w)) (fun w => .bool (img (net.getD k ([], [])) w == c)) hf
  rw [qG_of (small_of (by rw [strL_length]; exact few)), strL_def, key2 _ fun w hw => by
    have lw := agr_len (stS_mem.mp hw)
    rw [freeS_len] at lw
    rw [given_ok (rule_at hk) (by rw [lw, hs]; exact gr)]
    walk_at "q"
    rw [eq_bit]
    walk_at "q"]
  walk_at "q"
  rw [gAll_map, free_all]
  walk_at "q"
  rfl
end K17

namespace K17
theorem qWh_lt {τ : Type} {c : τ → R Bool} {f : τ → R τ} (P : Nat → τ → Prop) (k : ∀ m t, P m t → c t = .ok false ∨ (c t = .ok true ∧ (f t).Sat fun t1 => ∃ m1, m1 < m ∧ P m1 t1)) : ∀ {n m : Nat} {t : τ}, m < n → P m t → (qWh c f n t).Sat fun t1 => ∃ m1, P m1 t1 ∧ c t1 = .ok false
  | 0, m, t, h, _ => absurd h (Nat.not_lt_zero _)
  | n + 1, m, t, h, p => by
    unfold qWh
    rcases k m t p with hc | ⟨hc, hf⟩
    · rw [hc]; exact .ok ⟨m, p, hc⟩
    · rw [hc]
      exact hf.bind fun t1 ⟨m1, lt, p1⟩ => qWh_lt P k (m := m1) (by omega) p1
theorem sat_eq {α β : Type} {r : R α} {f : α → R β} {P : α → Prop} {b : β} (h : r.Sat P) (k : ∀ a, P a → f a = .ok b) : r.bind f = .ok b := by
  obtain ⟨a, e, p⟩ := h
  rw [e, R.bind_ok]
  exact k a p
theorem star_ne {o : Option Bool} : RL.gNe (.str (spS [o])) (.str (spS [none])) = some (.v (.bool o.isSome)) := by
  rw [ne_sp]
  cases o <;> rfl
theorem star_eq {o : Option Bool} : RL.gEq (.str (spS [o])) (.str (spS [none])) = some (.v (.bool o.isNone)) := by
  rw [eq_sp]
  cases o <;> rfl
def fixL (s : Sp) : List Nat := (List.range s.length).filter fun k => (s.getD k none).isSome
theorem fixL_mem {s : Sp} {k : Nat} (h : k ∈ fixL s) : k < s.length ∧ ∃ c, s.getD k none = some c := by
  obtain ⟨h1, h2⟩ := List.mem_filter.mp h
  exact ⟨List.mem_range.mp h1, Option.isSome_iff_exists.mp h2⟩
theorem fixL_len {s : Sp} : (fixL s).length ≤ s.length := by
  have := List.length_filter_le (fun k => (s.getD k none).isSome) (List.range s.length)
  rwa [List.length_range] at this
theorem fixed_ok {s : Sp} (h : s.length ≤ 8) : p_fixed_in (.str (spS s)) = .ok (natL (fixL s)) := by
  unfold p_fixed_in d_fixed_in
  dsimp only
  rw [enum_sp]
  walk_at "q"
  have key := fun f hf => qLc_filter (f := f) (l := List.range s.length) (fun (k : Nat) => PyData.tuple [.int (k : Int), .str (spS [s.getD k none])]) (fun k => (s.getD k none).isSome) (fun k => .int (k : Int)) hf
  rw [qG_of (small_of (by rw [List.length_map, List.length_range]; omega)), key _ fun k hk => by
    rw [star_sp]
    walk_at "q"
    rw [star_ne]
    walk_at "q"
    split <;> rfl]
  rfl
theorem gives_at {net : List Rule} {s : Sp} {k : Nat} (g : GoodNet net) (hs : s.length = net.length) (h : k ∈ fixL s) : ((qD (gIx (.str (spS s)) (.int (k : Int)))).bind fun y => p_gives_all (netD net) (.int (k : Int)) y (.str (spS s))) = .ok (.bool (gS (netI net) s k ((s.getD k none).getD false))) := by
  obtain ⟨hk, c, e⟩ := fixL_mem h
  rw [ix_sp hk, e]
  walk_at "q"
  rw [sp1, gives_all_ok g hs (by omega)]
  rfl
theorem trap_all {I : Nat → List Bool → Bool} {s : Sp} {n : Nat} (l : s.length = n) : ((fixL s).all fun k => gS I s k ((s.getD k none).getD false)) = trapB I n s := by
  rw [Bool.eq_iff_iff, List.all_eq_true, trap_iff l]
  constructor
  · intro h k c e
    have := h k (List.mem_filter.mpr ⟨List.mem_range.mpr (lt_of_some e), by rw [e]; rfl⟩)
    rw [e] at this
    exact this
  · intro h k hk
    obtain ⟨_, c, e⟩ := fixL_mem hk
    rw [e]
    exact h k c e
theorem is_trap_ok {net : List Rule} {s : Sp} (g : GoodNet net) (hs : s.length = net.length) : p_is_trap_in (netD net) (.str (spS s)) = .ok (.bool (trapB (netI net) net.length s)) := by
  have hn := g.2.1
  unfold p_is_trap_in d_is_trap_in
  dsimp only
  rw [fixed_ok (by omega)]
  walk_at "q"
  have key := fun f hf => qLc_map (f := f) (l := fixL s) (fun (k : Nat) => PyData.int (k : Int)) (fun k => .bool (gS (netI net) s k ((s.getD k none).getD false))) hf
  have few := fixL_len (s := s)
  rw [qG_of (small_of (by rw [natL_length]; omega)), natL_def, key _ fun k hk => by
    obtain ⟨h1, c, e⟩ := fixL_mem hk
    rw [ix_sp h1, e]
    walk_at "q"
    rw [sp1, gives_all_ok g hs (by omega)]
    walk_at "q"
    rfl]
  walk_at "q"
  rw [gAll_map, trap_all hs]
  walk_at "q"
theorem join_map {n : Nat} (f : Nat → Option Bool) (h : n ≤ 1000) : m1 gJoin (.str (bitS [])) [.list ((List.range n).map fun k => .str (spS [f k]))] = some (.v (.str (spS ((List.range n).map f)))) := by
  rw [show ((List.range n).map fun k => PyData.str (spS [f k])) = ((List.range n).map f).map fun o => .str (spS [o]) by rw [List.map_map]; rfl]
  exact gJoin_sp (by rw [List.length_map, List.length_range]; exact h)
theorem relax_eq {I : Nat → List Bool → Bool} {s : Sp} {n : Nat} (l : s.length = n) {L : List Nat} (h : ∀ k, k ∈ L ↔ k ∈ fixL s ∧ gS I s k ((s.getD k none).getD false) = false) : ((List.range n).map fun k => if k ∈ L then none else s.getD k none) = relax I n s := by
  unfold relax
  refine List.map_congr_left fun k hk => ?_
  have hk' := List.mem_range.mp hk
  cases e : s.getD k none with
  | none => split <;> rfl
  | some c =>
    have hf : k ∈ fixL s := List.mem_filter.mpr ⟨List.mem_range.mpr (by omega), by rw [e]; rfl⟩
    have hL := h k
    rw [e] at hL
    cases q : gS I s k c with
    | true =>
      rw [if_neg (fun z => by have := (hL.mp z).2; rw [show (some c).getD false = c from rfl, q] at this; cases this)]
      dsimp only
      rw [q]
      rfl
    | false =>
      rw [if_pos (hL.mpr ⟨hf, q⟩)]
      dsimp only
      rw [q]
      rfl
theorem around_ok {net : List Rule} {s : Sp} (g : GoodNet net) (hs : s.length = net.length) : p_around (netD net) (.str (spS s)) = .ok (.str (spS (arnd (netI net) net.length s))) := by
  have hn := g.2.1
  unfold p_around d_around
  dsimp only
  refine sat_eq (qWh_lt (n := 100000) (m := cnt s) (t := PyData.str (spS s)) (fun m t => ∃ u j, t = .str (spS u) ∧ cnt u = m ∧ u.length = net.length ∧ u = itr (relax (netI net) net.length) j s) (fun m t ⟨u, j, e, em, lu, eu⟩ => ?loop) (by have := cnt_le (s := s); omega) ⟨s, 0, rfl, rfl, hs, rfl⟩) fun t ⟨m, ⟨u, j, e, em, lu, eu⟩, hc⟩ => ?fin
  case loop =>
    subst e
    rw [is_trap_ok g lu]
    walk_at "q"
    by_cases z : trapB (netI net) net.length u = true
    · exact .inl (by rw [z]; rfl)
    · refine .inr ⟨by rw [Bool.not_eq_true _ |>.mp z]; rfl, ?_⟩
      rw [fixed_ok (by omega)]
      walk_at "q"
      have few := fixL_len (s := u)
      have key := fun f hf => qLc_filter (f := f) (l := fixL u) (fun (k : Nat) => PyData.int (k : Int)) (fun k => !gS (netI net) u k ((u.getD k none).getD false)) (fun k => .int (k : Int)) hf
      rw [qG_of (small_of (by rw [natL_length]; omega)), natL_def, key _ fun k hk => by
        obtain ⟨h1, c, e⟩ := fixL_mem hk
        rw [ix_sp h1, e]
        walk_at "q"
        rw [sp1, gives_all_ok g lu (by omega)]
        walk_at "q"
        rw [show (some c).getD false = c from rfl]
        split <;> rfl]
      walk_at "q"
      rw [qG_of (by rfl), enum_sp]
      walk_at "q"
      have key2 := fun f hf => qLc_map (f := f) (l := List.range u.length) (fun (k : Nat) => PyData.tuple [.int (k : Int), .str (spS [u.getD k none])]) (fun k => .str (spS [if k ∈ (fixL u).filter (fun k => !gS (netI net) u k ((u.getD k none).getD false)) then none else u.getD k none])) hf
      rw [qG_of (small_of (by rw [List.length_map, List.length_range]; omega)), key2 _ fun k hk => by
        walk_at "q"
        rw [← natL_def, in_nat]
        walk_at "q"
        by_cases y : k ∈ (fixL u).filter (fun k => !gS (netI net) u k ((u.getD k none).getD false))
        · rw [decide_eq_true y, if_pos y, star_sp]
          walk_at "q"
        · rw [decide_eq_false y, if_neg y]
          walk_at "q"]
      walk_at "q"
      rw [join_map _ (by omega), lu, relax_eq lu (L := (fixL u).filter (fun k => !gS (netI net) u k ((u.getD k none).getD false))) fun k => by rw [List.mem_filter, Bool.not_eq_true']]
      refine .ok ⟨_, ?_, _, j + 1, rfl, rfl, len_relax, by rw [itr_succ, ← eu]⟩
      rw [← em]
      exact relax_cnt lu fun h => z ((trap_fix lu).mpr h)
  case fin =>
    subst e
    rw [is_trap_ok g lu, R.bind_ok, qBo_bool, R.bind_ok] at hc
    have hz : trapB (netI net) net.length u = true := by
      cases z : trapB (netI net) net.length u with
      | true => rfl
      | false => rw [z] at hc; injection hc with hc; cases hc
    have e2 : u = arnd (netI net) net.length s := by
      have h1 := (trap_fix lu).mp hz
      rw [eu] at h1 ⊢
      exact itr_eq h1 (relax_end hs).1
    rw [e2]
end K17

namespace K17
/-! ### percolated -/
def frc (I : Nat → List Bool → Bool) (s : Sp) (k : Nat) : List (Nat × Bool) := ([false, true].filter (gS I s k)).map fun c => (k, c)
def frcD (p : Nat × Bool) : D := .tuple [.int (p.1 : Int), .str (bitS [p.2])]
theorem frc_len {I : Nat → List Bool → Bool} {s : Sp} : ∀ l : List Nat, (l.flatMap (frc I s)).length ≤ 2 * l.length := by
  intro l
  induction l with
  | nil => simp
  | cons a l ih =>
    rw [List.flatMap_cons, List.length_append, List.length_cons]
    have : (frc I s a).length ≤ 2 := by
      unfold frc
      rw [List.length_map]
      exact List.length_filter_le _ _
    omega
theorem forced_ok {net : List Rule} {s : Sp} (g : GoodNet net) (hs : s.length = net.length) : p_forced_in (netD net) (.str (spS s)) = .ok (((List.range net.length).flatMap (frc (netI net) s)).map frcD) := by
  have hn := g.2.1
  unfold p_forced_in d_forced_in
  dsimp only
  rw [net_len, qD_some, R.bind_ok, VR_v, rng_nat (by omega)]
  walk_at "q"
  refine qFor_map (l := List.range net.length) (fun (k : Nat) => PyData.int (k : Int)) (fun p => (p.flatMap (frc (netI net) s)).map frcD) fun p k hp => ?_
  have hk := List.mem_range.mp (pre_mem hp)
  have hl := pre_len hp
  rw [List.length_range] at hl
  have key := fun f hf => qLc_filter (f := f) (l := [false, true]) (fun (c : Bool) => PyData.str (bitS [c])) (gS (netI net) s k) (fun c => frcD (k, c)) hf
  walk_at "q"
  rw [qG_of (by rfl), show [PyData.str (bitS [false]), PyData.str (bitS [true])] = [false, true].map fun (c : Bool) => PyData.str (bitS [c]) from rfl, key _ fun c hc => by
    rw [gives_all_ok g hs hk]
    walk_at "q"
    split <;> rfl]
  walk_at "q"
  have h1 := frc_len (I := netI net) (s := s) p
  have h2 := List.length_filter_le (gS (netI net) s k) [false, true]
  rw [qG_of (by
    rw [decide_eq_true]
    have : 2000 ≤ sizeLine := by decide
    have h3 : [false, true].length = 2 := rfl
    omega)]
  rw [List.flatMap_append, List.map_append]
  unfold frc
  simp only [List.flatMap_cons, List.flatMap_nil, List.append_nil, List.map_map]
  rfl
theorem with_sign_ok {s : Sp} {k : Nat} {b : Bool} (h : k < s.length) (hn : s.length ≤ 8) : p_with_sign (.str (spS s)) (.int (k : Int)) (.str (bitS [b])) = .ok (.str (spS (s.set k (some b)))) := by
  unfold p_with_sign d_with_sign
  dsimp only
  walk_at "q"
  rw [sp_to]
  walk_at "q"
  rw [← sp1, add_sp (by simp; omega)]
  walk_at "q"
  rw [sp_from]
  walk_at "q"
  rw [add_sp (by simp; omega)]
  walk_at "q"
  rw [List.set_eq_take_append_cons_drop, if_pos h, List.append_assoc]
  rfl
def put1 (u : Sp) (s : Sp) (p : Nat × Bool) : Sp := if (u.getD p.1 none).isNone = true then s.set p.1 (some p.2) else s
theorem put1_len {u s : Sp} {p : Nat × Bool} : (put1 u s p).length = s.length := by unfold put1; split <;> simp
theorem puts_len {u : Sp} : ∀ (l : List (Nat × Bool)) (s : Sp), (l.foldl (put1 u) s).length = s.length
  | [], _ => rfl
  | p :: l, s => by rw [List.foldl_cons, puts_len l, put1_len]
theorem puts_get {u : Sp} {k : Nat} : ∀ (l : List (Nat × Bool)) (s : Sp), (∀ p ∈ l, p.1 ≠ k) → (l.foldl (put1 u) s).getD k none = s.getD k none
  | [], _, _ => rfl
  | p :: l, s, h => by
    rw [List.foldl_cons, puts_get l _ fun q hq => h q (.tail _ hq)]
    unfold put1
    split
    · rw [List.getD_eq_getElem?_getD, List.getElem?_set_ne (h p (.head _)), ← List.getD_eq_getElem?_getD]
    · rfl
/-- not both -/
theorem not_both {I : Nat → List Bool → Bool} {s : Sp} {k : Nat} (h : gS I s k false = true) : gS I s k true = false := by
  cases q : gS I s k true with
  | false => rfl
  | true =>
    have h1 := gS_iff.mp h _ (agr_some s)
    have h2 := gS_iff.mp q _ (agr_some s)
    rw [h1] at h2
    cases h2
theorem frc_is {I : Nat → List Bool → Bool} {s : Sp} {k : Nat} : frc I s k = if gS I s k false = true then [(k, false)] else if gS I s k true = true then [(k, true)] else [] := by
  unfold frc
  cases q : gS I s k false with
  | true => simp [List.filter_cons, q, not_both q]
  | false => cases r : gS I s k true <;> simp [List.filter_cons, q, r]
theorem puts_fix {I : Nat → List Bool → Bool} {s : Sp} {n : Nat} (l : s.length = n) : ((List.range n).flatMap (frc I s)).foldl (put1 s) s = fixS I n s := by
  refine getD_ext (d := none) (by rw [puts_len, len_fixS]; exact l) fun k => ?_
  by_cases hk : k < n
  · have e : List.range n = List.range k ++ k :: (List.range (n - k - 1)).map (fun j => k + 1 + j) := by
      rw [show n = k + (1 + (n - k - 1)) by omega, List.range_add, List.range_add]
      simp only [List.map_append, List.map_map]
      rw [show k + (1 + (n - k - 1)) - k - 1 = n - k - 1 by omega]
      simp [List.range_succ]
      intro a _
      omega
    have out : ∀ p, p ∈ ((List.range (n - k - 1)).map (fun j => k + 1 + j)).flatMap (frc I s) → p.1 ≠ k := fun p hp => by
      obtain ⟨j, hj, h⟩ := List.mem_flatMap.mp hp
      obtain ⟨i, _, rfl⟩ := List.mem_map.mp hj
      obtain ⟨c, _, rfl⟩ := List.mem_map.mp h
      show k + 1 + i ≠ k
      omega
    have before : ∀ p, p ∈ (List.range k).flatMap (frc I s) → p.1 ≠ k := fun p hp => by
      obtain ⟨j, hj, h⟩ := List.mem_flatMap.mp hp
      obtain ⟨c, _, rfl⟩ := List.mem_map.mp h
      have := List.mem_range.mp hj
      show j ≠ k
      omega
    rw [e, List.flatMap_append, List.foldl_append, List.flatMap_cons, List.foldl_append, puts_get _ _ out]
    have e0 : (((List.range k).flatMap (frc I s)).foldl (put1 s) s).getD k none = s.getD k none := puts_get _ _ before
    have l0 : (((List.range k).flatMap (frc I s)).foldl (put1 s) s).length = s.length := puts_len _ _
    generalize ((List.range k).flatMap (frc I s)).foldl (put1 s) s = t at e0 l0 ⊢
    rw [frc_is, show (fixS I n s).getD k none = _ from map_get hk]
    have set_ : ∀ c, (put1 s t (k, c)).getD k none = if (s.getD k none).isNone = true then some c else s.getD k none := fun c => by
      unfold put1
      split
      · rw [List.getD_eq_getElem?_getD, List.getElem?_set_self (by omega)]; rfl
      · exact e0
    cases q : s.getD k none with
    | some c =>
      rw [q] at e0
      dsimp only
      split
      · rw [List.foldl_cons, List.foldl_nil, set_, q]; rfl
      · split
        · rw [List.foldl_cons, List.foldl_nil, set_, q]; rfl
        · exact e0
    | none =>
      rw [q] at e0
      dsimp only
      split
      · rw [List.foldl_cons, List.foldl_nil, set_, q]; rfl
      · split
        · rw [List.foldl_cons, List.foldl_nil, set_, q]; rfl
        · exact e0
  · rw [show (fixS I n s).getD k none = none from map_get' hk, List.getD_eq_getElem?_getD, List.getElem?_eq_none (by rw [puts_len]; omega)]
    rfl
theorem put_step {net : List Rule} {u : Sp} (hu : u.length = net.length) (hn : net.length ≤ 8) (f : D → D → R D)
    (hf : ∀ (k : Nat) (c : Bool) (t : Sp), f (frcD (k, c)) (.str (spS t)) = (qD (gIx (.str (spS u)) (.int (k : Int)))).bind fun x => (qB (RL.gEq x (.str (spS [none])))).bind fun x => if x = true then (p_with_sign (.str (spS t)) (.int (k : Int)) (.str (bitS [c]))).bind fun x => .ok x else .ok (.str (spS t))) :
    qFor f (((List.range net.length).flatMap (frc (netI net) u)).map frcD) (.str (spS u)) = .ok (.str (spS (fixS (netI net) net.length u))) := by
  rw [← puts_fix hu]
  refine qFor_map (f := f) (l := (List.range net.length).flatMap (frc (netI net) u)) frcD (fun p => PyData.str (spS (p.foldl (put1 u) u))) fun p q hp => ?_
  obtain ⟨k, c⟩ := q
  have hk : k < net.length := by
    obtain ⟨j, hj, h⟩ := List.mem_flatMap.mp (pre_mem hp)
    obtain ⟨d, _, e⟩ := List.mem_map.mp h
    have e1 : j = k := congrArg Prod.fst e
    exact e1 ▸ List.mem_range.mp hj
  rw [hf, ix_sp (by omega)]
  walk_at "q"
  rw [star_eq]
  walk_at "q"
  rw [List.foldl_append]
  have lt : (p.foldl (put1 u) u).length = u.length := puts_len _ _
  generalize p.foldl (put1 u) u = t at lt ⊢
  show _ = R.ok (PyData.str (spS (put1 u t (k, c))))
  by_cases z : (u.getD k none).isNone = true
  · rw [if_pos z, with_sign_ok (by omega) (by omega), show put1 u t (k, c) = t.set k (some c) from if_pos z]
  · rw [if_neg z, show put1 u t (k, c) = t from if_neg z]
theorem perc_in_ok {net : List Rule} {s : Sp} (g : GoodNet net) (hs : s.length = net.length) : p_percolated_in (netD net) (.str (spS s)) = .ok (.str (spS (perc (netI net) net.length s))) := by
  have hn := g.2.1
  have h1 := g.1
  unfold p_percolated_in d_percolated_in
  dsimp only
  refine sat_eq (qWh_lt (n := 100000) (m := net.length + 2) (t := (PyData.str (spS s), PyData.str (Str.ofString ""))) (fun m t => (t = (.str (spS s), .str (spS [])) ∧ m = net.length + 2) ∨ ∃ u j, t = (.str (spS (fixS (netI net) net.length u)), .str (spS u)) ∧ m = net.length + 1 - cnt u ∧ u.length = net.length ∧ u = itr (fixS (netI net) net.length) j s)
    (fun m t h => ?loop) (by omega) (.inl ⟨rfl, rfl⟩)) fun t ⟨m, h, hc⟩ => ?fin
  case loop =>
    have body : ∀ (v b : Sp), v.length = net.length → (∃ j, v = itr (fixS (netI net) net.length) j s) → v ≠ b → net.length + 1 - cnt v < m →
        ((qB (gNe (PyData.str (spS v)) (.str (spS b)))).bind R.ok = R.ok true ∧ (((p_forced_in (netD net) (.str (spS v))).bind fun x_1 => (qX (iterD (.list x_1))).bind fun x_2 => (qFor (fun x_3 x_4 => (qT2 x_3).bind fun p => (qD (gIx (.str (spS v)) p.1)).bind fun x => (qB (RL.gEq x (.str (Str.ofString "*")))).bind fun x => if x = true then (p_with_sign x_4 p.1 p.2).bind fun x => R.ok x else R.ok x_4) x_2 (.str (spS v))).bind fun x_3 => R.ok (x_3, PyData.str (spS v))).Sat fun t1 => ∃ m1, m1 < m ∧ ((t1 = (.str (spS s), .str (spS [])) ∧ m1 = net.length + 2) ∨ ∃ u j, t1 = (.str (spS (fixS (netI net) net.length u)), .str (spS u)) ∧ m1 = net.length + 1 - cnt u ∧ u.length = net.length ∧ u = itr (fixS (netI net) net.length) j s))) := fun v b lv ⟨j, ej⟩ ne lt => by
      refine ⟨by rw [ne_sp, decide_eq_false ne]; rfl, ?_⟩
      rw [forced_ok g lv]
      walk_at "q"
      rw [put_step lv hn _ fun k c t => by
        unfold frcD
        walk_at "q"
        rw [← star_sp]]
      exact .ok ⟨_, lt, .inr ⟨v, j, rfl, rfl, lv, ej⟩⟩
    rcases h with ⟨e, em⟩ | ⟨u, j, e, em, lu, eu⟩
    · subst e
      exact .inr (body s [] hs ⟨0, rfl⟩ (by intro z; rw [z] at hs; simp at hs; omega) (by omega))
    · subst e
      by_cases z : fixS (netI net) net.length u = u
      · refine .inl ?_
        dsimp only
        rw [ne_sp, decide_eq_true z]
        rfl
      · have c1 := fix_cnt lu z
        have c2 := cnt_le (s := fixS (netI net) net.length u)
        rw [len_fixS] at c2
        exact .inr (body _ u len_fixS ⟨j + 1, by rw [itr_succ, ← eu]⟩ z (by omega))
  case fin =>
    rcases h with ⟨e, em⟩ | ⟨u, j, e, em, lu, eu⟩
    · subst e
      dsimp only at hc
      rw [ne_sp, decide_eq_false (by intro z; rw [z] at hs; simp at hs; omega)] at hc
      injection hc with hc; cases hc
    · subst e
      dsimp only at hc ⊢
      rw [ne_sp, qB_some, R.bind_ok] at hc
      have z : fixS (netI net) net.length u = u := by
        apply Classical.byContradiction
        intro z
        rw [decide_eq_false z] at hc
        injection hc with hc; cases hc
      have e2 : u = perc (netI net) net.length s := by
        rw [eu] at z ⊢
        exact itr_eq z (fix_end hs).1
      rw [z, e2]
end K17

namespace K17
theorem shaped_natL {l : List Nat} : SeqAt.shaped (.list (natL l)) = true := shaped_list fun d hd => by
  obtain ⟨i, _, rfl⟩ := List.mem_map.mp hd
  exact flat_int
theorem isEmpty_filter {α : Type} {p : α → Bool} {l : List α} : (l.filter p).isEmpty = l.all fun a => !p a := by
  rw [Bool.eq_iff_iff, List.isEmpty_iff, List.all_eq_true, List.filter_eq_nil_iff]
  constructor
  · intro h a ha; simpa using h a ha
  · intro h a ha; simpa using h a ha
/-- the places where a fixed sign is another one: none -/
theorem clash_ok {s t : Sp} {n : Nat} (hs : s.length = n) (ht : t.length = n) (hn : n ≤ 8) (f : D → R (Option D))
    (hf : ∀ k : Nat, k < n → f (.int (k : Int)) = .ok (if (t.getD k none).isSome && !decide (t.getD k none = s.getD k none) then some (.int (k : Int)) else none)) :
    (qG (small (natL (List.range n))) ((qLc f (natL (List.range n))).bind fun x => (qB (RL.gEq (.list x) (.list []))).bind fun x => R.ok (PyData.bool x))) = .ok (.bool (subB s t)) := by
  have key := qLc_filter (f := f) (l := List.range n) (fun (k : Nat) => PyData.int (k : Int)) (fun k => (t.getD k none).isSome && !decide (t.getD k none = s.getD k none)) (fun k => .int (k : Int)) fun k hk => hf k (List.mem_range.mp hk)
  rw [qG_of (rng_small (by omega)), natL_def, key]
  walk_at "q"
  rw [← natL_def, eq_nilI shaped_natL]
  walk_at "q"
  congr 2
  rw [natL_def, List.isEmpty_map, isEmpty_filter]
  unfold subB
  rw [ht]
  congr 1
  funext k
  cases t.getD k none <;> simp
theorem ne_os {o p : Option Bool} : RL.gNe (.str (spS [o])) (.str (spS [p])) = some (.v (.bool (!decide (o = p)))) := by
  rw [ne_sp]
  congr 3
  rw [Bool.eq_iff_iff]
  simp
theorem within_ok {s t : Sp} {n : Nat} (hs : s.length = n) (ht : t.length = n) (hn : n ≤ 8) : p__law_within (.str (spS s)) (.str (spS t)) = .ok (.bool (subB s t)) := by
  unfold p__law_within d__law_within
  dsimp only
  rw [len_sp, qD_some, R.bind_ok, VR_v, hs, rng_nat (by omega), qX_some, R.bind_ok]
  refine clash_ok hs ht hn _ fun k hk => ?_
  rw [ix_sp (by omega), ix_sp (by omega)]
  walk_at "q"
  rw [star_sp, star_ne]
  walk_at "q"
  cases e : (t.getD k none).isSome with
  | false => walk_at "q"
  | true =>
    walk_at "q"
    rw [ne_os]
    walk_at "q"
    cases decide (t.getD k none = s.getD k none) <;> rfl
theorem some_getD {w : List Bool} {k : Nat} (h : k < w.length) : (w.map some).getD k none = some (w.getD k false) := by
  rw [List.getD_eq_getElem?_getD, List.getD_eq_getElem?_getD, List.getElem?_map, List.getElem?_eq_getElem h]
  rfl
theorem agr_map {w : List Bool} {s : Sp} (h : w.length = s.length) : subB (w.map some) s = agr w s := by
  rw [Bool.eq_iff_iff, subB_iff, agr_iff]
  constructor
  · intro a
    refine ⟨h, fun k c e => ?_⟩
    have := a k c e
    rw [some_getD (by have := lt_of_some e; omega)] at this
    exact Option.some.inj this
  · rintro ⟨_, a⟩ k c e
    rw [some_getD (by have := lt_of_some e; omega), a k c e]
theorem in_ok {w : List Bool} {s : Sp} {n : Nat} (hw : w.length = n) (hs : s.length = n) (hn : n ≤ 8) : p__law_in (.str (bitS w)) (.str (spS s)) = .ok (.bool (agr w s)) := by
  rw [← agr_map (hw.trans hs.symm)]
  have hw' : (w.map some).length = n := by rw [List.length_map]; exact hw
  unfold p__law_in d__law_in
  dsimp only
  rw [len_sp, qD_some, R.bind_ok, VR_v, hs, rng_nat (by omega), qX_some, R.bind_ok]
  refine clash_ok hw' hs hn _ fun k hk => ?_
  rw [bit_sp, ix_sp (by omega), ix_sp (by omega)]
  walk_at "q"
  rw [star_sp, star_ne]
  walk_at "q"
  cases e : (s.getD k none).isSome with
  | false => walk_at "q"
  | true =>
    walk_at "q"
    rw [ne_os]
    walk_at "q"
    cases decide (s.getD k none = (w.map some).getD k none) <;> rfl
/-- the states of a space, as the law tells them -/
def sts (s : Sp) : List (List Bool) := (wordsB s.length).filter fun w => agr w s
theorem sts_mem {s : Sp} {w : List Bool} : w ∈ sts s ↔ agr w s = true := by
  unfold sts
  rw [List.mem_filter, words_mem]
  exact ⟨fun h => h.2, fun h => ⟨agr_len h, h⟩⟩
theorem sts_len {s : Sp} : (sts s).length ≤ 2 ^ s.length := by
  have := List.length_filter_le (fun w => agr w s) (wordsB s.length)
  rw [words_len] at this
  exact this
theorem sts_few {s : Sp} (h : s.length ≤ 8) : (sts s).length ≤ 256 := Nat.le_trans sts_len (Nat.pow_le_pow_right (by decide) h)
theorem lstates_ok {s : Sp} (h : s.length ≤ 8) : p__law_states_in (.str (spS s)) = .ok (strL (sts s)) := by
  unfold p__law_states_in d__law_states_in
  dsimp only
  rw [len_sp]
  walk_at "q"
  rw [words_ok h]
  walk_at "q"
  have key := fun f hf => qLc_filter (f := f) (l := wordsB s.length) (fun w => PyData.str (bitS w)) (fun w => agr w s) (fun w => .str (bitS w)) hf
  have few : 2 ^ s.length ≤ 2 ^ 8 := Nat.pow_le_pow_right (by decide) h
  rw [qG_of (small_of (by rw [strL_length, words_len]; omega)), strL_def, key _ fun w hw => by
    rw [in_ok (words_mem.mp hw) rfl h]
    walk_at "q"
    split <;> rfl]
  rfl
theorem sall_sts {s : Sp} {p : List Bool → Bool} : (sts s).all p = (stS s).all p := by
  rw [Bool.eq_iff_iff, List.all_eq_true, List.all_eq_true]
  exact ⟨fun h w hw => h w (sts_mem.mpr (stS_mem.mp hw)), fun h w hw => h w (stS_mem.mpr (sts_mem.mp hw))⟩
theorem spaces_in {L : List Sp} (hl : L.length ≤ 100000) (hw : ∀ w ∈ L, w.length ≤ 8) (f : D → List D → R (List D))
    (hf : ∀ (w : Sp) (A : List D), f (.str (spS w)) A = qG (small [PyData.str (spS [none]), .str (spS [some false]), .str (spS [some true])]) ((qLc (fun y => (qD (gAdd (.str (spS w)) y)).bind fun z => .ok (some z)) [PyData.str (spS [none]), .str (spS [some false]), .str (spS [some true])]).bind fun x => qG (decide (A.length + x.length ≤ sizeLine)) (.ok (A ++ x)))) :
    qFor f (spL L) [] = .ok (spL (L.flatMap fun w => [w ++ [none], w ++ [some false], w ++ [some true]])) := by
  refine qFor_map (f := f) (l := L) (fun w => PyData.str (spS w)) (fun p => spL (p.flatMap fun w => [w ++ [none], w ++ [some false], w ++ [some true]])) fun p w hp => ?_
  have h1 := hw w (pre_mem hp)
  have hl2 := pre_len hp
  have key := fun f hf => qLc_map (f := f) (l := [none, some false, some true]) (fun (o : Option Bool) => PyData.str (spS [o])) (fun o => .str (spS (w ++ [o]))) hf
  rw [hf, qG_of (by rfl), show [PyData.str (spS [none]), .str (spS [some false]), .str (spS [some true])] = [none, some false, some true].map fun (o : Option Bool) => PyData.str (spS [o]) from rfl, key _ fun o _ => by
    rw [add_sp (by simp only [List.length_cons, List.length_nil]; omega)]
    walk_at "q"]
  walk_at "q"
  have hlen : (spL (p.flatMap fun w => [w ++ [none], w ++ [some false], w ++ [some true]])).length = 3 * p.length := by
    rw [spL_length]
    clear hl2 hp
    induction p with
    | nil => rfl
    | cons a p ih => rw [List.flatMap_cons, List.length_append, ih, List.length_cons]; simp only [List.length_cons, List.length_nil]; omega
  rw [qG_of]
  · rw [List.flatMap_append]
    unfold spL
    rw [List.map_append]
    rfl
  · rw [decide_eq_true]
    have : 400000 ≤ sizeLine := by decide
    rw [hlen]
    simp only [List.length_cons, List.length_nil]
    omega
theorem spcs_few {n : Nat} (h : n ≤ 8) : (spcs n).length ≤ 6561 := by
  rw [spcs_len]
  exact Nat.pow_le_pow_right (n := 3) (by decide) h
theorem spaces_ok {n : Nat} (hn : n ≤ 8) : p__law_spaces (.int (n : Int)) = .ok (.list (spL (spcs n))) := by
  unfold p__law_spaces d__law_spaces
  dsimp only
  rw [rng_nat (by omega)]
  walk_at "q"
  have key := fun f hf => qFor_map (f := f) (l := List.range n) (fun (i : Nat) => PyData.int (i : Int)) (fun p => PyData.list (spL (spcs p.length))) hf
  rw [show PyData.list [PyData.str (bitS [])] = PyData.list (spL (spcs ([] : List Nat).length)) from rfl, natL_def, key _ fun p a hp => by
    have hl := pre_len hp
    rw [List.length_range] at hl
    walk_at "q"
    rw [spaces_in (Nat.le_trans (spcs_few (n := p.length) (by omega)) (by decide)) (fun w hw => by rw [spcs_mem.mp hw]; omega) _ fun w A => by
      rw [star_sp, ← sp1, ← sp1]]
    walk_at "q"
    rw [List.length_append]
    rfl]
  rw [List.length_range]
end K17

namespace K17
theorem find_bind {α ρ β : Type} {f : D → Unit → R (Lp Unit ρ)} {F : Lp Unit ρ → R β} (g : α → D) (c : α → Bool) (Y : ρ → Prop) (Post : R β → Prop) {l : List α}
    (h : ∀ a ∈ l, (f (g a) ()).Sat fun x => (c a = true ∧ ∃ y, x = .rt y ∧ Y y) ∨ (c a = false ∧ x = .go ())) (k1 : l.any c = false → Post (F (.go ()))) (k2 : l.any c = true → ∀ y, Y y → Post (F (.rt y))) : Post ((qForF f (l.map g) ()).bind F) := by
  induction l with
  | nil => exact k1 rfl
  | cons a l ih =>
    obtain ⟨x, e, z⟩ := h a (.head _)
    rw [List.map_cons]
    unfold qForF
    rw [e]
    rcases z with ⟨z, y, rfl, hy⟩ | ⟨z, rfl⟩
    · exact k2 (by rw [List.any_cons, z]; rfl) y hy
    · exact ih (fun b hb => h b (.tail _ hb)) (fun q => k1 (by rw [List.any_cons, z, q]; rfl)) fun q => k2 (by rw [List.any_cons, z, q]; rfl)
theorem leave_all {I : Nat → List Bool → Bool} {s : Sp} {n : Nat} (l : s.length = n) : ((sts s).any fun w => (List.range n).any fun k => (s.getD k none).isSome && !decide (some (I k w) = s.getD k none)) = !trapB I n s := by
  rw [Bool.eq_iff_iff, Bool.not_eq_true', ← Bool.not_eq_true, trap_iff l, List.any_eq_true]
  constructor
  · rintro ⟨w, hw, h⟩ tr
    obtain ⟨k, hk, z⟩ := List.any_eq_true.mp h
    rw [Bool.and_eq_true, Bool.not_eq_true', decide_eq_false_iff_not] at z
    obtain ⟨c, e⟩ := Option.isSome_iff_exists.mp z.1
    refine z.2 ?_
    rw [e, gS_iff.mp (tr k c e) w (sts_mem.mp hw)]
  · intro h
    apply Classical.byContradiction
    intro n2
    refine h fun k c e => gS_iff.mpr fun w a => ?_
    apply Classical.byContradiction
    intro q
    refine n2 ⟨w, sts_mem.mpr a, List.any_eq_true.mpr ⟨k, List.mem_range.mpr (l ▸ lt_of_some e), ?_⟩⟩
    rw [e, Bool.and_eq_true, Bool.not_eq_true', decide_eq_false_iff_not]
    exact ⟨rfl, fun z => q (Option.some.inj z)⟩
theorem leaving_ok {net : List Rule} {s : Sp} (g : GoodNet net) (hs : s.length = net.length) : ∃ d, p__law_leaving (netD net) (.str (spS s)) = .ok d ∧ gIs d .none = some (.v (.bool (trapB (netI net) net.length s))) := by
  have hn := g.2.1
  unfold p__law_leaving d__law_leaving
  dsimp only
  rw [lstates_ok (by omega)]
  walk_at "q"
  rw [strL_def]
  have all := leave_all (I := netI net) hs
  refine find_bind (fun w => PyData.str (bitS w)) (fun w => (List.range net.length).any fun k => (s.getD k none).isSome && !decide (some (netI net k w) = s.getD k none)) (fun y => ∃ a b, y = PyData.tuple [a, b])
    (fun r => ∃ d, r = .ok d ∧ gIs d .none = some (.v (.bool (trapB (netI net) net.length s)))) (fun w hw => ?_) (fun q => ?_) fun q y ⟨a, b, ey⟩ => ?_
  · have lw : w.length = net.length := (agr_len (sts_mem.mp hw)).trans hs
    rw [limage_ok (by omega) fun r hr => by rw [lw]; exact g.2.2 r hr, R.bind_ok, rng_nat (by omega), qX_some, R.bind_ok, natL_def]
    refine find_bind (fun (k : Nat) => PyData.int (k : Int)) (fun k => (s.getD k none).isSome && !decide (some (netI net k w) = s.getD k none)) (fun y => ∃ a b, y = Lp.rt (PyData.tuple [a, b])) (fun r => r.Sat _) (fun k hk => ?_) (fun q => ?_) fun q y ⟨a, b, ey⟩ => ?_
    · have hk' := List.mem_range.mp hk
      rw [ix_sp (by omega)]
      walk_at "q"
      rw [star_sp, star_ne]
      walk_at "q"
      cases e : (s.getD k none).isSome with
      | false =>
        walk_at "q"
        exact .ok (.inr ⟨by simp, rfl⟩)
      | true =>
        walk_at "q"
        rw [ix_bit (by rw [imgs_len]; omega), imgs_at (rule_at hk')]
        walk_at "q"
        rw [← sp1, ne_os]
        walk_at "q"
        cases decide (some (img (net.getD k ([], [])) w) = s.getD k none) with
        | true => exact .ok (.inr ⟨by simp, rfl⟩)
        | false => exact .ok (.inl ⟨by simp, _, rfl, _, _, rfl⟩)
    · exact .ok (.inr ⟨q, rfl⟩)
    · subst ey
      exact .ok (.inl ⟨q, _, rfl, a, b, rfl⟩)
  · rw [q] at all
    refine ⟨_, rfl, ?_⟩
    have : trapB (netI net) net.length s = true := by
      cases z : trapB (netI net) net.length s with
      | true => rfl
      | false => rw [z] at all; cases all
    rw [this]; rfl
  · rw [q] at all
    subst ey
    refine ⟨_, rfl, ?_⟩
    have : trapB (netI net) net.length s = false := by
      cases z : trapB (netI net) net.length s with
      | false => rfl
      | true => rw [z] at all; cases all
    rw [this]; rfl
abbrev trapsL (net : List Rule) : List Sp := (spcs net.length).filter (trapB (netI net) net.length)
theorem traps_mem {net : List Rule} {s : Sp} : s ∈ trapsL net ↔ s.length = net.length ∧ trapB (netI net) net.length s = true := by
  rw [List.mem_filter, spcs_mem]
theorem traps_few {net : List Rule} (g : GoodNet net) : (trapsL net).length ≤ 6561 := Nat.le_trans (List.length_filter_le _ _) (spcs_few g.2.1)
theorem laround_ok {net : List Rule} {s : Sp} (g : GoodNet net) (hs : s.length = net.length) (N : D) : p__law_around N (.list (spL (trapsL net))) (.str (spS s)) = .ok (.str (spS (arnd (netI net) net.length s))) := by
  have hn := g.2.1
  have few := traps_few g
  unfold p__law_around d__law_around
  dsimp only
  walk_at "q"
  have key := fun f hf => qLc_filter (f := f) (l := trapsL net) (fun t => PyData.str (spS t)) (subB s) (fun t => .str (spS t)) hf
  rw [qG_of (small_of (by rw [spL_length]; omega)), spL_def, key _ fun t ht => by
    rw [within_ok hs (traps_mem.mp ht).1 hn]
    walk_at "q"
    split <;> rfl]
  walk_at "q"
  have few2 : ((trapsL net).filter (subB s)).length ≤ 6561 := Nat.le_trans (List.length_filter_le _ _) few
  have key2 := fun f hf => qLc_filter (f := f) (l := (trapsL net).filter (subB s)) (fun t => PyData.str (spS t)) (fun one => ((trapsL net).filter (subB s)).all (subB one)) (fun t => .str (spS t)) hf
  rw [qG_of (small_of (by rw [List.length_map]; omega)), key2 _ fun t ht => by
    have lt := (traps_mem.mp (List.mem_filter.mp ht).1).1
    have key3 := fun f hf => qLc_filter (f := f) (l := (trapsL net).filter (subB s)) (fun t => PyData.str (spS t)) (fun o => !subB t o) (fun t => .str (spS t)) hf
    rw [qG_of (small_of (by rw [List.length_map]; omega)), key3 _ fun o ho => by
      rw [within_ok lt (traps_mem.mp (List.mem_filter.mp ho).1).1 hn]
      walk_at "q"
      cases subB t o <;> rfl]
    walk_at "q"
    rw [← spL_def, eq_nilI spL_shaped, spL_isEmpty, isEmpty_filter]
    walk_at "q"
    simp only [Bool.not_not]
    split <;> rfl]
  obtain ⟨r, e⟩ := least_of (I := netI net) hs
  rw [e]
  walk_at "q"
  rw [List.map_cons, ixl0]
  walk_at "q"
end K17

namespace K17
def b1 (b : Bool) : Str := bitS [b]
def sb (bs : List Bool) : List Bool := [false, true].filter fun c => decide (c ∈ bs)
theorem ins_tab : insT (b1 false) [] = [b1 false] ∧ insT (b1 true) [] = [b1 true] ∧ insT (b1 false) [b1 false] = [b1 false] ∧ insT (b1 true) [b1 true] = [b1 true] ∧ insT (b1 false) [b1 true] = [b1 false, b1 true] ∧ insT (b1 true) [b1 false] = [b1 false, b1 true] ∧
    insT (b1 false) [b1 false, b1 true] = [b1 false, b1 true] ∧ insT (b1 true) [b1 false, b1 true] = [b1 false, b1 true] := by decide +kernel
theorem ssort_bits : ∀ bs : List Bool, ssort (bs.map b1) = (sb bs).map b1
  | [] => rfl
  | b :: bs => by
    show insT (b1 b) (ssort (bs.map b1)) = _
    rw [ssort_bits bs]
    obtain ⟨t1, t2, t3, t4, t5, t6, t7, t8⟩ := ins_tab
    unfold sb
    cases b <;> by_cases hf : false ∈ bs <;> by_cases ht : true ∈ bs <;> simp [List.filter_cons, hf, ht, t1, t2, t3, t4, t5, t6, t7, t8]
theorem txs_bits : ∀ bs : List Bool, txsOf (bs.map fun b => .str (bitS [b])) = some (bs.map b1)
  | [] => rfl
  | b :: bs => by
    rw [List.map_cons]
    unfold txsOf
    rw [txs_bits bs]
    rfl
theorem sortset_bits {bs : List Bool} (h : bs.length ≤ 62) : g1 gSortSet [.list (bs.map fun b => .str (bitS [b]))] = some (.fl ((sb bs).map fun b => .str (bitS [b]))) := by
  show gSortSet (.list (bs.map fun b => .str (bitS [b]))) = _
  unfold gSortSet
  dsimp only
  rw [txs_bits]
  dsimp only
  rw [if_pos (by rw [List.length_map]; exact h), ssort_bits, List.map_map]
  rfl
/-- a switch's next sign -/
def newV (s : Sp) (bs : List Bool) (k : Nat) : Option Bool := if (s.getD k none).isNone = true ∧ (sb bs).length = 1 then some ((sb bs).getD 0 false) else s.getD k none
theorem newV_one {s : Sp} {L : List Bool} {k : Nat} {b : Bool} (h : (s.getD k none).isNone = true) (e : sb L = [b]) : newV s L k = some b := by
  unfold newV
  rw [if_pos ⟨h, by rw [e]; rfl⟩, e]
  rfl
theorem newV_two {s : Sp} {L : List Bool} {k : Nat} (e : ¬ (sb L).length = 1) : newV s L k = s.getD k none := if_neg fun h => e h.2
theorem newV_fix {s : Sp} {L : List Bool} {k : Nat} (h : (s.getD k none).isNone = false) : newV s L k = s.getD k none := if_neg fun z => by rw [h] at z; cases z.1
theorem new_fix {I : Nat → List Bool → Bool} {s : Sp} {n : Nat} (l : s.length = n) : ((List.range n).map fun k => newV s ((sts s).map (I k)) k) = fixS I n s := by
  unfold fixS
  refine List.map_congr_left fun k hk => ?_
  unfold newV
  cases e : s.getD k none with
  | some c => rw [if_neg (by rintro ⟨h, _⟩; cases h)]
  | none =>
    dsimp only
    have ne : ∃ w, w ∈ sts s := ⟨_, sts_mem.mpr (agr_some s)⟩
    have g0 : ∀ c, gS I s k c = true ↔ ∀ w ∈ sts s, I k w = c := fun c => by
      rw [gS_iff]
      exact ⟨fun h w hw => h w (sts_mem.mp hw), fun h w hw => h w (sts_mem.mpr hw)⟩
    have m0 : ∀ c, c ∈ (sts s).map (I k) ↔ gS I s k (!c) ≠ true := fun c => by
      rw [Ne, g0, List.mem_map]
      constructor
      · rintro ⟨w, hw, q⟩ h
        rw [h w hw] at q
        cases c <;> cases q
      · intro h
        apply Classical.byContradiction
        intro n2
        refine h fun w hw => ?_
        cases q : I k w <;> cases c <;> first | rfl | exact absurd ⟨w, hw, q⟩ n2
    unfold sb
    cases q0 : gS I s k false with
    | true =>
      have q1 := not_both q0
      have a0 : false ∈ (sts s).map (I k) := (m0 false).mpr (by simp [q1])
      have a1 : ¬ true ∈ (sts s).map (I k) := fun z => (m0 true).mp z q0
      simp only [List.filter_cons, a0, a1, decide_true, decide_false, if_true, if_false, List.filter_nil, Bool.false_eq_true]
      rfl
    | false =>
      have a1 : true ∈ (sts s).map (I k) := (m0 true).mpr (by simp [q0])
      cases q1 : gS I s k true with
      | true =>
        have a0 : ¬ false ∈ (sts s).map (I k) := fun z => (m0 false).mp z q1
        simp only [List.filter_cons, a0, a1, decide_true, decide_false, if_true, if_false, List.filter_nil, Bool.false_eq_true]
        rfl
      | false =>
        have a0 : false ∈ (sts s).map (I k) := (m0 false).mpr (by simp [q1])
        simp only [List.filter_cons, a0, a1, decide_true, decide_false, if_true, if_false, List.filter_nil, Bool.false_eq_true]
        rfl
theorem sb_len {bs : List Bool} : (sb bs).length ≤ 2 := List.length_filter_le _ _
theorem lperc_ok {net : List Rule} {s : Sp} (g : GoodNet net) (h5 : net.length ≤ 5) (hs : s.length = net.length) : p__law_percolated (netD net) (.str (spS s)) = .ok (.str (spS (perc (netI net) net.length s))) := by
  have hn := g.2.1
  unfold p__law_percolated d__law_percolated
  dsimp only
  rw [net_len, qD_some, R.bind_ok, VR_v, rng_nat (by omega), qX_some, R.bind_ok, R.bind_okr']
  have key := fun f hf => qFor_map (f := f) (l := List.range net.length) (fun (i : Nat) => PyData.int (i : Int)) (fun p => PyData.str (spS (itr (fixS (netI net) net.length) p.length s))) hf
  rw [show PyData.str (spS s) = PyData.str (spS (itr (fixS (netI net) net.length) ([] : List Nat).length s)) from rfl, natL_def, key _ fun p a hp => by
    have lu : (itr (fixS (netI net) net.length) p.length s).length = net.length := itr_all (P := fun t : Sp => t.length = net.length) (fun _ _ => len_fixS) _ hs
    rw [List.length_append, List.length_singleton, itr_succ]
    generalize itr (fixS (netI net) net.length) p.length s = u at lu ⊢
    have few : (sts u).length ≤ 32 := Nat.le_trans sts_len (show 2 ^ u.length ≤ 2 ^ 5 from Nat.pow_le_pow_right (by decide) (by omega))
    have lw : ∀ w ∈ sts u, w.length = net.length := fun w hw => (agr_len (sts_mem.mp hw)).trans lu
    rw [lstates_ok (by omega)]
    walk_at "q"
    have k1 := fun f hf => qLc_map (f := f) (l := sts u) (fun w => PyData.str (bitS w)) (fun w => .str (bitS (imgs net w))) hf
    rw [qG_of (small_of (by rw [strL_length]; omega)), strL_def, k1 _ fun w hw => by
      rw [limage_ok (by omega) fun r hr => by rw [lw w hw]; exact g.2.2 r hr]
      walk_at "q"]
    walk_at "q"
    have k2 := fun f hf => qLc_map (f := f) (l := List.range net.length) (fun (k : Nat) => PyData.int (k : Int)) (fun k => .list ((sb ((sts u).map (netI net k))).map fun b => .str (bitS [b]))) hf
    rw [rng_nat (by omega), qX_some, R.bind_ok, qG_of (rng_small (n := net.length) (by omega)), natL_def, k2 _ fun k hk => by
      have hk' := List.mem_range.mp hk
      have k3 := fun f hf => qLc_map (f := f) (l := sts u) (fun w => PyData.str (bitS (imgs net w))) (fun w => .str (bitS [netI net k w])) hf
      rw [qG_of (small_of (by rw [List.length_map]; omega)), k3 _ fun w hw => by
        rw [ix_bit (by rw [imgs_len]; omega), imgs_at (rule_at hk')]
        walk_at "q"]
      walk_at "q"
      rw [show ((sts u).map fun w => PyData.str (bitS [netI net k w])) = ((sts u).map (netI net k)).map fun b => .str (bitS [b]) by rw [List.map_map]; rfl, sortset_bits (by rw [List.length_map]; omega)]
      walk_at "q"]
    walk_at "q"
    rw [qG_of (by rfl), ← natL_def, qG_of (rng_small (n := net.length) (by omega)), natL_def]
    have k4 := fun f hf => qLc_map (f := f) (l := List.range net.length) (fun (k : Nat) => PyData.int (k : Int)) (fun k => .str (spS [newV u ((sts u).map (netI net k)) k])) hf
    rw [k4 _ fun k hk => by
      have hk' := List.mem_range.mp hk
      have at_ : ((List.range net.length).map fun k => PyData.list ((sb ((sts u).map (netI net k))).map fun b => .str (bitS [b])))[k]? = some (PyData.list ((sb ((sts u).map (netI net k))).map fun b => .str (bitS [b]))) := by
        rw [List.getElem?_map, List.getElem?_range hk']; rfl
      rw [ix_sp (by omega)]
      walk_at "q"
      rw [star_sp, star_eq]
      walk_at "q"
      cases e : (u.getD k none).isNone with
      | false =>
        walk_at "q"
        rw [newV_fix e]
      | true =>
        walk_at "q"
        rw [ix_list at_]
        walk_at "q"
        by_cases z : (sb ((sts u).map (netI net k))).length = 1
        · obtain ⟨b, eb⟩ := List.length_eq_one_iff.mp z
          rw [newV_one e eb, decide_eq_true (by omega), eb]
          walk_at "q"
          rw [List.map_cons, ixl0]
          walk_at "q"
          rw [sp1]
        · rw [newV_two z, decide_eq_false (by omega)]
          walk_at "q"]
    walk_at "q"
    rw [join_map _ (by omega), new_fix lu]
    walk_at "q"]
  rw [List.length_range]
end K17

namespace K17
theorem s_aa : RL.gEq (.str ("around" : Str)) (.str ("around" : Str)) = some (.v (.bool true)) := by kernel_rfl
theorem s_pa : RL.gEq (.str ("percolated" : Str)) (.str ("around" : Str)) = some (.v (.bool false)) := by kernel_rfl
theorem s_pp : RL.gEq (.str ("percolated" : Str)) (.str ("percolated" : Str)) = some (.v (.bool true)) := by kernel_rfl
theorem s_oa : RL.gEq (.str ("of" : Str)) (.str ("around" : Str)) = some (.v (.bool false)) := by kernel_rfl
theorem s_op : RL.gEq (.str ("of" : Str)) (.str ("percolated" : Str)) = some (.v (.bool false)) := by kernel_rfl
theorem in_net : decide (("InvalidNetwork" : Str) ∈ errs) = true := by kernel_rfl
theorem in_space : decide (("InvalidSpace" : Str) ∈ errs) = true := by kernel_rfl
theorem in_state : decide (("InvalidState" : Str) ∈ errs) = true := by kernel_rfl
theorem ne_sn : (("InvalidState" : Str) = ("InvalidNetwork" : Str)) = False := by
  have : ¬ (("InvalidState" : Str) = ("InvalidNetwork" : Str)) := by decide +kernel
  simp [this]
theorem ne_pn : (("InvalidSpace" : Str) = ("InvalidNetwork" : Str)) = False := by
  have : ¬ (("InvalidSpace" : Str) = ("InvalidNetwork" : Str)) := by decide +kernel
  simp [this]
theorem ne_sp2 : (("InvalidState" : Str) = ("InvalidSpace" : Str)) = False := by
  have : ¬ (("InvalidState" : Str) = ("InvalidSpace" : Str)) := by decide +kernel
  simp [this]
theorem look1 {d : D} : (List.zip [("given" : Str)] [d]).reverse.lookup ("given" : Str) = some d := by
  show List.lookup ("given" : Str) [(("given" : Str), d)] = some d
  simp
theorem asked_around {N s v : D} (b : Bool) (h : p_trap_around N s = .ok v) : p__law_asked (.str ("around" : Str)) N s (.bool b) = .ok [.str ("told" : Str), v] := by
  unfold p__law_asked d__law_asked
  dsimp only
  rw [s_aa, h]
  walk_at "q"
  cases b <;> walk_at "q"
theorem asked_perc {N s v : D} (b : Bool) (h : p_percolated N s = .ok v) : p__law_asked (.str ("percolated" : Str)) N s (.bool b) = .ok [.str ("told" : Str), v] := by
  unfold p__law_asked d__law_asked
  dsimp only
  rw [s_pa, s_pp, h]
  walk_at "q"
  cases b <;> walk_at "q"
theorem asked_of {N s v : D} (b : Bool) (h : p_trap_of N s = .ok v) : p__law_asked (.str ("of" : Str)) N s (.bool b) = .ok [.str ("told" : Str), v] := by
  unfold p__law_asked d__law_asked
  dsimp only
  rw [s_oa, s_op, h]
  walk_at "q"
  cases b <;> walk_at "q"
theorem raise_around {N s : D} (b : Bool) {c : Str} {v : D} {k : Str} (h : p_trap_around N s = .ex c (List.zip [("given" : Str)] [v]).reverse) (hc : (c = "InvalidNetwork" ∧ k = "net") ∨ (c = "InvalidSpace" ∧ k = "space")) : p__law_asked (.str ("around" : Str)) N s (.bool b) = .ok [.str k, v] := by
  unfold p__law_asked d__law_asked
  dsimp only
  rw [s_aa, h]
  rcases hc with ⟨rfl, rfl⟩ | ⟨rfl, rfl⟩ <;> cases b <;> walk_at "q" <;> simp only [R.bind_ex, qTry_ex, in_net, in_space, ne_pn, look1, if_true, if_false, qG_true, qX_some, R.bind_ok]
theorem raise_perc {N s : D} (b : Bool) {c : Str} {v : D} {k : Str} (h : p_percolated N s = .ex c (List.zip [("given" : Str)] [v]).reverse) (hc : (c = "InvalidNetwork" ∧ k = "net") ∨ (c = "InvalidSpace" ∧ k = "space")) : p__law_asked (.str ("percolated" : Str)) N s (.bool b) = .ok [.str k, v] := by
  unfold p__law_asked d__law_asked
  dsimp only
  rw [s_pa, s_pp, h]
  rcases hc with ⟨rfl, rfl⟩ | ⟨rfl, rfl⟩ <;> cases b <;> walk_at "q" <;> simp only [R.bind_ex, qTry_ex, in_net, in_space, ne_pn, look1, if_true, if_false, qG_true, qX_some, R.bind_ok]
theorem raise_of {N s : D} (b : Bool) {c : Str} {v : D} {k : Str} (h : p_trap_of N s = .ex c (List.zip [("given" : Str)] [v]).reverse) (hc : (c = "InvalidNetwork" ∧ k = "net") ∨ (c = "InvalidState" ∧ k = "state")) : p__law_asked (.str ("of" : Str)) N s (.bool b) = .ok [.str k, v] := by
  unfold p__law_asked d__law_asked
  dsimp only
  rw [s_oa, s_op, h]
  rcases hc with ⟨rfl, rfl⟩ | ⟨rfl, rfl⟩ <;> cases b <;> walk_at "q" <;> simp only [R.bind_ex, qTry_ex, in_net, in_state, ne_sn, ne_sp2, look1, if_true, if_false, qG_true, qX_some, R.bind_ok]
theorem no_check {N : D} (h : p_is_net_value N = .ok (.bool false)) : p_check_net N = .ex ("InvalidNetwork" : Str) (List.zip [("given" : Str)] [N]).reverse := by
  unfold p_check_net d_check_net
  dsimp only
  rw [h]
  walk_at "q"
theorem bad_asked {N s : D} (b : Bool) {w : Str} (hw : w = "around" ∨ w = "percolated" ∨ w = "of") (h : p_is_net_value N = .ok (.bool false)) : p__law_asked (.str w) N s (.bool b) = .ok [.str ("net" : Str), N] := by
  have hc := no_check h
  rcases hw with rfl | rfl | rfl
  · refine raise_around b ?_ (.inl ⟨rfl, rfl⟩)
    unfold p_trap_around d_trap_around
    dsimp only
    rw [hc]; rfl
  · refine raise_perc b ?_ (.inl ⟨rfl, rfl⟩)
    unfold p_percolated d_percolated
    dsimp only
    rw [hc]; rfl
  · refine raise_of b ?_ (.inl ⟨rfl, rfl⟩)
    unfold p_trap_of d_trap_of
    dsimp only
    rw [hc]; rfl
theorem no_space {net : List Rule} {s : D} (h : p_is_signs s (.int (net.length : Int)) (.str ("01*" : Str)) = .ok (.bool false)) : p_check_space (netD net) s = .ex ("InvalidSpace" : Str) (List.zip [("given" : Str)] [s]).reverse := by
  unfold p_check_space d_check_space
  dsimp only
  rw [net_len, qD_some, R.bind_ok, VR_v, h]
  walk_at "q"
theorem no_state {net : List Rule} {s : D} (h : p_is_signs s (.int (net.length : Int)) (.str ("01" : Str)) = .ok (.bool false)) : p_check_state (netD net) s = .ex ("InvalidState" : Str) (List.zip [("given" : Str)] [s]).reverse := by
  unfold p_check_state d_check_state
  dsimp only
  rw [net_len, qD_some, R.bind_ok, VR_v, h]
  walk_at "q"
theorem odd_around {net : List Rule} {s : D} (b : Bool) (g : GoodNet net) (h : p_is_signs s (.int (net.length : Int)) (.str ("01*" : Str)) = .ok (.bool false)) : p__law_asked (.str ("around" : Str)) (netD net) s (.bool b) = .ok [.str ("space" : Str), s] := by
  refine raise_around b ?_ (.inr ⟨rfl, rfl⟩)
  unfold p_trap_around d_trap_around
  dsimp only
  rw [check_net_ok g, no_space h]; rfl
theorem odd_perc {net : List Rule} {s : D} (b : Bool) (g : GoodNet net) (h : p_is_signs s (.int (net.length : Int)) (.str ("01*" : Str)) = .ok (.bool false)) : p__law_asked (.str ("percolated" : Str)) (netD net) s (.bool b) = .ok [.str ("space" : Str), s] := by
  refine raise_perc b ?_ (.inr ⟨rfl, rfl⟩)
  unfold p_percolated d_percolated
  dsimp only
  rw [check_net_ok g, no_space h]; rfl
theorem odd_of {net : List Rule} {s : D} (b : Bool) (g : GoodNet net) (h : p_is_signs s (.int (net.length : Int)) (.str ("01" : Str)) = .ok (.bool false)) : p__law_asked (.str ("of" : Str)) (netD net) s (.bool b) = .ok [.str ("state" : Str), s] := by
  refine raise_of b ?_ (.inr ⟨rfl, rfl⟩)
  unfold p_trap_of d_trap_of
  dsimp only
  rw [check_net_ok g, no_state h]; rfl
theorem space_signs {s : Sp} (hn : s.length < 1000) : p_is_signs (.str (spS s)) (.int (s.length : Int)) (.str ("01*" : Str)) = .ok (.bool true) := by
  unfold p_is_signs d_is_signs
  dsimp only
  walk_at "q"
  rw [len_sp]
  walk_at "q"
  rw [iter_sp]
  walk_at "q"
  have e := qLc_true (f := fun x => (qB (gIn x (.str ("01*" : Str)))).bind fun x => R.ok (some (PyData.bool x))) (l := s) (fun b => .str (spS [b])) (fun b _ => by
    rw [s01s_sp, in_sp, decide_eq_true (by rcases b with _ | _ | _ <;> simp)]
    rfl) (by omega)
  rw [qG_of (small_of (by rw [List.length_map]; omega)), ← R.bind_assoc, e]
  walk_at "q"
theorem check_space_ok {net : List Rule} {s : Sp} (h : s.length = net.length) (hn : net.length ≤ 8) : p_check_space (netD net) (.str (spS s)) = .ok .none := by
  unfold p_check_space d_check_space
  dsimp only
  rw [net_len]
  walk_at "q"
  rw [← h, space_signs (by omega)]
  walk_at "q"
theorem told_around {net : List Rule} {s : Sp} (g : GoodNet net) (hs : s.length = net.length) (b : Bool) : p__law_asked (.str ("around" : Str)) (netD net) (.str (spS s)) (.bool b) = .ok [.str ("told" : Str), .str (spS (arnd (netI net) net.length s))] := by
  refine asked_around b ?_
  unfold p_trap_around d_trap_around
  dsimp only
  rw [check_net_ok g, check_space_ok hs g.2.1, around_ok g hs]
  rfl
theorem told_perc {net : List Rule} {s : Sp} (g : GoodNet net) (hs : s.length = net.length) (b : Bool) : p__law_asked (.str ("percolated" : Str)) (netD net) (.str (spS s)) (.bool b) = .ok [.str ("told" : Str), .str (spS (perc (netI net) net.length s))] := by
  refine asked_perc b ?_
  unfold p_percolated d_percolated
  dsimp only
  rw [check_net_ok g, check_space_ok hs g.2.1, perc_in_ok g hs]
  rfl
theorem told_of {net : List Rule} {w : List Bool} (g : GoodNet net) (hs : w.length = net.length) (b : Bool) : p__law_asked (.str ("of" : Str)) (netD net) (.str (bitS w)) (.bool b) = .ok [.str ("told" : Str), .str (spS (arnd (netI net) net.length (w.map some)))] := by
  refine asked_of b ?_
  unfold p_trap_of d_trap_of
  dsimp only
  rw [check_net_ok g, check_state_ok hs g.2.1, bit_sp, around_ok g (by rw [List.length_map]; exact hs)]
  rfl
def badL : List D := [.none, .int 5, .str "01", .tuple [], .list [.tuple [.tuple [.int 0], .str "01"]], .tuple [.tuple [.tuple [.int 0], .str "0"]], .tuple [.tuple [.tuple [.int 0, .int 0], .str "0110"]], .tuple [.tuple [.tuple [.int 1], .str "01"]], .tuple [.tuple [.tuple [.int 0], .str "0x"]], .tuple [.tuple [.int 0, .str "01"]], .tuple [.tuple [.tuple [.int 0], .int 1]], .tuple [.tuple [.list [.int 0], .str "01"]],
  .tuple [.tuple [.tuple [.int 0]]], .tuple [.tuple [.none]], .tuple [.tuple [.tuple [], .str ""]], .tuple [.tuple [.tuple [.bool true], .str "01"]], .tuple (List.replicate 9 (.tuple [.tuple [], .str "0"])), .dict [(.str "a", .int 1)], .tuple [.tuple [.tuple [.int 0], .str "01", .int 1]]]
theorem no_net_eq (l : List D) : p__law_no_net l = (p__law_take l (.int ((19 : Nat) : Int))).bind fun p => (qD (gIx (.list badL) p.1)).bind fun x => .ok (x, p.2) := by
  unfold p__law_no_net d__law_no_net
  kernel_rfl
theorem bad_all : (badL.all fun d => isF (p_is_net_value d) && niceB 7 d) = true := by kernel_rfl
theorem no_net_ok {c : Nat} {l : List D} (b : Bx c l) (hc : c < 900000000) : (p__law_no_net l).Sat fun x => p_is_net_value x.1 = .ok (.bool false) ∧ niceB 7 x.1 = true ∧ Bx (c + 1) x.2 := by
  rw [no_net_eq]
  refine (take_ok b (by omega) (by omega) (by omega)).bind fun x ⟨d, hd, e, bx⟩ => ?_
  have hl : d < badL.length := hd
  rw [e, ix_list (List.getElem?_eq_getElem hl)]
  have h := List.all_eq_true.mp bad_all _ (List.getElem_mem hl)
  rw [Bool.and_eq_true] at h
  exact .ok ⟨isF_eq h.1, h.2, bx⟩
def oddL (n : Nat) : List D := [.none, .int 5, .str (bitS []), .str (repS "2" n), .str (bitS (List.replicate (n + 1) false)), .list [.str (spS [none])], .tuple [.str (spS [none])], .dict [(.str "a", .int 1)], .int 0]
theorem odd_all : ∀ n : Fin 8, ((oddL (n.val + 1)).all fun d => isF (p_is_signs d (.int ((n.val + 1 : Nat) : Int)) (.str ("01*" : Str))) && niceB 7 d) = true := by decide +kernel
theorem odd_ok {n : Nat} {d : D} (h1 : 1 ≤ n) (h8 : n ≤ 8) (h : d ∈ oddL n) : p_is_signs d (.int (n : Int)) (.str ("01*" : Str)) = .ok (.bool false) ∧ niceB 7 d = true := by
  have k := odd_all ⟨n - 1, by omega⟩
  have e : (n - 1) + 1 = n := by omega
  dsimp only at k
  rw [e] at k
  have := List.all_eq_true.mp k d h
  rw [Bool.and_eq_true] at this
  exact ⟨isF_eq this.1, this.2⟩
def oneL (n : Nat) : List D := [.none, .int 5, .str (bitS []), .str (spS (List.replicate n none)), .str (bitS (List.replicate (n + 1) false)), .list [.str (bitS [false])], .dict [(.str "a", .int 1)]]
theorem one_all : ∀ n : Fin 8, ((oneL (n.val + 1)).all fun d => isF (p_is_signs d (.int ((n.val + 1 : Nat) : Int)) (.str ("01" : Str))) && niceB 7 d) = true := by decide +kernel
theorem one_ok {n : Nat} {d : D} (h1 : 1 ≤ n) (h8 : n ≤ 8) (h : d ∈ oneL n) : p_is_signs d (.int (n : Int)) (.str ("01" : Str)) = .ok (.bool false) ∧ niceB 7 d = true := by
  have k := one_all ⟨n - 1, by omega⟩
  have e : (n - 1) + 1 = n := by omega
  dsimp only at k
  rw [e] at k
  have := List.all_eq_true.mp k d h
  rw [Bool.and_eq_true] at this
  exact ⟨isF_eq this.1, this.2⟩
end K17

namespace K17
theorem mul2L {a b : D} : RL.gMul (.list [a, b]) (.int 2) = some (.fl [a, b, a, b]) := by rfl
theorem told_nice {a b : D} (ha : niceB 7 a = true) (hb : niceB 7 b = true) : niceB 9 (.list [.list [.str ("told" : Str), a], .list [.str ("told" : Str), b], .list [.str ("told" : Str), a], .list [.str ("told" : Str), b]]) = true := by
  have one : ∀ d : D, niceB 7 d = true → niceB 8 (.list [.str ("told" : Str), d]) = true := fun d h => nice_list (n := 7) (by simp) fun x hx => by
    simp only [List.mem_cons, List.not_mem_nil, or_false] at hx
    rcases hx with rfl | rfl
    · rfl
    · exact h
  refine nice_list (n := 8) (by simp) fun x hx => ?_
  simp only [List.mem_cons, List.not_mem_nil, or_false] at hx
  rcases hx with rfl | rfl | rfl | rfl
  · exact one _ ha
  · exact one _ hb
  · exact one _ ha
  · exact one _ hb
def badW (net : List Rule) (u : Sp) (k : Nat) : List (List Bool) := (sts u).filter fun w => !decide (some (netI net k w) = u.getD k none)
theorem badW_iff {net : List Rule} {u : Sp} {k : Nat} {c : Bool} (e : u.getD k none = some c) : (badW net u k).isEmpty = gS (netI net) u k c := by
  unfold badW
  rw [isEmpty_filter, Bool.eq_iff_iff, List.all_eq_true, gS_iff, e]
  constructor
  · intro h w a
    have := h w (sts_mem.mpr a)
    simpa using this
  · intro h w hw
    have := h w (sts_mem.mp hw)
    simpa using this
def leaveL (net : List Rule) (u : Sp) : List Nat := (List.range net.length).filter fun k => (u.getD k none).isSome && !(badW net u k).isEmpty
theorem leaveL_iff {net : List Rule} {u : Sp} (lu : u.length = net.length) (k : Nat) : k ∈ leaveL net u ↔ k ∈ fixL u ∧ gS (netI net) u k ((u.getD k none).getD false) = false := by
  unfold leaveL fixL
  rw [List.mem_filter, List.mem_filter, lu, Bool.and_eq_true, Bool.not_eq_true', and_assoc]
  constructor
  · rintro ⟨h1, h2, h3⟩
    obtain ⟨c, e⟩ := Option.isSome_iff_exists.mp h2
    rw [badW_iff e] at h3
    exact ⟨h1, h2, by rw [e]; exact h3⟩
  · rintro ⟨h1, h2, h3⟩
    obtain ⟨c, e⟩ := Option.isSome_iff_exists.mp h2
    rw [e] at h3
    exact ⟨h1, h2, by rw [badW_iff e]; exact h3⟩
theorem sts_lens {net : List Rule} {u : Sp} (lu : u.length = net.length) : ∀ w ∈ sts u, w.length = net.length := fun w hw => (agr_len (sts_mem.mp hw)).trans lu
theorem strs_imgs {net : List Rule} {ws : List (List Bool)} (g : GoodNet net) (h : ∀ w ∈ ws, w.length = net.length) (hf : ws.length < 1000000) : (qG (small (strL ws)) ((qLc (fun x => (p__law_image (netD net) x).nx.bind fun x => R.ok (some x)) (strL ws)).bind fun x => R.ok (PyData.list x))) = .ok (.list (strL (ws.map (imgs net)))) := by
  have hn := g.2.1
  have key := fun f hf => qLc_map (f := f) (l := ws) (fun w => PyData.str (bitS w)) (fun w => .str (bitS (imgs net w))) hf
  rw [qG_of (small_of (by rw [strL_length]; exact hf)), strL_def, key _ fun w hw => by
    rw [limage_ok (by omega) fun r hr => by rw [h w hw]; exact g.2.2 r hr]
    walk_at "q"]
  walk_at "q"
  rw [strL_def, List.map_map]
  rfl
theorem space_right_ok {net : List Rule} {s : Sp} (g : GoodNet net) (h5 : net.length ≤ 5) (hs : s.length = net.length) (b : Bool) : p__law_space_right (netD net) (.list (spL (trapsL net))) (.str (spS s)) (.bool b) = .ok (.bool true) := by
  have hn := g.2.1
  unfold p__law_space_right d__law_space_right
  dsimp only
  rw [laround_ok g hs, lperc_ok g h5 hs]
  walk_at "q"
  rw [told_around g hs, told_around g hs]
  walk_at "q"
  rw [told_perc g hs, told_perc g hs]
  walk_at "q"
  rw [mul2L]
  walk_at "q"
  rw [same_ok (told_nice (by rfl) (by rfl))]
  walk_at "q"
  rw [rng_nat (by omega)]
  walk_at "q"
  have key := fun f hf => qFor_map (f := f) (l := List.range net.length) (fun (i : Nat) => PyData.int (i : Int)) (fun p => PyData.str (spS (itr (relax (netI net) net.length) p.length s))) hf
  have loop : ∀ f : D → D → R D, (∀ (a : Nat) (u : Sp), u.length = net.length → f (.int (a : Int)) (.str (spS u)) = .ok (.str (spS (relax (netI net) net.length u)))) → qFor f (natL (List.range net.length)) (.str (spS s)) = .ok (.str (spS (arnd (netI net) net.length s))) := fun f hf => by
    have := key f fun p a hp => by
      have lu : (itr (relax (netI net) net.length) p.length s).length = net.length := itr_all (P := fun t : Sp => t.length = net.length) (fun _ _ => len_relax) _ hs
      rw [List.length_append, List.length_singleton, itr_succ]
      exact hf a _ lu
    rw [List.length_range] at this
    exact this
  rw [loop]
  rotate_left
  · intro a u lu
    have few : (sts u).length ≤ 32 := Nat.le_trans sts_len (show 2 ^ u.length ≤ 2 ^ 5 from Nat.pow_le_pow_right (by decide) (by omega))
    have k1 := fun f hf => qLc_filter (f := f) (l := List.range net.length) (fun (k : Nat) => PyData.int (k : Int)) (fun k => (u.getD k none).isSome && !(badW net u k).isEmpty) (fun k => .int (k : Int)) hf
    rw [qG_of (rng_small (n := net.length) (by omega)), natL_def, k1 _ fun k hk => by
      have hk' := List.mem_range.mp hk
      rw [ix_sp (by omega)]
      walk_at "q"
      rw [star_sp, star_ne]
      walk_at "q"
      cases e : (u.getD k none).isSome with
      | false =>
        walk_at "q"
      | true =>
        walk_at "q"
        rw [lstates_ok (by omega)]
        walk_at "q"
        have k2 := fun f hf => qLc_filter (f := f) (l := sts u) (fun w => PyData.str (bitS w)) (fun w => !decide (some (netI net k w) = u.getD k none)) (fun w => .str (bitS w)) hf
        rw [qG_of (small_of (by rw [strL_length]; omega)), strL_def, k2 _ fun w hw => by
          rw [limage_ok (by omega) fun r hr => by rw [sts_lens lu w hw]; exact g.2.2 r hr]
          walk_at "q"
          rw [ix_bit (by rw [imgs_len]; omega), imgs_at (rule_at hk')]
          walk_at "q"
          rw [← sp1, ne_os]
          walk_at "q"
          cases decide (some (img (net.getD k ([], [])) w) = u.getD k none) <;> rfl]
        walk_at "q"
        rw [← strL_def, ne_nilI strL_shaped, strL_isEmpty]
        walk_at "q"
        unfold badW
        split <;> rfl]
    walk_at "q"
    rw [qG_of (by rfl)]
    have k3 := fun f hf => qLc_map (f := f) (l := List.range net.length) (fun (k : Nat) => PyData.int (k : Int)) (fun k => .str (spS [if k ∈ leaveL net u then none else u.getD k none])) hf
    have few2 : (List.range net.length).length = net.length := List.length_range
    rw [qG_of (small_of (by rw [List.length_map]; omega)), k3 _ fun k hk => by
      have hk' := List.mem_range.mp hk
      rw [← natL_def, show (List.range net.length).filter (fun k => (u.getD k none).isSome && !(badW net u k).isEmpty) = leaveL net u from rfl, in_nat]
      walk_at "q"
      by_cases z : k ∈ leaveL net u
      · rw [decide_eq_true z, if_pos z, star_sp]
        walk_at "q"
      · rw [decide_eq_false z, if_neg z]
        walk_at "q"
        rw [ix_sp (by omega)]
        walk_at "q"]
    walk_at "q"
    rw [join_map _ (by omega), relax_eq lu (leaveL_iff lu)]
    walk_at "q"
  walk_at "q"
  rw [ne_sp]
  walk_at "q"
  rw [notinL_sp]
  walk_at "q"
  by_cases tr : s ∈ trapsL net
  · rw [decide_eq_true tr]
    walk_at "q"
    have htr := (traps_mem.mp tr).2
    rw [lstates_ok (by omega)]
    walk_at "q"
    have few : (sts s).length ≤ 32 := Nat.le_trans sts_len (show 2 ^ s.length ≤ 2 ^ 5 from Nat.pow_le_pow_right (by decide) (by omega))
    have k4 := fun f hf => qFor_map (f := f) (l := List.range net.length) (fun (i : Nat) => PyData.int (i : Int)) (fun p => PyData.list (strL ((sts s).map (itr (imgs net) p.length)))) hf
    have start : PyData.list (strL (sts s)) = PyData.list (strL ((sts s).map (itr (imgs net) ([] : List Nat).length))) := by
      rw [show itr (imgs net) ([] : List Nat).length = id from rfl, List.map_id]
    have lens : ∀ m, ∀ w ∈ (sts s).map (itr (imgs net) m), w.length = net.length := fun m w hw => by
      obtain ⟨v, hv, rfl⟩ := List.mem_map.mp hw
      exact itr_all (P := fun w : List Bool => w.length = net.length) (fun _ _ => imgs_len) m (sts_lens hs v hv)
    rw [start, natL_def, k4 _ fun p a hp => by
      walk_at "q"
      rw [strs_imgs g (lens _) (by rw [List.length_map]; omega), List.length_append, List.length_singleton, List.map_map]
      congr 3
      exact List.map_congr_left fun w _ => (itr_succ _ _).symm]
    walk_at "q"
    rw [inL_sp, decide_eq_true (traps_mem.mpr ⟨(fix_end hs).2, perc_trap hs htr⟩)]
    walk_at "q"
    have k5 := fun f hf => qLc_none (f := f) (l := (sts s).map (itr (imgs net) net.length)) (fun w => PyData.str (bitS w)) hf
    rw [qG_of (small_of (by rw [strL_length, List.length_map]; omega)), strL_def, k5 _ fun w hw => by
      obtain ⟨v, hv, e⟩ := List.mem_map.mp hw
      have a : agr w (perc (netI net) net.length s) = true := by
        rw [← e]
        exact perc_img (I := netI net) (F := imgs net) (fun w lw => ⟨imgs_len, fun k hk => imgs_at (rule_at hk)⟩) _ hs htr (sts_mem.mp hv)
      rw [in_ok (lens _ w hw) (fix_end hs).2 hn, a]
      walk_at "q"]
    walk_at "q"
    rw [eq_nilI (by rfl)]
    walk_at "q"
    rfl
  · rw [decide_eq_false tr]
    walk_at "q"
end K17

namespace K17
theorem pick_str {c : Nat} {l : List D} {s : Sp} (b : Bx c l) (hc : c < 1000000000) (hn : s ≠ []) (hn2 : s.length < 2 ^ 60) : (p__law_pick l (.str (spS s))).Sat fun x => ∃ o, x.1 = .str (spS [o]) ∧ Bx (c + 1) x.2 := by
  unfold p__law_pick d__law_pick
  dsimp only
  rw [len_sp]
  walk_at "q"
  refine (take_ok b hc (List.length_pos_iff.mpr hn) hn2).bind fun x ⟨d, hd, e, bx⟩ => ?_
  rw [e, ix_sp hd]
  exact .ok ⟨_, rfl, bx⟩
theorem space_ok {c n : Nat} {l : List D} (b : Bx c l) (hc : c < 900000000) (hn : n ≤ 8) : (p__law_space l (.int (n : Int))).Sat fun x => (∃ s : Sp, s.length = n ∧ x.1 = .str (spS s)) ∧ Bx (c + n) x.2 := by
  unfold p__law_space d__law_space
  dsimp only
  rw [rng_nat (by omega)]
  walk_at "q"
  rw [qG_of (by rfl), qG_of (rng_small (n := n) (by omega)), s01ss_sp]
  refine (qLcS_sat (l := List.range n) (t0 := l) (fun (k : Nat) => PyData.int (k : Int)) (fun p ds t => (∃ s : Sp, s.length = p.length ∧ ds = s.map fun o => .str (spS [o])) ∧ Bx (c + p.length) t) ⟨⟨[], rfl, rfl⟩, b⟩ fun p k ds t hp ⟨⟨s, hs, e⟩, bt⟩ => ?_).bind fun x ⟨⟨s, hs, e⟩, bt⟩ => ?_
  · have hl := pre_len hp
    rw [List.length_range] at hl
    refine (pick_str bt (by omega) (by simp) (by simp)).bind fun x ⟨o, eo, bx⟩ => .ok ?_
    refine ⟨⟨s ++ [o], by simp [hs], ?_⟩, by rw [List.length_append, List.length_singleton]; exact bx⟩
    rw [e, eo]
    simp [Option.toList]
  · rw [List.length_range] at hs bt
    rw [e, show m1 gJoin (.str (bitS [])) [.list (s.map fun o => PyData.str (spS [o]))] = _ from gJoin_sp (by omega)]
    exact .ok ⟨⟨s, hs, rfl⟩, bt⟩
theorem pick_sp {c : Nat} {l : List D} {ws : List Sp} (b : Bx c l) (hc : c < 1000000000) (hn : ws ≠ []) (hn2 : ws.length < 2 ^ 60) : (p__law_pick l (.list (spL ws))).Sat fun x => ∃ w ∈ ws, x.1 = .str (spS w) ∧ Bx (c + 1) x.2 := by
  refine (pick_ok b hc (by intro z; exact hn (by simpa [spL] using z)) (by rw [spL_length]; exact hn2)).mono fun x ⟨h1, h2⟩ => ?_
  obtain ⟨w, hw, e⟩ := List.mem_map.mp h1
  exact ⟨w, hw, e.symm, h2⟩
theorem addL {a b : List D} (h : a.length + b.length ≤ 1000) : RL.gAdd (.list a) (.list b) = some (.fl (a ++ b)) := by
  show (if a.length + b.length ≤ sizeLine then some (VR.fl (a ++ b)) else none) = _
  rw [if_pos]
  have : 1000 ≤ sizeLine := by decide
  omega
theorem two_mul' {n : Nat} (h : n ≤ 1000) : RL.gMul (.str ("2" : Str)) (.int (n : Int)) = some (.v (.str (repS "2" n))) := by
  have c1 : (n : Int) < 2 ^ 63 := by omega
  have c2 : -(2 ^ 63) ≤ (n : Int) := by omega
  have c3 : ("2" : Str).length * (n : Int).toNat ≤ sizeLine := by
    rw [Int.toNat_natCast, show ("2" : Str).length = 1 from by decide +kernel]
    have : 1000 ≤ sizeLine := by decide
    omega
  generalize hk : (n : Int) = k at *
  unfold RL.gMul
  dsimp only
  rw [if_pos ⟨c1, c2, c3⟩, ← hk, Int.toNat_natCast]
theorem disp_a' : qX (dispO [(PyData.str ("a" : Str), PyData.int 1)]) = .ok [(.str ("a" : Str), .int 1)] := by kernel_rfl
theorem mul2 {d : D} : RL.gMul (.list [d]) (.int 2) = some (.fl [d, d]) := by rfl
theorem mul3 {d : D} : RL.gMul (.list [d]) (.int 3) = some (.fl [d, d, d]) := by rfl
theorem add33 {a b c d e f : D} : RL.gAdd (.list [a, b, c]) (.list [d, e, f]) = some (.fl [a, b, c, d, e, f]) := by rfl
theorem nice8 {a : D} (w : Str) (h : niceB 7 a = true) : niceB 8 (.list [.str w, a]) = true := nice_list (n := 7) (by simp) fun d hd => by
  simp only [List.mem_cons, List.not_mem_nil, or_false] at hd
  rcases hd with rfl | rfl
  · rfl
  · exact h
theorem nice2 {a : D} (ha : niceB 8 a = true) : niceB 9 (.list [a, a]) = true := nice_list (n := 8) (by simp) fun d hd => by
  simp only [List.mem_cons, List.not_mem_nil, or_false] at hd
  rcases hd with rfl | rfl <;> assumption
theorem nice6 {a b c : D} (ha : niceB 8 a = true) (hb : niceB 8 b = true) (hc : niceB 8 c = true) : niceB 9 (.list [a, a, a, b, b, c]) = true := nice_list (n := 8) (by simp) fun d hd => by
  simp only [List.mem_cons, List.not_mem_nil, or_false] at hd
  rcases hd with rfl | rfl | rfl | rfl | rfl | rfl <;> assumption
theorem words3 {f : D → R (Option D)} {y : D} (h : ∀ w : Str, w = "around" ∨ w = "percolated" ∨ w = "of" → f (.str w) = .ok (some y)) : qLc f [.str ("around" : Str), .str ("percolated" : Str), .str ("of" : Str)] = .ok [y, y, y] := by
  have := qLc_map (f := f) (l := [("around" : Str), "percolated", "of"]) (fun w => PyData.str w) (fun _ => y) fun w hw => h w (by simpa using hw)
  exact this
theorem traps_ne {net : List Rule} : trapsL net ≠ [] := fun z => by
  have : List.replicate net.length none ∈ trapsL net := traps_mem.mpr ⟨by simp, (trap_iff (by simp)).mpr fun k c e => by
    rw [List.getD_eq_getElem?_getD, List.getElem?_replicate] at e
    split at e <;> cases e⟩
  rw [z] at this
  cases this
theorem laround_bit {net : List Rule} {w : List Bool} (g : GoodNet net) (hw : w.length = net.length) (N : D) : p__law_around N (.list (spL (trapsL net))) (.str (bitS w)) = .ok (.str (spS (arnd (netI net) net.length (w.map some)))) := by
  rw [bit_sp]
  exact laround_ok g (by rw [List.length_map]; exact hw) N
theorem all_ok {net : List Rule} {ws : List Sp} {b : Bool} (g : GoodNet net) (h5 : net.length ≤ 5) (h : ∀ w ∈ ws, w.length = net.length) {f : D → D → R (Lp D (Lp Unit D))}
    (hf : ∀ s b, f s b = (p__law_space_right (netD net) (.list (spL (trapsL net))) s b).bind fun x => (qBo x).bind fun x => if (!x) = true then .ok (.rt (.rt (.bool false))) else (qBo b).bind fun x => .ok (.go (.bool !x))) :
    (qForF f (spL ws) (.bool b)).Sat fun x => ∃ t, x = .go t ∧ ∃ b, t = .bool b := by
  refine qForF_sat (l := ws) (fun w => PyData.str (spS w)) (fun _ t => ∃ b, t = PyData.bool b) ⟨b, rfl⟩ fun p w t hp ⟨b, et⟩ => ?_
  subst et
  rw [hf, space_right_ok g h5 (h w (pre_mem hp)) b]
  walk_at "q"
  exact .ok ⟨_, rfl, _, rfl⟩
theorem plainP (ns : List Int) (h : ns.length ≤ 63) : p_law (.list (ns.map .int)) = .ok (.bool true) := by
  unfold p_law d_law
  dsimp only
  walk_at "q"
  have e5 : gMin [.int 5, .int (ns.length : Int)] = some (.v (.int ((min 5 ns.length : Nat) : Int))) := min_nat (a := 5)
  rw [e5]
  walk_at "q"
  have e2 : gMax [.int 2, .int ((min 5 ns.length : Nat) : Int)] = some (.v (.int ((max 2 (min 5 ns.length) : Nat) : Int))) := by
    rw [max2]
    by_cases z : ((min 5 ns.length : Nat) : Int) > 2
    · rw [if_pos z, Nat.max_eq_right (by omega)]
    · rw [if_neg z, Nat.max_eq_left (by omega)]; rfl
  rw [e2]
  walk_at "q"
  rw [rng_nat (by omega)]
  walk_at "q"
  suffices hs : (qForF _ (natL (List.range (max 2 (min 5 ns.length)))) ()).Sat fun x => ∃ t, x = .go t ∧ True by
    obtain ⟨a, e, t, rfl, _⟩ := hs
    rw [e]
    walk_at "q"
  refine qForF_sat (l := List.range (max 2 (min 5 ns.length))) (fun (k : Nat) => PyData.int (k : Int)) (fun _ _ => True) trivial fun p k t hp _ => ?_
  have hk := List.mem_range.mp (pre_mem hp)
  obtain ⟨i, hi⟩ := cell_ok (ns := ns) (k := k) (by omega)
  rw [hi]
  walk_at "q"
  refine (box_ok i).bind fun bx0 hb0 => ?_
  rw [R.bind_assoc]
  refine (take_ok (n := 2) hb0 (by decide) (by decide) (by decide)).bind fun x ⟨d1, _, e, hb⟩ => ?_
  rw [e]
  walk_at "q"
  rw [R.bind_assoc]
  refine (take_ok (n := 8) hb (by decide) (by decide) (by decide)).bind fun x ⟨d2, _, e, hb⟩ => ?_
  rw [e]
  walk_at "q"
  generalize decide ((d1 : Int) = 0) = b0
  have hg : ∃ gr : Bool, (if decide ((d2 : Int) = 0) = true then R.ok (decide ((k : Int) = 0)) else R.ok false) = R.ok gr := by
    cases decide ((d2 : Int) = 0)
    · exact ⟨_, rfl⟩
    · exact ⟨_, rfl⟩
  obtain ⟨gr, hg⟩ := hg
  rw [hg]
  walk_at "q"
  refine R.Sat.bind (P := fun p => (∃ n, 1 ≤ n ∧ n ≤ 5 ∧ NetD n p.1) ∧ Bx 1000 p.2) ?_ fun p ⟨⟨n, n1, n5, net, hl, g, e⟩, hb⟩ => ?_
  · cases gr
    · exact (drawn_ok (m := 4) hb (by decide) (by decide) (by decide)).bind fun p ⟨⟨n, a, b, c⟩, hb⟩ => .ok ⟨⟨n, a, by omega, c⟩, hb.up (by omega)⟩
    · exact (lnet_ok (n := 5) hb (by decide) (by decide) (by decide)).bind fun p ⟨c, hb⟩ => .ok ⟨⟨5, by decide, by decide, c⟩, hb.up (by omega)⟩
  obtain ⟨p1, p2⟩ := p
  dsimp only at e hb
  subst e
  have hn := g.2.1
  have h5 : net.length ≤ 5 := by omega
  walk_at "q"
  rw [spaces_ok hn]
  walk_at "q"
  have few := spcs_few hn
  have tfew := traps_few g
  have kt := fun f hf => qLc_filter (f := f) (l := spcs net.length) (fun s => PyData.str (spS s)) (trapB (netI net) net.length) (fun s => .str (spS s)) hf
  rw [qG_of (small_of (by rw [spL_length]; omega)), spL_def, kt _ fun s hs => by
    obtain ⟨d, e1, e2⟩ := leaving_ok g (spcs_mem.mp hs)
    rw [e1]
    cases d with
    | none =>
      have e3 : some (VR.v (PyData.bool true)) = some (VR.v (PyData.bool (trapB (netI net) net.length s))) := e2
      injection e3 with e3
      injection e3 with e3
      injection e3 with e3
      rw [← e3]
      rfl
    | _ =>
      have e3 : some (VR.v (PyData.bool false)) = some (VR.v (PyData.bool (trapB (netI net) net.length s))) := e2
      injection e3 with e3
      injection e3 with e3
      injection e3 with e3
      rw [← e3]
      rfl]
  rw [← spL_def, R.bind_ok, show gRng1 [PyData.int 4] = _ from rng_nat (n := 4) (by decide), qX_some, R.bind_ok, qG_of (rng_small (n := 4) (by decide))]
  refine (qLcS_sat (l := List.range 4) (t0 := p2) (fun (k : Nat) => PyData.int (k : Int)) (fun p ds t => (∃ ss : List Sp, ss.length = p.length ∧ (∀ s ∈ ss, s.length = net.length) ∧ ds = spL ss) ∧ Bx (1000 + 8 * p.length) t) ⟨⟨[], rfl, by simp, rfl⟩, hb⟩ fun p k ds t hp ⟨⟨ss, h1, h2, e⟩, bt⟩ => ?_).bind fun x ⟨⟨ss, h1, h2, e⟩, hb⟩ => ?_
  · have hl := pre_len hp
    rw [List.length_range] at hl
    refine (space_ok bt (by omega) hn).bind fun x ⟨⟨s, hs, ex⟩, bx⟩ => .ok ?_
    refine ⟨⟨ss ++ [s], by simp [h1], fun w hw => ?_, ?_⟩, bx.up (by rw [List.length_append, List.length_singleton]; omega)⟩
    · rcases List.mem_append.mp hw with hw | hw
      · exact h2 w hw
      · rw [List.mem_singleton.mp hw]; exact hs
    · rw [e, ex]
      simp [spL, Option.toList]
  rw [List.length_range] at h1 hb
  rw [e]
  refine (pick_sp hb (by decide) traps_ne (by omega)).bind fun y ⟨s1, hs1, e1, hb⟩ => ?_
  refine (pick_sp hb (by decide) traps_ne (by omega)).bind fun z ⟨s2, hs2, e2, hb⟩ => ?_
  rw [e1, e2, star_sp, mul_star (by omega)]
  walk_at "q"
  rw [addL (by rw [spL_length]; simp only [List.length_cons, List.length_nil]; omega)]
  walk_at "q"
  have el : spL ss ++ [PyData.str (spS s1), .str (spS s2), .str (spS (List.replicate net.length none))] = spL (ss ++ [s1, s2, List.replicate net.length none]) := by
    unfold spL
    rw [List.map_append]
    rfl
  rw [el]
  refine R.Sat.bind (all_ok (ws := ss ++ [s1, s2, List.replicate net.length none]) (b := b0) g h5 (fun w hw => ?_) fun s b => by walk_at "q") fun x ⟨t, ex, b, et⟩ => ?_
  · rcases List.mem_append.mp hw with hw | hw
    · exact h2 w hw
    · simp only [List.mem_cons, List.not_mem_nil, or_false] at hw
      rcases hw with rfl | rfl | rfl
      · exact (traps_mem.mp hs1).1
      · exact (traps_mem.mp hs2).1
      · simp
  subst ex et
  walk_at "q"
  rw [words_ok hn]
  walk_at "q"
  have wne : wordsB net.length ≠ [] := fun z => by
    have := words_len (n := net.length)
    rw [z] at this
    have : 0 < 2 ^ net.length := Nat.pow_pos (by decide)
    simp at *
    omega
  have wsm : (wordsB net.length).length < 2 ^ 60 := by
    rw [words_len]
    exact Nat.pow_lt_pow_right (by decide) (by omega)
  refine (pick_words hb (by decide) wne wsm).bind fun x ⟨w, hw, ew, hb⟩ => ?_
  have lw := words_mem.mp hw
  rw [ew, laround_bit g lw, R.bind_ok, told_of g lw, told_of g lw]
  walk_at "q"
  rw [mul2]
  walk_at "q"
  rw [same_ok (nice2 (nice8 _ (by rfl)))]
  walk_at "q"
  rw [R.bind_assoc]
  refine (no_net_ok hb (by decide)).bind fun y ⟨hbad, hnb, hb⟩ => ?_
  rw [two_mul' (by omega)]
  walk_at "q"
  rw [show (net.length : Int) + 1 = ((net.length + 1 : Nat) : Int) by omega, mul_bits (by omega)]
  walk_at "q"
  rw [disp_a']
  walk_at "q"
  rw [R.bind_assoc]
  refine (pick_ok (items := oddL net.length) hb (by decide) (by simp [oddL]) (by simp [oddL])).bind fun z ⟨hz, hb⟩ => ?_
  obtain ⟨hodd, hno⟩ := odd_ok (by omega) (by omega) hz
  walk_at "q"
  refine (pick_ok (items := oneL net.length) hb (by decide) (by simp [oneL]) (by simp [oneL])).bind fun v ⟨hv, hb⟩ => ?_
  obtain ⟨hone, hno1⟩ := one_ok (by omega) (by omega) hv
  rw [words3 (y := .list [.str ("net" : Str), y.1]) fun w hw => by
    rw [bad_asked b hw hbad]
    walk_at "q"]
  rw [qG_of (by rfl), odd_around b g hodd, odd_perc (!b) g hodd, odd_of b g hone]
  walk_at "q"
  rw [add33, mul3]
  walk_at "q"
  rw [add33]
  walk_at "q"
  rw [same_ok (nice6 (nice8 _ hnb) (nice8 _ hno) (nice8 _ hno1))]
  walk_at "q"
  exact .ok ⟨_, rfl, trivial⟩
end K17

theorem K17.plain (ns : List Int) (h : ns.length ≤ 63) : K17.m_law [.list (ns.map .int)] = .ok (.v (.bool true)) [] := by
  have r := K17.r_law (.list (ns.map .int))
  rw [K17.plainP ns h] at r
  exact r
end
open PySem PySem.W PySem.Calls PyProof.Rows
theorem PySem.Challenge.cw_switchbench_k17_around_and_percolated_holds : PySem.Challenge.rw_switchbench_k17_around_and_percolated.Holds := by
  w_on; o_law
  refine HandSHeadRun.head_any (r := OpenLaw.row PySem.Challenge.rw_switchbench_k17_around_and_percolated) (q := view (OpenLaw.row PySem.Challenge.rw_switchbench_k17_around_and_percolated).prog [58]) (H := K17.hk) (ob := K17.ob) (M := 2560) (loose := K17.loose) (d := HandSHeadRun.topDef (OpenLaw.row PySem.Challenge.rw_switchbench_k17_around_and_percolated).prog 58) (kwd := []) K17.ob_eq
    (by kernel_rfl) (fun s => by kernel_rfl) K17.run (by kernel_rfl) (by kernel_rfl) (by kernel_rfl) (by rfl) (by first | assumption | decide +kernel) (by decide +kernel) ⟨rfl, rfl, rfl, rfl, rfl, by decide +kernel⟩ ?hw ?hc
  case hw => w_witness2
  case hc =>
    refine RL.walk_w (l := PySem.Challenge.rw_switchbench_k17_around_and_percolated) (n := 63) (k := 12) (x := "script") (CX := fun w => L2.CX (PySem.Challenge.rw_switchbench_k17_around_and_percolated).prog w) rfl (by decide) (by kernel_rfl) ⟨rfl, by decide, by decide⟩ ?F ?G
    case F =>
      intro w mg fa h Y Gg hmg0
      obtain ⟨K, KX, c⟩ := Y
      have hmg : mg ("law" : PySem.Str) = some (.ref fa) := by
        have e : (HandSHeadRun.topDef (OpenLaw.row PySem.Challenge.rw_switchbench_k17_around_and_percolated).prog 58).name = ("law" : PySem.Str) := by kernel_rfl
        rw [← e]
        exact hmg0
      obtain ⟨fd, hb, hF⟩ := K17.facts (P := (PySem.Challenge.rw_switchbench_k17_around_and_percolated).prog) (w := w) KX Gg hmg c
      exact ⟨K, fd, RL.spM K mg [false] K17.m_law, KX, hb, fun H a ns hl hS => RL.law_sp c.nl hS (K17.plain ns hl), hF⟩
    case G => exact fun _ _ _ _ _ z => RL.cx_no z
